import PyProof.Rows.All
import Open.FastRun
import Open.Head
import PyProof.Rows.KernelRfl
import Open.Line
import Open.FastLooks
import OpenK.KLine
import PyProof.Rows.EqDataRows
import PyProof.Rows.ExtendIn
import KE.KRevIter
import PyProof.WalksPairs
import PyProof.CompFree
import PyProof.CompMap
import PyProof.DictTable
import Lean
import PySem.Challenge.RW_pb0396_01
set_option Elab.async false
set_option linter.unusedVariables false
set_option linter.unusedSimpArgs false
set_option tactic.hygienic false
set_option genSizeOf false
set_option genSizeOfSpec false
set_option bootstrap.genMatcherCode false
set_option compiler.extract_closed false
set_option maxRecDepth 100000
open PySem PySem.W PyProof.Rows PySem.Calls PySem.Spec PySem.SeqAt
namespace Mine
noncomputable def runT (p:Program) (w:World) (n₀:Nat) (ann:Option Value) (n:Nat):SharedT→Thread→Option SharedT :=
  Nat.rec (motive:=fun _=>SharedT→Thread→Option SharedT) (fun _ _=>none) (fun _ ih s t =>
    @Bool.rec (fun _=>Option SharedT) (@Bool.rec (fun _=>Option SharedT) none (match Fast.tw10156331382660048174 (Fast.tw11892475500146522536 treeTable) p w s t with | some (s',t')=>ih s' t' | none=>none) (Fast.tw6613529449190102663 n₀ ann t)) (some s) (through t)) n
theorem runT_s (p:Program) (w:World) (n₀:Nat) (ann:Option Value) (n:Nat) (s:SharedT) (t:Thread):runT p w n₀ ann (n + 1) s t =
    match through t with
    | true=>some s
    | false=>match stepOk n₀ ann t with
      | false=>none
      | true=>match stepT (denote treeTable) p w s t with
        | some (s',t')=>runT p w n₀ ann n s' t'
        | none=>none:=by
  rw [Fast.te10156331382660048174,Fast.te11892475500146522536,Fast.te6613529449190102663]
  show @Bool.rec _ _ _ _ = _
  cases through t
  · cases Fast.tw6613529449190102663 n₀ ann t <;> rfl
  · rfl
theorem aDA (p:Program) (w:World) (n₀:Nat) (ann:Option Value):∀ (n:Nat) (s:SharedT) (t:Thread) (s':SharedT),runT p w n₀ ann n s t = some s'→topRun treeTable p w n₀ ann n s.abs t = some s'.abs
  | 0,_,_,_,h=>by cases h
  | n + 1,s,t,s',h=>by
    rw [runT_s] at h
    unfold topRun
    cases ht:through t with
    | true=>rw [ht] at h; cases h; rfl
    | false =>
      rw [ht] at h
      cases hk:stepOk n₀ ann t with
      | false=>rw [hk] at h; cases h
      | true =>
        rw [hk] at h
        cases hs:stepT (denote treeTable) p w s t with
        | none=>rw [hs] at h; cases h
        | some r=>obtain ⟨s₂,t₂⟩:=r; rw [hs] at h; dsimp only; rw [stepT_spec hs]; exact aDA p w n₀ ann n s₂ t₂ s' h
noncomputable def ofL (l:List Obj):BT:=(List.rec (motive:=fun _=>Nat→BT→BT) (fun _ t=>t) (fun o _ ih n t=>ih (n + 1) (t.ins n o)) l) 0 .nil
noncomputable def aDm (P:Params):BT:=ofL (boot_heap P).objs.toList
theorem aDl (P:Params):absHeap (aDm P) 11 {} = boot_heap P:=by kernel_rfl
noncomputable abbrev pw:=PySem.Challenge.pw_pb0396_01
theorem zJ {p q:Program} {loose:List Str} {Xt:Shared→Bool} {α : Type} {Yf:Shared→α} {Ya:World→α} {N M:Nat} {g0:Bool}
    (open_:∀ w:World,(fencedOpening treeTable p w N).map (fun s=>(s.heap,s.gens,s.drawn,s.toks)) = some (boot_heap w.params,Array.mk [],boot_drawn,boot_toks))
    (size:∀ w:World,((boot_heap w.params).isNs mainGlobals,(boot_heap w.params).objs.size,(boot_heap w.params).nsMap mainGlobals "__annotations__") = (true,11,some (.ref 6))) (le:Nat.ble M N = true)
    (run:∀ (w:World) (os:OsState),(runT p w 11 (some (.ref 6)) M ⟨aDm w.params,11,{},#[],boot_drawn,boot_toks,os⟩ (topStub p)).map (fun s=>(s.gens.toList,(staticsOk (importedModules p.main.body) (boot_heap w.params) s.abs.heap && namesBound p s.abs.heap && laidKept (boot_heap w.params) s.abs.heap))) = some ([],true))
    (see:∀ (w:World) (os:OsState),(runT p w 11 (some (.ref 6)) M ⟨aDm w.params,11,{},#[],boot_drawn,boot_toks,os⟩ (topStub p)).map (fun s=>openSeen q loose (importedModules p.main.body) Xt g0 s.abs) = some (openGood q loose))
    (yr:∀ (w:World) (os:OsState),(runT p w 11 (some (.ref 6)) M ⟨aDm w.params,11,{},#[],boot_drawn,boot_toks,os⟩ (topStub p)).map (fun s=>Yf s.abs) = some (Ya w)):LeftO p q loose Xt Yf Ya N g0:=fun w=>by
  obtain ⟨⟨h,gs,d,k,os⟩,e,e'⟩:=Option.map_eq_some_iff.mp (open_ w)
  obtain ⟨rfl,rfl,rfl,rfl⟩ : h = boot_heap w.params∧gs = Array.mk []∧d = boot_drawn∧k = boot_toks:=by simpa using e'
  obtain ⟨z1,z2,z3⟩ : _∧_∧_:=by simpa only [Prod.mk.injEq] using size w
  obtain ⟨s',r,l⟩:=Option.map_eq_some_iff.mp (run w os)
  obtain ⟨l0,l1⟩ : _∧_:=by simpa only [Prod.mk.injEq] using l
  have l2:=see w os
  have l3:=yr w os
  rw [r] at l2 l3
  have l2:=Option.some.inj l2
  have l3:=Option.some.inj l3
  have r:=topRun_mono (N - M) _ _ _ _ (aDA _ _ _ _ _ _ _ _ r)
  rw [show M + (N - M) = N by have:=Nat.le_of_ble_eq_true le; omega] at r
  have r:topRun treeTable p w 11 (some (.ref 6)) N ⟨boot_heap w.params,Array.mk [],boot_drawn,boot_toks,os⟩ (topStub p) = some s'.abs:=by rw [← aDl]; exact r
  have lg:gensDone s'.abs = true:=by show (s'.gens.toList.all _) = true; rw [l0]; rfl
  have t:topFrom treeTable p w N ⟨boot_heap w.params,Array.mk [],boot_drawn,boot_toks,os⟩ = some s'.abs:=by
    unfold topFrom
    dsimp only
    rw [z1,z2,z3,r]
    show (match staticsOk (importedModules p.main.body) (boot_heap w.params) s'.abs.heap && namesBound p s'.abs.heap && gensDone s'.abs && laidKept (boot_heap w.params) s'.abs.heap with | true=>_ | false=>_) = _
    rw [lg,Bool.and_true,l1]
  unfold openEnds
  rw [e]
  show (topFrom treeTable p w N _).map _ = _
  rw [t]
  exact congrArg some (Prod.ext l2 l3)
theorem boot0 (w:World):((boot_heap w.params).isNs mainGlobals,(boot_heap w.params).objs.size,(boot_heap w.params).nsMap mainGlobals "__annotations__") = (true,11,some (.ref 6)):=by kernel_rfl
theorem opens:∀ w:World,(fencedOpening treeTable pw w 20000).map (fun s=>(s.heap,s.gens,s.drawn,s.toks)) = some (boot_heap w.params,Array.mk [],boot_drawn,boot_toks) :=
  boot_open (by kernel_rfl) (by decide) (fun s=>by kernel_rfl)
noncomputable def qL:Program:=view pw [165]
noncomputable def aEh:List Str:=pw.boundNames.filter fun n=>n != "law"
noncomputable abbrev ran (w:World) (os:OsState):Option SharedT:=runT pw w 11 (some (.ref 6)) 10000 ⟨aDm w.params,11,{},#[],boot_drawn,boot_toks,os⟩ (topStub pw)
set_option maxHeartbeats 0 in
theorem runs1 (w:World) (os:OsState):(ran w os).map (fun s=>(s.gens.toList,(staticsOk (importedModules pw.main.body) (boot_heap w.params) s.abs.heap && namesBound pw s.abs.heap && laidKept (boot_heap w.params) s.abs.heap))) = some ([],true):=by
  kernel_rfl
set_option maxHeartbeats 0 in
theorem runs2 (w:World) (os:OsState):(ran w os).map (fun s=>Fast.tw4187177175401517315 qL aEh (importedModules pw.main.body) (fun _=>true) true s.abs) = some (openGood qL aEh):=by
  kernel_rfl
noncomputable abbrev lawR:=PySem.Challenge.rw_pb0396_01
set_option maxHeartbeats 0 in
theorem aBX:looksOpen lawR.row.prog = true:=by
  delta looksOpen
  iterate 5 (with_reducible refine look_both ?_ ?_)
  all_goals decide +kernel
set_option maxHeartbeats 0 in
theorem aDS:lawR.row.partSaid = true:=by
  delta OpenRow.partSaid
  iterate 13 (with_reducible refine look_both ?_ ?_)
  · exact aBX
  all_goals decide +kernel
set_option maxHeartbeats 0 in
theorem law_said:lawR.wellSaid = true:=by
  show OpenLaw.wellSaid _ = true
  delta OpenLaw.wellSaid
  iterate 18 (with_reducible refine look_both ?_ ?_)
  · exact look_both (look_both aDS (by decide +kernel)) (by decide +kernel)
  all_goals decide +kernel
theorem e0a2 {p1 p2 P:Prop} (h:p1∧p2) (k:p1→p2→P):P:=k h.1 h.2
theorem e0a3 {p1 p2 p3 P:Prop} (h:p1∧p2∧p3) (k:p1→p2→p3→P):P:=e0a2 h.2 (k h.1)
theorem e0a4 {p1 p2 p3 p4 P:Prop} (h:p1∧p2∧p3∧p4) (k:p1→p2→p3→p4→P):P:=e0a3 h.2 (k h.1)
theorem e0a5 {p1 p2 p3 p4 p5 P:Prop} (h:p1∧p2∧p3∧p4∧p5) (k:p1→p2→p3→p4→p5→P):P:=e0a4 h.2 (k h.1)
theorem e0a6 {p1 p2 p3 p4 p5 p6 P:Prop} (h:p1∧p2∧p3∧p4∧p5∧p6) (k:p1→p2→p3→p4→p5→p6→P):P:=e0a5 h.2 (k h.1)
theorem e0a7 {p1 p2 p3 p4 p5 p6 p7 P:Prop} (h:p1∧p2∧p3∧p4∧p5∧p6∧p7) (k:p1→p2→p3→p4→p5→p6→p7→P):P:=e0a6 h.2 (k h.1)
theorem e0a8 {p1 p2 p3 p4 p5 p6 p7 p8 P:Prop} (h:p1∧p2∧p3∧p4∧p5∧p6∧p7∧p8) (k:p1→p2→p3→p4→p5→p6→p7→p8→P):P:=e0a7 h.2 (k h.1)
theorem e0a9 {p1 p2 p3 p4 p5 p6 p7 p8 p9 P:Prop} (h:p1∧p2∧p3∧p4∧p5∧p6∧p7∧p8∧p9) (k:p1→p2→p3→p4→p5→p6→p7→p8→p9→P):P:=e0a8 h.2 (k h.1)
theorem e0a10 {p1 p2 p3 p4 p5 p6 p7 p8 p9 p10 P:Prop} (h:p1∧p2∧p3∧p4∧p5∧p6∧p7∧p8∧p9∧p10) (k:p1→p2→p3→p4→p5→p6→p7→p8→p9→p10→P):P:=e0a9 h.2 (k h.1)
theorem e0a11 {p1 p2 p3 p4 p5 p6 p7 p8 p9 p10 p11 P:Prop} (h:p1∧p2∧p3∧p4∧p5∧p6∧p7∧p8∧p9∧p10∧p11) (k:p1→p2→p3→p4→p5→p6→p7→p8→p9→p10→p11→P):P:=e0a10 h.2 (k h.1)
theorem e1a1 {α : Type} {p1:α→Prop} {P:Prop} (h:∃ x,p1 x) (k:∀ x,p1 x→P):P:=h.elim k
theorem e1a2 {α : Type} {p1 p2:α→Prop} {P:Prop} (h:∃ x,p1 x∧p2 x) (k:∀ x,p1 x→p2 x→P):P:=h.elim fun x h=>e0a2 h (k x)
theorem e1a3 {α : Type} {p1 p2 p3:α→Prop} {P:Prop} (h:∃ x,p1 x∧p2 x∧p3 x) (k:∀ x,p1 x→p2 x→p3 x→P):P:=h.elim fun x h=>e0a3 h (k x)
theorem e1a4 {α : Type} {p1 p2 p3 p4:α→Prop} {P:Prop} (h:∃ x,p1 x∧p2 x∧p3 x∧p4 x) (k:∀ x,p1 x→p2 x→p3 x→p4 x→P):P:=h.elim fun x h=>e0a4 h (k x)
theorem e1a5 {α : Type} {p1 p2 p3 p4 p5:α→Prop} {P:Prop} (h:∃ x,p1 x∧p2 x∧p3 x∧p4 x∧p5 x) (k:∀ x,p1 x→p2 x→p3 x→p4 x→p5 x→P):P:=h.elim fun x h=>e0a5 h (k x)
theorem e1a6 {α : Type} {p1 p2 p3 p4 p5 p6:α→Prop} {P:Prop} (h:∃ x,p1 x∧p2 x∧p3 x∧p4 x∧p5 x∧p6 x) (k:∀ x,p1 x→p2 x→p3 x→p4 x→p5 x→p6 x→P):P:=h.elim fun x h=>e0a6 h (k x)
theorem e2a1 {α β : Type} {p1:α→β→Prop} {P:Prop} (h:∃ x y,p1 x y) (k:∀ x y,p1 x y→P):P:=h.elim fun x h=>e1a1 h (k x)
theorem e2a2 {α β : Type} {p1 p2:α→β→Prop} {P:Prop} (h:∃ x y,p1 x y∧p2 x y) (k:∀ x y,p1 x y→p2 x y→P):P:=h.elim fun x h=>e1a2 h (k x)
theorem e2a3 {α β : Type} {p1 p2 p3:α→β→Prop} {P:Prop} (h:∃ x y,p1 x y∧p2 x y∧p3 x y) (k:∀ x y,p1 x y→p2 x y→p3 x y→P):P:=h.elim fun x h=>e1a3 h (k x)
theorem e2a4 {α β : Type} {p1 p2 p3 p4:α→β→Prop} {P:Prop} (h:∃ x y,p1 x y∧p2 x y∧p3 x y∧p4 x y) (k:∀ x y,p1 x y→p2 x y→p3 x y→p4 x y→P):P:=h.elim fun x h=>e1a4 h (k x)
theorem e2a5 {α β : Type} {p1 p2 p3 p4 p5:α→β→Prop} {P:Prop} (h:∃ x y,p1 x y∧p2 x y∧p3 x y∧p4 x y∧p5 x y) (k:∀ x y,p1 x y→p2 x y→p3 x y→p4 x y→p5 x y→P):P:=h.elim fun x h=>e1a5 h (k x)
theorem e2a6 {α β : Type} {p1 p2 p3 p4 p5 p6:α→β→Prop} {P:Prop} (h:∃ x y,p1 x y∧p2 x y∧p3 x y∧p4 x y∧p5 x y∧p6 x y) (k:∀ x y,p1 x y→p2 x y→p3 x y→p4 x y→p5 x y→p6 x y→P):P:=h.elim fun x h=>e1a6 h (k x)
theorem e3a1 {α β γ : Type} {p1:α→β→γ→Prop} {P:Prop} (h:∃ x y z,p1 x y z) (k:∀ x y z,p1 x y z→P):P:=h.elim fun x h=>e2a1 h (k x)
theorem e3a2 {α β γ : Type} {p1 p2:α→β→γ→Prop} {P:Prop} (h:∃ x y z,p1 x y z∧p2 x y z) (k:∀ x y z,p1 x y z→p2 x y z→P):P:=h.elim fun x h=>e2a2 h (k x)
theorem e3a3 {α β γ : Type} {p1 p2 p3:α→β→γ→Prop} {P:Prop} (h:∃ x y z,p1 x y z∧p2 x y z∧p3 x y z) (k:∀ x y z,p1 x y z→p2 x y z→p3 x y z→P):P:=h.elim fun x h=>e2a3 h (k x)
theorem e3a4 {α β γ : Type} {p1 p2 p3 p4:α→β→γ→Prop} {P:Prop} (h:∃ x y z,p1 x y z∧p2 x y z∧p3 x y z∧p4 x y z) (k:∀ x y z,p1 x y z→p2 x y z→p3 x y z→p4 x y z→P):P:=h.elim fun x h=>e2a4 h (k x)
theorem e3a5 {α β γ : Type} {p1 p2 p3 p4 p5:α→β→γ→Prop} {P:Prop} (h:∃ x y z,p1 x y z∧p2 x y z∧p3 x y z∧p4 x y z∧p5 x y z) (k:∀ x y z,p1 x y z→p2 x y z→p3 x y z→p4 x y z→p5 x y z→P):P:=h.elim fun x h=>e2a5 h (k x)
theorem e3a6 {α β γ : Type} {p1 p2 p3 p4 p5 p6:α→β→γ→Prop} {P:Prop} (h:∃ x y z,p1 x y z∧p2 x y z∧p3 x y z∧p4 x y z∧p5 x y z∧p6 x y z) (k:∀ x y z,p1 x y z→p2 x y z→p3 x y z→p4 x y z→p5 x y z→p6 x y z→P):P:=h.elim fun x h=>e2a6 h (k x)
theorem e4a1 {α β γ δ : Type} {p1:α→β→γ→δ→Prop} {P:Prop} (h:∃ x y z u,p1 x y z u) (k:∀ x y z u,p1 x y z u→P):P:=h.elim fun x h=>e3a1 h (k x)
theorem e4a4 {α β γ δ : Type} {p1 p2 p3 p4:α→β→γ→δ→Prop} {P:Prop} (h:∃ x y z u,p1 x y z u∧p2 x y z u∧p3 x y z u∧p4 x y z u) (k:∀ x y z u,p1 x y z u→p2 x y z u→p3 x y z u→p4 x y z u→P):P:=h.elim fun x h=>e3a4 h (k x)
theorem e4a5 {α β γ δ : Type} {p1 p2 p3 p4 p5:α→β→γ→δ→Prop} {P:Prop} (h:∃ x y z u,p1 x y z u∧p2 x y z u∧p3 x y z u∧p4 x y z u∧p5 x y z u) (k:∀ x y z u,p1 x y z u→p2 x y z u→p3 x y z u→p4 x y z u→p5 x y z u→P):P:=h.elim fun x h=>e3a5 h (k x)
theorem e4a6 {α β γ δ : Type} {p1 p2 p3 p4 p5 p6:α→β→γ→δ→Prop} {P:Prop} (h:∃ x y z u,p1 x y z u∧p2 x y z u∧p3 x y z u∧p4 x y z u∧p5 x y z u∧p6 x y z u) (k:∀ x y z u,p1 x y z u→p2 x y z u→p3 x y z u→p4 x y z u→p5 x y z u→p6 x y z u→P):P:=h.elim fun x h=>e3a6 h (k x)
theorem e5a4 {α β γ δ ε : Type} {p1 p2 p3 p4:α→β→γ→δ→ε→Prop} {P:Prop} (h:∃ x y z u v,p1 x y z u v∧p2 x y z u v∧p3 x y z u v∧p4 x y z u v) (k:∀ x y z u v,p1 x y z u v→p2 x y z u v→p3 x y z u v→p4 x y z u v→P):P:=h.elim fun x h=>e4a4 h (k x)
theorem e5a5 {α β γ δ ε : Type} {p1 p2 p3 p4 p5:α→β→γ→δ→ε→Prop} {P:Prop} (h:∃ x y z u v,p1 x y z u v∧p2 x y z u v∧p3 x y z u v∧p4 x y z u v∧p5 x y z u v) (k:∀ x y z u v,p1 x y z u v→p2 x y z u v→p3 x y z u v→p4 x y z u v→p5 x y z u v→P):P:=h.elim fun x h=>e4a5 h (k x)
theorem e6a5 {α β γ δ ε ζ : Type} {p1 p2 p3 p4 p5:α→β→γ→δ→ε→ζ→Prop} {P:Prop} (h:∃ x y z u v w,p1 x y z u v w∧p2 x y z u v w∧p3 x y z u v w∧p4 x y z u v w∧p5 x y z u v w) (k:∀ x y z u v w,p1 x y z u v w→p2 x y z u v w→p3 x y z u v w→p4 x y z u v w→p5 x y z u v w→P):P:=h.elim fun x h=>e5a5 h (k x)
inductive Cls where
  | node | types | type | obj | scope | scopes | reader | errors | token | scanner
  deriving DecidableEq
structure At where
  n:Fin 77
  deriving DecidableEq
namespace At
noncomputable def a_op:At:=⟨⟨0,by decide⟩⟩
noncomputable def aJ:At:=⟨⟨1,by decide⟩⟩
noncomputable def bT:At:=⟨⟨2,by decide⟩⟩
noncomputable def lG:At:=⟨⟨3,by decide⟩⟩
noncomputable def aX:At:=⟨⟨4,by decide⟩⟩
noncomputable def aFN:At:=⟨⟨5,by decide⟩⟩
noncomputable def bN:At:=⟨⟨6,by decide⟩⟩
noncomputable def kQ:At:=⟨⟨7,by decide⟩⟩
noncomputable def eL:At:=⟨⟨8,by decide⟩⟩
noncomputable def aFO:At:=⟨⟨9,by decide⟩⟩
noncomputable def aBD:At:=⟨⟨10,by decide⟩⟩
noncomputable def pR:At:=⟨⟨11,by decide⟩⟩
noncomputable def vF:At:=⟨⟨12,by decide⟩⟩
noncomputable def bS:At:=⟨⟨13,by decide⟩⟩
noncomputable def vA:At:=⟨⟨14,by decide⟩⟩
noncomputable def cI:At:=⟨⟨15,by decide⟩⟩
noncomputable def lZ:At:=⟨⟨16,by decide⟩⟩
noncomputable def vE:At:=⟨⟨17,by decide⟩⟩
noncomputable def aFQ:At:=⟨⟨18,by decide⟩⟩
noncomputable def lF:At:=⟨⟨19,by decide⟩⟩
noncomputable def oO:At:=⟨⟨20,by decide⟩⟩
noncomputable def oL:At:=⟨⟨21,by decide⟩⟩
noncomputable def yC:At:=⟨⟨22,by decide⟩⟩
noncomputable def vC:At:=⟨⟨23,by decide⟩⟩
noncomputable def rL:At:=⟨⟨24,by decide⟩⟩
noncomputable def hN:At:=⟨⟨25,by decide⟩⟩
noncomputable def kD:At:=⟨⟨26,by decide⟩⟩
noncomputable def vD:At:=⟨⟨27,by decide⟩⟩
noncomputable def cZ:At:=⟨⟨28,by decide⟩⟩
noncomputable def cO:At:=⟨⟨29,by decide⟩⟩
noncomputable def tL:At:=⟨⟨30,by decide⟩⟩
noncomputable def bP:At:=⟨⟨31,by decide⟩⟩
noncomputable def yD:At:=⟨⟨32,by decide⟩⟩
noncomputable def a_nil:At:=⟨⟨33,by decide⟩⟩
noncomputable def tJ:At:=⟨⟨34,by decide⟩⟩
noncomputable def lY:At:=⟨⟨35,by decide⟩⟩
noncomputable def vB:At:=⟨⟨36,by decide⟩⟩
noncomputable def lX:At:=⟨⟨37,by decide⟩⟩
noncomputable def bD:At:=⟨⟨38,by decide⟩⟩
noncomputable def oK:At:=⟨⟨39,by decide⟩⟩
noncomputable def kC:At:=⟨⟨40,by decide⟩⟩
noncomputable def aM:At:=⟨⟨41,by decide⟩⟩
noncomputable def oM:At:=⟨⟨42,by decide⟩⟩
noncomputable def fB:At:=⟨⟨43,by decide⟩⟩
noncomputable def aAi:At:=⟨⟨44,by decide⟩⟩
noncomputable def rK:At:=⟨⟨45,by decide⟩⟩
noncomputable def oN:At:=⟨⟨46,by decide⟩⟩
noncomputable def cC:At:=⟨⟨47,by decide⟩⟩
noncomputable def tH:At:=⟨⟨48,by decide⟩⟩
noncomputable def nJ:At:=⟨⟨49,by decide⟩⟩
noncomputable def bW:At:=⟨⟨50,by decide⟩⟩
noncomputable def uZ:At:=⟨⟨51,by decide⟩⟩
noncomputable def iO:At:=⟨⟨52,by decide⟩⟩
noncomputable def aBC:At:=⟨⟨53,by decide⟩⟩
noncomputable def cV:At:=⟨⟨54,by decide⟩⟩
noncomputable def a_add:At:=⟨⟨55,by decide⟩⟩
noncomputable def nL:At:=⟨⟨56,by decide⟩⟩
noncomputable def fZ:At:=⟨⟨57,by decide⟩⟩
noncomputable def a_at:At:=⟨⟨58,by decide⟩⟩
noncomputable def dE:At:=⟨⟨59,by decide⟩⟩
noncomputable def fC:At:=⟨⟨60,by decide⟩⟩
noncomputable def bO:At:=⟨⟨61,by decide⟩⟩
noncomputable def aBB:At:=⟨⟨62,by decide⟩⟩
noncomputable def aBA:At:=⟨⟨63,by decide⟩⟩
noncomputable def nK:At:=⟨⟨64,by decide⟩⟩
noncomputable def aAh:At:=⟨⟨65,by decide⟩⟩
noncomputable def mA:At:=⟨⟨66,by decide⟩⟩
noncomputable def pP:At:=⟨⟨67,by decide⟩⟩
noncomputable def aP:At:=⟨⟨68,by decide⟩⟩
noncomputable def tK:At:=⟨⟨69,by decide⟩⟩
noncomputable def pQ:At:=⟨⟨71,by decide⟩⟩
noncomputable def iP:At:=⟨⟨72,by decide⟩⟩
noncomputable def aFP:At:=⟨⟨73,by decide⟩⟩
noncomputable def nH:At:=⟨⟨74,by decide⟩⟩
noncomputable def yE:At:=⟨⟨75,by decide⟩⟩
noncomputable def rY:At:=⟨⟨76,by decide⟩⟩
end At
noncomputable def aFJ:List String:=["op", "place", "type", "kids", "value", "sure", "kind", "number", "form", "size", "base", "length", "fields", "level", "params", "module", "label", "hidden", "exno", "name", "exported", "readonly", "slot", "offset", "isparam", "narrowed", "counter", "known", "boolean", "char", "byte", "integer", "mask", "nil", "none", "names", "order", "slots", "types", "stack", "scanner", "errors", "importer", "scopes", "procs", "records", "forwards", "token", "rows", "places", "source", "words", "string", "open", "insert", "add", "find", "step", "at", "skip", "expect", "mark", "take", "word", "numeral", "whole", "character", "symbol", "append", "join", "get", "remark", "hexadecimal", "real", "skip_digits", "current", "new"]
noncomputable def At.name (a:At):Str:=Str.ofString (aFJ.getD a.n.1 "")
noncomputable def At.of (x:Str):Option At:=(aFJ.findIdx? fun s=>Str.ofString s == x).bind fun i=>if h:i < 77 then some ⟨⟨i,h⟩⟩ else none
theorem At.of_name {x:Str} {a:At} (h:At.of x = some a):x = a.name:=by
  obtain ⟨i,hi,h⟩:=Option.bind_eq_some_iff.mp h
  by_cases q:i < 77
  · rw [dif_pos q] at h
    cases h
    obtain ⟨hl,he,_⟩:=List.findIdx?_eq_some_iff_getElem.mp hi
    rw [beq_iff_eq] at he
    rw [← he]
    exact congrArg Str.ofString (by rw [List.getD_eq_getElem?_getD,List.getElem?_eq_getElem hl]; rfl)
  · rw [dif_neg q] at h; cases h
theorem At.name_of:∀ a:Fin 77,At.of (At.name ⟨a⟩) = some ⟨a⟩:=by decide +kernel
noncomputable def lay:Cls→List At
  | .node=>[.a_op,.aJ,.bT,.lG,.aX,.aFN]
  | .token=>[.bN,.aX,.aJ]
  | .type=>[.kQ,.eL,.aFO,.aBD,.pR,.vF,.bS,.vA,.cI,.lZ,.vE,.aFQ]
  | .obj=>[.lF,.bN,.bT,.aJ,.oO,.oL,.bS,.cI,.aX,.yC,.vC,.kQ,.rL,.hN]
  | .types=>[.kD,.vD,.cZ,.cO,.tL,.bP,.yD,.a_nil,.tJ]
  | .scope=>[.bS,.lZ,.lY,.vB,.lX]
  | .scopes=>[.bD,.cI,.oK,.bS]
  | .reader=>[.kC,.bD,.aM,.oM,.fB,.cI,.aAi,.rK,.oN,.bS,.cC]
  | .errors=>[.tH,.nJ]
  | .scanner=>[.bW,.aM,.aJ,.uZ]
noncomputable def fidx (c:Cls) (a:At):Option Nat:=(lay c).idxOf? a
theorem fidx_lay (c:Cls) (a:At):fidx c a = (lay c).idxOf? a:=rfl
namespace A
noncomputable def const:Value:=.ref 50
noncomputable def is_integer:Value:=.ref 85
noncomputable def checked:Value:=.ref 274
noncomputable def fits:Value:=.ref 267
noncomputable def fold_unary:Value:=.ref 281
noncomputable def is_const_checkops:Value:=.ref 337
noncomputable def unary:Value:=.ref 351
noncomputable def unary_node:Value:=.ref 358
noncomputable def qualident:Value:=.ref 601
noncomputable def object_node:Value:=.ref 608
noncomputable def variable_node:Value:=.ref 615
noncomputable def designator:Value:=.ref 622
noncomputable def selectors:Value:=.ref 629
noncomputable def expression:Value:=.ref 643
noncomputable def simple_expression:Value:=.ref 657
noncomputable def term:Value:=.ref 664
noncomputable def factor:Value:=.ref 671
noncomputable def named_factor:Value:=.ref 678
noncomputable def const_expression:Value:=.ref 727
noncomputable def case_statement:Value:=.ref 741
noncomputable def is_type_subject:Value:=.ref 748
noncomputable def else_block:Value:=.ref 755
noncomputable def at_labels:Value:=.ref 762
noncomputable def label_value:Value:=.ref 769
noncomputable def label_range:Value:=.ref 776
noncomputable def label_list:Value:=.ref 783
noncomputable def value_cases:Value:=.ref 790
noncomputable def keywords:Value:=.ref 881
noncomputable def is_letter_scanner:Value:=.ref 888
noncomputable def is_digit:Value:=.ref 895
noncomputable def is_hex_digit:Value:=.ref 902
noncomputable def digits_value:Value:=.ref 909
noncomputable def std_functions:Value:=.ref 1191
noncomputable def std_procedures:Value:=.ref 1198
noncomputable def fill:Value:=.ref 1205
noncomputable def law_pool:Value:=.ref 1283
noncomputable def law_pick:Value:=.ref 1290
noncomputable def law_statements:Value:=.ref 1297
noncomputable def law_label:Value:=.ref 1304
noncomputable def law_range:Value:=.ref 1309
noncomputable def law:Value:=.ref 1314
noncomputable def cNode:Value:=.ref 39
noncomputable def cToken:Value:=.ref 870
noncomputable def cType:Value:=.ref 1039
noncomputable def cObj:Value:=.ref 1060
noncomputable def cTypes:Value:=.ref 1096
noncomputable def cScope:Value:=.ref 1117
noncomputable def cScopes:Value:=.ref 1180
noncomputable def cReader:Value:=.ref 1272
noncomputable def cErrorList:Value:=.ref 849
noncomputable def cScanner:Value:=.ref 1018
noncomputable def mErrorList_mark:Addr:=832
noncomputable def mScanner_char:Addr:=931
noncomputable def mScanner_take:Addr:=938
noncomputable def mScanner_skip:Addr:=945
noncomputable def mScanner_remark:Addr:=952
noncomputable def mScanner_word:Addr:=959
noncomputable def mScanner_numeral:Addr:=966
noncomputable def mScanner_whole:Addr:=973
noncomputable def mScanner_hexadecimal:Addr:=980
noncomputable def mScanner_character:Addr:=987
noncomputable def mScanner_real:Addr:=994
noncomputable def mScanner_skip_digits:Addr:=1001
noncomputable def mScanner_string:Addr:=1008
noncomputable def mScanner_symbol:Addr:=1015
noncomputable def mTypes_new:Addr:=1086
noncomputable def mTypes_string:Addr:=1093
noncomputable def mScopes_open:Addr:=1142
noncomputable def mScopes_current:Addr:=1156
noncomputable def mScopes_add:Addr:=1163
noncomputable def mScopes_insert:Addr:=1170
noncomputable def mScopes_find:Addr:=1177
noncomputable def mReader_step:Addr:=1227
noncomputable def mReader_at:Addr:=1234
noncomputable def mReader_skip:Addr:=1241
noncomputable def mReader_expect:Addr:=1248
noncomputable def mReader_mark:Addr:=1255
noncomputable def mReader_name:Addr:=1262
end A
noncomputable def addrOf:Cls→Addr
  | .node=>39
  | .token=>870
  | .type=>1039
  | .obj=>1060
  | .types=>1096
  | .scope=>1117
  | .scopes=>1180
  | .reader=>1272
  | .errors=>849
  | .scanner=>1018
noncomputable def meths:Cls→List (At × Addr)
  | .errors=>[(.bO,A.mErrorList_mark)]
  | .scanner=>[(.cO,A.mScanner_char),(.aBB,A.mScanner_take),(.dE,A.mScanner_skip),(.pQ,A.mScanner_remark),(.aBA,A.mScanner_word),(.nK,A.mScanner_numeral),(.aAh,A.mScanner_whole),(.iP,A.mScanner_hexadecimal),(.mA,A.mScanner_character),(.aFP,A.mScanner_real),(.nH,A.mScanner_skip_digits),(.iO,A.mScanner_string),(.pP,A.mScanner_symbol)]
  | .types=>[(.rY,A.mTypes_new),(.iO,A.mTypes_string)]
  | .scopes=>[(.aBC,A.mScopes_open),(.yE,A.mScopes_current),(.a_add,A.mScopes_add),(.cV,A.mScopes_insert),(.nL,A.mScopes_find)]
  | .reader=>[(.fZ,A.mReader_step),(.a_at,A.mReader_at),(.dE,A.mReader_skip),(.fC,A.mReader_expect),(.bO,A.mReader_mark),(.lF,A.mReader_name)]
  | _=>[]
noncomputable def bM (c:Cls) (m:At):Option Addr:=(meths c).lookup m
noncomputable def fnTab:List Addr:=[50,85,57,274,267,281,337,351,358,601,608,615,622,629,643,657,664,671,678,727,741,748,755,762,769,776,783,790,881,888,895,902,909,1191,1198,1205,1283,1290,1297,1304,1309,1314,39,870,1039,1060,1096,1117,1180,1272,849,1018]
noncomputable def isFun:Value→Bool
  | .ref a=>fnTab.contains a
  | _=>false
inductive V where
  | none
  | bool (b:Bool)
  | int (i:Int)
  | str (s:Str)
  | glob (v:Value)
  | ref (k:Nat)
  | tup (xs:List V)
  | lst (xs:List V)
  | inst (c:Cls) (fs:List V)
inductive MO where
  | inst (c:Cls) (fs:List V)
  | lst (xs:List V)
  | sdict (es:List (Str × V))
  | idict (es:List (Int × V))
noncomputable abbrev Mem:=List MO
structure CT where
  prog:Program
  w:World
noncomputable abbrev CT.addr (_:CT) (c:Cls):Addr:=addrOf c
noncomputable abbrev loOf (items:Array Value) (n:Nat):Obj:={ cls:=.type "list",data:=.seq items n }
structure Froz (h:Heap) (bad:List Addr) (a:Addr):Prop where
  is:∃ o,h.get? a = some o
  ok:a ∉ bad
section
variable (T:CT) (h:Heap) (bad:List Addr) (ρ:List (Addr × Addr))
mutual
noncomputable def RepV:V→Value→Prop
  | .none,v=>v = .none
  | .bool b,v=>v = .bool b
  | .int i,v=>∃ t,v = .int i t
  | .str s,v=>∃ t,v = .str s t
  | .glob g,v=>v = g∧handedIn g = true
  | .ref k,v=>∃ p,ρ[k]? = some p∧v = .ref p.1
  | .tup xs,v=>∃ a items,v = .ref a∧Froz h bad a∧h.IsTuple a items∧RepL xs items.toList
  | .lst xs,v=>∃ a items,v = .ref a∧Froz h bad a∧h.IsList a items∧RepL xs items.toList
  | .inst c fs,v=>∃ a d es n,v = .ref a∧Froz h bad a∧Froz h bad d∧h.get? a = some (instObj (T.addr c) d)∧h.get? d = some (dictOf es n)∧RepF (lay c) fs es
noncomputable def RepL:List V→List Value→Prop
  | [],l=>l = []
  | x :: xs,l=>∃ v r,l = v :: r∧RepV x v∧RepL xs r
noncomputable def RepF:List At→List V→List DictEntry→Prop
  | _,[],l=>l = []
  | [],_ :: _,_=>False
  | n :: ns,x :: xs,l=>∃ e r,l = e :: r∧(∃ t,e.key = .str n.name t)∧RepV x e.val∧RepF ns xs r
end
noncomputable def RepO (a d:Addr):MO→Prop
  | .inst c fs=>∃ es n,Froz h bad a∧h.get? a = some (instObj (T.addr c) d)∧h.get? d = some (dictOf es n)∧RepF T h bad ρ (lay c) fs es
  | .lst xs=>a = d∧∃ items n,h.get? a = some (loOf items n)∧RepL T h bad ρ xs items.toList
  | .sdict es=>a = d∧∃ kvs,h.DictOf (strKind T.prog T.w) a kvs∧kvs.map (·.1) = es.map (·.1)∧RepL T h bad ρ (es.map (·.2)) (kvs.map (·.2))
  | .idict es=>a = d∧∃ kvs,h.DictOf (intKind T.prog T.w) a kvs∧kvs.map (·.1) = es.map (·.1)∧RepL T h bad ρ (es.map (·.2)) (kvs.map (·.2))
end
section
variable {T:CT} {h h':Heap} {bad bad':List Addr} {ρ ρ':List (Addr × Addr)}
theorem aCH {h h':Heap} {a:Addr} {items:Array Value} (x:h.IsTuple a items) (k:∀ o,h.get? a = some o→h'.get? a = some o):h'.IsTuple a items :=
  let ⟨o,ho,r⟩:=x; ⟨o,k o ho,r⟩
theorem aFS {h h':Heap} {a:Addr} {items:Array Value} (x:h.IsList a items) (k:∀ o,h.get? a = some o→h'.get? a = some o):h'.IsList a items :=
  let ⟨o,ho,r⟩:=x; ⟨o,k o ho,r⟩
theorem yG {prog:Program} {w:World} {K:Type} [DecidableEq K] {knd:KeyKind prog w K} {h h':Heap} {a:Addr} {kvs:List (K × Value)} (x:h.DictOf knd a kvs) (k:∀ o,h.get? a = some o→h'.get? a = some o):h'.DictOf knd a kvs:=by
  refine e3a2 x fun o es ep ho r=>?_
  exact ⟨o,es,ep,k o ho,r⟩
theorem nW {α : Type} {l l':List α} (h:l <+: l') {k:Nat} {p:α} (e:l[k]? = some p):l'[k]? = some p:=by
  obtain ⟨t,rfl⟩:=h
  rw [List.getElem?_append_left (by exact (List.getElem?_eq_some_iff.mp e).1)]; exact e
theorem V.ind {P:V→Prop} (h0:P .none) (h1:∀ b,P (.bool b)) (h2:∀ i,P (.int i)) (h3:∀ s,P (.str s)) (h4:∀ g,P (.glob g)) (h5:∀ k,P (.ref k))
    (h6:∀ xs,(∀ x ∈ xs,P x)→P (.tup xs)) (h7:∀ xs,(∀ x ∈ xs,P x)→P (.lst xs)) (h8:∀ c xs,(∀ x ∈ xs,P x)→P (.inst c xs)) (x:V):P x :=
  V.rec (motive_1:=P) (motive_2:=fun xs=>∀ x ∈ xs,P x) h0 h1 h2 h3 h4 h5 h6 h7 h8 (fun _ q=>(List.not_mem_nil q).elim) (fun _ _ a b y q=>(List.mem_cons.mp q).elim (fun e=>e ▸ a) (b y)) x
theorem RepL.imp (xs:List V) (hx:∀ x ∈ xs,∀ v,RepV T h bad ρ x v→RepV T h' bad' ρ' x v):∀ l,RepL T h bad ρ xs l→RepL T h' bad' ρ' xs l:=by
  induction xs with
  | nil=>exact fun _ r=>r
  | cons x xs ih=>exact fun l r=>e2a3 r fun v t e a b=>⟨v,t,e,hx x (List.mem_cons_self ..) v a,ih (fun y q=>hx y (List.mem_cons_of_mem _ q)) t b⟩
theorem iC {P:List At→List V→List DictEntry→Prop} (h0:∀ ns,P ns [] []) (h1:∀ n ns x xs e t,(∃ tk,e.key = .str n.name tk)→RepV T h bad ρ x e.val→RepF T h bad ρ ns xs t→P ns xs t→P (n :: ns) (x :: xs) (e :: t)) (xs:List V):∀ ns l,RepF T h bad ρ ns xs l→P ns xs l:=by
  induction xs with
  | nil =>
    intro ns l r
    cases ns <;> exact (show l = [] from r) ▸ h0 _
  | cons x xs ih =>
    intro ns l r
    cases ns with
    | nil=>exact False.elim r
    | cons n ns=>exact e2a4 r fun e t q k a b=>q ▸ h1 n ns x xs e t k a b (ih ns t b)
theorem RepF.nil:∀ {ns:List At},RepF T h bad ρ ns [] []
  | []=>rfl
  | _ :: _=>rfl
theorem RepF.imp (xs:List V) (hx:∀ x ∈ xs,∀ v,RepV T h bad ρ x v→RepV T h' bad' ρ' x v) (ns:List At) (l:List DictEntry) (r:RepF T h bad ρ ns xs l):RepF T h' bad' ρ' ns xs l :=
  iC (P:=fun ns xs l=>(∀ x ∈ xs,∀ v,RepV T h bad ρ x v→RepV T h' bad' ρ' x v)→RepF T h' bad' ρ' ns xs l) (fun _ _=>RepF.nil) (fun n ns x xs e t k a _ ih hx=>⟨e,t,rfl,k,hx x (.head _) _ a,ih fun y q=>hx y (.tail _ q)⟩) xs ns l r hx
theorem RepV.mono (hk:∀ a,Froz h bad a→Froz h' bad' a∧∀ o,h.get? a = some o→h'.get? a = some o) (hρ:ρ <+: ρ') (x:V):∀ v,RepV T h bad ρ x v→RepV T h' bad' ρ' x v :=
  V.ind (P:=fun x=>∀ v,RepV T h bad ρ x v→RepV T h' bad' ρ' x v) (fun _ r=>r) (fun _ _ r=>r) (fun _ _ r=>r) (fun _ _ r=>r) (fun _ _ r=>r) (fun _ _ r=>e1a2 r fun p e r=>⟨p,nW hρ e,r⟩)
    (fun xs ih _ r=>e2a4 r fun a items e f t r=>⟨a,items,e,(hk a f).1,aCH t (hk a f).2,RepL.imp xs ih _ r⟩)
    (fun xs ih _ r=>e2a4 r fun a items e f t r=>⟨a,items,e,(hk a f).1,aFS t (hk a f).2,RepL.imp xs ih _ r⟩)
    (fun _ xs ih _ r=>e4a6 r fun a d es n e f g t u r=>⟨a,d,es,n,e,(hk a f).1,(hk d g).1,(hk a f).2 _ t,(hk d g).2 _ u,RepF.imp xs ih _ es r⟩) x
theorem RepL.mono (hk:∀ a,Froz h bad a→Froz h' bad' a∧∀ o,h.get? a = some o→h'.get? a = some o) (hρ:ρ <+: ρ') (xs:List V):∀ l,RepL T h bad ρ xs l→RepL T h' bad' ρ' xs l:=RepL.imp xs fun x _=>RepV.mono hk hρ x
theorem RepF.mono (hk:∀ a,Froz h bad a→Froz h' bad' a∧∀ o,h.get? a = some o→h'.get? a = some o) (hρ:ρ <+: ρ') (ns:List At) (xs:List V):∀ l,RepF T h bad ρ ns xs l→RepF T h' bad' ρ' ns xs l:=RepF.imp xs (fun x _=>RepV.mono hk hρ x) ns
structure Step (p:Bool) (w:List Addr) (ρ:List (Addr × Addr)) (h:Heap) (ρ':List (Addr × Addr)) (h':Heap):Prop where
  ext:ρ <+: ρ'
  new:∀ q ∈ ρ'.drop ρ.length,h.get? q.1 = none∧h.get? q.2 = none
  there:∀ b o,h.get? b = some o→∃ o',h'.get? b = some o'
  keep:∀ b o,h.get? b = some o→(p = true ∨ b ∉ ρ.map (·.2))→b ∉ w→h'.get? b = some o
section
variable {p:Bool}
theorem Step.refl (p:Bool) (w:List Addr) (ρ:List (Addr × Addr)) (h:Heap):Step p w ρ h ρ h:=⟨List.prefix_refl _,by simp,fun _ o e=>⟨o,e⟩,fun _ _ e _ _=>e⟩
theorem Step.none {w:List Addr} {ρ ρ':List (Addr × Addr)} {h h':Heap} (x:Step p w ρ h ρ' h') {b:Addr} (e:h'.get? b = none):h.get? b = none:=by
  cases q:h.get? b with
  | none=>rfl
  | some o=>obtain ⟨o',q'⟩:=x.there b o q; rw [e] at q'; cases q'
theorem Step.trans {w:List Addr} {ρ₁ ρ₂ ρ₃:List (Addr × Addr)} {h₁ h₂ h₃:Heap} (x:Step p w ρ₁ h₁ ρ₂ h₂) (y:Step p w ρ₂ h₂ ρ₃ h₃):Step p w ρ₁ h₁ ρ₃ h₃:=by
  obtain ⟨n1,rfl⟩:=x.ext
  obtain ⟨n2,rfl⟩:=y.ext
  have xn:=x.new
  have yn:=y.new
  rw [List.drop_left] at xn yn
  refine ⟨⟨n1 ++ n2,by rw [List.append_assoc]⟩,?_,fun b o e=>?_,fun b o e hb hw=>?_⟩
  · rw [List.append_assoc,List.drop_left]
    intro q hq
    rcases List.mem_append.mp hq with hq | hq
    · exact xn q hq
    · exact ⟨x.none (yn q hq).1,x.none (yn q hq).2⟩
  · obtain ⟨o',e'⟩:=x.there b o e
    exact y.there b o' e'
  · refine y.keep b o (x.keep b o e hb hw) ?_ hw
    rcases hb with hb | hb
    · exact .inl hb
    · right
      rw [List.map_append]
      intro q
      rcases List.mem_append.mp q with q | q
      · exact hb q
      · refine e1a2 (List.mem_map.mp q) fun r hr e0q=>?_
        subst e0q
        have z:=(xn r hr).2
        rw [z] at e; cases e
theorem Step.weaken {w w':List Addr} {ρ ρ':List (Addr × Addr)} {h h':Heap} (x:Step p w ρ h ρ' h') (s:∀ a ∈ w,a ∈ w'):Step p w' ρ h ρ' h' :=
  ⟨x.ext,x.new,x.there,fun b o e h1 h2=>x.keep b o e h1 fun q=>h2 (s _ q)⟩
theorem Step.plain {w:List Addr} {ρ ρ':List (Addr × Addr)} {h h':Heap} (x:Step p w ρ h ρ' h'):Step false w ρ h ρ' h' :=
  ⟨x.ext,x.new,x.there,fun b o e h1 h2=>x.keep b o e (.inr (h1.resolve_left Bool.false_ne_true)) h2⟩
noncomputable abbrev aG (S:List Addr) (ρ:List (Addr × Addr)):List Addr:=S ++ ρ.map (·.2)
theorem Step.froz {S w:List Addr} {ρ ρ':List (Addr × Addr)} {h h':Heap} (x:Step p w ρ h ρ' h') (hw:∀ a ∈ w,a ∈ S) (a:Addr) (f:Froz h (aG S ρ) a) :
    Froz h' (aG S ρ') a∧∀ o,h.get? a = some o→h'.get? a = some o:=by
  have f2:=f.ok
  have h1:a ∉ S:=fun q=>f2 (List.mem_append_left _ q)
  have h2:a ∉ ρ.map (·.2):=fun q=>f2 (List.mem_append_right _ q)
  obtain ⟨o,ho⟩:=f.is
  refine ⟨⟨x.there a o ho,fun q=>?_⟩,fun o e=>x.keep a o e (.inr h2) fun q=>h1 (hw a q)⟩
  rcases List.mem_append.mp q with q | q
  · exact h1 q
  · obtain ⟨n1,rfl⟩:=x.ext
    have xn:=x.new
    rw [List.drop_left] at xn
    rw [List.map_append] at q
    rcases List.mem_append.mp q with q | q
    · exact h2 q
    · refine e1a2 (List.mem_map.mp q) fun r hr e0q=>?_
      subst e0q
      have z:=(xn r hr).2
      rw [z] at ho; cases ho
theorem RepV.step {S w:List Addr} {x:V} {v:Value} (st:Step p w ρ h ρ' h') (hw:∀ a ∈ w,a ∈ S) (r:RepV T h (aG S ρ) ρ x v):RepV T h' (aG S ρ') ρ' x v:=RepV.mono (st.froz hw) st.ext x v r
theorem RepL.step {S w:List Addr} {x:List V} {v:List Value} (st:Step p w ρ h ρ' h') (hw:∀ a ∈ w,a ∈ S) (r:RepL T h (aG S ρ) ρ x v):RepL T h' (aG S ρ') ρ' x v:=RepL.mono (st.froz hw) st.ext x v r
theorem RepF.step {S w:List Addr} {n:List At} {x:List V} {v:List DictEntry} (st:Step p w ρ h ρ' h') (hw:∀ a ∈ w,a ∈ S) (r:RepF T h (aG S ρ) ρ n x v):RepF T h' (aG S ρ') ρ' n x v:=RepF.mono (st.froz hw) st.ext n x v r
end
theorem Froz.sub {h:Heap} {b b':List Addr} {a:Addr} (f:Froz h b a) (s:∀ x ∈ b',x ∈ b):Froz h b' a:=⟨f.is,fun q=>f.ok (s _ q)⟩
structure MemR (T:CT) (hZ:Heap) (S:List Addr) (ρ:List (Addr × Addr)) (h:Heap) (mem:Mem):Prop where
  keep:∀ b o,hZ.get? b = some o→h.get? b = some o
  len:ρ.length = mem.length
  rep:∀ (i:Nat) (p:Addr × Addr) (o:MO),ρ[i]? = some p→mem[i]? = some o→RepO T h (aG S ρ) ρ p.1 p.2 o
  nd:(ρ.map (·.2)).Nodup
  fresh:∀ p ∈ ρ,hZ.objs.size ≤ p.1∧hZ.objs.size ≤ p.2
  sfresh:∀ L ∈ S,L ∉ ρ.map (·.2)∧hZ.objs.size ≤ L∧∃ o,h.get? L = some o
theorem RepO.mono {a d:Addr} {o:MO} (hk:∀ a,Froz h bad a→Froz h' bad' a∧∀ o,h.get? a = some o→h'.get? a = some o) (hρ:ρ <+: ρ') (hd:∀ o,h.get? d = some o→h'.get? d = some o) (r:RepO T h bad ρ a d o):RepO T h' bad' ρ' a d o:=by
  cases o with
  | inst c fs =>
    refine e2a4 r fun es n f e1 e2 rf=>?_
    exact ⟨es,n,(hk a f).1,(hk a f).2 _ e1,hd _ e2,RepF.mono hk hρ _ _ _ rf⟩
  | lst xs =>
    obtain ⟨rfl,items,n,il,rl⟩:=r
    exact ⟨rfl,items,n,hd _ il,RepL.mono hk hρ _ _ rl⟩
  | sdict es =>
    obtain ⟨rfl,kvs,il,e,rl⟩:=r
    exact ⟨rfl,kvs,yG il hd,e,RepL.mono hk hρ _ _ rl⟩
  | idict es =>
    obtain ⟨rfl,kvs,il,e,rl⟩:=r
    exact ⟨rfl,kvs,yG il hd,e,RepL.mono hk hρ _ _ rl⟩
end
section
variable {T:CT} {hZ h h':Heap} {S w:List Addr} {ρ ρ':List (Addr × Addr)} {mem:Mem}
theorem RepO.is {bad:List Addr} {a d:Addr} {o:MO} (r:RepO T h bad ρ a d o):(∃ x,h.get? a = some x)∧∃ x,h.get? d = some x:=by
  cases o with
  | inst c fs=>obtain ⟨es,n,f,e1,e2,rf⟩:=r; exact ⟨⟨_,e1⟩,⟨_,e2⟩⟩
  | lst xs=>obtain ⟨rfl,items,n,hx,rl⟩:=r; exact ⟨⟨_,hx⟩,⟨_,hx⟩⟩
  | sdict es=>obtain ⟨rfl,kvs,⟨x,_,_,hx,_⟩,e,rl⟩:=r; exact ⟨⟨x,hx⟩,⟨x,hx⟩⟩
  | idict es=>obtain ⟨rfl,kvs,⟨x,_,_,hx,_⟩,e,rl⟩:=r; exact ⟨⟨x,hx⟩,⟨x,hx⟩⟩
theorem cJ {a:Addr} {items:Array Value} {n:Nat} (e:h.get? a = some (loOf items n)):h.IsList a items:=⟨_,e,rfl,n,rfl⟩
theorem MemR.there (M:MemR T hZ S ρ h mem) {p:Addr × Addr} (hp:p ∈ ρ):(∃ x,h.get? p.1 = some x)∧∃ x,h.get? p.2 = some x:=by
  obtain ⟨i,hi⟩:=List.mem_iff_getElem?.mp hp
  have hl:=(List.getElem?_eq_some_iff.mp hi).1
  rw [M.len] at hl
  exact (M.rep i p mem[i] hi (List.getElem?_eq_getElem hl)).is
theorem MemR.bad_there (M:MemR T hZ S ρ h mem) {a:Addr} (q:a ∈ aG S ρ):∃ x,h.get? a = some x:=by
  rcases List.mem_append.mp q with q | q
  · exact (M.sfresh a q).2.2
  · refine e1a2 (List.mem_map.mp q) fun p hp e0q=>?_
    subst e0q
    exact (M.there hp).2
theorem MemR.move {pp:Bool} (M:MemR T hZ S ρ h mem) (st:Step pp w ρ h ρ h') (hw:∀ a ∈ w,a ∈ S) (hp:∀ p ∈ ρ,∀ o,h.get? p.2 = some o→h'.get? p.2 = some o):MemR T hZ S ρ h' mem:=by
  refine ⟨fun b o e=>?_,M.len,fun i p o hi ho=>RepO.mono (st.froz hw) (List.prefix_refl _) (hp p (List.mem_of_getElem? hi)) (M.rep i p o hi ho),M.nd,M.fresh,fun L hL=>?_⟩
  · have lt:=Heap.lt_size e
    refine st.keep b o (M.keep b o e) (.inr fun q=>?_) fun q=>?_
    · refine e1a2 (List.mem_map.mp q) fun p hp e0q=>?_
      subst e0q
      exact absurd lt (Nat.not_lt.mpr (M.fresh p hp).2)
    · exact absurd lt (Nat.not_lt.mpr (M.sfresh b (hw b q)).2.1)
  · obtain ⟨x,y,o,z⟩:=M.sfresh L hL
    exact ⟨x,y,st.there L o z⟩
theorem Step.push {p:Bool} (ρ:List (Addr × Addr)) (h:Heap) (o:Obj):Step p [] ρ h ρ (h.push o) :=
  ⟨List.prefix_refl _,by simp,fun _ x e=>⟨x,Heap.get?_push_of_some _ e⟩,fun _ _ e _ _=>Heap.get?_push_of_some _ e⟩
theorem Step.all {p:Bool} (ρ:List (Addr × Addr)) (hk:∀ b o,h.get? b = some o→h'.get? b = some o):Step p [] ρ h ρ h' :=
  ⟨List.prefix_refl _,by simp,fun _ x e=>⟨x,hk _ _ e⟩,fun _ _ e _ _=>hk _ _ e⟩
theorem MemR.all (M:MemR T hZ S ρ h mem) (hk:∀ b o,h.get? b = some o→h'.get? b = some o):MemR T hZ S ρ h' mem :=
  M.move (Step.all (p:=true) ρ hk) (fun _ q=>(nomatch q)) fun _ _ _ e=>hk _ _ e
theorem MemR.push (M:MemR T hZ S ρ h mem) (o:Obj):MemR T hZ S ρ (h.push o) mem:=M.all fun _ _ e=>Heap.get?_push_of_some _ e
theorem MemR.froz_new (M:MemR T hZ S ρ h mem) {a:Addr} {o:Obj} (e:h'.get? a = some o) (n:h.get? a = none):Froz h' (aG S ρ) a :=
  ⟨⟨o,e⟩,fun q=>by obtain ⟨x,hx⟩:=M.bad_there q; rw [n] at hx; cases hx⟩
theorem aR (h:Heap):h.get? h.objs.size = none:=by
  cases q:h.get? h.objs.size with
  | none=>rfl
  | some o=>exact absurd (Heap.lt_size q) (Nat.lt_irrefl _)
theorem Step.same {d:Addr} (ρ:List (Addr × Addr)) (hs:Heap.SameBut d h h') (hd:d ∈ ρ.map (·.2)) (ht:∃ o,h'.get? d = some o):Step false [] ρ h ρ h' :=
  ⟨List.prefix_refl _,by simp,fun b o e=>by
    by_cases q:b = d
    · subst q; exact ht
    · exact ⟨o,(hs.2 b q).trans e⟩,fun b o e hb _=>(hs.2 b fun q=>(hb.resolve_left Bool.false_ne_true) (q ▸ hd)).trans e⟩
theorem MemR.set {k:Nat} {p:Addr × Addr} {o o':MO} (M:MemR T hZ S ρ h mem) (hρ:ρ[k]? = some p) (ho:mem[k]? = some o) (hs:Heap.SameBut p.2 h h')
    (r:RepO T h' (aG S ρ) ρ p.1 p.2 o'):MemR T hZ S ρ h' (mem.set k o')∧Step false [] ρ h ρ h':=by
  have hd:p.2 ∈ ρ.map (·.2):=List.mem_map_of_mem (List.mem_of_getElem? hρ)
  have st:=Step.same ρ hs hd r.is.2
  refine ⟨⟨fun b o e=>?_,by rw [List.length_set]; exact M.len,fun i q x hi hx=>?_,M.nd,M.fresh,fun L hL=>?_⟩,st⟩
  · have lt:=Heap.lt_size e
    refine (hs.2 b fun q=>?_).trans (M.keep b o e)
    refine e1a2 (List.mem_map.mp hd) fun p' hp' e'=>?_
    exact absurd lt (Nat.not_lt.mpr (by rw [q,← e']; exact (M.fresh p' hp').2))
  · by_cases hik:i = k
    · subst hik
      rw [hρ] at hi
      cases hi
      rw [List.getElem?_set_self (by exact (List.getElem?_eq_some_iff.mp ho).1)] at hx
      cases hx
      exact r
    · rw [List.getElem?_set_ne (Ne.symm hik)] at hx
      refine RepO.mono (st.froz (fun _ q=>(nomatch q))) (List.prefix_refl _) (fun ob e=>(hs.2 q.2 fun z=>?_).trans e) (M.rep i q x hi hx)
      have l1:=(List.getElem?_eq_some_iff.mp hi).1
      have l2:=(List.getElem?_eq_some_iff.mp hρ).1
      have e1:(ρ.map (·.2))[i]? = some q.2:=by rw [List.getElem?_map,hi]; rfl
      have e2:(ρ.map (·.2))[k]? = some p.2:=by rw [List.getElem?_map,hρ]; rfl
      have e3:=e1.trans ((congrArg some z).trans e2.symm)
      exact hik ((List.getElem?_inj (by rw [List.length_map]; exact l1) M.nd).mp e3)
  · obtain ⟨x,y,o,z⟩:=M.sfresh L hL
    exact ⟨x,y,st.there L o z⟩
theorem MemR.add {p:Addr × Addr} {o:MO} (M:MemR T hZ S ρ h mem) (hk:∀ b x,h.get? b = some x→h'.get? b = some x)
    (h1:h.get? p.1 = none) (h2:h.get? p.2 = none) (h3:hZ.objs.size ≤ p.1) (h4:hZ.objs.size ≤ p.2)
    (r:RepO T h' (aG S (ρ ++ [p])) (ρ ++ [p]) p.1 p.2 o):MemR T hZ S (ρ ++ [p]) h' (mem ++ [o])∧Step false [] ρ h (ρ ++ [p]) h':=by
  have st:Step false [] ρ h (ρ ++ [p]) h':=⟨⟨[p],rfl⟩,by rw [List.drop_left]; intro q hq; cases List.mem_singleton.mp hq; exact ⟨h1,h2⟩,fun b x e=>⟨x,hk b x e⟩,fun b x e _ _=>hk b x e⟩
  refine ⟨⟨fun b x e=>hk b x (M.keep b x e),by simp [M.len],fun i q x hi hx=>?_,?_,fun q hq=>?_,fun L hL=>?_⟩,st⟩
  · by_cases hl:i < ρ.length
    · rw [List.getElem?_append_left hl] at hi
      rw [List.getElem?_append_left (by rw [← M.len]; exact hl)] at hx
      exact RepO.mono (st.froz (fun _ q=>(nomatch q))) st.ext (fun ob e=>hk _ _ e) (M.rep i q x hi hx)
    · rw [List.getElem?_append_right (Nat.le_of_not_lt hl)] at hi
      rw [List.getElem?_append_right (by rw [← M.len]; exact Nat.le_of_not_lt hl),← M.len] at hx
      cases hq:i - ρ.length with
      | zero=>rw [hq] at hi hx; cases hi; cases hx; exact r
      | succ n=>rw [hq] at hi; simp at hi
  · rw [List.map_append]
    refine List.nodup_append.mpr ⟨M.nd,by simp,fun a ha b hb=>?_⟩
    rw [List.map_singleton] at hb
    cases List.mem_singleton.mp hb
    intro q
    obtain ⟨x,hx⟩:=M.bad_there (List.mem_append_right S ha)
    rw [q,h2] at hx; cases hx
  · rcases List.mem_append.mp hq with hq | hq
    · exact M.fresh q hq
    · cases List.mem_singleton.mp hq
      exact ⟨h3,h4⟩
  · obtain ⟨x,y,o',z⟩:=M.sfresh L hL
    refine ⟨fun q=>?_,y,⟨o',hk _ _ z⟩⟩
    rw [List.map_append] at q
    rcases List.mem_append.mp q with q | q
    · exact x q
    · rw [List.map_singleton] at q
      cases List.mem_singleton.mp q
      rw [h2] at z; cases z
end
inductive BI where
  | len | ord | chr | abs | min | max | str | int | list
  | find
  deriving DecidableEq
inductive PE where
  | cst (v:V)
  | loc (i:Nat)
  | glob (v:V)
  | attr (e:PE) (a:At)
  | item (e i:PE)
  | sliceFT (e lo hi:PE)
  | bin (op:Operator) (a b:PE)
  | neg (i:Int)
  | cmp (op:CmpOp) (a b:PE)
  | andE (a b:PE)
  | orE (a b:PE)
  | notE (a:PE)
  | ite (c a b:PE)
  | tup (es:List PE)
  | lst (es:List PE)
  | bi (f:BI) (es:List PE)
  | dget (es:List (Str × Str)) (k d:PE)
inductive IE where
  | p (e:PE)
  | call (f:PE) (args:List IE)
  | bi (f:BI) (args:List IE)
  | meth (o:IE) (m:At) (args:List IE)
  | attr (e:IE) (a:At)
  | item (e i:IE)
  | bin (op:Operator) (a b:IE)
  | cmp (op:CmpOp) (a b:IE)
  | andE (a b:IE)
  | orE (a b:IE)
  | notE (a:IE)
  | tup (es:List IE)
  | lst (es:List IE)
  | lstM (es:List IE)
  | dictM (es:List (Str × IE))
  | dictS
  | dictI
  | comp (caps is:List Nat) (rg:Bool) (src:List IE) (test:Option PE) (elt:PE)
noncomputable abbrev Locs:=List (Option V)
noncomputable def o2 {α β γ : Type} (a:Option α) (b:Option β) (k:α→β→Option γ):Option γ:=a.bind fun x=>b.bind fun y=>k x y
theorem o2_e {α β γ : Type} {a:Option α} {b:Option β} {k:α→β→Option γ} {z:γ} {P:Prop} (h:o2 a b k = some z) (H:∀ x y,a = some x→b = some y→k x y = some z→P):P:=by
  obtain ⟨x,hx,h⟩:=Option.bind_eq_some_iff.mp h
  obtain ⟨y,hy,h⟩:=Option.bind_eq_some_iff.mp h
  exact H x y hx hy h
theorem aI {α β : Type} {a:Option α} {k:α→Option β} {z:β} {P:Prop} (h:a.bind k = some z) (H:∀ x,a = some x→k x = some z→P):P:=by
  obtain ⟨x,hx,h⟩:=Option.bind_eq_some_iff.mp h
  exact H x hx h
theorem bJ {α β : Type} {a:Option α} {k:α→β} {z:β} {P:Prop} (h:a.map k = some z) (H:∀ x,a = some x→k x = z→P):P:=by
  obtain ⟨x,hx,h⟩:=Option.map_eq_some_iff.mp h
  exact H x hx h
theorem map_s {α β : Type} {a:Option α} {k:α→β} {z:β} {P:β→Prop} (h:a.map k = some z) (H:∀ x,a = some x→P (k x)):P z:=bJ h fun x hx e=>e ▸ H x hx
@[elab_as_elim] theorem bY {α : Type} {x z:α} {P:α→Prop} (h:some x = some z) (H:P x):P z:=Option.some.inj h ▸ H
theorem aEr {α : Type} {c:Prop} [Decidable c] {a b:α} {o:Option α} {P:Prop} (h:(if c then some a else o) = some b) (k:c→a = b→P) (k':¬ c→o = some b→P):P:=by
  by_cases q:c
  · rw [if_pos q] at h; exact k q (Option.some.inj h)
  · rw [if_neg q] at h; exact k' q h
theorem nn {α : Type} {a:α} {P:Prop} (h:none = some a):P:=nomatch h
theorem ff {P:Prop} (h:false = true):P:=nomatch h
theorem if_e {α : Type} {c:Prop} [Decidable c] {o:Option α} {b:α} {P:Prop} (h:(if c then o else none) = some b) (k:c→o = some b→P):P:=by
  by_cases q:c
  · rw [if_pos q] at h; exact k q h
  · rw [if_neg q] at h; cases h
theorem cond_n {α : Type} {c:Prop} [Decidable c] {o:Option α} {b:α} {P:Prop} (h:(if c then none else o) = some b) (k:¬ c→o = some b→P):P:=by
  by_cases q:c
  · rw [if_pos q] at h; cases h
  · rw [if_neg q] at h; exact k q h
noncomputable def refOf (v:V):Option Nat:=match v with
  | .ref i=>some i
  | _=>none
theorem uA {v:V} {i:Nat} (h:refOf v = some i):v = .ref i:=by
  cases v with
  | ref j=>cases h; rfl
  | _=>cases h
noncomputable def strOf (v:V):Option Str:=match v with
  | .str s=>some s
  | _=>none
theorem yM {v:V} {x:Str} (h:strOf v = some x):v = .str x:=by
  cases v with
  | str j=>cases h; rfl
  | _=>cases h
noncomputable def lstO (o:MO):Option (List V):=match o with
  | .lst xs=>some xs
  | _=>none
noncomputable def dT (mem:Mem) (i:Nat):Option (List V):=(mem[i]?).bind lstO
theorem eP {mem:Mem} {i:Nat} {xs:List V} (h:dT mem i = some xs):mem[i]? = some (.lst xs):=by
  refine aI h fun o ho h=>?_
  cases o with
  | lst ys=>cases h; exact ho
  | _=>cases h
noncomputable def oneOf (vs:List V):Option V:=match vs with
  | [x]=>some x
  | _=>none
theorem uB {vs:List V} {x:V} (h:oneOf vs = some x):vs = [x]:=by
  match vs,h with
  | [_],h=>cases h; rfl
noncomputable def cW {α : Type} (f:Int→Option α) (v:V):Option α:=match v with
  | .int i=>f i
  | _=>none
noncomputable def onStr {α : Type} (f:Str→Option α) (v:V):Option α:=match v with
  | .str x=>f x
  | _=>none
noncomputable def aBQ {α : Type} (f:List V→Option α) (v:V):Option α:=match v with
  | .tup xs=>f xs
  | _=>none
theorem nY {α : Type} {f:Int→Option α} {v:V} {x:α} {P:Prop} (h:cW f v = some x) (k:∀ i,v = .int i→f i = some x→P):P:=by
  cases v with
  | int i=>exact k i rfl h
  | _=>cases h
theorem uC {α : Type} {f:Str→Option α} {v:V} {x:α} {P:Prop} (h:onStr f v = some x) (k:∀ i,v = .str i→f i = some x→P):P:=by
  cases v with
  | str i=>exact k i rfl h
  | _=>cases h
theorem nX {α : Type} {f:List V→Option α} {v:V} {x:α} {P:Prop} (h:aBQ f v = some x) (k:∀ i,v = .tup i→f i = some x→P):P:=by
  cases v with
  | tup i=>exact k i rfl h
  | _=>cases h
noncomputable def aEU (o:MO) (a:At):Option V:=match o with
  | .inst c fs=>(fidx c a).bind fun i=>fs[i]?
  | _=>none
noncomputable def getA (mem:Mem) (v:V) (a:At):Option V:=match v with
  | .ref k=>(mem[k]?).bind fun o=>aEU o a
  | .inst c fs=>(fidx c a).bind fun i=>fs[i]?
  | _=>none
noncomputable def truth (v:V):Option Bool:=match v with
  | .bool b=>some b
  | _=>none
noncomputable def strsOf:List V→Option (List Str)
  | []=>some []
  | v :: r=>(strOf v).bind fun s=>(strsOf r).map (s :: ·)
mutual
noncomputable def toD:V→Option PyData
  | .none=>some .none
  | .bool b=>some (.bool b)
  | .int i=>some (.int i)
  | .str s=>some (.str s)
  | .tup xs=>(toDs xs).map .tuple
  | .lst xs=>(toDs xs).map .list
  | .glob _=>none
  | .ref _=>none
  | .inst _ _=>none
noncomputable def toDs:List V→Option (List PyData)
  | []=>some []
  | x :: xs=>(toD x).bind fun d=>(toDs xs).map (d :: ·)
end
noncomputable def elTop (mem:Mem) (f:List V→Option (List PyData)) (v:V):Option PyData:=match v with
  | .ref k=>(dT mem k).bind fun xs=>(f xs).map .list
  | _=>toD v
noncomputable def elD (mem:Mem) (v:V):Option PyData:=elTop mem toDs v
noncomputable def elDs (mem:Mem):List V→Option (List PyData)
  | []=>some []
  | x :: xs=>(elD mem x).bind fun d=>(elDs mem xs).map (d :: ·)
noncomputable def topD (mem:Mem) (v:V):Option PyData:=elTop mem (elDs mem) v
noncomputable def oZ (mem:Mem) (a b:V):Option Bool:=o2 (topD mem a) (topD mem b) fun x y=>if (shaped x && shaped y) = true then some (PyData.eqv x y) else none
noncomputable def eqV (mem:Mem) (a b:V):Option Bool:=match a with
  | .int i=>cW (fun j=>some (i == j)) b
  | .str x=>onStr (fun y=>some (x == y)) b
  | .bool p=>(match b with | .bool q=>some (p == q) | _=>none)
  | _=>oZ mem a b
noncomputable def look {κ : Type} [DecidableEq κ] (x:κ):List (κ × V)→Option V
  | []=>none
  | (y,v) :: r=>if y = x then some v else look x r
noncomputable def inO (o:MO) (a:V):Option Bool:=match o with
  | .sdict es=>onStr (fun x=>some (look x es).isSome) a
  | .idict es=>cW (fun x=>some (look x es).isSome) a
  | _=>none
noncomputable def inV (mem:Mem) (a b:V):Option Bool:=match b with
  | .tup ys=>onStr (fun x=>(strsOf ys).map fun l=>l.any (· == x)) a
  | .str y=>onStr (fun x=>some (!(Builtin.Str.occurrences y x 0 y.length 1).isEmpty)) a
  | .ref k=>(mem[k]?).bind fun o=>inO o a
  | _=>none
noncomputable def intC (f:Int→Int→Bool) (a b:V):Option Bool:=cW (fun x=>cW (fun y=>some (f x y)) b) a
noncomputable def leV (a b:V):Option Bool:=match a with
  | .str x=>onStr (fun y=>some (!decide (y.cps.toList < x.cps.toList))) b
  | _=>intC (fun x y=>decide (x ≤ y)) a b
noncomputable def aEx (a:V):Option Bool:=match a with
  | .none=>some true
  | .glob _=>none
  | .lst _=>none
  | _=>some false
noncomputable def isV (a b:V):Option Bool:=match b with
  | .none=>aEx a
  | _=>none
noncomputable def cmpV (mem:Mem) (op:CmpOp) (a b:V):Option Bool:=match op with
  | .Eq=>eqV mem a b
  | .NotEq=>(eqV mem a b).map (!·)
  | .Lt=>intC (fun x y=>decide (x < y)) a b
  | .LtE=>leV a b
  | .Gt=>intC (fun x y=>decide (y < x)) a b
  | .GtE=>intC (fun x y=>decide (y ≤ x)) a b
  | .In=>inV mem a b
  | .NotIn=>(inV mem a b).map (!·)
  | .Is=>isV a b
  | .IsNot=>(isV a b).map (!·)
noncomputable def small:Int:=2 ^ 64
noncomputable def binV (op:Operator) (a b:V):Option V:=match op with
  | .Add=>(match a with
    | .int i=>cW (fun j=>some (.int (i + j))) b
    | .str x=>onStr (fun y=>if x.length + y.length ≤ 2 ^ 24 then some (.str (x ++ y)) else none) b
    | .tup xs=>aBQ (fun ys=>if xs.length + ys.length ≤ 2 ^ 20∧xs ≠ []∧ys ≠ [] then some (.tup (xs ++ ys)) else none) b
    | _=>none)
  | .Sub=>cW (fun i=>cW (fun j=>some (.int (i - j))) b) a
  | .Mult=>(match a with
    | .int i=>cW (fun j=>if (-2 ^ 63 < j∧j < 2 ^ 63) then some (.int (i * j)) else none) b
    | .str x=>cW (fun n=>if 0 ≤ n∧n ≤ 1000∧x.length ≤ 1000 then some (.str (Txt.mul x n)) else none) b
    | _=>none)
  | .Mod=>cW (fun i=>cW (fun j=>if j = 0 then none else some (.int (i.fmod j))) b) a
  | _=>none
noncomputable def iopV (op:Operator) (a b:V):Option V:=match op with
  | .Add=>(match a with
    | .int i=>cW (fun j=>some (.int (i + j))) b
    | .str x=>onStr (fun y=>if x.length + y.length ≤ 2 ^ 24 then some (.str (x ++ y)) else none) b
    | _=>none)
  | .FloorDiv=>cW (fun i=>cW (fun j=>if 0 < j∧j < 2 ^ 63 then some (.int (i.fdiv j)) else none) b) a
  | _=>none
noncomputable def idxOf (n:Nat) (i:Int):Option Nat:=if 0 ≤ i then some i.toNat else if 0 ≤ i + n then some (i + n).toNat else none
noncomputable def nthV (xs:List V) (i:Int):Option V:=if -2 ^ 63 ≤ i∧i < 2 ^ 63 then (idxOf xs.length i).bind fun j=>xs[j]? else none
noncomputable def itemO (o:MO) (i:V):Option V:=match o with
  | .lst xs=>cW (nthV xs) i
  | .sdict es=>onStr (fun x=>look x es) i
  | _=>none
noncomputable def jA (mem:Mem) (v i:V):Option V:=match v with
  | .tup xs=>cW (nthV xs) i
  | .lst xs=>cW (nthV xs) i
  | .ref k=>(mem[k]?).bind fun o=>itemO o i
  | _=>none
noncomputable def vR (v:V) (lo hi:Int):Option V:=onStr (fun x=>if 0 ≤ lo∧0 ≤ hi∧x.length ≤ 2 ^ 24 then some (.str ⟨x.cps.extract lo.toNat hi.toNat⟩) else none) v
noncomputable def one (f:V→Option V) (vs:List V):Option V:=(oneOf vs).bind f
noncomputable def aBY (n b:Nat):Option V:=if n ≤ b then some (.int n) else none
noncomputable def lenV (mem:Mem) (v:V):Option V:=match v with
  | .str x=>aBY x.length (2 ^ 24)
  | .tup xs=>aBY xs.length (2 ^ 20)
  | .lst xs=>aBY xs.length (2 ^ 20)
  | .ref k=>(dT mem k).bind fun xs=>aBY xs.length (2 ^ 20)
  | _=>none
noncomputable def listV (mem:Mem) (v:V):Option V:=(refOf v).bind fun k=>(dT mem k).bind fun xs=>if xs.length ≤ 1000 then some (.lst xs) else none
noncomputable def two {α : Type} (f:V→V→Option α) (vs:List V):Option α:=match vs with
  | [a,b]=>f a b
  | _=>none
noncomputable def biV (mem:Mem) (f:BI) (vs:List V):Option V:=match f with
  | .len=>one (lenV mem) vs
  | .ord=>one (onStr fun x=>if x.length = 1 then some (.int (x.cps.getD 0 0)) else none) vs
  | .chr=>one (cW fun i=>if 0 ≤ i∧i ≤ 1114111 then some (.str ⟨#[i.toNat]⟩) else none) vs
  | .abs=>one (cW fun a=>some (.int (if a < 0 then -a else a))) vs
  | .min=>two (fun x y=>cW (fun a=>cW (fun b=>some (.int (if b < a then b else a))) y) x) vs
  | .max=>two (fun x y=>cW (fun a=>cW (fun b=>some (.int (if a < b then b else a))) y) x) vs
  | .int=>one (cW fun a=>some (.int a)) vs
  | .str=>one (cW fun a=>if a.natAbs < 2 ^ 62 then some (.str (Str.ofString (toString a))) else none) vs
  | .find=>two (fun x y=>onStr (fun a=>onStr (fun b=>some (.int (Txt.find a b))) y) x) vs
  | .list=>one (listV mem) vs
mutual
noncomputable def evP (mem:Mem) (loc:Locs):PE→Option V
  | .cst v=>some v
  | .loc i=>(loc[i]?).join
  | .glob v=>some v
  | .attr e a=>(evP mem loc e).bind fun v=>getA mem v a
  | .item e i=>o2 (evP mem loc e) (evP mem loc i) (jA mem)
  | .sliceFT e lo hi=>(evP mem loc e).bind fun v=>o2 (evP mem loc lo) (evP mem loc hi) fun a b=>cW (fun i=>cW (fun j=>vR v i j) b) a
  | .bin op a b=>o2 (evP mem loc a) (evP mem loc b) (binV op)
  | .neg i=>some (.int (-i))
  | .cmp op a b=>o2 (evP mem loc a) (evP mem loc b) fun v x=>(cmpV mem op v x).map .bool
  | .andE a b=>(evP mem loc a).bind fun v=>(truth v).bind fun t=>if t = true then evP mem loc b else some v
  | .orE a b=>(evP mem loc a).bind fun v=>(truth v).bind fun t=>if t = true then some v else evP mem loc b
  | .notE a=>(evP mem loc a).bind fun v=>(truth v).map fun b=>.bool !b
  | .ite c a b=>(evP mem loc c).bind fun v=>(truth v).bind fun t=>if t = true then evP mem loc a else evP mem loc b
  | .tup es=>(evPs mem loc es).map .tup
  | .lst es=>(evPs mem loc es).map .lst
  | .bi f es=>(evPs mem loc es).bind (biV mem f)
  | .dget es k d=>o2 (evP mem loc k) (evP mem loc d) fun kv v=>onStr (fun x=>some (((es.lookup x).map .str).getD v)) kv
noncomputable def evPs (mem:Mem) (loc:Locs):List PE→Option (List V)
  | []=>some []
  | e :: es=>(evP mem loc e).bind fun v=>(evPs mem loc es).map (v :: ·)
end
noncomputable def lW (K:Frag) (C:Addr) (ns:List At):Bool :=
  ns.all (fun a=>plainGet K C a.name && (findIn K (.ref C) a.name == some none) && (takerIn K C a.name == some none)) && hasDictIn K C && plainOver K C &&
  (findIn K (.ref C) "__setattr__" == some (some (.builtin "object.__setattr__")))
structure Stat (T:CT) (K:Frag) (hZ:Heap):Prop where
  X:K.In hZ
  lim:hZ.NoLimit
  g:∃ mg,hZ.Ns mainGlobals mg
  b:∃ mb,hZ.Ns builtinsNs mb∧∀ x:Str,x ≠ "__name__"→mb x = bootBuiltins x
  digits:∃ mc,hZ.Ns cStatics mc∧mc "sys.int_max_str_digits" = none
  size:sysModules < hZ.objs.size
  last:∃ o,hZ.get? (hZ.objs.size - 1) = some o
  cls:∀ c,lW K (addrOf c) (lay c) = true
  meth:∀ c m f,bM c m = some f→findIn K (.ref (addrOf c)) m.name = some (some (.ref f))∧isFn K (.ref f) = true∧keepIn K (.ref f) = true∧(lay c).contains m = false
  funs:∀ g,isFun g = true→keepIn K g = true
structure dX (env:Env) (Γ:List Str) (L:Addr):Prop where
  kind:env.scope.kind = .function
  loc:env.locals = L
  glob:env.globals = mainGlobals
  bi:env.builtins = builtinsNs
  nodup:Γ.Nodup
  nodbg:∀ x ∈ Γ,(x == ("__debug__" : Str)) = false
noncomputable def Bound (env:Env) (h:Heap) (S:List Addr) (m:Str→Option Value) (x:Str) (v:Value):Prop :=
  (env.kindOf x = some .local∧m x = some v) ∨ ((env.kindOf x = some .cell ∨ (env.kindOf x = some .free∧(x == ("__classdict__" : Str)) = false))∧∃ c,env.cells.lookup x = some c∧c ∈ S∧h.IsCell c (some v))
structure Frm (T:CT) (env:Env) (Γ:List Str) (L:Addr) (S:List Addr) (ρ:List (Addr × Addr)) (h:Heap) (loc:Locs):Prop where
  ns:∃ m,h.Ns L m∧∀ (i:Nat) (x:Str) (v':V),Γ[i]? = some x→loc[i]? = some (some v')→∃ v,Bound env h S m x v∧RepV T h (aG S ρ) ρ v' v
  inS:L ∈ S
structure Sit (T:CT) (hZ:Heap) (env:Env) (Γ:List Str) (L:Addr) (S:List Addr) (ρ:List (Addr × Addr)) (h:Heap) (loc:Locs) (mem:Mem):Prop where
  M:MemR T hZ S ρ h mem
  F:Frm T env Γ L S ρ h loc
section
variable {T:CT} {K:Frag} {hZ h h':Heap} {env:Env} {Γ:List Str} {L:Addr} {S:List Addr} {ρ ρ':List (Addr × Addr)} {loc:Locs} {mem mem':Mem} {A:Around}
theorem Stat.grown (St:Stat T K hZ) (M:MemR T hZ S ρ h mem):hZ.objs.size ≤ h.objs.size:=by
  obtain ⟨o,e⟩:=St.last
  have:=Heap.lt_size (M.keep _ _ e)
  have:=St.size
  have h1:hZ.objs.size - 1 < h.objs.size:=by assumption
  exact Nat.le_of_pred_lt h1
theorem Frm.step {p:Bool} (F:Frm T env Γ L S ρ h loc) (M:MemR T hZ S ρ h mem) (st:Step p [] ρ h ρ' h'):Frm T env Γ L S ρ' h' loc:=by
  obtain ⟨⟨m,hn,hv⟩,iS⟩:=F
  have keepS:∀ c ∈ S,∀ o,h.get? c = some o→h'.get? c = some o:=fun c hc o e=>st.keep c o e (.inr (M.sfresh c hc).1) (fun q=>nomatch q)
  refine ⟨⟨m,?_,fun i x v' hi hl=>?_⟩,iS⟩
  · refine e3a2 hn fun o es ep ho r=>?_
    exact ⟨o,es,ep,keepS L iS o ho,r⟩
  · refine e1a2 (hv i x v' hi hl) fun v hb hr=>?_
    refine ⟨v,?_,RepV.step st (fun _ q=>nomatch q) hr⟩
    rcases hb with hb | ⟨hk,c,hc,hcS,o,ho,hd⟩
    · exact .inl hb
    · exact .inr ⟨hk,c,hc,hcS,o,keepS c hcS o ho,hd⟩
theorem Sit.step {p:Bool} (Z:Sit T hZ env Γ L S ρ h loc mem) (st:Step p [] ρ h ρ' h') (M':MemR T hZ S ρ' h' mem'):Sit T hZ env Γ L S ρ' h' loc mem':=⟨M',Z.F.step Z.M st⟩
theorem Sit.fr (Z:Sit T hZ env Γ L S ρ h loc mem):∃ m,Fr hZ L h m:=by
  refine e1a2 Z.F.ns fun m hn _=>?_
  exact ⟨m,hn,Z.M.keep,(Z.M.sfresh L Z.F.inS).2.1⟩
structure Rnd (A:Around) (n:Nat):Prop where
  handled:A.handled = none
  depth:A.depth + 2 * n < recursionLimit
  units:A.units + 8 * n + 100 < cLine
noncomputable def HP (T:CT) (hZ:Heap) (env:Env) (Γ:List Str) (L:Addr) (S:List Addr) (A:Around) (t:Sem Value) (pe:PE):Prop :=
  ∀ (ρ:List (Addr × Addr)) (s:Shared) (loc:Locs) (mem:Mem) (v:V),Sit T hZ env Γ L S ρ s.heap loc mem→evP mem loc pe = some v →
    ∀ Q:Value→Shared→Prop,(∀ v' h' tk',RepV T h' (aG S ρ) ρ v v'→Step true [] ρ s.heap ρ h'→MemR T hZ S ρ h' mem→Q v' { s with heap:=h',toks:=tk' }) →
      wpAny (model T.prog T.w) A t Q (fun _ _=>False) s
noncomputable def HT (T:CT) (hZ:Heap) (env:Env) (Γ:List Str) (L:Addr) (S:List Addr) (A:Around) (t:Sem Bool) (pe:PE):Prop :=
  ∀ (ρ:List (Addr × Addr)) (s:Shared) (loc:Locs) (mem:Mem) (v:V) (b:Bool),Sit T hZ env Γ L S ρ s.heap loc mem→evP mem loc pe = some v→truth v = some b →
    ∀ Q:Bool→Shared→Prop,(∀ h' tk',Step true [] ρ s.heap ρ h'→MemR T hZ S ρ h' mem→Q b { s with heap:=h',toks:=tk' }) →
      wpAny (model T.prog T.w) A t Q (fun _ _=>False) s
theorem hp_none {k:Nat} {pos:Pos}:HP T hZ env Γ L S A (eval (.Constant .none k pos) env) (.cst .none):=by
  intro ρ s loc mem v Z hv Q hQ
  cases hv
  exact wpAny_Constant_none (hQ .none s.heap s.toks rfl (Step.refl ..) Z.M)
theorem hp_bool {b:Bool} {k:Nat} {pos:Pos}:HP T hZ env Γ L S A (eval (.Constant (.bool b) k pos) env) (.cst (.bool b)):=by
  intro ρ s loc mem v Z hv Q hQ
  cases hv
  exact wpAny_Constant_bool (hQ (.bool b) s.heap s.toks rfl (Step.refl ..) Z.M)
theorem hp_int {i:Int} {k:Nat} {pos:Pos}:HP T hZ env Γ L S A (eval (.Constant (.int i) k pos) env) (.cst (.int i)):=by
  intro ρ s loc mem v Z hv Q hQ
  cases hv
  exact wpAny_Constant_int (hQ _ s.heap (s.toks + 1) ⟨_,rfl⟩ (Step.refl ..) Z.M)
theorem hp_str {x:Str} {k:Nat} {pos:Pos}:HP T hZ env Γ L S A (eval (.Constant (.str x) k pos) env) (.cst (.str x)):=by
  intro ρ s loc mem v Z hv Q hQ
  cases hv
  exact wpAny_Constant_str (hQ _ s.heap (s.toks + 1) ⟨_,rfl⟩ (Step.refl ..) Z.M)
theorem sT {x:Str} {m:Str→Option Value} {v:Value} {s:Shared} {E:Value→Shared→Prop} {M:Model} (O:dX env Γ L) (hn:s.heap.Ns L m) (hb:Bound env s.heap S m x v) {Q:Value→Shared→Prop} (h:Q v s) :
    wpAny M A (loadName env x) Q E s:=by
  rcases hb with ⟨hk,hm⟩ | ⟨hk,c,hc,_,hv⟩
  · exact wpAny_loadName_local O.kind hk (by rw [O.loc]; exact hn) hm h
  · rcases hk with hk | ⟨hk,hcd⟩
    · exact wpAny_loadName_cell O.kind hk hc hv h
    · exact wpAny_loadName_free O.kind hk hc hv h hcd
theorem hp_loc {x:Str} {pos:Pos} {i:Nat} (O:dX env Γ L) (hx:Γ[i]? = some x):HP T hZ env Γ L S A (eval (.Name x pos) env) (.loc i):=by
  intro ρ s loc mem v Z hv Q hQ
  refine e1a2 Z.F.ns fun m hn hvals=>?_
  refine e1a2 (hvals i x v hx (Option.join_eq_some_iff.mp hv)) fun v' hb hr=>?_
  exact wpAny_Name (sT O hn hb (hQ v' s.heap s.toks hr (Step.refl ..) Z.M)) (O.nodbg x (List.mem_of_getElem? hx))
noncomputable def hH (K:Frag) (x:Str):Option Value:=(nsIn K mainGlobals x).bind fun o=>o.elim (bif x == "__name__" then none else bootBuiltins x) some
theorem cond_e {α : Type} {c:Bool} {o:Option α} {b:α} {P:Prop} (h:(bif c then none else o) = some b) (k:c = false→o = some b→P):P:=by
  cases c with
  | true=>exact nn h
  | false=>exact k rfl h
theorem globIn_e {x:Str} {v:Value} {P:Prop} (h:hH K x = some v) (k1:nsIn K mainGlobals x = some (some v)→P) (k2:nsIn K mainGlobals x = some none→x ≠ "__name__"→bootBuiltins x = some v→P):P :=
  aI h fun o ho h=>by
    cases o with
    | some w=>exact k1 (ho.trans (congrArg some h))
    | none=>exact cond_e h fun c h=>k2 ho (bne_iff_ne.mp (congrArg not c)) h
noncomputable def globV:Value→V
  | .int i _=>.int i
  | .str s _=>.str s
  | v=>.glob v
theorem aDG (v:Value) {bad:List Addr} (hi:handedIn v = true):RepV T h bad ρ (globV v) v:=by
  cases v <;> first | exact ⟨_,rfl⟩ | exact ⟨rfl,hi⟩
theorem RepV.handed {x:V} {v:Value} {bad:List Addr} (r:RepV T h bad ρ x v):handedIn v = true:=by
  cases x with
  | none=>cases r; rfl
  | bool b=>cases r; rfl
  | int i=>obtain ⟨_,rfl⟩:=r; rfl
  | str i=>obtain ⟨_,rfl⟩:=r; rfl
  | glob g=>obtain ⟨rfl,hg⟩:=r; exact hg
  | ref k=>obtain ⟨_,_,rfl⟩:=r; rfl
  | tup xs=>obtain ⟨_,_,rfl,_⟩:=r; rfl
  | lst xs=>obtain ⟨_,_,rfl,_⟩:=r; rfl
  | inst c fs=>obtain ⟨_,_,_,_,rfl,_⟩:=r; rfl
theorem qP {x:Str} {pos:Pos} {v:Value} (St:Stat T K hZ) (O:dX env Γ L) (hk:env.kindOf x = some .globalImplicit) (hd:(x == ("__debug__" : Str)) = false) (hg:hH K x = some v) (hi:handedIn v = true) :
    HP T hZ env Γ L S A (eval (.Name x pos) env) (.glob (globV v)):=by
  intro ρ s loc mem w Z hv Q hQ
  cases hv
  obtain ⟨mg,G⟩:=St.g
  refine e1a2 St.b fun mb B hB=>?_
  have q:Q v s:=hQ v s.heap s.toks (aDG v hi) (Step.refl ..) Z.M
  have Gs:s.heap.Ns env.globals mg:=by rw [O.glob]; exact G.keeps Z.M.keep
  have Bs:s.heap.Ns env.builtins mb:=by rw [O.bi]; exact B.keeps Z.M.keep
  exact globIn_e hg (fun e=>Calls.Name_function_global O.kind hk (Calls.loadGlobal_global (env:=env) Gs (mg_of St.X G e) q) hd)
    fun e hne hg=>Calls.Name_function_global O.kind hk (Calls.loadGlobal_builtin (env:=env) Gs (mg_none_of St.X G e) Bs ((hB x hne).trans hg) q) hd
theorem At.name_inj {a b:At} (e:a.name = b.name):a = b :=
  Option.some.inj ((At.name_of a.n).symm.trans ((congrArg At.of e).trans (At.name_of b.n)))
theorem wW {name:Str} {e:DictEntry} {es:List DictEntry} (hn:e.key.isStr name = false) (hr:e.refKey = false):getL name (e :: es) = getL name es:=by
  unfold getL
  rw [List.find?_cons_of_neg (by rw [hn]; exact Bool.false_ne_true),List.any_cons,hr,Bool.false_or]
theorem key_ne {e:DictEntry} {n a:At} {t:Tok} (hk:e.key = .str n.name t) (hne:n ≠ a):e.key.isStr a.name = false∧e.refKey = false:=by
  refine ⟨?_,?_⟩
  · rw [hk]; exact beq_eq_false_iff_ne.mpr fun q=>hne (At.name_inj q)
  · unfold DictEntry.refKey; rw [hk]
theorem key_is {e:DictEntry} {n:At} {t:Tok} (hk:e.key = .str n.name t):e.key.isStr n.name = true:=by rw [hk]; exact beq_self_eq_true n.name
theorem aEO {e:DictEntry} {es:List DictEntry} {n:At} {t:Tok} (hk:e.key = .str n.name t):getL n.name (e :: es) = some (some e.val):=by
  unfold getL
  rw [List.find?_cons_of_pos (p:=fun x:DictEntry=>x.key.isStr n.name) (key_is hk)]
theorem idx_e {n a:At} {ns:List At} {i:Nat} {P:Prop} (h:(n :: ns).idxOf? a = some i) (k1:n = a→0 = i→P) (k2:n ≠ a→∀ j,ns.idxOf? a = some j→j + 1 = i→P):P:=by
  rw [List.idxOf?_cons] at h
  by_cases q:n = a
  · rw [if_pos (beq_iff_eq.mpr q)] at h; exact k1 q (Option.some.inj h)
  · rw [if_neg (fun z=>q (beq_iff_eq.mp z))] at h; exact bJ h (k2 q)
theorem repF_get {bad:List Addr} (ns:List At) (fs:List V) (es:List DictEntry) (r:RepF T h bad ρ ns fs es):∀ (a:At) (i:Nat) (x:V),ns.idxOf? a = some i→fs[i]? = some x→∃ v,getL a.name es = some (some v)∧RepV T h bad ρ x v :=
  iC (P:=fun ns fs es=>∀ (a:At) (i:Nat) (x:V),ns.idxOf? a = some i→fs[i]? = some x→∃ v,getL a.name es = some (some v)∧RepV T h bad ρ x v) (fun _ _ _ _ _ hx=>nn hx)
    (fun n ns y ys e t hk hv _ ih a i x hi hx=>hk.elim fun tk hkey=>idx_e hi (fun q q0=>⟨e.val,q ▸ aEO hkey,(show ∀ i,0 = i→(y :: ys)[i]? = some x→RepV T h bad ρ x e.val from fun i q hx=>by subst q; exact Option.some.inj hx ▸ hv) i q0 hx⟩)
      fun q j hj qj=>e1a2 (ih a j x hj (by rw [← qj] at hx; exact hx)) fun v h1 h2=>⟨v,(wW (key_ne hkey q).1 (key_ne hkey q).2).trans h1,h2⟩) fs ns es r
theorem jZ {C:Addr} {ns:List At} {a:At} (f:lW K C ns = true) (ha:a ∈ ns):plainGet K C a.name = true∧findIn K (.ref C) a.name = some none∧takerIn K C a.name = some none:=by
  simp only [lW,Bool.and_eq_true,List.all_eq_true,beq_iff_eq] at f
  exact ⟨(f.1.1.1 a ha).1.1,(f.1.1.1 a ha).1.2,(f.1.1.1 a ha).2⟩
theorem pC {C:Addr} {ns:List At} (f:lW K C ns = true):hasDictIn K C = true∧plainOver K C = true∧findIn K (.ref C) "__setattr__" = some (some (.builtin "object.__setattr__")):=by
  simp only [lW,Bool.and_eq_true,beq_iff_eq] at f
  exact ⟨f.1.1.2,f.1.2,f.2⟩
theorem aAY {c:Cls} {a:At} {i:Nat} (h:fidx c a = some i):(lay c).idxOf? a = some i∧a ∈ lay c:=by
  rw [fidx_lay] at h
  refine ⟨h,?_⟩
  by_cases hm:a ∈ lay c
  · exact hm
  · rw [List.idxOf?_eq_none_iff.mpr hm] at h; cases h
theorem wV {A:Around} {a d:Addr} {c:Cls} {fs:List V} {es:List DictEntry} {n:Nat} {bad:List Addr} {at_:At} {i:Nat} {x:V} {s:Shared} {Q:Value→Shared→Prop} {E:Value→Shared→Prop} {expr:Bool} {m:Str→Option Value}
    (St:Stat T K hZ) (F:Fr hZ L s.heap m) (e1:s.heap.get? a = some (instObj (addrOf c) d)) (e2:s.heap.get? d = some (dictOf es n)) (r:RepF T s.heap bad ρ (lay c) fs es)
    (hi:fidx c at_ = some i) (hx:fs[i]? = some x) (hQ:∀ v,RepV T s.heap bad ρ x v→Q v { s with toks:=s.toks + 1 }) :
    wpAny (model T.prog T.w) A (getAttr (.ref a) at_.name expr) Q E s:=by
  obtain ⟨h1,h2⟩:=aAY hi
  refine e1a2 (repF_get (lay c) fs es r at_ i x h1 hx) fun v hg hr=>?_
  refine e0a3 (jZ (St.cls c) h2) fun p1 p2 p3=>?_
  exact get_own F St.X (I:=⟨e1,rfl,rfl,e2⟩) p1 (pC (St.cls c)).1 p2 rfl hg hr.handed (hQ v hr)
theorem getA_e {mem:Mem} {v x:V} {a:At} {P:Prop} (h:getA mem v a = some x) (k1:∀ k c fs i,v = .ref k→mem[k]? = some (.inst c fs)→fidx c a = some i→fs[i]? = some x→P) (k2:∀ c fs i,v = .inst c fs→fidx c a = some i→fs[i]? = some x→P):P:=by
  cases v with
  | ref k =>
    refine aI h fun o ho h=>?_
    cases o with
    | inst c fs=>exact aI h fun i hi h=>k1 k c fs i rfl ho hi h
    | _=>exact nn h
  | inst c fs=>exact aI h fun i hi h=>k2 c fs i rfl hi h
  | _=>exact nn h
theorem get_A {A:Around} {mem:Mem} {v x:V} {v':Value} {at_:At} {s:Shared} {Q:Value→Shared→Prop} {E:Value→Shared→Prop} {expr:Bool}
    (St:Stat T K hZ) (Z:Sit T hZ env Γ L S ρ s.heap loc mem) (r:RepV T s.heap (aG S ρ) ρ v v') (hx:getA mem v at_ = some x) (hQ:∀ w,RepV T s.heap (aG S ρ) ρ x w→Q w { s with toks:=s.toks + 1 }) :
    wpAny (model T.prog T.w) A (getAttr v' at_.name expr) Q E s:=by
  obtain ⟨m,F⟩:=Z.fr
  refine getA_e hx (fun k c fs i e hm hi hj=>?_) fun c fs i e hi hj=>?_
  · subst e
    refine e1a2 r fun p hp e=>?_
    subst e
    exact e2a4 (Z.M.rep k p _ hp hm) fun es n _ e1 e2 rf=>wV St F e1 e2 rf hi hj hQ
  · subst e
    refine e4a6 r fun a d es n e _ _ e1 e2 rf=>?_
    subst e
    exact wV St F e1 e2 rf hi hj hQ
noncomputable def dZ (e:Expr):Bool:=match e with
  | .Call f _ _ _=>f.ctorIdx == 20
  | _=>true
theorem xZ {e:Expr} {a:Str} {env:Env} {t:Sem Value} (h:dZ e = true):attributeBase e a env t = t:=by
  cases e with
  | Call f _ _ _=>cases f <;> first | rfl | exact ff h
  | _=>rfl
theorem rZ {A:Around} {prog:Program} {w:World} {E:Value→Shared→Prop} {s:Shared} {env:Env} {e:Expr} {a:Str} {pos:Pos} {Q:Value→Shared→Prop} (hs:dZ e = true)
    (h:wpAny (model prog w) A (eval e env) (fun o s₁=>wpAny (model prog w) A (getAttr o a true) Q E s₁) E s):wpAny (model prog w) A (eval (.Attribute e a pos) env) Q E s:=by
  have he:eval (.Attribute e a pos) env = (do
    let o ← attributeBase e a env (eval e env)
    standAt pos.atName
    let r ← holding [o] (getAttr o a true)
    letTemporaryGo e o r
    pure r):=by
    first | rfl | (unfold eval; rfl)
  rw [he,xZ hs]
  exact wpAny_bind (wpAny_mono h (fun o s₁ h₁=>wpAny_bind (wpAny_standAt (wpAny_bind (wpAny_holding (wpAny_mono h₁ (fun r s₂ h₂=>wpAny_bind (wpAny_letTemporaryGo (wpAny_pure h₂))) fun _ _ q=>q))))) fun _ _ q=>q)
theorem hp_attr {e:Expr} {pe:PE} {a:At} {pos:Pos} (St:Stat T K hZ) (hs:dZ e = true) (he:HP T hZ env Γ L S A (eval e env) pe):HP T hZ env Γ L S A (eval (.Attribute e a.name pos) env) (.attr pe a):=by
  intro ρ s loc mem v Z hv Q hQ
  exact aI hv fun w hw hv=>rZ hs (he ρ s loc mem w Z hw _ fun v' h' tk' hr st M' =>
    get_A (s:={ s with heap:=h',toks:=tk' }) St (Z.step st M') hr hv fun x hx=>hQ x h' (tk' + 1) hx st M')
end
section
variable {T:CT} {K:Frag} {hZ h h':Heap} {env:Env} {Γ:List Str} {L:Addr} {S:List Addr} {ρ ρ':List (Addr × Addr)} {loc:Locs} {mem mem':Mem} {A:Around}
theorem jG {bad:List Addr} {x:V} {xs:List V} {l:List Value} {P:List Value→Prop} (r:RepL T h bad ρ (x :: xs) l) (k:∀ v t,RepV T h bad ρ x v→RepL T h bad ρ xs t→P (v :: t)):P l :=
  e2a3 (show ∃ v t,l = v :: t∧RepV T h bad ρ x v∧RepL T h bad ρ xs t from r) fun v t e hv hr=>e ▸ k v t hv hr
theorem aDL {bad:List Addr} {x:V} {xs:List V} {v:Value} {l:List Value} (r:RepL T h bad ρ (x :: xs) (v :: l)):RepV T h bad ρ x v :=
  e2a3 (show ∃ v' t,v :: l = v' :: t∧RepV T h bad ρ x v'∧RepL T h bad ρ xs t from r) fun v t e hv hr=>(List.cons.inj e).1 ▸ hv
theorem aDI {bad:List Addr} {x:V} {xs:List V} {v:Value} {l:List Value} (r:RepL T h bad ρ (x :: xs) (v :: l)):RepL T h bad ρ xs l :=
  e2a3 (show ∃ v' t,v :: l = v' :: t∧RepV T h bad ρ x v'∧RepL T h bad ρ xs t from r) fun v t e hv hr=>(List.cons.inj e).2 ▸ hr
theorem aK {bad:List Addr} (xs:List V):∀ (l:List Value),RepL T h bad ρ xs l→l.length = xs.length:=by
  induction xs with
  | nil=>exact fun l r=>congrArg List.length (show l = [] from r)
  | cons x xs ih=>exact fun l r=>jG (P:=fun l=>l.length = xs.length + 1) r fun v t _ hr=>congrArg (· + 1) (ih t hr)
theorem eZ {bad:List Addr} (xs:List V):∀ (l:List Value),RepL T h bad ρ xs l→∀ (j:Nat) (x:V),xs[j]? = some x→∃ v,l[j]? = some v∧RepV T h bad ρ x v:=by
  induction xs with
  | nil=>exact fun _ _ _ _ hx=>nn hx
  | cons y ys ih =>
    refine fun l r j x hx=>jG (P:=fun l=>∃ v,l[j]? = some v∧RepV T h bad ρ x v) r fun v t hv hr=>?_
    cases j with
    | zero=>exact ⟨v,rfl,Option.some.inj hx ▸ hv⟩
    | succ j=>exact ih t hr j x hx
theorem bE {bad:List Addr}:RepL T h bad ρ [] []:=rfl
theorem bB {bad:List Addr} {x:V} {xs:List V} {v:Value} {l:List Value} (a:RepV T h bad ρ x v) (b:RepL T h bad ρ xs l):RepL T h bad ρ (x :: xs) (v :: l):=⟨v,l,rfl,a,b⟩
theorem dB {bad:List Addr} {xs ys:List V} {l k:List Value} (a:RepL T h bad ρ xs l) (b:RepL T h bad ρ ys k):RepL T h bad ρ (xs ++ ys) (l ++ k):=by
  revert l a
  induction xs with
  | nil=>exact fun a=>(show _ = [] from a) ▸ b
  | cons x xs ih=>exact fun a=>jG (P:=fun l=>RepL T h bad ρ (x :: xs ++ ys) (l ++ k)) a fun v t hv hr=>bB hv (ih hr)
noncomputable def HPs (T:CT) (hZ:Heap) (env:Env) (Γ:List Str) (L:Addr) (S:List Addr) (A:Around) (t:Sem (List Value)) (pes:List PE):Prop :=
  ∀ (ρ:List (Addr × Addr)) (s:Shared) (loc:Locs) (mem:Mem) (vs:List V),Sit T hZ env Γ L S ρ s.heap loc mem→evPs mem loc pes = some vs →
    ∀ Q:List Value→Shared→Prop,(∀ vs' h' tk',RepL T h' (aG S ρ) ρ vs vs'→Step true [] ρ s.heap ρ h'→MemR T hZ S ρ h' mem→Q vs' { s with heap:=h',toks:=tk' }) →
      wpAny (model T.prog T.w) A t Q (fun _ _=>False) s
noncomputable def notStar (e:Expr):Bool:=e.ctorIdx != 22
theorem gR {e:Expr} {r:List Expr} (h:notStar e = true):starEach (e :: r) env = (false,eval e env) :: starEach r env:=by
  cases e <;> first | rfl | exact ff h
theorem aEI {pos:Pos}:HPs T hZ env Γ L S A (spliced (backTo pos (starEach [] env))) []:=by
  intro ρ s loc mem vs Z hv Q hQ
  cases hv
  exact spliced_none (hQ [] s.heap s.toks bE (Step.refl ..) Z.M)
theorem uJ {e:Expr} {es:List Expr} {pe:PE} {pes:List PE} {pos:Pos} (hn:notStar e = true) (he:HP T hZ env Γ L S A (eval e env) pe) (hr:HPs T hZ env Γ L S A (spliced (backTo pos (starEach es env))) pes) :
    HPs T hZ env Γ L S A (spliced (backTo pos (starEach (e :: es) env))) (pe :: pes):=by
  intro ρ s loc mem vs Z hv Q hQ
  exact aI hv fun v hw hv=>map_s (P:=fun vs=>(∀ vs' h' tk',RepL T h' (aG S ρ) ρ vs vs'→Step true [] ρ s.heap ρ h'→MemR T hZ S ρ h' mem→Q vs' { s with heap:=h',toks:=tk' })→_) hv (fun us hus hQ =>
    spliced_more (he ρ s loc mem v Z hw _ fun v' h1 t1 r1 st1 M1=>hr ρ { s with heap:=h1,toks:=t1 } loc mem us (Z.step st1 M1) hus _ fun vs' h2 t2 r2 st2 M2 =>
      hQ _ h2 t2 (bB (RepV.step st2 (fun _ q=>nomatch q) r1) r2) (st1.trans st2) M2) (gR hn)) hQ
theorem qS (pes:List PE):∀ (vs:List V),evPs mem loc pes = some vs→vs.length = pes.length:=by
  induction pes with
  | nil=>exact fun vs h=>bY (P:=fun vs=>vs.length = 0) h rfl
  | cons e es ih=>exact fun vs h=>aI h fun v _ h=>map_s (P:=fun vs=>vs.length = es.length + 1) h fun us hus=>congrArg (· + 1) (ih us hus)
theorem tT {n:Nat} (h:n ≤ 1000):n ≤ sizeLine:=Nat.le_trans h (by decide)
theorem aAJ (Z:Sit T hZ env Γ L S ρ h loc mem) {vs:List V} {vs':List Value} (r:RepL T h (aG S ρ) ρ vs vs') :
    RepV T (h.push { cls:=.type "tuple",data:=.seq vs'.toArray }) (aG S ρ) ρ (.tup vs) (.ref h.objs.size):=by
  refine ⟨_,vs'.toArray,rfl,Z.M.froz_new (Heap.get?_push_size _ rfl) (aR _),⟨_,Heap.get?_push_size _ rfl,rfl,0,rfl⟩,?_⟩
  exact RepL.step (Step.push (p:=true) ρ h _) (fun _ q=>nomatch q) r
theorem aAK (Z:Sit T hZ env Γ L S ρ h loc mem) {vs:List V} {vs':List Value} (r:RepL T h (aG S ρ) ρ vs vs') :
    RepV T (h.push { cls:=.type "list",data:=.seq vs'.toArray }) (aG S ρ) ρ (.lst vs) (.ref h.objs.size):=by
  refine ⟨_,vs'.toArray,rfl,Z.M.froz_new (Heap.get?_push_size _ rfl) (aR _),⟨_,Heap.get?_push_size _ rfl,rfl,0,rfl⟩,?_⟩
  exact RepL.step (Step.push (p:=true) ρ h _) (fun _ q=>nomatch q) r
theorem hp_tup {es:List Expr} {pes:List PE} {k:Nat} {pos:Pos} (hl:pes.length ≤ 1000) (hr:HPs T hZ env Γ L S A (spliced (backTo pos (starEach es env))) pes):HP T hZ env Γ L S A (eval (.Tuple es k pos) env) (.tup pes):=by
  intro ρ s loc mem v Z hv Q hQ
  refine bJ hv fun us hus e=>?_
  subst e
  refine wpAny_Tuple (hr ρ s loc mem us Z hus _ fun vs' h1 t1 r1 st1 M1=>⟨?_,?_⟩)
  · rw [aK _ _ r1,qS _ _ hus]; exact tT hl
  · exact hQ _ _ t1 (aAJ (Z.step st1 M1) r1) (st1.trans (Step.push ..)) (M1.push _)
theorem hp_lst {es:List Expr} {pes:List PE} {pos:Pos} (hl:pes.length ≤ 1000) (hr:HPs T hZ env Γ L S A (spliced (backTo pos (starEach es env))) pes):HP T hZ env Γ L S A (eval (.List es pos) env) (.lst pes):=by
  intro ρ s loc mem v Z hv Q hQ
  refine bJ hv fun us hus e=>?_
  subst e
  refine wpAny_List (hr ρ s loc mem us Z hus _ fun vs' h1 t1 r1 st1 M1=>⟨?_,?_⟩)
  · rw [aK _ _ r1,qS _ _ hus]; exact tT hl
  · exact hQ _ _ t1 (aAK (Z.step st1 M1) r1) (st1.trans (Step.push ..)) (M1.push _)
noncomputable def dJ (e:Expr):Bool:=e.ctorIdx != 26
theorem nN {slice:Expr} {o i:Value} (h:dJ slice = true):subscripted slice false o i = operate [o,i] (getItem o i):=by
  cases slice <;> first | rfl | exact ff h
theorem zL {n:Nat} {i:Int} {j:Nat} {P:Prop} (h:idxOf n i = some j) (k1:0 ≤ i→i.toNat = j→P) (k2:i < 0→0 ≤ i + n→(i + n).toNat = j→P):P :=
  aEr h k1 fun c h=>if_e h fun d h=>k2 (Int.not_le.mp c) d (Option.some.inj h)
theorem seq_of {n j:Nat} {i k:Int} (e:(if i < 0 then i + n else i) = k) (hk:0 ≤ k) (ej:k.toNat = j) (hj:j < n):seqIndex? i n = some j:=by
  unfold seqIndex?
  dsimp only
  rw [e,if_pos (by rw [Bool.and_eq_true,decide_eq_true_eq,decide_eq_true_eq]; lia),ej]
theorem wS {n:Nat} {i:Int} {j:Nat} (h:idxOf n i = some j) (hj:j < n):seqIndex? i n = some j :=
  zL h (fun c e=>seq_of (if_neg (Int.not_lt.mpr c)) c e hj) fun c d e=>seq_of (if_pos c) d e hj
theorem list_at {M:Model} {E:Value→Shared→Prop} {s:Shared} {value slice:Expr} {l:Addr} {items:Array Value} {i:Int} {u:Tok} {j:Nat} {x:Value} {Q:Value→Shared→Prop} {prog:Program} {w:World}
    (hn:dJ slice = true) (H:s.heap.IsList l items) (h1:-2 ^ 63 ≤ i) (h2:i < 2 ^ 63) (hj:idxOf items.size i = some j) (hx:items[j]? = some x) (q:Q x s) :
    wpAny (model prog w) A (subscriptTail value slice (.ref l) (.int i u)) Q E s:=by
  refine tail_any H.typeIs slot_list_getitem.lookup ?_ (nN hn)
  exact zL hj (fun c e=>wpAny_getItem_list H c h2 (e ▸ hx) q) fun c d e=>wpAny_getItem_list_neg H c (by lia) h1 (e ▸ hx) q
theorem dQ {α : Type} {a:Array α} {j:Nat} {x:α} (h:a.toList[j]? = some x):a[j]? = some x:=by simpa using h
theorem tup_at {E:Value→Shared→Prop} {s:Shared} {value slice:Expr} {l:Addr} {items:Array Value} {i:Int} {u:Tok} {j:Nat} {x:Value} {Q:Value→Shared→Prop} {prog:Program} {w:World}
    (hn:dJ slice = true) (H:s.heap.IsTuple l items) (h1:-2 ^ 63 ≤ i) (h2:i < 2 ^ 63) (hj:idxOf items.toList.length i = some j) (hx:items.toList[j]? = some x) (q:Q x s) :
    wpAny (model prog w) A (subscriptTail value slice (.ref l) (.int i u)) Q E s :=
  item_tupleT (l:=items.toList) (by obtain ⟨o,a,b,n,c⟩:=H; exact ⟨o,a,b,n,by rw [c]⟩) h1 h2 (wS hj (List.getElem?_eq_some_iff.mp hx).1) hx q (nN hn)
theorem look_e {κ : Type} [DecidableEq κ] {x y:κ} {v:V} {r:List (κ × V)} {P:Prop} (k:y = x→look x ((y,v) :: r) = some v→P) (k':y ≠ x→look x ((y,v) :: r) = look x r→P):P:=by
  by_cases q:y = x
  · exact k q (if_pos q)
  · exact k' q (if_neg q)
theorem sR {bad:List Addr} {κ : Type} [DecidableEq κ] (x:κ) (es:List (κ × V)):∀ (kvs:List (κ × Value)),kvs.map (·.1) = es.map (·.1)→RepL T h bad ρ (es.map (·.2)) (kvs.map (·.2)) →
    (look x es = none→valueAt kvs x = none)∧∀ y,look x es = some y→∃ v,valueAt kvs x = some v∧RepV T h bad ρ y v:=by
  induction es with
  | nil =>
    intro kvs e _
    cases kvs with
    | nil=>exact ⟨fun _=>rfl,fun _ h=>nn h⟩
    | cons=>exact nomatch e
  | cons p es ih =>
    intro kvs e r
    cases kvs with
    | nil=>exact nomatch e
    | cons q kvs =>
      obtain ⟨e1,e2⟩:=List.cons.inj e
      have z:=ih kvs e2 (aDI r)
      refine look_e (x:=x) (y:=p.1) (v:=p.2) (r:=es) (fun c hl=>?_) fun c hl=>?_
      · have hv:valueAt (q :: kvs) x = some q.2:=congrArg (Option.map Prod.snd) (List.find?_cons_of_pos (p:=fun kv:κ × Value=>decide (kv.1 = x)) (decide_eq_true (e1.trans c)))
        exact ⟨fun h=>nn (h.symm.trans hl),fun y h=>⟨q.2,hv,Option.some.inj (hl.symm.trans h) ▸ aDL r⟩⟩
      · have hv:valueAt (q :: kvs) x = valueAt kvs x:=congrArg (Option.map Prod.snd) (List.find?_cons_of_neg (p:=fun kv:κ × Value=>decide (kv.1 = x)) (fun z=>c (e1.symm.trans (of_decide_eq_true z))))
        exact ⟨fun h=>hv.trans (z.1 (hl.symm.trans h)),fun y h=>hv.symm ▸ z.2 y (hl.symm.trans h)⟩
theorem wH {bad:List Addr} {κ : Type} [DecidableEq κ] {x:κ} {y:V} {es:List (κ × V)} {kvs:List (κ × Value)} (e:kvs.map (·.1) = es.map (·.1)) (r:RepL T h bad ρ (es.map (·.2)) (kvs.map (·.2))) (hx:look x es = some y):∃ v,valueAt kvs x = some v∧RepV T h bad ρ y v :=
  (sR x es kvs e r).2 y hx
theorem aAC {xs:List V} {i:Int} {x:V} {P:Prop} (h:nthV xs i = some x) (k:∀ j,-2 ^ 63 ≤ i→i < 2 ^ 63→idxOf xs.length i = some j→xs[j]? = some x→P):P :=
  if_e h fun c h=>aI h fun j hj h=>k j c.1 c.2 hj h
theorem aEq {v i x:V} {P:Prop} (h:jA mem v i = some x) (k1:∀ xs j,v = .tup xs→i = .int j→nthV xs j = some x→P) (k2:∀ xs j,v = .lst xs→i = .int j→nthV xs j = some x→P)
    (k3:∀ r xs j,v = .ref r→mem[r]? = some (.lst xs)→i = .int j→nthV xs j = some x→P) (k4:∀ r es y,v = .ref r→mem[r]? = some (.sdict es)→i = .str y→look y es = some x→P):P:=by
  cases v with
  | tup xs=>exact nY h fun j e h=>k1 xs j rfl e h
  | lst xs=>exact nY h fun j e h=>k2 xs j rfl e h
  | ref r =>
    refine aI h fun o ho h=>?_
    cases o with
    | lst xs=>exact nY h fun j e h=>k3 r xs j rfl ho e h
    | sdict es=>exact uC h fun y e h=>k4 r es y rfl ho e h
    | _=>exact nn h
  | _=>exact nn h
theorem item_list {s:Shared} {xs:List V} {x:V} {a:Addr} {items:Array Value} {j:Int} {i':Value} {value slice:Expr} {Q:Value→Shared→Prop} {E:Value→Shared→Prop} (hn:dJ slice = true) (ht:s.heap.IsList a items)
    (rl:RepL T s.heap (aG S ρ) ρ xs items.toList) (ri:RepV T s.heap (aG S ρ) ρ (.int j) i') (hx:nthV xs j = some x) (hQ:∀ w tk',RepV T s.heap (aG S ρ) ρ x w→Q w { s with toks:=tk' }) :
    wpAny (model T.prog T.w) A (subscriptTail value slice (.ref a) i') Q E s:=by
  obtain ⟨t,rfl⟩:=ri
  refine aAC hx fun i h1 h2 hi hx=>e1a2 (eZ _ _ rl i x hx) fun w hw rw_=>?_
  exact list_at (M:=model T.prog T.w) hn ht h1 h2 (by rw [← Array.length_toList,aK _ _ rl]; exact hi) (dQ hw) (hQ w s.toks rw_)
theorem item_V {s:Shared} {v i x:V} {v' i':Value} {value slice:Expr} {Q:Value→Shared→Prop} {E:Value→Shared→Prop} (Z:Sit T hZ env Γ L S ρ s.heap loc mem) (hn:dJ slice = true)
    (rv:RepV T s.heap (aG S ρ) ρ v v') (ri:RepV T s.heap (aG S ρ) ρ i i') (hx:jA mem v i = some x) (hQ:∀ w tk',RepV T s.heap (aG S ρ) ρ x w→Q w { s with toks:=tk' }) :
    wpAny (model T.prog T.w) A (subscriptTail value slice v' i') Q E s:=by
  refine aEq hx (fun xs j e1 e2 hj=>?_) (fun xs j e1 e2 hj=>?_) (fun r xs j e1 hm e2 hj=>?_) fun r es y e1 hm e2 hj=>?_ <;> subst e1 <;> subst e2
  · refine e2a4 rv fun a items e _ ht rl=>?_
    subst e
    obtain ⟨t,rfl⟩:=ri
    exact aAC hj fun i h1 h2 hi hx=>e1a2 (eZ _ _ rl i x hx) fun w hw rw_=>tup_at hn ht h1 h2 (by rw [aK _ _ rl]; exact hi) hw (hQ w s.toks rw_)
  · refine e2a4 rv fun a items e _ ht rl=>?_
    subst e
    exact item_list hn ht rl ri hj hQ
  · refine e1a2 rv fun p hp e=>?_
    subst e
    refine e0a2 (Z.M.rep _ p _ hp hm) fun e ht=>e2a2 ht fun items nn ht rl=>?_
    exact item_list hn (cJ ht) rl ri hj hQ
  · refine e1a2 rv fun p hp e=>?_
    subst e
    obtain ⟨t,rfl⟩:=ri
    refine e0a2 (Z.M.rep _ p _ hp hm) fun e ht=>e1a3 ht fun kvs ht ek rl=>?_
    exact e1a2 (wH ek rl hj) fun w hw rw_=>tail_any ht.typeIs slot_dict_getitem.lookup (wpAny_getItem_of (strKind_is ..) ht.mapOf hw (hQ w _ rw_)) (nN hn)
theorem hp_item {e i:Expr} {pe pi:PE} {pos:Pos} (hn:dJ i = true) (he:HP T hZ env Γ L S A (eval e env) pe) (hi:HP T hZ env Γ L S A (eval i env) pi):HP T hZ env Γ L S A (eval (.Subscript e i pos) env) (.item pe pi):=by
  intro ρ s loc mem v Z hv Q hQ
  exact o2_e hv fun a b ha hb hv=>Subscript_ (he ρ s loc mem a Z ha _ fun v' h1 t1 r1 st1 M1=>hi ρ { s with heap:=h1,toks:=t1 } loc mem b (Z.step st1 M1) hb _ fun i' h2 t2 r2 st2 M2 =>
    item_V (s:={ s with heap:=h2,toks:=t2 }) ((Z.step st1 M1).step st2 M2) hn (RepV.step st2 (fun _ q=>nomatch q) r1) r2 hv fun w tk' rw_=>hQ w h2 tk' rw_ (st1.trans st2) M2)
end
section
variable {T:CT} {K:Frag} {hZ h h':Heap} {env:Env} {Γ:List Str} {L:Addr} {S:List Addr} {ρ ρ':List (Addr × Addr)} {loc:Locs} {mem mem':Mem} {A:Around}
theorem aEb {a b:Int} (h1:-2 ^ 63 < b) (h2:b < 2 ^ 63):IntMulOk a b:=by
  have:Builtin.Int.intBits b ≤ 64:=intBits_le_64 (by lia) (by lia)
  unfold IntMulOk shortFactorBits
  simp only [Bool.and_eq_true,decide_eq_true_eq,not_and]
  lia
theorem aCp {a b:Int} (h1:0 < b) (h2:b < 2 ^ 63):Builtin.divisionGoesByPylong a b = false:=by
  unfold Builtin.divisionGoesByPylong
  simp only
  have:b.natAbs.log2 < 64:=(Nat.log2_lt (by lia)).mpr (by lia)
  rw [Bool.and_eq_false_iff]
  left
  apply decide_eq_false
  split <;> lia
theorem aEa {x:Str} {n:Int} (h0:0 ≤ n) (h1:n ≤ 1000) (h2:x.length ≤ 1000):MulOk x n:=by
  have hz:x.length * n.toNat ≤ 1000 * 1000:=Nat.mul_le_mul h2 (by lia)
  refine ⟨?_,fun hn _=>?_,fun hn _=>?_⟩
  · rw [Bool.or_eq_false_iff]; exact ⟨decide_eq_false (by lia),decide_eq_false (by lia)⟩
  · have hp:0 < n:=by lia
    have:(1000:Int) ≤ (2 ^ 63 - 1) / n:=by
      apply Int.le_ediv_of_mul_le hp
      have:(1000:Int) * n ≤ 1000 * 1000:=Int.mul_le_mul_of_nonneg_left h1 (by lia)
      lia
    lia
  · unfold Builtin.Str.tooLong
    first | (apply decide_eq_false; have:=sizeLine_eq; lia) | (simp only [decide_eq_false_iff_not]; have:=sizeLine_eq; lia)
theorem yB {E Q:Value→Shared→Prop} {s:Shared} {prog:Program} {w:World} {t b:Addr} {vs ws:Array Value} (ht:s.heap.IsTuple t vs) (hb:s.heap.IsTuple b ws) (hv:vs.toList ≠ []) (hw:ws.toList ≠ [])
    (hsz:vs.size + ws.size ≤ sizeLine) (h:Q (.ref s.heap.objs.size) { s with heap:=s.heap.push { cls:=.type "tuple",data:=.seq (vs ++ ws) } }):wpAny (model prog w) A (binaryOp .Add (.ref t) (.ref b)) Q E s:=by
  obtain ⟨⟨cls,dd,data,sl⟩,ho,hc,n,hd⟩:=id ht
  obtain ⟨⟨cls2,dd2,data2,sl2⟩,ho2,hc2,n2,hd2⟩:=id hb
  simp only at hc hd hc2 hd2
  subst hc hd hc2 hd2
  have e1:¬ vs.isEmpty = true:=by intro q; apply hv; simpa [Array.isEmpty] using q
  have e2:¬ ws.isEmpty = true:=by intro q; apply hw; simpa [Array.isEmpty] using q
  exact concat_meets ⟨_,ho,rfl⟩ ⟨_,ho2,rfl⟩ noFill_tuple_add seq_tuple_add PySem.F.slot_tuple_add PySem.F.entry_tuple_add (PySem.F.args_tuple_add_2 _ _)
        (tuple_addW2 t b vs ws n n2 dd dd2 sl sl2 e1 e2 hsz) ⟨ho,ho2,h⟩
theorem aDK {bad:List Addr} {xs:List V} {l:List Value} (r:RepL T h bad ρ xs l) (hn:xs ≠ []):l ≠ []:=fun q=>hn (List.length_eq_zero_iff.mp ((aK _ _ r).symm.trans (congrArg List.length q)))
@[elab_as_elim] theorem jF {bad:List Addr} {i:Int} {v:Value} {P:Value→Prop} (r:RepV T h bad ρ (.int i) v) (k:∀ t,P (.int i t)):P v:=Exists.elim r fun t e=>e ▸ k t
@[elab_as_elim] theorem fL {bad:List Addr} {i:Str} {v:Value} {P:Value→Prop} (r:RepV T h bad ρ (.str i) v) (k:∀ t,P (.str i t)):P v:=Exists.elim r fun t e=>e ▸ k t
@[elab_as_elim] theorem aAs {bad:List Addr} {i:Nat} {v:Value} {P:Value→Prop} (r:RepV T h bad ρ (.ref i) v) (k:∀ p,ρ[i]? = some p→P (.ref p.1)):P v:=e1a2 r fun p hp e=>e ▸ k p hp
@[elab_as_elim] theorem gS {bad:List Addr} {xs:List V} {v:Value} {P:Value→Prop} (r:RepV T h bad ρ (.tup xs) v) (k:∀ a items,Froz h bad a→h.IsTuple a items→RepL T h bad ρ xs items.toList→P (.ref a)):P v:=e2a4 r fun a items e f t r=>e ▸ k a items f t r
@[elab_as_elim] theorem vV {bad:List Addr} {xs:List V} {v:Value} {P:Value→Prop} (r:RepV T h bad ρ (.lst xs) v) (k:∀ a items,Froz h bad a→h.IsList a items→RepL T h bad ρ xs items.toList→P (.ref a)):P v:=e2a4 r fun a items e f t r=>e ▸ k a items f t r
@[elab_as_elim] theorem bG {α : Type} {bad:List Addr} {f:Int→Option α} {v:V} {x:α} {v':Value} {P:Value→Prop} (h':cW f v = some x) (r:RepV T h bad ρ v v') (k:∀ i t,f i = some x→P (.int i t)):P v' :=
  nY h' fun i e hx=>jF (show RepV T h bad ρ (.int i) v' from e ▸ r) fun t=>k i t hx
@[elab_as_elim] theorem gN {α : Type} {bad:List Addr} {f:Str→Option α} {v:V} {x:α} {v':Value} {P:Value→Prop} (h':onStr f v = some x) (r:RepV T h bad ρ v v') (k:∀ i t,f i = some x→P (.str i t)):P v' :=
  uC h' fun i e hx=>fL (show RepV T h bad ρ (.str i) v' from e ▸ r) fun t=>k i t hx
theorem rint {bad:List Addr} {i:Int} {x:V} {t:Tok} (e:some (V.int i) = some x):RepV T h bad ρ x (.int i t):=bY (P:=(RepV T h bad ρ · _)) e ⟨t,rfl⟩
theorem rstr {bad:List Addr} {i:Str} {x:V} {t:Tok} (e:some (V.str i) = some x):RepV T h bad ρ x (.str i t):=bY (P:=(RepV T h bad ρ · _)) e ⟨t,rfl⟩
theorem add_tup {s:Shared} {xs:List V} {i x:V} {v' i':Value} {Q:Value→Shared→Prop} {E:Value→Shared→Prop} (M:MemR T hZ S ρ s.heap mem) (rv:RepV T s.heap (aG S ρ) ρ (.tup xs) v') (ri:RepV T s.heap (aG S ρ) ρ i i')
    (hx:aBQ (fun ys=>if xs.length + ys.length ≤ 2 ^ 20∧xs ≠ []∧ys ≠ [] then some (.tup (xs ++ ys)) else none) i = some x)
    (hQ:∀ w h' tk',RepV T h' (aG S ρ) ρ x w→Step true [] ρ s.heap ρ h'→MemR T hZ S ρ h' mem→Q w { s with heap:=h',toks:=tk' }):wpAny (model T.prog T.w) A (binaryOp .Add v' i') Q E s:=by
  refine nX hx fun ys e hx=>if_e hx fun hb hx=>gS rv fun a items f1 h1 r1=>gS (show RepV T s.heap (aG S ρ) ρ (.tup ys) i' from e ▸ ri) fun b items2 f2 h2 r2=>?_
  refine yB h1 h2 (aDK r1 hb.2.1) (aDK r2 hb.2.2) ?_ (hQ _ _ s.toks (bY (P:=fun x=>RepV T _ _ _ x _) hx ?_) (Step.push ..) (M.push _))
  · rw [← Array.length_toList,← Array.length_toList,aK _ _ r1,aK _ _ r2]
    exact Nat.le_trans hb.1 (by decide)
  · refine ⟨_,items ++ items2,rfl,M.froz_new (Heap.get?_push_size _ rfl) (aR _),⟨_,Heap.get?_push_size _ rfl,rfl,0,rfl⟩,?_⟩
    rw [Array.toList_append]
    exact RepL.step (Step.push (p:=true) ρ s.heap _) (fun _ q=>nomatch q) (dB r1 r2)
theorem bin_V {s:Shared} {op:Operator} {v i x:V} {v' i':Value} {Q:Value→Shared→Prop} {E:Value→Shared→Prop} (M:MemR T hZ S ρ s.heap mem)
    (rv:RepV T s.heap (aG S ρ) ρ v v') (ri:RepV T s.heap (aG S ρ) ρ i i') (hx:binV op v i = some x)
    (hQ:∀ w h' tk',RepV T h' (aG S ρ) ρ x w→Step true [] ρ s.heap ρ h'→MemR T hZ S ρ h' mem→Q w { s with heap:=h',toks:=tk' }) :
    wpAny (model T.prog T.w) A (binaryOp op v' i') Q E s:=by
  have one:∀ w tk',RepV T s.heap (aG S ρ) ρ x w→Q w { s with toks:=tk' }:=fun w tk' r=>hQ w s.heap tk' r (Step.refl ..) M
  cases op with
  | Add =>
    cases v with
    | int a=>exact jF rv fun t=>bG hx ri fun b u hx=>add_int (one _ _ (rint hx))
    | str a=>exact fL rv fun t=>gN hx ri fun b u hx=>if_e hx fun hb hx=>add_str (fun t' tk=>one _ _ (rstr hx)) hb
    | tup a=>exact add_tup M rv ri hx hQ
    | _=>exact nn hx
  | Sub=>exact bG hx rv fun a t hx=>bG hx ri fun b u hx=>PyProof.Rows.sub_int (one _ _ (rint hx))
  | Mult =>
    cases v with
    | int a=>exact jF rv fun t=>bG hx ri fun b u hx=>if_e hx fun hb hx=>PyProof.Rows.mul_int (one _ _ (rint hx)) (aEb hb.1 hb.2)
    | str a=>exact fL rv fun t=>bG hx ri fun b u hx=>if_e hx fun hb hx=>SB.mul (aEa hb.1 hb.2.1 hb.2.2) (fun t' tk=>one _ _ (rstr hx))
    | _=>exact nn hx
  | Mod=>exact bG hx rv fun a t hx=>bG hx ri fun b u hx=>cond_n hx fun hb hx=>mod_int' hb (one _ _ (rint hx))
  | _=>exact nn hx
theorem iop_V {s:Shared} {op:Operator} {v i x:V} {v' i':Value} {Q:Value→Shared→Prop} {E:Value→Shared→Prop} {bad:List Addr}
    (rv:RepV T s.heap bad ρ v v') (ri:RepV T s.heap bad ρ i i') (hx:iopV op v i = some x) (hQ:∀ w tk',RepV T s.heap bad ρ x w→Q w { s with toks:=tk' }) :
    wpAny (model T.prog T.w) A (inplaceOp op v' i') Q E s:=by
  cases op with
  | Add =>
    cases v with
    | int a=>exact jF rv fun t=>bG hx ri fun b u hx=>PyProof.Rows.iadd_int (hQ _ _ (rint hx))
    | str a=>exact fL rv fun t=>gN hx ri fun b u hx=>if_e hx fun hb hx=>PyProof.Rows.iadd_str (fun t' tk=>hQ _ _ (rstr hx)) hb
    | _=>exact nn hx
  | FloorDiv=>exact bG hx rv fun a t hx=>bG hx ri fun b u hx=>if_e hx fun hb hx=>PyProof.Rows.ifloordiv_int (Int.ne_of_gt hb.1) (hQ _ _ (rint hx)) (.inl (aCp hb.1 hb.2))
  | _=>exact nn hx
theorem hp_bin {op:Operator} {e i:Expr} {pe pi:PE} {pos:Pos} (he:HP T hZ env Γ L S A (eval e env) pe) (hi:HP T hZ env Γ L S A (eval i env) pi):HP T hZ env Γ L S A (eval (.BinOp e op i pos) env) (.bin op pe pi):=by
  intro ρ s loc mem v Z hv Q hQ
  exact o2_e hv fun a b ha hb hv=>wpAny_BinOp (he ρ s loc mem a Z ha _ fun v' h1 t1 r1 st1 M1=>hi ρ { s with heap:=h1,toks:=t1 } loc mem b (Z.step st1 M1) hb _ fun i' h2 t2 r2 st2 M2 =>
    bin_V (s:={ s with heap:=h2,toks:=t2 }) M2 (RepV.step st2 (fun _ q=>nomatch q) r1) r2 hv fun w h3 tk' rw_ st3 M3=>hQ w h3 tk' rw_ ((st1.trans st2).trans st3) M3)
theorem hp_neg {i:Int} {k:Nat} {p pos:Pos}:HP T hZ env Γ L S A (eval (.UnaryOp .USub (.Constant (.int i) k p) pos) env) (.neg i):=by
  intro ρ s loc mem v Z hv Q hQ
  exact wpAny_UnaryOp (wpAny_Constant_int (PyProof.Rows.neg_int (hQ _ s.heap _ (Option.some.inj hv ▸ ⟨_,rfl⟩) (Step.refl ..) Z.M)))
theorem truth_e {v:V} {b:Bool} {P:Prop} (h:truth v = some b) (k:v = .bool b→P):P:=by
  cases v with
  | bool c=>exact k (congrArg V.bool (Option.some.inj h))
  | _=>exact nn h
theorem gK {s:Shared} {v:V} {v':Value} {b:Bool} {Q:Bool→Shared→Prop} {E:Value→Shared→Prop} {bad:List Addr} (r:RepV T s.heap bad ρ v v') (hb:truth v = some b) (q:Q b s):wpAny (model T.prog T.w) A (truthy v') Q E s:=by
  refine truth_e hb fun e=>?_
  subst e
  exact (show v' = .bool b from r) ▸ wpAny_pure q
theorem ht_plain {e:Expr} {whole:Sem Value} {pe:PE} (hp:HP T hZ env Γ L S A whole pe) (he:isTrue e env whole = (do let v ← whole; standAt e.pos; holding [v] (truthy v))):HT T hZ env Γ L S A (isTrue e env whole) pe:=by
  intro ρ s loc mem v b Z hv hb Q hQ
  rw [he]
  refine wpAny_bind (hp ρ s loc mem v Z hv _ fun v' h1 t1 r1 st1 M1=>wpAny_bind (wpAny_standAt (wpAny_holding ?_)))
  exact gK (s:={ s with heap:=h1,toks:=t1 }) r1 hb (hQ h1 t1 st1 M1)
theorem hp_and1 {pos:Pos} {x y:Sem Value} {r:List (Sem Value)} {a b:PE} (hx:HP T hZ env Γ L S A x a) (hy:HP T hZ env Γ L S A (boolOp pos .And (y :: r)) b):HP T hZ env Γ L S A (boolOp pos .And (x :: y :: r)) (.andE a b):=by
  intro ρ s loc mem v Z hv Q hQ
  refine aI hv fun va ha hv=>aI hv fun t ht hv=>?_
  show wpAny _ _ (do let v ← x; standAt pos; let t ← holding [v] (truthy v); match BoolOp.And,t with | .And,false | .Or,true=>pure v | _,_=>boolOp pos .And (y :: r)) _ _ _
  refine wpAny_bind (hx ρ s loc mem va Z ha _ fun v' h1 t1 r1 st1 M1=>wpAny_bind (wpAny_standAt (wpAny_bind (wpAny_holding (gK (s:={ s with heap:=h1,toks:=t1 }) r1 ht ?_)))))
  cases t with
  | true=>exact hy ρ _ loc mem v (Z.step st1 M1) hv _ fun v2 h2 t2 r2 st2 M2=>hQ v2 h2 t2 r2 (st1.trans st2) M2
  | false=>exact wpAny_pure (hQ v' h1 t1 (Option.some.inj hv ▸ r1) st1 M1)
theorem hp_or1 {pos:Pos} {x y:Sem Value} {r:List (Sem Value)} {a b:PE} (hx:HP T hZ env Γ L S A x a) (hy:HP T hZ env Γ L S A (boolOp pos .Or (y :: r)) b):HP T hZ env Γ L S A (boolOp pos .Or (x :: y :: r)) (.orE a b):=by
  intro ρ s loc mem v Z hv Q hQ
  refine aI hv fun va ha hv=>aI hv fun t ht hv=>?_
  show wpAny _ _ (do let v ← x; standAt pos; let t ← holding [v] (truthy v); match BoolOp.Or,t with | .And,false | .Or,true=>pure v | _,_=>boolOp pos .Or (y :: r)) _ _ _
  refine wpAny_bind (hx ρ s loc mem va Z ha _ fun v' h1 t1 r1 st1 M1=>wpAny_bind (wpAny_standAt (wpAny_bind (wpAny_holding (gK (s:={ s with heap:=h1,toks:=t1 }) r1 ht ?_)))))
  cases t with
  | false=>exact hy ρ _ loc mem v (Z.step st1 M1) hv _ fun v2 h2 t2 r2 st2 M2=>hQ v2 h2 t2 r2 (st1.trans st2) M2
  | true=>exact wpAny_pure (hQ v' h1 t1 (Option.some.inj hv ▸ r1) st1 M1)
theorem ht_and {x:Expr} {r:List Expr} {a b:PE} (hx:HT T hZ env Γ L S A (isTrue x env (eval x env)) a) (hy:HT T hZ env Γ L S A (allTrue .And r env) b):HT T hZ env Γ L S A (allTrue .And (x :: r) env) (.andE a b):=by
  intro ρ s loc mem v c Z hv hc Q hQ
  refine aI hv fun va ha hv=>aI hv fun t ht hv=>?_
  refine wpAny_allTrue_And_cons (hx ρ s loc mem va t Z ha ht _ fun h1 t1 st1 M1=>?_)
  cases t with
  | true=>exact hy ρ _ loc mem v c (Z.step st1 M1) hv hc _ fun h2 t2 st2 M2=>hQ h2 t2 (st1.trans st2) M2
  | false =>
    have e:false = c:=Option.some.inj (ht.symm.trans ((congrArg truth (Option.some.inj hv)).trans hc))
    exact (show Q false { s with heap:=h1,toks:=t1 } from e ▸ hQ h1 t1 st1 M1)
theorem zM {x:Expr} {a:PE} (hx:HT T hZ env Γ L S A (isTrue x env (eval x env)) a):HT T hZ env Γ L S A (allTrue .And [x] env) a:=by
  intro ρ s loc mem v c Z hv hc Q hQ
  refine wpAny_allTrue_And_cons (hx ρ s loc mem v c Z hv hc _ fun h1 t1 st1 M1=>?_)
  cases c with
  | true=>exact wpAny_allTrue_And_nil (hQ h1 t1 st1 M1)
  | false=>exact hQ h1 t1 st1 M1
theorem ht_or {x:Expr} {r:List Expr} {a b:PE} (hx:HT T hZ env Γ L S A (isTrue x env (eval x env)) a) (hy:HT T hZ env Γ L S A (allTrue .Or r env) b):HT T hZ env Γ L S A (allTrue .Or (x :: r) env) (.orE a b):=by
  intro ρ s loc mem v c Z hv hc Q hQ
  refine aI hv fun va ha hv=>aI hv fun t ht hv=>?_
  refine wpAny_allTrue_Or_cons (hx ρ s loc mem va t Z ha ht _ fun h1 t1 st1 M1=>?_)
  cases t with
  | false=>exact hy ρ _ loc mem v c (Z.step st1 M1) hv hc _ fun h2 t2 st2 M2=>hQ h2 t2 (st1.trans st2) M2
  | true =>
    have e:true = c:=Option.some.inj (ht.symm.trans ((congrArg truth (Option.some.inj hv)).trans hc))
    exact (show Q true { s with heap:=h1,toks:=t1 } from e ▸ hQ h1 t1 st1 M1)
theorem aCb {x:Expr} {a:PE} (hx:HT T hZ env Γ L S A (isTrue x env (eval x env)) a):HT T hZ env Γ L S A (allTrue .Or [x] env) a:=by
  intro ρ s loc mem v c Z hv hc Q hQ
  refine wpAny_allTrue_Or_cons (hx ρ s loc mem v c Z hv hc _ fun h1 t1 st1 M1=>?_)
  cases c with
  | true=>exact hQ h1 t1 st1 M1
  | false=>exact wpAny_allTrue_Or_nil (hQ h1 t1 st1 M1)
theorem aEG {op:BoolOp} {es:List Expr} {pos:Pos} {whole:Sem Value} {a:PE} (h:HT T hZ env Γ L S A (allTrue op es env) a):HT T hZ env Γ L S A (isTrue (.BoolOp op es pos) env whole) a:=by
  intro ρ s loc mem v c Z hv hc Q hQ
  exact wpAny_isTrue_BoolOp (h ρ s loc mem v c Z hv hc Q hQ)
theorem hp_not {e:Expr} {pe:PE} {pos:Pos} (he:HP T hZ env Γ L S A (eval e env) pe):HP T hZ env Γ L S A (eval (.UnaryOp .Not e pos) env) (.notE pe):=by
  intro ρ s loc mem v Z hv Q hQ
  exact aI hv fun a ha hv=>bJ hv fun c hc e=>wpAny_UnaryOp (he ρ s loc mem a Z ha _ fun v' h1 t1 r1 st1 M1 =>
    PyProof.Rows.not_of (gK (s:={ s with heap:=h1,toks:=t1 }) r1 hc (hQ _ h1 t1 (e ▸ rfl) st1 M1)))
theorem ht_not {e:Expr} {pe:PE} {pos:Pos} {whole:Sem Value} (he:HT T hZ env Γ L S A (isTrue e env (eval e env)) pe):HT T hZ env Γ L S A (isTrue (.UnaryOp .Not e pos) env whole) (.notE pe):=by
  intro ρ s loc mem v c Z hv hc Q hQ
  exact aI hv fun a ha hv=>bJ hv fun d hd e=>PyProof.Rows.isTrue_not (he ρ s loc mem a d Z ha hd _ fun h1 t1 st1 M1=>(Option.some.inj ((congrArg truth e).trans hc)) ▸ hQ h1 t1 st1 M1)
theorem hp_ite {c a b:Expr} {pc pa pb:PE} {pos:Pos} (hc:HT T hZ env Γ L S A (isTrue c env (eval c env)) pc) (ha:HP T hZ env Γ L S A (eval a env) pa) (hb:HP T hZ env Γ L S A (eval b env) pb) :
    HP T hZ env Γ L S A (eval (.IfExp c a b pos) env) (.ite pc pa pb):=by
  intro ρ s loc mem v Z hv Q hQ
  refine aI hv fun vc hvc hv=>aI hv fun t ht hv=>wpAny_IfExp (hc ρ s loc mem vc t Z hvc ht _ fun h1 t1 st1 M1=>?_)
  cases t with
  | true=>exact ha ρ _ loc mem v (Z.step st1 M1) hv _ fun v2 h2 t2 r2 st2 M2=>hQ v2 h2 t2 r2 (st1.trans st2) M2
  | false=>exact hb ρ _ loc mem v (Z.step st1 M1) hv _ fun v2 h2 t2 r2 st2 M2=>hQ v2 h2 t2 r2 (st1.trans st2) M2
end
section
variable {T:CT} {K:Frag} {hZ h h':Heap} {env:Env} {Γ:List Str} {L:Addr} {S:List Addr} {ρ ρ':List (Addr × Addr)} {loc:Locs} {mem mem':Mem} {A:Around}
noncomputable def mapO (f:V→Option PyData):List V→Option (List PyData)
  | []=>some []
  | x :: xs=>(f x).bind fun d=>(mapO f xs).map (d :: ·)
theorem pH (xs:List V):toDs xs = mapO toD xs:=by
  induction xs with
  | nil=>rfl
  | cons x xs ih=>exact congrArg (fun o=>(toD x).bind fun d=>Option.map (d :: ·) o) ih
theorem aBk (xs:List V):elDs mem xs = mapO (elD mem) xs:=by
  induction xs with
  | nil=>rfl
  | cons x xs ih=>exact congrArg (fun o=>(elD mem x).bind fun d=>Option.map (d :: ·) o) ih
theorem readsAll_map {bad:List Addr} {f:V→Option PyData} (xs:List V) (hx:∀ x ∈ xs,∀ v d,RepV T h bad ρ x v→f x = some d→∃ as,Reads h v d as):∀ (l:List Value) (ds:List PyData),RepL T h bad ρ xs l→mapO f xs = some ds→∃ as,ReadsAll h l ds as:=by
  induction xs with
  | nil=>exact fun l ds r e=>(show l = [] from r) ▸ (Option.some.inj e) ▸ ⟨_,.nil⟩
  | cons x xs ih =>
    refine fun l ds r e=>jG (P:=fun l=>∃ as,ReadsAll h l ds as) r fun v t hv hr=>aI e fun d hd e=>bJ e fun ds' hds e=>?_
    exact (hx x (List.mem_cons_self ..) v d hv hd).elim fun as ra=>(ih (fun y q=>hx y (List.mem_cons_of_mem _ q)) t ds' hr hds).elim fun bs rb=>e ▸ ⟨_,.cons ra rb⟩
theorem aAy {o:Option Obj} {cl:Value} {items:Array Value} {P:Prop} (t:∃ x,o = some x∧x.cls = cl∧∃ n,x.data = .seq items n) (k:∀ {x n},o = some x→x.cls = cl→x.data = .seq items n→P):P :=
  e1a3 t fun x a b d=>d.elim fun n d=>k a b d
theorem aAx {bad:List Addr} (x:V):∀ (v:Value) (d:PyData),RepV T h bad ρ x v→toD x = some d→∃ as,Reads h v d as :=
  V.ind (P:=fun x=>∀ (v:Value) (d:PyData),RepV T h bad ρ x v→toD x = some d→∃ as,Reads h v d as) (fun v d r e=>(show v = .none from r) ▸ bY e ⟨_,.none⟩) (fun b v d r e=>(show v = .bool b from r) ▸ bY e ⟨_,.bool b⟩)
    (fun i v d r e=>jF r fun t=>bY e ⟨_,.int i t⟩) (fun i v d r e=>fL r fun t=>bY e ⟨_,.str i t⟩) (fun _ _ _ _ e=>nn e) (fun _ _ _ _ e=>nn e)
    (fun xs ih v d r e=>gS r fun a items _ t rl=>bJ e fun ds hd e=>aAy t fun ho hc hdat=>(readsAll_map xs ih _ ds rl ((pH xs).symm.trans hd)).elim fun as ra=>e ▸ ⟨_,.tuple ho hc hdat ra⟩)
    (fun xs ih v d r e=>vV r fun a items _ t rl=>bJ e fun ds hd e=>aAy t fun ho hc hdat=>(readsAll_map xs ih _ ds rl ((pH xs).symm.trans hd)).elim fun as ra=>e ▸ ⟨_,.list ho hc hdat ra⟩)
    (fun _ _ _ _ _ _ e=>nn e) x
theorem yT {bad:List Addr} (xs:List V):∀ (l:List Value) (ds:List PyData),RepL T h bad ρ xs l→toDs xs = some ds→∃ as,ReadsAll h l ds as :=
  fun l ds r e=>readsAll_map xs (fun x _=>aAx x) l ds r ((pH xs).symm.trans e)
@[elab_as_elim] theorem pK {k:Nat} {v:Value} {xs:List V} {P:Value→Prop} (M:MemR T hZ S ρ h mem) (r:RepV T h (aG S ρ) ρ (.ref k) v) (hm:mem[k]? = some (.lst xs)) (H:∀ a items n,h.get? a = some (loOf items n)→RepL T h (aG S ρ) ρ xs items.toList→P (.ref a)):P v :=
  aAs r fun p hp=>(M.rep _ p _ hp hm).2.elim fun items r=>r.elim fun n r=>H _ items n r.1 r.2
theorem wD {x:V} {f:List V→Option (List PyData)} {v:Value} {d:PyData} (M:MemR T hZ S ρ h mem) (hf:∀ xs l ds,RepL T h (aG S ρ) ρ xs l→f xs = some ds→∃ as,ReadsAll h l ds as) (r:RepV T h (aG S ρ) ρ x v)
    (e:elTop mem f x = some d):∃ as,Reads h v d as:=by
  cases x with
  | ref k=>exact aI e fun xs hm e=>bJ e fun ds hd e=>pK M r (eP hm) fun a items n ho rl=>(hf xs _ ds rl hd).elim fun as ra=>e ▸ ⟨_,.list ho rfl rfl ra⟩
  | _=>exact aAx _ _ _ r e
theorem reads_el {x:V} {v:Value} {d:PyData} (M:MemR T hZ S ρ h mem) (r:RepV T h (aG S ρ) ρ x v) (e:elD mem x = some d):∃ as,Reads h v d as:=wD M yT r e
theorem wC {x:V} {v:Value} {d:PyData} (M:MemR T hZ S ρ h mem) (r:RepV T h (aG S ρ) ρ x v) (e:topD mem x = some d):∃ as,Reads h v d as :=
  wD (f:=elDs mem) M (fun xs l ds r e=>readsAll_map xs (fun x _ _ _=>reads_el M) l ds r ((aBk xs).symm.trans e)) r e
noncomputable def CmpW (T:CT) (A:Around) (op:CmpOp) (a' b':Value) (c:Bool) (s:Shared):Prop:=∀ (Q E:Value→Shared→Prop),(∀ tk,Q (.bool c) { s with toks:=tk })→wpAny (model T.prog T.w) A (compareOp op a' b') Q E s
theorem deep_V {s:Shared} {a b:V} {a' b':Value} {c:Bool} (hu:A.units + 64 < cLine) (M:MemR T hZ S ρ s.heap mem)
    (ra:RepV T s.heap (aG S ρ) ρ a a') (rb:RepV T s.heap (aG S ρ) ρ b b') (hc:oZ mem a b = some c):CmpW T A .Eq a' b' c s∧CmpW T A .NotEq a' b' (!c) s :=
  o2_e hc fun x y hx hy hc=>if_e hc fun hs hc=>(wC M ra hx).elim fun as r1=>(wC M rb hy).elim fun bs r2 =>
    Option.some.inj hc ▸ ⟨fun Q E q=>eq_dataH r1 r2 (Bool.and_eq_true_iff.mp hs).1 (Bool.and_eq_true_iff.mp hs).2 hu (q s.toks),fun Q E q=>ne_dataH r1 r2 (Bool.and_eq_true_iff.mp hs).1 (Bool.and_eq_true_iff.mp hs).2 hu (q s.toks)⟩
theorem eq_V {s:Shared} {a b:V} {a' b':Value} {c:Bool} (hu:A.units + 64 < cLine) (M:MemR T hZ S ρ s.heap mem)
    (ra:RepV T s.heap (aG S ρ) ρ a a') (rb:RepV T s.heap (aG S ρ) ρ b b') (hc:eqV mem a b = some c):CmpW T A .Eq a' b' c s∧CmpW T A .NotEq a' b' (!c) s:=by
  cases a with
  | int i=>exact jF ra fun t=>bG hc rb fun j u hc=>Option.some.inj hc ▸ ⟨fun Q E q=>eq_int (q s.toks),fun Q E q=>PyProof.Rows.ne_int (q s.toks)⟩
  | str i=>exact fL ra fun t=>gN hc rb fun j u hc=>Option.some.inj hc ▸ ⟨fun Q E q=>eq_str (q s.toks),fun Q E q=>PyProof.Rows.ne_str (q s.toks)⟩
  | bool i =>
    cases b with
    | bool j=>exact (show a' = .bool i from ra) ▸ (show b' = .bool j from rb) ▸ Option.some.inj hc ▸ ⟨fun Q E q=>PyProof.Rows.eq_bool (q s.toks),fun Q E q=>PyProof.Rows.ne_bool (q s.toks)⟩
    | _=>exact nn hc
  | _=>exact deep_V hu M ra rb hc
theorem nP {bad:List Addr} (xs:List V):∀ (l:List Value) (ys:List Str),RepL T h bad ρ xs l→strsOf xs = some ys→StrsAre l ys:=by
  induction xs with
  | nil=>exact fun l ys r e=>(show l = [] from r) ▸ (Option.some.inj e) ▸ .nil
  | cons x xs ih =>
    exact fun l ys r e=>jG (P:=fun l=>StrsAre l ys) r fun v t hv hr=>aI e fun z hz e=>bJ e fun zs hzs e=>fL (show RepV T h bad ρ (.str z) v from yM hz ▸ hv) fun tk=>e ▸ .cons z tk (ih t zs hr hzs)
theorem aEi {bad:List Addr} {κ : Type} [DecidableEq κ] {x:κ} {es:List (κ × V)} {kvs:List (κ × Value)} (e:kvs.map (·.1) = es.map (·.1)) (r:RepL T h bad ρ (es.map (·.2)) (kvs.map (·.2))):(look x es).isSome = (valueAt kvs x).isSome:=by
  have z:=sR x es kvs e r
  cases q:look x es with
  | none=>rw [z.1 q]; rfl
  | some y=>exact e1a2 (z.2 y q) fun v hv _=>hv ▸ rfl
theorem uD (St:Stat T K hZ) (M:MemR T hZ S ρ h mem) {k:Nat} {p:Addr × Addr} (hp:ρ[k]? = some p):(p.1 == sysModules) = false:=by
  have h1:=(M.fresh p (List.mem_of_getElem? hp)).1
  have h2:=St.size
  have:p.1 ≠ sysModules:=Nat.ne_of_gt (Nat.lt_of_lt_of_le h2 h1)
  simpa using this
theorem in_ref {s:Shared} {a:V} {a':Value} {p:Addr × Addr} {k:Nat} {o:MO} {c:Bool} (St:Stat T K hZ) (M:MemR T hZ S ρ s.heap mem) (ra:RepV T s.heap (aG S ρ) ρ a a') (hp:ρ[k]? = some p) (hm:mem[k]? = some o) (hc:inO o a = some c) :
    CmpW T A .In a' (.ref p.1) c s∧CmpW T A .NotIn a' (.ref p.1) (!c) s:=by
  have r:=M.rep _ p _ hp hm
  cases o with
  | sdict es=>exact gN hc ra fun x t hc=>e1a3 r.2 fun kvs ht ek rl=>bY hc (aEi ek rl ▸ ⟨fun Q E q=>wpAny_in_of (strKind_is ..) (uD St M hp) ht.mapOf (q _),fun Q E q=>wpAny_notIn_of (strKind_is ..) (uD St M hp) ht.mapOf (q _)⟩)
  | idict es=>exact bG hc ra fun x t hc=>e1a3 r.2 fun kvs ht ek rl=>bY hc (aEi ek rl ▸ ⟨fun Q E q=>wpAny_in_of (intKind_is ..) (uD St M hp) ht.mapOf (q _),fun Q E q=>wpAny_notIn_of (intKind_is ..) (uD St M hp) ht.mapOf (q _)⟩)
  | _=>exact nn hc
theorem in_V {s:Shared} {a b:V} {a' b':Value} {c:Bool} (St:Stat T K hZ) (M:MemR T hZ S ρ s.heap mem)
    (ra:RepV T s.heap (aG S ρ) ρ a a') (rb:RepV T s.heap (aG S ρ) ρ b b') (hc:inV mem a b = some c):CmpW T A .In a' b' c s∧CmpW T A .NotIn a' b' (!c) s:=by
  cases b with
  | tup ys=>exact gS rb fun b0 items _ ht rl=>gN hc ra fun x t hc=>bJ hc fun l hl e=>e ▸ ⟨fun Q E q=>in_tuple_strs ht (nP _ _ l rl hl) (q s.toks),fun Q E q=>notin_tuple_strs ht (nP _ _ l rl hl) (q s.toks)⟩
  | str y=>exact fL rb fun u=>gN hc ra fun x t hc=>bY hc ⟨fun Q E q=>in_str (q s.toks),fun Q E q=>notIn_str ((Bool.not_not _) ▸ q s.toks)⟩
  | ref k=>exact aAs rb fun p hp=>aI hc fun o hm hc=>in_ref St M ra hp hm hc
  | _=>exact nn hc
theorem aCa {s:Shared} {a':Value} (h:PySem.plainIs a' .none = true∧a' ≠ .none):CmpW T A .Is a' .none false s∧CmpW T A .IsNot a' .none true s :=
  ⟨fun Q E q=>wpAny_is_other h.1 h.2 (q s.toks),fun Q E q=>wpAny_isNot_other h.1 h.2 (q s.toks)⟩
theorem aEt {a:Addr}:PySem.plainIs (.ref a) .none = true∧Value.ref a ≠ .none:=⟨rfl,fun e=>nomatch e⟩
theorem isNone_V {s:Shared} {a:V} {a':Value} {c:Bool} (ra:RepV T s.heap (aG S ρ) ρ a a') (hc:aEx a = some c):CmpW T A .Is a' .none c s∧CmpW T A .IsNot a' .none (!c) s:=by
  cases a with
  | none =>
    obtain rfl:a' = .none:=ra
    exact bY hc ⟨fun Q E q=>wpAny_is_self rfl (q s.toks),fun Q E q=>wpAny_isNot_self rfl (q s.toks)⟩
  | bool b=>exact bY hc (aCa ((show a' = .bool b from ra) ▸ ⟨rfl,fun e=>nomatch e⟩))
  | int i=>exact bY hc (jF ra fun t=>aCa ⟨rfl,fun e=>nomatch e⟩)
  | str i=>exact bY hc (fL ra fun t=>aCa ⟨rfl,fun e=>nomatch e⟩)
  | ref k=>exact bY hc (aAs ra fun p _=>aCa aEt)
  | tup xs=>exact bY hc (gS ra fun _ _ _ _ _=>aCa aEt)
  | inst c fs=>exact bY hc (e4a6 ra fun a d es n e _ _ _ _ _=>e ▸ aCa aEt)
  | _=>exact nn hc
theorem isV_V {s:Shared} {a b:V} {a' b':Value} {c:Bool} (ra:RepV T s.heap (aG S ρ) ρ a a') (rb:RepV T s.heap (aG S ρ) ρ b b') (hc:isV a b = some c):CmpW T A .Is a' b' c s∧CmpW T A .IsNot a' b' (!c) s:=by
  cases b with
  | none=>exact (show b' = .none from rb) ▸ isNone_V ra hc
  | _=>exact nn hc
theorem aAO {s:Shared} {op:CmpOp} {f:Int→Int→Bool} {a b:V} {a' b':Value} {c:Bool} (ra:RepV T s.heap (aG S ρ) ρ a a') (rb:RepV T s.heap (aG S ρ) ρ b b') (hc:intC f a b = some c) (k:∀ x y t u,CmpW T A op (.int x t) (.int y u) (f x y) s):CmpW T A op a' b' c s :=
  bG hc ra fun x t hc=>bG hc rb fun y u hc=>bY hc (k x y t u)
theorem aCF {s:Shared} {op:CmpOp} {a b:V} {a' b':Value} {c:Bool} {Q E:Value→Shared→Prop} (St:Stat T K hZ) (hu:A.units + 64 < cLine) (M:MemR T hZ S ρ s.heap mem)
    (ra:RepV T s.heap (aG S ρ) ρ a a') (rb:RepV T s.heap (aG S ρ) ρ b b') (hc:cmpV mem op a b = some c) (q:∀ tk,Q (.bool c) { s with toks:=tk }):wpAny (model T.prog T.w) A (compareOp op a' b') Q E s:=by
  refine (show CmpW T A op a' b' c s from ?_) Q E q
  clear q
  cases op with
  | Eq=>exact (eq_V hu M ra rb hc).1
  | NotEq=>exact bJ hc fun d hd e=>e ▸ (eq_V hu M ra rb hd).2
  | Lt=>exact aAO ra rb hc fun _ _ _ _ _ _ q=>PyProof.Rows.lt_int (q s.toks)
  | LtE =>
    have z:intC (fun x y=>decide (x ≤ y)) a b = some c→CmpW T A .LtE a' b' c s:=fun hc=>aAO ra rb hc fun _ _ _ _ _ _ q=>PyProof.Rows.le_int (q s.toks)
    cases a with
    | str x=>exact fL ra fun t=>gN hc rb fun y u hc=>bY hc fun _ _ q=>P.le_str (q s.toks)
    | _=>exact z hc
  | Gt=>exact aAO ra rb hc fun _ _ _ _ _ _ q=>PyProof.Rows.gt_int (q s.toks)
  | GtE=>exact aAO ra rb hc fun _ _ _ _ _ _ q=>PyProof.Rows.ge_int (q s.toks)
  | In=>exact (in_V St M ra rb hc).1
  | NotIn=>exact bJ hc fun d hd e=>e ▸ (in_V St M ra rb hd).2
  | Is=>exact (isV_V ra rb hc).1
  | IsNot=>exact bJ hc fun d hd e=>e ▸ (isV_V ra rb hd).2
theorem hp_cmp {op:CmpOp} {e i:Expr} {pe pi:PE} {pos:Pos} (St:Stat T K hZ) (hu:A.units + 64 < cLine) (hm:behindInMarks op i = false) (he:HP T hZ env Γ L S A (eval e env) pe) (hi:HP T hZ env Γ L S A (eval i env) pi) :
    HP T hZ env Γ L S A (eval (.Compare e [op] [i] pos) env) (.cmp op pe pi):=by
  intro ρ s loc mem v Z hv Q hQ
  exact o2_e hv fun a b ha hb hv=>bJ hv fun c hc e=>wpAny_Compare1 (he ρ s loc mem a Z ha _ fun v' h1 t1 r1 st1 M1=>hi ρ { s with heap:=h1,toks:=t1 } loc mem b (Z.step st1 M1) hb _ fun i' h2 t2 r2 st2 M2 =>
    aCF (s:={ s with heap:=h2,toks:=t2 }) St hu M2 (RepV.step st2 (fun _ q=>nomatch q) r1) r2 hc fun tk=>hQ _ h2 tk (e ▸ rfl) (st1.trans st2) M2) hm
theorem ht_cmp {op:CmpOp} {e i:Expr} {pe pi:PE} {pos:Pos} {whole:Sem Value} (St:Stat T K hZ) (hu:A.units + 64 < cLine) (hm:behindInMarks op i = false) (he:HP T hZ env Γ L S A (eval e env) pe) (hi:HP T hZ env Γ L S A (eval i env) pi) :
    HT T hZ env Γ L S A (isTrue (.Compare e [op] [i] pos) env whole) (.cmp op pe pi):=by
  intro ρ s loc mem v d Z hv hd Q hQ
  exact o2_e hv fun a b ha hb hv=>bJ hv fun c hc e=>wpAny_isTrue_Compare1 (he ρ s loc mem a Z ha _ fun v' h1 t1 r1 st1 M1=>hi ρ { s with heap:=h1,toks:=t1 } loc mem b (Z.step st1 M1) hb _ fun i' h2 t2 r2 st2 M2 =>
    aCF (s:={ s with heap:=h2,toks:=t2 }) St hu M2 (RepV.step st2 (fun _ q=>nomatch q) r1) r2 hc fun tk=>wpAny_pure (Option.some.inj ((congrArg truth e).trans hd) ▸ hQ h2 tk (st1.trans st2) M2)) hm
end
end Mine
section
open PySem PySem.W PyProof.Rows PySem.Calls PySem.Spec PySem.SeqAt PySem.Builtin PySem.Builtin.Str
namespace Mine
theorem oX (cps:Array Nat) (s:Nat):∀ c:Nat,(List.range c).filterMap (fun k=>cps[s + k]?) = (cps.toList.drop s).take c
  | 0=>rfl
  | c + 1=>by
    rw [List.range_succ,List.filterMap_append,oX cps s c,List.take_add_one]
    congr 1
    rw [List.getElem?_drop,Array.getElem?_toList]
    cases q:cps[s + c]? <;> simp [q]
theorem sW (a b n:Nat):strSliceIndices (some (a:Int)) (some (b:Int)) 1 n = (List.range (min b n - min a n)).map (fun k=>min a n + k):=by
  have e1:∀ c:Nat,max 0 (min (if (c:Int) < 0 then (c:Int) + n else (c:Int)) (n:Int)) = ((min c n:Nat):Int):=fun c=>by
    rw [if_neg (by lia)]; lia
  have key:sliceRange ((min a n:Nat):Int) ((min b n:Nat):Int) 1 = (List.range (min b n - min a n)).map (fun k=>min a n + k):=by
    unfold sliceRange
    dsimp only
    have h1:(if (1:Int) > 0 then (if ((min a n:Nat):Int) < ((min b n:Nat):Int) then (((min b n:Nat):Int) - ((min a n:Nat):Int) + 1 - 1) / 1 else 0) else (if ((min a n:Nat):Int) > ((min b n:Nat):Int) then (((min a n:Nat):Int) - ((min b n:Nat):Int) - 1 - 1) / (-1) else 0)).toNat = min b n - min a n:=by
      rw [if_pos (by decide)]
      split
      · rw [Int.ediv_one]; lia
      · lia
    rw [h1]
    apply List.map_congr_left
    intro k _
    lia
  rw [← key,← e1 a,← e1 b]
  rfl
set_option tactic.hygienic true in
theorem aDi (x:Str) (a b:Nat):Txt.slice x (some (a:Int)) (some (b:Int)) = ⟨x.cps.extract a b⟩:=by
  have key:(((strSliceIndices (some (a:Int)) (some (b:Int)) 1 x.length).filterMap (x.cps[·]?)).toArray) = x.cps.extract a b:=by
    rw [sW,List.filterMap_map]
    show ((List.range _).filterMap fun k=>x.cps[min a x.length + k]?).toArray = _
    rw [oX]
    apply Array.ext'
    rw [List.toList_toArray,Array.toList_extract,List.extract_eq_take_drop]
    show (x.cps.toList.drop (min a x.cps.size)).take (min b x.cps.size - min a x.cps.size) = _
    rw [← Array.length_toList]
    generalize x.cps.toList = L
    by_cases h:a ≤ L.length
    · rw [show min a L.length = a from Nat.min_eq_left h,List.take_eq_take_iff,List.length_drop]
      lia
    · rw [show min a L.length = L.length from Nat.min_eq_right (by lia),List.drop_length,List.drop_eq_nil_of_le (by lia),List.take_nil,List.take_nil]
  unfold Txt.slice
  split
  · rename_i hl
    rw [sW,List.length_map,List.length_range] at hl
    have hl':min b x.length - min a x.length = x.length:=by simpa using hl
    have:x.cps.extract a b = x.cps:=by
      apply Array.ext'
      rw [Array.toList_extract,List.extract_eq_take_drop]
      have hn:x.cps.toList.length = x.length:=Array.length_toList
      by_cases h0:x.length = 0
      · have:x.cps.toList = []:=List.eq_nil_of_length_eq_zero (hn.trans h0)
        rw [this]; simp
      · have ha:a = 0:=by lia
        subst ha
        rw [List.drop_zero,List.take_of_length_le (by lia)]
    rw [this]
  · rw [key]
section
variable {T:CT} {K:Frag} {hZ h h':Heap} {env:Env} {Γ:List Str} {L:Addr} {S:List Addr} {ρ ρ':List (Addr × Addr)} {loc:Locs} {mem mem':Mem} {A:Around}
theorem slice_ft {s:Shared} {x:Str} {t ui uj:Tok} {i j:Int} {value lo hi:Expr} {p:Pos} {Q:Value→Shared→Prop} {E:Value→Shared→Prop} (M:MemR T hZ S ρ s.heap mem) (hi0:0 ≤ i) (hj0:0 ≤ j) (hsz:x.length ≤ sizeLine)
    (hQ:∀ v h' tk',RepV T h' (aG S ρ) ρ (.str ⟨x.cps.extract i.toNat j.toNat⟩) v→Step true [] ρ s.heap ρ h'→MemR T hZ S ρ h' mem→Q v { s with heap:=h',toks:=tk' }) :
    wpAny (model T.prog T.w) A (subscriptTail value (.Slice (some lo) (some hi) none p) (.str x t) (.ref s.heap.objs.size)) Q E { s with heap:=s.heap.push { cls:=.type "slice",data:=.fields #[.int i ui,.int j uj,.none] } }:=by
  obtain ⟨T',id,hl,hT,hg⟩:=SBH.sliceItem_ss (prog:=T.prog) (w:=T.w) (A:=A) (E:=E) (P:=fun g=>Step true [] ρ s.heap ρ g∧MemR T hZ S ρ g mem) (s:=s) (x:=x) (t:=t) (Q:=Q) (i:=i) (j:=j) (ui:=ui) (uj:=uj)
    (fun g ob pg=>⟨pg.1.trans (Step.push ρ g ob),pg.2.push ob⟩) ⟨Step.refl ..,M⟩ (fun h' t' k ph=>hQ _ h' k ⟨t',by
      have e:=aDi x i.toNat j.toNat
      rw [Int.toNat_of_nonneg hi0,Int.toNat_of_nonneg hj0] at e
      rw [e]⟩ ph.1 ph.2) hsz
  exact tail_any (ops:=[.ref s.heap.objs.size,.str x t]) hT hl hg rfl
theorem slice_ok {x:Str} (h:x.length ≤ 2 ^ 24):x.length ≤ sizeLine:=Nat.le_trans h (by decide)
theorem aCc {e lo hi:Expr} {pe pl ph:PE} {p pos:Pos} (he:HP T hZ env Γ L S A (eval e env) pe) (hl:HP T hZ env Γ L S A (eval lo env) pl) (hh:HP T hZ env Γ L S A (eval hi env) ph) :
    HP T hZ env Γ L S A (eval (.Subscript e (.Slice (some lo) (some hi) none p) pos) env) (.sliceFT pe pl ph):=by
  intro ρ s loc mem v Z hv Q hQ
  refine aI hv fun a ha hv=>o2_e hv fun bi bj hbi hbj hv=>nY hv fun i ei hv=>nY hv fun j ej hv=>uC hv fun x ex hv=>if_e hv fun hc hz=>?_
  subst ei
  subst ej
  subst ex
  refine Subscript_ (he ρ s loc mem _ Z ha _ fun v' h1 t1 r1 st1 M1=>wpAny_Slice (wpAny_evalPart_some (hl ρ { s with heap:=h1,toks:=t1 } loc mem _ (Z.step st1 M1) hbi _ fun i' h2 t2 r2 st2 M2=>wpAny_evalPart_some ?_)))
  refine hh ρ { s with heap:=h2,toks:=t2 } loc mem _ ((Z.step st1 M1).step st2 M2) hbj _ fun j' h3 t3 r3 st3 M3=>wpAny_evalPart_none ?_
  refine jF r2 fun ui=>jF r3 fun uj=>fL (RepV.step st3 (fun _ q=>nomatch q) (RepV.step st2 (fun _ q=>nomatch q) r1)) fun tx=>?_
  exact slice_ft (s:={ s with heap:=h3,toks:=t3 }) M3 hc.1 hc.2.1 (slice_ok hc.2.2) fun w h4 tk' rw_ st4 M4=>hQ w h4 tk' (Option.some.inj hz ▸ rw_) (((st1.trans st2).trans st3).trans st4) M4
end
end Mine
end
namespace Mine
section
variable {T:CT} {K:Frag} {hZ h h':Heap} {env:Env} {Γ:List Str} {L:Addr} {S:List Addr} {ρ ρ':List (Addr × Addr)} {loc:Locs} {mem mem':Mem} {A:Around}
noncomputable def xX:BI→Value
  | .len=>.builtin "len"
  | .ord=>.builtin "ord"
  | .chr=>.builtin "chr"
  | .abs=>.builtin "abs"
  | .min=>.builtin "min"
  | .max=>.builtin "max"
  | .str=>.type "str"
  | .int=>.type "int"
  | .list=>.type "list"
  | .find=>.builtin "str.find"
theorem kO {pos:Pos} {es:List Expr}:es.all notStar = true→((backTo pos (starEach es env)).any (·.1)) = false:=by
  induction es with
  | nil=>exact fun _=>rfl
  | cons e r ih =>
    intro h
    obtain ⟨h1,h2⟩:=Bool.and_eq_true_iff.mp h
    rw [gR h1]
    exact ih h2
theorem hJ {M:Model} {E:Value→Shared→Prop} {s:Shared} {pos:Pos} {id:String} {first:List Value} {es:List Expr} {Q:Value→Shared→Prop} (hs:es.all notStar = true)
    (h:wpAny M A (spliced (backTo pos (starEach es env))) (fun vs s₁=>wpAny M A (call (.builtin id) (first ++ vs)) Q E s₁) E s):wpAny M A (callWith pos (.builtin id) first (backTo pos (starEach es env)) []) Q E s:=by
  cases es with
  | nil =>
    refine callWith_method0 ?_
    have h2:wpAny M A (pure []:Sem (List Value)) (fun vs s₁=>wpAny M A (call (.builtin id) (first ++ vs)) Q E s₁) E s:=h
    have h3:wpAny M A (call (.builtin id) (first ++ [])) Q E s:=fun Γ p hΓ=>h2 Γ p hΓ Γ p hΓ
    rwa [List.append_nil] at h3
  | cons e r =>
    exact callWith_method1 h (gR (Bool.and_eq_true_iff.mp hs).1) (kO (Bool.and_eq_true_iff.mp hs).2)
theorem qV {M:Model} {E:Value→Shared→Prop} {s:Shared} {pos:Pos} {Ty:String} {e:Expr} {r:List Expr} {Q:Value→Shared→Prop} (hs:(e :: r).all notStar = true)
    (h:wpAny M A (spliced (backTo pos (starEach (e :: r) env))) (fun vs s₁=>wpAny M A (call (.type Ty) vs) Q E s₁) E s):wpAny M A (callWith pos (.type Ty) [] (backTo pos (starEach (e :: r) env)) []) Q E s :=
  PyProof.Rows.callWith_type1 h (gR (Bool.and_eq_true_iff.mp hs).1) (kO (Bool.and_eq_true_iff.mp hs).2)
@[elab_as_elim] theorem wA {bad:List Addr} {l:List Value} {P:List Value→Prop} (r:RepL T h bad ρ [] l) (k:P []):P l:=(show l = [] from r) ▸ k
@[elab_as_elim] theorem aDF {bad:List Addr} {x:V} {l:List Value} {P:List Value→Prop} (r:RepL T h bad ρ [x] l) (k:∀ v,RepV T h bad ρ x v→P [v]):P l:=jG r fun v t a b=>wA b (k v a)
@[elab_as_elim] theorem rl_two {bad:List Addr} {x y:V} {l:List Value} {P:List Value→Prop} (r:RepL T h bad ρ [x,y] l) (k:∀ v w,RepV T h bad ρ x v→RepV T h bad ρ y w→P [v,w]):P l:=jG r fun v t a b=>aDF b fun w c=>k v w a c
theorem pJ {bad:List Addr} {x:V} {l:List Value} (r:RepL T h bad ρ [x] l):∃ v,l = [v]∧RepV T h bad ρ x v:=aDF r fun v a=>⟨v,rfl,a⟩
theorem aAw {bad:List Addr} {x y:V} {l:List Value} (r:RepL T h bad ρ [x,y] l):∃ v w,l = [v,w]∧RepV T h bad ρ x v∧RepV T h bad ρ y w:=rl_two r fun v w a b=>⟨v,w,rfl,a,b⟩
theorem len_fits {n:Nat} (h:n ≤ 2 ^ 20):(n:Int) < 2 ^ 63:=by lia
@[elab_as_elim] theorem yX {α : Type} {bad:List Addr} {f:V→Option α} {vs:List V} {l:List Value} {x:α} {P:List Value→Prop} (h':(oneOf vs).bind f = some x) (r:RepL T h bad ρ vs l) (k:∀ v w,RepV T h bad ρ v w→f v = some x→P [w]):P l :=
  aI h' fun v hv hx=>aDF (show RepL T h bad ρ [v] l from uB hv ▸ r) fun w a=>k v w a hx
theorem two_e {α : Type} {f:V→V→Option α} {vs:List V} {x:α} {P:Prop} (h:two f vs = some x) (k:∀ v w,vs = [v,w]→f v w = some x→P):P:=by
  match vs,h with
  | [v,w],h=>exact k v w rfl h
@[elab_as_elim] theorem two_V {α : Type} {bad:List Addr} {f:V→V→Option α} {vs:List V} {l:List Value} {x:α} {P:List Value→Prop} (h':two f vs = some x) (r:RepL T h bad ρ vs l) (k:∀ a b v w,RepV T h bad ρ a v→RepV T h bad ρ b w→f a b = some x→P [v,w]):P l :=
  two_e h' fun a b e hx=>rl_two (show RepL T h bad ρ [a,b] l from e ▸ r) fun v w p q=>k a b v w p q hx
theorem zI {xs:List V} {x:V} {b:List Addr} {items:Array Value} {W:Prop} (hx:aBY xs.length (2 ^ 20) = some x) (rl:RepL T h b ρ xs items.toList) (k:(items.size:Int) < 2 ^ 63→(∀ t,RepV T h b ρ x (.int items.size t))→W):W :=
  if_e hx fun hc hx=>by
    have e:=aK _ _ rl
    rw [Array.length_toList] at e
    rw [← e] at hc hx
    exact k (len_fits hc) fun _=>rint hx
theorem len_V {s:Shared} {v x:V} {v':Value} {Q:Value→Shared→Prop} {E:Value→Shared→Prop} (M:MemR T hZ S ρ s.heap mem) (r:RepV T s.heap (aG S ρ) ρ v v') (hx:lenV mem v = some x) (one:∀ w tk',RepV T s.heap (aG S ρ) ρ x w→Q w { s with toks:=tk' }) :
    wpAny (model T.prog T.w) A (call (.builtin "len") [v']) Q E s:=by
  cases v with
  | str y=>exact fL r fun t=>if_e hx fun hc hx=>PyProof.Rows.len_str (by lia) (one _ _ (rint hx))
  | tup xs=>exact gS r fun a items _ ht rl=>zI hx rl fun a b=>len_tuple ht a (one _ _ (b _))
  | lst xs=>exact vV r fun a items _ ht rl=>zI hx rl fun a b=>PyProof.Rows.len_list ht a (one _ _ (b _))
  | ref k=>exact aI hx fun xs hm hx=>pK M r (eP hm) fun a items n ho rl=>zI hx rl fun a b=>PyProof.Rows.len_list (cJ ho) a (one _ _ (b _))
  | _=>exact nn hx
theorem list_V {s:Shared} {v x:V} {v':Value} {Q:Value→Shared→Prop} {E:Value→Shared→Prop} (M:MemR T hZ S ρ s.heap mem) (r:RepV T s.heap (aG S ρ) ρ v v') (hx:listV mem v = some x)
    (hQ:∀ w h' tk',RepV T h' (aG S ρ) ρ x w→Step true [] ρ s.heap ρ h'→MemR T hZ S ρ h' mem→Q w { s with heap:=h',toks:=tk' }):wpAny (model T.prog T.w) A (call (.type "list") [v']) Q E s:=by
  refine aI hx fun k hk hx=>aI hx fun xs hm hx=>if_e hx fun hc hx=>pK M (show RepV T s.heap (aG S ρ) ρ (.ref k) v' from uA hk ▸ r) (eP hm) fun a items n ht rl=>?_
  have e:=aK _ _ rl
  rw [Array.length_toList] at e
  refine call_list_seq a (T := "list") (.inl rfl) ht rfl rfl (fun h' c' hk hn=>?_) (by rw [e]; exact tT hc)
  exact hQ _ h' s.toks (bY (P:=(RepV T h' (aG S ρ) ρ · _)) hx ⟨_,items,rfl,M.froz_new hn (aR _),cJ hn,RepL.step (Step.all (p:=true) ρ hk) (fun _ q=>nomatch q) rl⟩) (Step.all ρ hk) (M.all hk)
theorem rite {b:List Addr} {c:Prop} {d:Prop} [Decidable c] [Decidable d] {i j:Int} {t u:Tok} {x:V} (hx:some (V.int (if d then i else j)) = some x) (hcd:c ↔ d):RepV T h b ρ x (if c then .int i t else .int j u):=by
  refine bY (P:=fun x=>RepV T h b ρ x _) hx ?_
  by_cases hc:c
  · rw [if_pos hc,if_pos (hcd.mp hc)]; exact ⟨t,rfl⟩
  · rw [if_neg hc,if_neg fun q=>hc (hcd.mpr q)]; exact ⟨u,rfl⟩
theorem bi_V {s:Shared} {f:BI} {vs:List V} {vs':List Value} {x:V} {Q:Value→Shared→Prop} {E:Value→Shared→Prop} (hh:A.handled = none) (M:MemR T hZ S ρ s.heap mem)
    (r:RepL T s.heap (aG S ρ) ρ vs vs') (hx:biV mem f vs = some x)
    (hQ:∀ w h' tk',RepV T h' (aG S ρ) ρ x w→Step true [] ρ s.heap ρ h'→MemR T hZ S ρ h' mem→Q w { s with heap:=h',toks:=tk' }) :
    wpAny (model T.prog T.w) A (call (xX f) vs') Q E s:=by
  have one:∀ w tk',RepV T s.heap (aG S ρ) ρ x w→Q w { s with toks:=tk' }:=fun w tk' r=>hQ w s.heap tk' r (Step.refl ..) M
  cases f with
  | len=>exact yX hx r fun v w r hx=>len_V M r hx one
  | ord=>exact yX hx r fun v w r hx=>gN hx r fun y t hx=>if_e hx fun hc hx=>ord_of_one hc (one _ _ (rint hx))
  | chr=>exact yX hx r fun v w r hx=>bG hx r fun y t hx=>if_e hx fun hc hx=>chr_of_range hc.1 hc.2 (one _ _ (rstr hx))
  | abs=>exact yX hx r fun v w r hx=>bG hx r fun y t hx=>call_abs_int fun u tk=>one _ _ (rint hx)
  | min=>exact two_V hx r fun a b v w ra rb hx=>bG hx ra fun i t hx=>bG hx rb fun j u hx=>min_two_ints hh fun h' tk hk=>hQ _ h' tk (rite hx Iff.rfl) (Step.all ρ hk) (M.all hk)
  | max=>exact two_V hx r fun a b v w ra rb hx=>bG hx ra fun i t hx=>bG hx rb fun j u hx=>max_two_ints hh fun h' tk hk=>hQ _ h' tk (rite hx Iff.rfl) (Step.all ρ hk) (M.all hk)
  | int=>exact yX hx r fun v w r hx=>bG hx r fun y t hx=>call_int_int (one _ s.toks (rint hx))
  | str =>
    refine yX hx r fun v w r hx=>bG hx r fun y t hx=>if_e hx fun hc hx=>str_of_int_fit (N:=4611686018427387904) ?_ (by decide) fun _=>one _ _ (rstr hx)
    split <;> lia
  | find=>exact two_V hx r fun a b v w ra rb hx=>gN hx ra fun i t hx=>gN hx rb fun j u hx=>SC.find (one _ _ (rint hx))
  | list=>exact yX hx r fun v w r hx=>list_V M r hx hQ
noncomputable def biTab:List (String × BI):=[("len",.len),("ord",.ord),("chr",.chr),("abs",.abs),("min",.min),("max",.max)]
noncomputable def tyTab:List (String × BI):=[("str",.str),("int",.int),("list",.list)]
noncomputable def biOf (v:Value):Option BI:=match v with
  | .builtin id=>biTab.lookup id
  | .type id=>tyTab.lookup id
  | _=>none
theorem lookup_all {α β : Type} [BEq α] [LawfulBEq α] {P:α→β→Prop} {k:α} {v:β}:∀ l:List (α × β),(∀ p ∈ l,P p.1 p.2)→l.lookup k = some v→P k v:=by
  intro l
  induction l with
  | nil=>exact fun _ h=>nn h
  | cons p l ih =>
    intro h hk
    rw [List.lookup_cons] at hk
    cases q:k == p.1 with
    | true=>rw [q] at hk; exact Option.some.inj hk ▸ beq_iff_eq.mp q ▸ h p (List.mem_cons_self ..)
    | false=>rw [q] at hk; exact ih (fun y m=>h y (List.mem_cons_of_mem _ m)) hk
theorem aBx {v:Value} {f:BI} (h:biOf v = some f):v = xX f:=by
  cases v with
  | builtin id=>exact lookup_all (P:=fun id f=>.builtin id = xX f) biTab (List.forall_mem_cons.mpr ⟨rfl,List.forall_mem_cons.mpr ⟨rfl,List.forall_mem_cons.mpr ⟨rfl,List.forall_mem_cons.mpr ⟨rfl,List.forall_mem_cons.mpr ⟨rfl,List.forall_mem_singleton.mpr rfl⟩⟩⟩⟩⟩) h
  | type id=>exact lookup_all (P:=fun id f=>.type id = xX f) tyTab (List.forall_mem_cons.mpr ⟨rfl,List.forall_mem_cons.mpr ⟨rfl,List.forall_mem_singleton.mpr rfl⟩⟩) h
  | _=>exact nn h
theorem cw_bi {M:Model} {E:Value→Shared→Prop} {s:Shared} {pos:Pos} {f:BI} {es:List Expr} {Q:Value→Shared→Prop} (hne:es ≠ []) (hs:es.all notStar = true)
    (h:wpAny M A (spliced (backTo pos (starEach es env))) (fun vs s₁=>wpAny M A (call (xX f) vs) Q E s₁) E s):wpAny M A (callWith pos (xX f) [] (backTo pos (starEach es env)) []) Q E s:=by
  obtain ⟨e,r,rfl⟩:=List.exists_cons_of_ne_nil hne
  cases f with
  | str=>exact qV hs h
  | int=>exact qV hs h
  | list=>exact qV hs h
  | _=>exact hJ hs h
theorem aEN {bad:List Addr} {f:BI} {v:Value} (r:RepV T h bad ρ (globV (xX f)) v):v = xX f:=by
  cases f <;> exact r.1
theorem hp_bi {x:Str} {np pos:Pos} {es:List Expr} {pes:List PE} {f:BI} {v:Value} (St:Stat T K hZ) (hh:A.handled = none) (O:dX env Γ L) (hk:env.kindOf x = some .globalImplicit) (hd:(x == ("__debug__" : Str)) = false)
    (hg:hH K x = some v) (hi:handedIn v = true) (hf:biOf v = some f) (hne:es ≠ []) (hs:es.all notStar = true) (hr:HPs T hZ env Γ L S A (spliced (backTo pos (starEach es env))) pes) :
    HP T hZ env Γ L S A (eval (.Call (.Name x np) es [] pos) env) (.bi f pes):=by
  intro ρ s loc mem w Z hv Q hQ
  refine aI hv fun vs hvs hv=>?_
  obtain rfl:=aBx hf
  refine wpAny_Call_ofName (qP (T:=T) (S:=S) (A:=A) (pos:=np) (Γ:=Γ) (L:=L) St O hk hd hg hi ρ s loc mem _ Z rfl _ fun fv h1 t1 r1 st1 M1=>?_)
  obtain rfl:=aEN r1
  exact cw_bi hne hs (hr ρ { s with heap:=h1,toks:=t1 } loc mem vs (Z.step st1 M1) hvs _ fun vs' h2 t2 r2 st2 M2=>bi_V (s:={ s with heap:=h2,toks:=t2 }) hh M2 r2 hv fun y h3 t3 r3 st3 M3=>hQ y h3 t3 r3 ((st1.trans st2).trans st3) M3)
end
noncomputable def aAg (Q:Value→Shared→Prop):Result→Shared→Prop:=fun r s'=>match r with
  | .ok (.ret v)=>Q v s'
  | .ok _=>False
  | .error _=>False
noncomputable def aA (T:CT) (K:Frag) (hZ:Heap) (n:Nat) (f:Value) (args:List V) (mem:Mem) (post:V→Mem→Prop):Prop :=
  ∀ (A:Around) (S:List Addr) (ρ:List (Addr × Addr)) (s:Shared) (vals:List Value),Rnd A n→MemR T hZ S ρ s.heap mem→RepL T s.heap (aG S ρ) ρ args vals →
    ∀ Q:Value→Shared→Prop,(∀ v mem' ρ' h' tk' w,post v mem'→RepV T h' (aG S ρ') ρ' v w→MemR T hZ S ρ' h' mem'→Step false [] ρ s.heap ρ' h'→Q w { s with heap:=h',toks:=tk' }) →
      codeAny (model T.prog T.w) A (.call f ⟨vals,[]⟩) (aAg Q) s
theorem aA.mono {T:CT} {K:Frag} {hZ:Heap} {n:Nat} {f:Value} {args:List V} {mem:Mem} {P Q:V→Mem→Prop} (x:aA T K hZ n f args mem P) (h:∀ v m,P v m→Q v m):aA T K hZ n f args mem Q :=
  fun A S ρ s vals r M rl Q' hQ=>x A S ρ s vals r M rl Q' fun v m ρ' h' tk w p=>hQ v m ρ' h' tk w (h v m p)
noncomputable def aC {α : Type} (o:Option α) (k:α→Prop):Prop:=match o with
  | some a=>k a
  | none=>False
theorem aD {α : Type} {o:Option α} {k:α→Prop} (h:aC o k):∃ a,o = some a∧k a:=by
  cases o with
  | none=>exact False.elim h
  | some a=>exact ⟨a,rfl,h⟩
noncomputable def seqV (mem:Mem) (v:V):Option (List V):=match v with
  | .lst xs=>some xs
  | .ref k=>dT mem k
  | _=>none
noncomputable def rngV (a b:Int):Option (List V):=if -1000 ≤ a∧a ≤ b∧b ≤ 1000 then some ((List.range (b - a).toNat).map fun (j:Nat)=>.int (a + (j:Int))) else none
noncomputable def oC (mem:Mem) (rg:Bool) (vs:List V):Option (List V):=match rg with
  | true=>two (fun x y=>cW (fun a=>cW (rngV a) y) x) vs
  | false=>(oneOf vs).bind fun v=>(seqV mem v).bind fun xs=>if xs.length ≤ 1000 then some xs else none
noncomputable def putC (is:List Nat) (loc:Locs) (v:V):Option Locs:=match is with
  | []=>none
  | i :: r=>(match r with
    | []=>some (loc.set i (some v))
    | j :: _=>aBQ (two fun a b=>some ((loc.set i (some a)).set j (some b))) v)
noncomputable def aBH (mem:Mem) (loc:Locs) (t:Option PE):Option Bool:=match t with
  | none=>some true
  | some t=>(evP mem loc t).bind truth
noncomputable def nA (mem:Mem) (is:List Nat) (test:Option PE) (elt:PE):Locs→List V→Option (List V)
  | _,[]=>some []
  | loc,x :: xs=>(putC is loc x).bind fun loc1=>(aBH mem loc1 test).bind fun t=>if t = true then (evP mem loc1 elt).bind fun v=>(nA mem is test elt loc1 xs).map (v :: ·) else nA mem is test elt loc1 xs
noncomputable def asGlob (v:V):Option Value:=match v with
  | .glob g=>some g
  | _=>none
theorem asGlob_e {v:V} {g:Value} (h:asGlob v = some g):v = .glob g:=by
  cases v with
  | glob x=>exact congrArg V.glob (Option.some.inj h)
  | _=>exact nn h
inductive MK where
  | fn (f:Addr)
  | append
  | find
  | join
noncomputable def mkO (o:MO) (m:At):Option MK:=match o with
  | .inst c _=>(bM c m).map .fn
  | .lst _=>if m = .aP then some .append else none
  | _=>none
noncomputable def mkOf (mem:Mem) (m:At) (v:V):Option MK:=match v with
  | .ref i=>(mem[i]?).bind fun o=>mkO o m
  | .str _=>if m = .nL then some .find else if m = .tK then some .join else none
  | _=>none
section
variable (T:CT) (K:Frag) (hZ:Heap) (n:Nat)
noncomputable def uF (kd:MK) (ov:V) (vs:List V) (mem:Mem) (k:V→Mem→Prop):Prop:=match kd with
  | .fn f=>aA T K hZ n (.ref f) (ov :: vs) mem k
  | .append=>aC (refOf ov) fun i=>aC (oneOf vs) fun x=>aC (dT mem i) fun xs=>xs.length ≤ 2 ^ 20∧k .none (mem.set i (.lst (xs ++ [x])))
  | .find=>aC (strOf ov) fun x=>aC ((oneOf vs).bind strOf) fun y=>k (.int (Txt.find x y)) mem
  | .join=>aC (strOf ov) fun x=>aC ((oneOf vs).bind refOf) fun i=>aC (dT mem i) fun xs=>aC (strsOf xs) fun l=>JoinOk x l = true∧k (.str (Txt.join x l)) mem
mutual
noncomputable def wpE (loc:Locs):IE→Mem→(V→Mem→Prop)→Prop
  | .p e,mem,k=>aC (evP mem loc e) fun v=>k v mem
  | .call f args,mem,k=>aC (evP mem loc f) fun fv=>aC (asGlob fv) fun g=>isFun g = true∧wpEs loc args mem fun vs m=>aA T K hZ n g vs m k
  | .bi f args,mem,k=>wpEs loc args mem fun vs m=>aC (biV m f vs) fun x=>k x m
  | .meth o m args,mem,k=>wpE loc o mem fun ov m1=>aC (mkOf m1 m ov) fun kd=>wpEs loc args m1 fun vs m2=>uF T K hZ n kd ov vs m2 k
  | .attr e a,mem,k=>wpE loc e mem fun v m=>aC (getA m v a) fun x=>k x m
  | .item e i,mem,k=>wpE loc e mem fun v m=>wpE loc i m fun x m2=>aC (jA m2 v x) fun y=>k y m2
  | .bin op a b,mem,k=>wpE loc a mem fun v m=>wpE loc b m fun x m2=>aC (binV op v x) fun y=>k y m2
  | .cmp op a b,mem,k=>wpE loc a mem fun v m=>wpE loc b m fun x m2=>aC (cmpV m2 op v x) fun y=>k (.bool y) m2
  | .andE a b,mem,k=>wpE loc a mem fun v m=>aC (truth v) fun t=>if t = true then wpE loc b m k else k v m
  | .orE a b,mem,k=>wpE loc a mem fun v m=>aC (truth v) fun t=>if t = true then k v m else wpE loc b m k
  | .notE a,mem,k=>wpE loc a mem fun v m=>aC (truth v) fun t=>k (.bool !t) m
  | .tup es,mem,k=>wpEs loc es mem fun vs m=>vs.length ≤ 1000∧k (.tup vs) m
  | .lst es,mem,k=>wpEs loc es mem fun vs m=>vs.length ≤ 1000∧k (.lst vs) m
  | .lstM es,mem,k=>wpEs loc es mem fun vs m=>vs.length ≤ 1000∧k (.ref m.length) (m ++ [.lst vs])
  | .dictS,mem,k=>k (.ref mem.length) (mem ++ [.sdict []])
  | .dictI,mem,k=>k (.ref mem.length) (mem ++ [.idict []])
  | .comp caps is rg src test elt,mem,k=>(caps.all fun i=>((loc[i]?).join).isSome) = true∧wpEs loc src mem fun vs m=>aC (oC m rg vs) fun xs=>aC (nA m is test elt (caps.map (fun i=>(loc[i]?).join) ++ List.replicate is.length none) xs) fun ys=>k (.lst ys) m
  | .dictM es,mem,k=>wpD loc es mem fun kvs m=>k (.ref m.length) (m ++ [.sdict kvs])
noncomputable def wpEs (loc:Locs):List IE→Mem→(List V→Mem→Prop)→Prop
  | [],mem,k=>k [] mem
  | e :: es,mem,k=>wpE loc e mem fun v m=>wpEs loc es m fun vs m2=>k (v :: vs) m2
noncomputable def wpD (loc:Locs):List (Str × IE)→Mem→(List (Str × V)→Mem→Prop)→Prop
  | [],mem,k=>k [] mem
  | (x,e) :: es,mem,k=>wpE loc e mem fun v m=>wpD loc es m fun vs m2=>k ((x,v) :: vs) m2
end
end
section
variable {T:CT} {K:Frag} {hZ h h':Heap} {env:Env} {Γ:List Str} {L:Addr} {S:List Addr} {ρ ρ':List (Addr × Addr)} {loc:Locs} {mem mem':Mem} {A:Around} {n:Nat}
noncomputable def HE (T:CT) (K:Frag) (hZ:Heap) (n:Nat) (env:Env) (Γ:List Str) (L:Addr) (A:Around) (t:Sem Value) (e:IE):Prop :=
  ∀ (S:List Addr) (ρ:List (Addr × Addr)) (s:Shared) (loc:Locs) (mem:Mem) (k:V→Mem→Prop),Sit T hZ env Γ L S ρ s.heap loc mem→wpE T K hZ n loc e mem k →
    ∀ Q:Value→Shared→Prop,(∀ v mem' ρ' h' tk' w,k v mem'→RepV T h' (aG S ρ') ρ' v w→MemR T hZ S ρ' h' mem'→Step false [] ρ s.heap ρ' h'→Q w { s with heap:=h',toks:=tk' }) →
      wpAny (model T.prog T.w) A t Q (fun _ _=>False) s
noncomputable def HEs (T:CT) (K:Frag) (hZ:Heap) (n:Nat) (env:Env) (Γ:List Str) (L:Addr) (A:Around) (t:Sem (List Value)) (es:List IE):Prop :=
  ∀ (S:List Addr) (ρ:List (Addr × Addr)) (s:Shared) (loc:Locs) (mem:Mem) (k:List V→Mem→Prop),Sit T hZ env Γ L S ρ s.heap loc mem→wpEs T K hZ n loc es mem k →
    ∀ Q:List Value→Shared→Prop,(∀ v mem' ρ' h' tk' w,k v mem'→RepL T h' (aG S ρ') ρ' v w→MemR T hZ S ρ' h' mem'→Step false [] ρ s.heap ρ' h'→Q w { s with heap:=h',toks:=tk' }) →
      wpAny (model T.prog T.w) A t Q (fun _ _=>False) s
noncomputable def HET (T:CT) (K:Frag) (hZ:Heap) (n:Nat) (env:Env) (Γ:List Str) (L:Addr) (A:Around) (t:Sem Bool) (e:IE):Prop :=
  ∀ (S:List Addr) (ρ:List (Addr × Addr)) (s:Shared) (loc:Locs) (mem:Mem) (k:Bool→Mem→Prop),Sit T hZ env Γ L S ρ s.heap loc mem→wpE T K hZ n loc e mem (fun v m=>aC (truth v) fun b=>k b m) →
    ∀ Q:Bool→Shared→Prop,(∀ b mem' ρ' h' tk',k b mem'→MemR T hZ S ρ' h' mem'→Step false [] ρ s.heap ρ' h'→Q b { s with heap:=h',toks:=tk' }) →
      wpAny (model T.prog T.w) A t Q (fun _ _=>False) s
theorem aL {S:List Addr}:∀ a ∈ ([]:List Addr),a ∈ S:=fun _ q=>nomatch q
theorem he_p {t:Sem Value} {e:PE} (hp:∀ S,HP T hZ env Γ L S A t e):HE T K hZ n env Γ L A t (.p e):=by
  intro S ρ s loc mem k Z hw Q hQ
  dsimp only [wpE] at hw
  refine e1a2 (aD hw) fun v hv hk=>?_
  exact hp S ρ s loc mem v Z hv Q fun v' h' tk' r st M=>hQ v mem ρ h' tk' v' hk r M st.plain
theorem het_p {t:Sem Bool} {e:PE} (hp:∀ S,HT T hZ env Γ L S A t e):HET T K hZ n env Γ L A t (.p e):=by
  intro S ρ s loc mem k Z hw Q hQ
  dsimp only [wpE] at hw
  refine e1a2 (aD hw) fun v hv hk=>?_
  refine e1a2 (aD hk) fun b hb hk=>?_
  exact hp S ρ s loc mem v b Z hv hb Q fun h' tk' st M=>hQ b mem ρ h' tk' hk M st.plain
theorem zP {pos:Pos}:HEs T K hZ n env Γ L A (spliced (backTo pos (starEach [] env))) []:=by
  intro S ρ s loc mem k Z hw Q hQ
  exact spliced_none (hQ [] mem ρ s.heap s.toks [] hw bE Z.M (Step.refl ..))
theorem pN {e:Expr} {es:List Expr} {ie:IE} {ies:List IE} {pos:Pos} (hn:notStar e = true) (he:HE T K hZ n env Γ L A (eval e env) ie) (hr:HEs T K hZ n env Γ L A (spliced (backTo pos (starEach es env))) ies) :
    HEs T K hZ n env Γ L A (spliced (backTo pos (starEach (e :: es) env))) (ie :: ies):=by
  intro S ρ s loc mem k Z hw Q hQ
  dsimp only [wpEs] at hw
  refine spliced_more (he S ρ s loc mem _ Z hw _ fun v m1 ρ1 h1 t1 w k1 r1 M1 st1=>?_) (gR hn)
  refine hr S ρ1 { s with heap:=h1,toks:=t1 } loc m1 _ (Z.step st1 M1) k1 _ fun vs m2 ρ2 h2 t2 ws k2 r2 M2 st2=>?_
  exact hQ _ m2 ρ2 h2 t2 _ k2 (bB (RepV.step st2 aL r1) r2) M2 (st1.trans st2)
theorem he_attr {e:Expr} {ie:IE} {a:At} {pos:Pos} (St:Stat T K hZ) (hs:dZ e = true) (he:HE T K hZ n env Γ L A (eval e env) ie):HE T K hZ n env Γ L A (eval (.Attribute e a.name pos) env) (.attr ie a):=by
  intro S ρ s loc mem k Z hw Q hQ
  dsimp only [wpE] at hw
  refine rZ hs (he S ρ s loc mem _ Z hw _ fun v m1 ρ1 h1 t1 w k1 r1 M1 st1=>?_)
  refine e1a2 (aD k1) fun x hx hk=>?_
  exact get_A (s:={ s with heap:=h1,toks:=t1 }) St (Z.step st1 M1) r1 hx fun y hy=>hQ x m1 ρ1 h1 (t1 + 1) y hk hy M1 st1
theorem he_item {e i:Expr} {pe pi:IE} {pos:Pos} (hn:dJ i = true) (he:HE T K hZ n env Γ L A (eval e env) pe) (hi:HE T K hZ n env Γ L A (eval i env) pi):HE T K hZ n env Γ L A (eval (.Subscript e i pos) env) (.item pe pi):=by
  intro S ρ s loc mem k Z hw Q hQ
  dsimp only [wpE] at hw
  refine Subscript_ (he S ρ s loc mem _ Z hw _ fun v m1 ρ1 h1 t1 w k1 r1 M1 st1=>?_)
  refine hi S ρ1 { s with heap:=h1,toks:=t1 } loc m1 _ (Z.step st1 M1) k1 _ fun x m2 ρ2 h2 t2 w2 k2 r2 M2 st2=>?_
  refine e1a2 (aD k2) fun y hy hk=>?_
  exact item_V (s:={ s with heap:=h2,toks:=t2 }) ((Z.step st1 M1).step st2 M2) hn (RepV.step st2 aL r1) r2 hy fun z tk' rz=>hQ y m2 ρ2 h2 tk' z hk rz M2 (st1.trans st2)
theorem he_bin {op:Operator} {e i:Expr} {pe pi:IE} {pos:Pos} (he:HE T K hZ n env Γ L A (eval e env) pe) (hi:HE T K hZ n env Γ L A (eval i env) pi):HE T K hZ n env Γ L A (eval (.BinOp e op i pos) env) (.bin op pe pi):=by
  intro S ρ s loc mem k Z hw Q hQ
  dsimp only [wpE] at hw
  refine wpAny_BinOp (he S ρ s loc mem _ Z hw _ fun v m1 ρ1 h1 t1 w k1 r1 M1 st1=>?_)
  refine hi S ρ1 { s with heap:=h1,toks:=t1 } loc m1 _ (Z.step st1 M1) k1 _ fun x m2 ρ2 h2 t2 w2 k2 r2 M2 st2=>?_
  refine e1a2 (aD k2) fun y hy hk=>?_
  exact bin_V (s:={ s with heap:=h2,toks:=t2 }) M2 (RepV.step st2 aL r1) r2 hy fun z h3 tk' rz st3 M3=>hQ y m2 ρ2 h3 tk' z hk rz M3 ((st1.trans st2).trans st3.plain)
theorem he_cmp {op:CmpOp} {e i:Expr} {pe pi:IE} {pos:Pos} (St:Stat T K hZ) (R:Rnd A n) (hm:behindInMarks op i = false) (he:HE T K hZ n env Γ L A (eval e env) pe) (hi:HE T K hZ n env Γ L A (eval i env) pi) :
    HE T K hZ n env Γ L A (eval (.Compare e [op] [i] pos) env) (.cmp op pe pi):=by
  intro S ρ s loc mem k Z hw Q hQ
  dsimp only [wpE] at hw
  refine wpAny_Compare1 (he S ρ s loc mem _ Z hw _ fun v m1 ρ1 h1 t1 w k1 r1 M1 st1=>?_) hm
  refine hi S ρ1 { s with heap:=h1,toks:=t1 } loc m1 _ (Z.step st1 M1) k1 _ fun x m2 ρ2 h2 t2 w2 k2 r2 M2 st2=>?_
  refine e1a2 (aD k2) fun y hy hk=>?_
  exact aCF (s:={ s with heap:=h2,toks:=t2 }) St (by have:=R.units; lia) M2 (RepV.step st2 aL r1) r2 hy fun tk=>hQ (.bool y) m2 ρ2 h2 tk _ hk rfl M2 (st1.trans st2)
theorem het_cmp {op:CmpOp} {e i:Expr} {pe pi:IE} {pos:Pos} {whole:Sem Value} (St:Stat T K hZ) (R:Rnd A n) (hm:behindInMarks op i = false) (he:HE T K hZ n env Γ L A (eval e env) pe) (hi:HE T K hZ n env Γ L A (eval i env) pi) :
    HET T K hZ n env Γ L A (isTrue (.Compare e [op] [i] pos) env whole) (.cmp op pe pi):=by
  intro S ρ s loc mem k Z hw Q hQ
  dsimp only [wpE] at hw
  refine wpAny_isTrue_Compare1 (he S ρ s loc mem _ Z hw _ fun v m1 ρ1 h1 t1 w k1 r1 M1 st1=>?_) hm
  refine hi S ρ1 { s with heap:=h1,toks:=t1 } loc m1 _ (Z.step st1 M1) k1 _ fun x m2 ρ2 h2 t2 w2 k2 r2 M2 st2=>?_
  refine e1a2 (aD k2) fun y hy hk=>?_
  refine e1a2 (aD hk) fun b hb hk=>?_
  cases hb
  exact aCF (s:={ s with heap:=h2,toks:=t2 }) St (by have:=R.units; lia) M2 (RepV.step st2 aL r1) r2 hy fun tk=>wpAny_pure (hQ y m2 ρ2 h2 tk hk M2 (st1.trans st2))
theorem aEJ {e:Expr} {whole:Sem Value} {pe:IE} (hp:HE T K hZ n env Γ L A whole pe) (he:isTrue e env whole = (do let v ← whole; standAt e.pos; holding [v] (truthy v))):HET T K hZ n env Γ L A (isTrue e env whole) pe:=by
  intro S ρ s loc mem k Z hw Q hQ
  rw [he]
  refine wpAny_bind (hp S ρ s loc mem _ Z hw _ fun v m1 ρ1 h1 t1 w k1 r1 M1 st1=>wpAny_bind (wpAny_standAt (wpAny_holding ?_)))
  refine e1a2 (aD k1) fun b hb hk=>?_
  exact gK (s:={ s with heap:=h1,toks:=t1 }) r1 hb (hQ b m1 ρ1 h1 t1 hk M1 st1)
theorem aDk {v:V} {k:Bool→V→Prop} {p q:Prop} (ht:truth v = some true→k true v = p) (hf:truth v = some false→k false v = q):aC (truth v) (fun t=>k t v) = aC (truth v) fun t=>if t = true then p else q:=by
  cases h:truth v with
  | none=>rfl
  | some t =>
    cases t with
    | true=>exact ht h
    | false=>exact hf h
theorem het_and {x:Expr} {r:List Expr} {a b:IE} (hx:HET T K hZ n env Γ L A (isTrue x env (eval x env)) a) (hy:HET T K hZ n env Γ L A (allTrue .And r env) b):HET T K hZ n env Γ L A (allTrue .And (x :: r) env) (.andE a b):=by
  intro S ρ s loc mem k Z hw Q hQ
  dsimp only [wpE] at hw
  have hw':wpE T K hZ n loc a mem (fun v m=>aC (truth v) fun t=>if t = true then wpE T K hZ n loc b m (fun v m=>aC (truth v) fun b=>k b m) else k false m) :=
    cast (congrArg _ (funext fun v=>funext fun m=>aDk (k:=fun t v=>if t = true then wpE T K hZ n loc b m (fun v m=>aC (truth v) fun b=>k b m) else aC (truth v) fun b=>k b m) (fun _=>rfl) fun h=>congrArg (fun o=>aC o fun b=>k b m) h)) hw
  refine wpAny_allTrue_And_cons (hx S ρ s loc mem _ Z hw' _ fun t m1 ρ1 h1 t1 k1 M1 st1=>?_)
  cases t with
  | true =>
    exact hy S ρ1 { s with heap:=h1,toks:=t1 } loc m1 _ (Z.step st1 M1) k1 _ fun b m2 ρ2 h2 t2 k2 M2 st2=>hQ b m2 ρ2 h2 t2 k2 M2 (st1.trans st2)
  | false =>
    exact hQ false m1 ρ1 h1 t1 k1 M1 st1
theorem wT {x:Expr} {a:IE} (hx:HET T K hZ n env Γ L A (isTrue x env (eval x env)) a):HET T K hZ n env Γ L A (allTrue .And [x] env) a:=by
  intro S ρ s loc mem k Z hw Q hQ
  refine wpAny_allTrue_And_cons (hx S ρ s loc mem k Z hw _ fun t m1 ρ1 h1 t1 k1 M1 st1=>?_)
  cases t with
  | true=>exact wpAny_allTrue_And_nil (hQ true m1 ρ1 h1 t1 k1 M1 st1)
  | false=>exact hQ false m1 ρ1 h1 t1 k1 M1 st1
theorem het_or {x:Expr} {r:List Expr} {a b:IE} (hx:HET T K hZ n env Γ L A (isTrue x env (eval x env)) a) (hy:HET T K hZ n env Γ L A (allTrue .Or r env) b):HET T K hZ n env Γ L A (allTrue .Or (x :: r) env) (.orE a b):=by
  intro S ρ s loc mem k Z hw Q hQ
  dsimp only [wpE] at hw
  have hw':wpE T K hZ n loc a mem (fun v m=>aC (truth v) fun t=>if t = true then k true m else wpE T K hZ n loc b m (fun v m=>aC (truth v) fun b=>k b m)) :=
    cast (congrArg _ (funext fun v=>funext fun m=>aDk (k:=fun t v=>if t = true then aC (truth v) fun b=>k b m else wpE T K hZ n loc b m (fun v m=>aC (truth v) fun b=>k b m)) (fun h=>congrArg (fun o=>aC o fun b=>k b m) h) fun _=>rfl)) hw
  refine wpAny_allTrue_Or_cons (hx S ρ s loc mem _ Z hw' _ fun t m1 ρ1 h1 t1 k1 M1 st1=>?_)
  cases t with
  | true =>
    exact hQ true m1 ρ1 h1 t1 k1 M1 st1
  | false =>
    exact hy S ρ1 { s with heap:=h1,toks:=t1 } loc m1 _ (Z.step st1 M1) k1 _ fun b m2 ρ2 h2 t2 k2 M2 st2=>hQ b m2 ρ2 h2 t2 k2 M2 (st1.trans st2)
theorem zO {x:Expr} {a:IE} (hx:HET T K hZ n env Γ L A (isTrue x env (eval x env)) a):HET T K hZ n env Γ L A (allTrue .Or [x] env) a:=by
  intro S ρ s loc mem k Z hw Q hQ
  refine wpAny_allTrue_Or_cons (hx S ρ s loc mem k Z hw _ fun t m1 ρ1 h1 t1 k1 M1 st1=>?_)
  cases t with
  | true=>exact hQ true m1 ρ1 h1 t1 k1 M1 st1
  | false=>exact wpAny_allTrue_Or_nil (hQ false m1 ρ1 h1 t1 k1 M1 st1)
theorem aAQ {op:BoolOp} {es:List Expr} {pos:Pos} {whole:Sem Value} {a:IE} (h:HET T K hZ n env Γ L A (allTrue op es env) a):HET T K hZ n env Γ L A (isTrue (.BoolOp op es pos) env whole) a:=by
  intro S ρ s loc mem k Z hw Q hQ
  exact wpAny_isTrue_BoolOp (h S ρ s loc mem k Z hw Q hQ)
theorem het_not {e:Expr} {pe:IE} {pos:Pos} {whole:Sem Value} (he:HET T K hZ n env Γ L A (isTrue e env (eval e env)) pe):HET T K hZ n env Γ L A (isTrue (.UnaryOp .Not e pos) env whole) (.notE pe):=by
  intro S ρ s loc mem k Z hw Q hQ
  dsimp only [wpE] at hw
  have hw':wpE T K hZ n loc pe mem (fun v m=>aC (truth v) fun t=>k (!t) m):=by
    refine cast (congrArg _ ?_) hw
    funext v m
    cases hv:truth v <;> rfl
  exact PyProof.Rows.isTrue_not (he S ρ s loc mem _ Z hw' _ fun b m1 ρ1 h1 t1 k1 M1 st1=>hQ (!b) m1 ρ1 h1 t1 k1 M1 st1)
theorem he_not {e:Expr} {pe:IE} {pos:Pos} (he:HE T K hZ n env Γ L A (eval e env) pe):HE T K hZ n env Γ L A (eval (.UnaryOp .Not e pos) env) (.notE pe):=by
  intro S ρ s loc mem k Z hw Q hQ
  dsimp only [wpE] at hw
  refine wpAny_UnaryOp (he S ρ s loc mem _ Z hw _ fun v m1 ρ1 h1 t1 w k1 r1 M1 st1=>PyProof.Rows.not_of ?_)
  refine e1a2 (aD k1) fun c hc hk=>?_
  exact gK (s:={ s with heap:=h1,toks:=t1 }) r1 hc (hQ _ m1 ρ1 h1 t1 _ hk rfl M1 st1)
theorem he_tup {es:List Expr} {ies:List IE} {c:Nat} {pos:Pos} (hr:HEs T K hZ n env Γ L A (spliced (backTo pos (starEach es env))) ies):HE T K hZ n env Γ L A (eval (.Tuple es c pos) env) (.tup ies):=by
  intro S ρ s loc mem k Z hw Q hQ
  dsimp only [wpE] at hw
  refine wpAny_Tuple (hr S ρ s loc mem _ Z hw _ fun vs m1 ρ1 h1 t1 ws k1 r1 M1 st1=>⟨?_,?_⟩)
  · rw [aK _ _ r1]; exact tT k1.1
  · exact hQ _ m1 ρ1 _ t1 _ k1.2 (aAJ (Z.step st1 M1) r1) (M1.push _) (st1.trans (Step.push ..))
theorem he_lst {es:List Expr} {ies:List IE} {pos:Pos} (hr:HEs T K hZ n env Γ L A (spliced (backTo pos (starEach es env))) ies):HE T K hZ n env Γ L A (eval (.List es pos) env) (.lst ies):=by
  intro S ρ s loc mem k Z hw Q hQ
  dsimp only [wpE] at hw
  refine wpAny_List (hr S ρ s loc mem _ Z hw _ fun vs m1 ρ1 h1 t1 ws k1 r1 M1 st1=>⟨?_,?_⟩)
  · rw [aK _ _ r1]; exact tT k1.1
  · exact hQ _ m1 ρ1 _ t1 _ k1.2 (aAK (Z.step st1 M1) r1) (M1.push _) (st1.trans (Step.push ..))
theorem made_M (St:Stat T K hZ) (M:MemR T hZ S ρ h mem) {vs:List V} {vs':List Value} (r:RepL T h (aG S ρ) ρ vs vs') :
    MemR T hZ S (ρ ++ [(h.objs.size,h.objs.size)]) (h.push (loOf vs'.toArray 0)) (mem ++ [.lst vs])∧Step false [] ρ h (ρ ++ [(h.objs.size,h.objs.size)]) (h.push (loOf vs'.toArray 0)):=by
  have st:Step false [] ρ h (ρ ++ [(h.objs.size,h.objs.size)]) (h.push (loOf vs'.toArray 0)) :=
    ⟨⟨_,rfl⟩,by rw [List.drop_left]; intro q hq; cases List.mem_singleton.mp hq; exact ⟨aR h,aR h⟩,fun _ x e=>⟨x,Heap.get?_push_of_some _ e⟩,fun _ _ e _ _=>Heap.get?_push_of_some _ e⟩
  exact M.add (fun _ _ e=>Heap.get?_push_of_some _ e) (aR h) (aR h) (St.grown M) (St.grown M) ⟨rfl,vs'.toArray,0,Heap.get?_push_size _ rfl,RepL.step st aL r⟩
theorem he_lstM {es:List Expr} {ies:List IE} {pos:Pos} (St:Stat T K hZ) (hr:HEs T K hZ n env Γ L A (spliced (backTo pos (starEach es env))) ies):HE T K hZ n env Γ L A (eval (.List es pos) env) (.lstM ies):=by
  intro S ρ s loc mem k Z hw Q hQ
  dsimp only [wpE] at hw
  refine wpAny_List (hr S ρ s loc mem _ Z hw _ fun vs m1 ρ1 h1 t1 ws k1 r1 M1 st1=>⟨?_,?_⟩)
  · rw [aK _ _ r1]; exact tT k1.1
  · obtain ⟨M2,st2⟩:=made_M St M1 r1
    refine hQ _ _ _ _ t1 _ k1.2 ?_ M2 (st1.trans st2)
    exact ⟨(h1.objs.size,h1.objs.size),by rw [← M1.len]; simp,rfl⟩
theorem he_dictS {pos:Pos} (St:Stat T K hZ):HE T K hZ n env Γ L A (eval (.Dict [] [] pos) env) .dictS:=by
  intro S ρ s loc mem k Z hw Q hQ
  dsimp only [wpE] at hw
  refine wpAny_Dict_empty ?_
  have add:=Z.M.add (p:=(s.heap.objs.size,s.heap.objs.size)) (o:=.sdict []) (h':=s.heap.push { cls:=.type "dict",data:=.dict #[] }) (fun _ _ e=>Heap.get?_push_of_some _ e) (aR _) (aR _) (St.grown Z.M) (St.grown Z.M)
    ⟨rfl,[],Heap.DictOf.new _,rfl,bE⟩
  exact hQ _ _ _ _ s.toks _ hw ⟨(s.heap.objs.size,s.heap.objs.size),by rw [← Z.M.len]; simp,rfl⟩ add.1 add.2
theorem he_dictI {pos:Pos} (St:Stat T K hZ):HE T K hZ n env Γ L A (eval (.Dict [] [] pos) env) .dictI:=by
  intro S ρ s loc mem k Z hw Q hQ
  dsimp only [wpE] at hw
  refine wpAny_Dict_empty ?_
  have add:=Z.M.add (p:=(s.heap.objs.size,s.heap.objs.size)) (o:=.idict []) (h':=s.heap.push { cls:=.type "dict",data:=.dict #[] }) (fun _ _ e=>Heap.get?_push_of_some _ e) (aR _) (aR _) (St.grown Z.M) (St.grown Z.M)
    ⟨rfl,[],Heap.DictOf.new _,rfl,bE⟩
  exact hQ _ _ _ _ s.toks _ hw ⟨(s.heap.objs.size,s.heap.objs.size),by rw [← Z.M.len]; simp,rfl⟩ add.1 add.2
theorem cw_K {E:Value→Shared→Prop} {s:Shared} {pos:Pos} {f:Value} {first:List Value} {es:List Expr} {Q:Value→Shared→Prop} {M:Model} (X:K.In s.heap) (hk:keepIn K f = true) (hs:es.all notStar = true)
    (h:wpAny M A (spliced (backTo pos (starEach es env))) (fun vs s₁=>K.In s₁.heap∧wpAny M A (call f (first ++ vs)) Q E s₁) E s):wpAny M A (callWith pos f first (backTo pos (starEach es env)) []) Q E s:=by
  cases es with
  | nil =>
    have h2:wpAny M A (pure []:Sem (List Value)) (fun vs s₁=>K.In s₁.heap∧wpAny M A (call f (first ++ vs)) Q E s₁) E s:=h
    exact callWith_K0 X hk fun Γ p hΓ=>(h2 Γ p hΓ).2 Γ p hΓ
  | cons e r =>
    simp only [List.all_cons,Bool.and_eq_true] at hs
    exact callWith_K X hk h (gR hs.1) (kO hs.2)
theorem aFE {E:Value→Shared→Prop} {s:Shared} {f:Value} {vals:List Value} {Q:Value→Shared→Prop} {M:Model} (h:codeAny M A (.call f ⟨vals,[]⟩) (aAg Q) s):wpAny M A (call f vals) Q E s :=
  wpAny_call (codeAny_mono h fun r s' z=>by
    rcases r with e | f
    · exact z.elim
    · cases f <;> first | exact z | exact z.elim)
theorem he_call {x:Str} {np pos:Pos} {es:List Expr} {pf:PE} {ies:List IE} (St:Stat T K hZ) (R:Rnd A n) (hf:∀ S,HP T hZ env Γ L S A (eval (.Name x np) env) pf) (hs:es.all notStar = true)
    (hr:HEs T K hZ n env Γ L A (spliced (backTo pos (starEach es env))) ies):HE T K hZ n env Γ L A (eval (.Call (.Name x np) es [] pos) env) (.call pf ies):=by
  intro S ρ s loc mem k Z hw Q hQ
  dsimp only [wpE] at hw
  refine e1a2 (aD hw) fun fv hfv hw=>?_
  refine e1a3 (aD hw) fun g eg hf1 hz=>wpAny_Call_ofName (hf S ρ s loc mem fv Z hfv _ fun g' h1 t1 r1 st1 M1=>?_)
  obtain rfl:=asGlob_e eg
  obtain rfl:g' = g:=r1.1
  refine cw_K (M:=model T.prog T.w) (first:=[]) (St.X.keeps M1.keep) (St.funs g' hf1) hs ?_
  refine hr S ρ { s with heap:=h1,toks:=t1 } loc mem _ (Z.step st1 M1) hz _ fun vs m2 ρ2 h2 t2 ws k2 r2 M2 st2=>⟨St.X.keeps M2.keep,?_⟩
  exact aFE <| k2 A S ρ2 { s with heap:=h2,toks:=t2 } ws R M2 r2 _ fun v m3 ρ3 h3 t3 w k3 r3 M3 st3=>hQ v m3 ρ3 h3 t3 w k3 r3 M3 ((st1.plain.trans st2).trans st3)
theorem aEd {M:Model} {E:Value→Shared→Prop} {s:Shared} {o:Expr} {name:Str} {apos pos:Pos} {es:List Expr} {Q:Value→Shared→Prop} (hs:dZ o = true) (hns:es.all notStar = true) (hl:es.length < 30)
    (hp:(apos.endLine == pos.line) = true) (h:wpAny M A (eval o env) (fun ov s₁=>∀ pl,wpAny M A (getMethod ov name pl) (fun fx s₂=>wpAny M A (callWith pos fx.1 fx.2 (backTo pos (starEach es env)) []) Q E s₂) E s₁) E s) :
    wpAny M A (eval (.Call (.Attribute o name apos) es [] pos) env) Q E s:=by
  have he:eval (.Call (.Attribute o name apos) es [] pos) env = (do
    let ov ← attributeBase o name env (eval o env)
    standAt apos.atName
    methodCall o name apos pos env ov (es.length + 0) (backTo pos (starEach es env)) (backToKw pos (keywordEach [] env))):=by
    first | rfl | (unfold eval; rfl)
  have hform:methodCallForm (es.length + 0) (backTo pos (starEach es env)) (backToKw pos (keywordEach [] env)) = true:=by
    have z:=kO (env:=env) (pos:=pos) hns
    unfold methodCallForm
    have e1:(backTo pos (starEach es env)).all (!·.1) = true:=by
      rw [List.all_eq_true]
      intro x hx
      rw [List.any_eq_false] at z
      simpa using z x hx
    rw [e1]
    simp only [keywordEach,backToKw,List.map_nil,List.all_nil,List.isEmpty_nil,if_true,Bool.and_self,Bool.true_and,decide_eq_true_eq]
    lia
  rw [he,xZ hs]
  refine wpAny_bind (wpAny_mono h (fun ov s₁ h₁=>wpAny_bind (wpAny_standAt ?_)) fun _ _ q=>q)
  unfold methodCall
  rw [hform]
  refine wpAny_bind (wpAny_holding ?_)
  show wpAny M A (getMethod ov name _) _ _ _
  refine wpAny_mono (h₁ _) (fun fx s₂ h₂=>?_) fun _ _ q=>q
  obtain ⟨f,first⟩:=fx
  show wpAny M A (methodCallPos true o env apos pos >>= _) _ _ _
  have hpos:methodCallPos true o env apos pos = pure pos:=by
    unfold methodCallPos
    rw [hp]
    rfl
  rw [hpos]
  exact wpAny_bind (wpAny_pure h₂)
theorem aDN {bad:List Addr} (ns:List At) (fs:List V) (es:List DictEntry) (r:RepF T h bad ρ ns fs es):∀ a:At,ns.contains a = false→getL a.name es = some none :=
  iC (P:=fun ns _ es=>∀ a:At,ns.contains a = false→getL a.name es = some none) (fun _ _ _=>rfl) (fun m ns y ys e t hk _ _ ih a hc=>by
    rw [List.contains_cons,Bool.or_eq_false_iff] at hc
    exact hk.elim fun tk hkey=>(wW (key_ne hkey fun q=>(beq_eq_false_iff_ne.mp hc.1) q.symm).1 (key_ne hkey fun q=>(beq_eq_false_iff_ne.mp hc.1) q.symm).2).trans (ih a hc.2)) fs ns es r
theorem aEn {E:Value→Shared→Prop} {s:Shared} {D:Addr} {items:Array Value} {x:Str} {t:Tok} {ys:List Str} {Q:Value→Shared→Prop} {prog:Program} {w:World} (hl:s.heap.IsList D items) (hi:StrsAre items.toList ys) (hok:JoinOk x ys = true)
    (h:∀ t' k,Q (.str (Txt.join x ys) t') { s with toks:=k }):wpAny (model prog w) A (call (.builtin "str.join") [.str x t,.ref D]) Q E s:=by
  obtain ⟨l,hl1,hl2⟩ : ∃ l:List (Str × Tok),items.toList = strValues l∧l.map (·.1) = ys:=by
    clear hl hok h
    generalize items.toList = vs at hi
    induction hi with
    | nil=>exact ⟨[],rfl,rfl⟩
    | cons a t _ ih =>
      refine e1a2 ih fun l e1 e2=>?_
      exact ⟨(a,t) :: l,by rw [e1]; rfl,by rw [← e2]; rfl⟩
  have hx:items = (strValues l).toArray:=by rw [← hl1]
  exact SC.join (hx ▸ hl) hl2 hok h
theorem he_bi {x:Str} {np pos:Pos} {es:List Expr} {pes:List IE} {f:BI} {v:Value} (St:Stat T K hZ) (hh:A.handled = none) (O:dX env Γ L) (hk:env.kindOf x = some .globalImplicit) (hd:(x == ("__debug__" : Str)) = false)
    (hg:hH K x = some v) (hi:handedIn v = true) (hf:biOf v = some f) (hne:es ≠ []) (hs:es.all notStar = true) (hr:HEs T K hZ n env Γ L A (spliced (backTo pos (starEach es env))) pes) :
    HE T K hZ n env Γ L A (eval (.Call (.Name x np) es [] pos) env) (.bi f pes):=by
  intro S ρ s loc mem k Z hw Q hQ
  dsimp only [wpE] at hw
  obtain rfl:=aBx hf
  refine wpAny_Call_ofName (qP (T:=T) (S:=S) (A:=A) (pos:=np) (Γ:=Γ) (L:=L) St O hk hd hg hi ρ s loc mem _ Z rfl _ fun fv h1 t1 r1 st1 M1=>?_)
  obtain rfl:=aEN r1
  exact cw_bi hne hs (hr S ρ { s with heap:=h1,toks:=t1 } loc mem _ (Z.step st1 M1) hw _ fun vs m2 ρ2 h2 t2 vs' k2 r2 M2 st2=>e1a2 (aD k2) fun y hy hk2 =>
    bi_V (s:={ s with heap:=h2,toks:=t2 }) hh M2 r2 hy fun y' h3 t3 r3 st3 M3=>hQ _ m2 ρ2 h3 t3 y' hk2 r3 M3 ((st1.plain.trans st2).trans st3.plain))
theorem he_meth {o:Expr} {m:At} {apos pos:Pos} {es:List Expr} {io:IE} {ies:List IE} (St:Stat T K hZ) (R:Rnd A n) (hs:dZ o = true) (hns:es.all notStar = true) (hl:es.length < 30) (hp:(apos.endLine == pos.line) = true)
    (ho:HE T K hZ n env Γ L A (eval o env) io) (hr:HEs T K hZ n env Γ L A (spliced (backTo pos (starEach es env))) ies):HE T K hZ n env Γ L A (eval (.Call (.Attribute o m.name apos) es [] pos) env) (.meth io m ies):=by
  intro S ρ s loc mem k Z hw Q hQ
  dsimp only [wpE] at hw
  refine aEd hs hns hl hp (ho S ρ s loc mem _ Z hw _ fun ov m1 ρ1 h1 t1 w k1 r1 M1 st1=>?_)
  intro pl
  refine e1a2 (aD k1) fun kd hkd hw=>?_
  have Z1:=Z.step st1 M1
  obtain ⟨mm,F⟩:=Z1.fr
  have body:∀ (post:List V→Mem→Prop),wpEs T K hZ n loc ies m1 post→∀ Q':List Value→Shared→Prop,
      (∀ vs m2 ρ2 h2 t2 ws,post vs m2→RepL T h2 (aG S ρ2) ρ2 vs ws→RepV T h2 (aG S ρ2) ρ2 ov w→MemR T hZ S ρ2 h2 m2→Step false [] ρ s.heap ρ2 h2→Q' ws { s with heap:=h2,toks:=t2 }) →
      wpAny (model T.prog T.w) A (spliced (backTo pos (starEach es env))) Q' (fun _ _=>False) { s with heap:=h1,toks:=t1 }:=fun post hpost Q' hQ' =>
    hr S ρ1 { s with heap:=h1,toks:=t1 } loc m1 _ Z1 hpost _ fun vs m2 ρ2 h2 t2 ws k2 r2 M2 st2=>hQ' vs m2 ρ2 h2 t2 ws k2 r2 (RepV.step st2 aL r1) M2 (st1.trans st2)
  cases ov with
  | ref i =>
    refine e1a2 r1 fun p hp1 e0q=>?_
    subst e0q
    refine e1a2 (Option.bind_eq_some_iff.mp hkd) fun o hm hkd=>?_
    cases o with
    | inst c fs =>
      refine e1a2 (Option.map_eq_some_iff.mp hkd) fun f hf e0q=>?_
      subst e0q
      refine e2a4 (M1.rep _ p _ hp1 hm) fun es' nn _ e1 e2 rf=>?_
      refine e0a4 (St.meth c m f hf) fun q1 q2 q3 q4=>?_
      have q0:plainGet K (addrOf c) m.name = true:=by
        have z:=St.cls c
        have:∃ a,a ∈ lay c:=by cases c <;> exact ⟨_,.head _⟩
        obtain ⟨a,ha⟩:=this
        exact (jZ z ha).1
      refine method_inst F St.X (I:=⟨e1,rfl,rfl,e2⟩) q0 q1 q2 (aDN _ _ _ rf m q4) ?_
      refine cw_K (M:=model T.prog T.w) (St.X.keeps M1.keep) q3 hns ?_
      refine body _ hw _ fun vs m2 ρ2 h2 t2 ws k2 r2 ro M2 st2=>⟨St.X.keeps M2.keep,?_⟩
      exact aFE <| k2 A S ρ2 { s with heap:=h2,toks:=t2 } (_ :: ws) R M2 (bB ro r2) _ fun v m3 ρ3 h3 t3 w k3 r3 M3 st3=>hQ v m3 ρ3 h3 t3 w k3 r3 M3 (st2.trans st3)
    | lst xs =>
      refine aEr hkd (fun hq e0q=>?_) fun _ h=>nomatch h
      subst hq e0q
      obtain ⟨pe,items,nn,e1,rl⟩:=M1.rep _ p _ hp1 hm
      refine getMethod_builtin (cJ e1).typeIs PySem.F.plainAttrs_list PySem.F.slot_list_append PySem.F.type_list_append (fun a e=>by cases e; exact ⟨_,e1,rfl⟩) ?_
      refine hJ hns ?_
      refine body _ hw _ fun vs m2 ρ2 h2 t2 ws k2 r2 ro M2 st2=>?_
      refine e1a2 ro fun p2 hp2 ep=>?_
      refine e1a2 (aD k2) fun x hx k2=>?_
      cases uB hx
      refine e1a2 (aD k2) fun xs2 hm2 k2=>?_
      replace hm2:=eP hm2
      refine e1a2 (pJ r2) fun v e0q rv=>?_
      subst e0q
      obtain ⟨ee,items2,n2,e5,rl2⟩:=M2.rep _ p2 _ hp2 hm2
      rw [ep]
      have hlen:=aK _ _ rl2
      rw [Array.length_toList] at hlen
      refine append_at (s:={ s with heap:=h2,toks:=t2 }) (D:=p2.1) (its:=items2) (n:=n2) (x:=v) e5 (fun h3 hs3 ho3=>?_) (by rw [hlen]; exact Nat.le_trans k2.1 (by decide))
      have stx:Step false [] ρ2 h2 ρ2 h3:=Step.same ρ2 (by rw [← ee]; exact hs3) (List.mem_map_of_mem (List.mem_of_getElem? hp2)) ⟨_,by rw [← ee]; exact ho3⟩
      have upd:=M2.set (o':=.lst (xs2 ++ [x])) hp2 hm2 (by rw [← ee]; exact hs3) ⟨ee,items2.push v,n2 + 1,ho3,by
        rw [Array.toList_push]
        exact dB (RepL.step stx aL rl2) (bB (RepV.step stx aL rv) bE)⟩
      exact hQ .none _ ρ2 h3 t2 .none k2.2 rfl upd.1 (st2.trans upd.2)
    | _=>cases hkd
  | str x =>
    obtain ⟨tx,rfl⟩:=r1
    refine aEr hkd (fun hq e0q=>?_) fun _ hkd=>aEr hkd (fun hq e0q=>?_) fun _ h=>nomatch h
    · subst hq e0q
      refine getMethod_builtin (typeIs_str _ _ _) PySem.F.plainAttrs_str PySem.F.slot_str_find PySem.F.type_str_find (fun a e=>by cases e) ?_
      refine hJ hns ?_
      refine body _ hw _ fun vs m2 ρ2 h2 t2 ws k2 r2 ro M2 st2=>?_
      refine e1a2 (aD k2) fun y hy k2=>?_
      refine e1a2 (Option.bind_eq_some_iff.mp hy) fun y' hy1 hy2=>?_
      cases uB hy1
      cases yM hy2
      obtain ⟨v,rfl,ty,rfl⟩:=pJ r2
      exact SC.find (hQ _ m2 ρ2 h2 _ _ k2 ⟨_,rfl⟩ M2 st2)
    · subst hq e0q
      refine getMethod_builtin (typeIs_str _ _ _) PySem.F.plainAttrs_str PySem.F.slot_str_join PySem.F.type_str_join (fun a e=>by cases e) ?_
      refine hJ hns ?_
      refine body _ hw _ fun vs m2 ρ2 h2 t2 ws k2 r2 ro M2 st2=>?_
      refine e1a2 (aD k2) fun i hy k2=>?_
      refine e1a2 (Option.bind_eq_some_iff.mp hy) fun y' hy1 hy2=>?_
      cases uB hy1
      cases uA hy2
      refine e1a2 (aD k2) fun xs hm k2=>?_
      replace hm:=eP hm
      refine e1a3 (aD k2) fun l hl hok hk=>?_
      obtain ⟨v,rfl,p2,hp2,rfl⟩:=pJ r2
      obtain ⟨ee,items,n2,e5,rl⟩:=M2.rep _ p2 _ hp2 hm
      exact aEn (cJ e5) (nP _ _ _ rl hl) hok fun t' k=>hQ _ m2 ρ2 h2 _ _ hk ⟨_,rfl⟩ M2 st2
  | _=>cases hkd
end
section
variable {T:CT} {K:Frag} {hZ h h':Heap} {env:Env} {Γ:List Str} {L:Addr} {S:List Addr} {ρ ρ':List (Addr × Addr)} {loc:Locs} {mem mem':Mem} {A:Around} {n:Nat}
theorem attr_at {prog:Program} {w:World} {E:Value→Shared→Prop} {s:Shared} {C x dx:Addr} {es:List DictEntry} {c:Nat} {name:Str} {v:Value} {Q:Unit→Shared→Prop} (X:K.In s.heap) (e1:s.heap.get? x = some (instObj C dx)) (e2:s.heap.get? dx = some (dictOf es c))
    (hs:findIn K (.ref C) "__setattr__" = some (some (.builtin "object.__setattr__"))) (hp:plainOver K C = true) (ht:takerIn K C name = some none) (hh:hasDictIn K C = true) (hk:es.any (·.refKey) = false)
    (hz:(putL name (PyData.keyHash w.params name) (.str name (s.toks + 1)) v es).length ≤ 1000)
    (h:∀ h',Heap.SameBut dx s.heap h'→h'.get? dx = some (dictOf (putL name (PyData.keyHash w.params name) (.str name (s.toks + 1)) v es) (putN name es c))→Q () { s with heap:=h',toks:=s.toks + 2 }) :
    wpAny (model prog w) A (setAttr (.ref x) name v) Q E s:=by
  have I:InstAt s.heap x (instObj C dx) C (some (dictOf es c)):=⟨e1,rfl,rfl,e2⟩
  refine set_plain X I hs ?_
  refine osa_open (s:={ s with toks:=s.toks + 1 }) X I hp ht fun b=>?_
  refine e1a2 (any_some hh) fun cd hc hd'=>?_
  refine wpAny_bind (wpAny_pure (wpAny_bind (wpAny_bind (wpAny_loadPart (s:={ s with toks:=s.toks + 1 }) e1 (wpAny_bind (Looks.here (s:={ s with toks:=s.toks + 1 }) (looks_clsIn X hc) ?_))))))
  rw [hd']
  refine wpAny_pure (a:=some dx) (wpAny_bind (wpAny_pure (wpAny_bind ?_)))
  unfold nsSet
  refine wpAny_bind (wpAny_bind (wpAny_askSetting (wpAny_pure (wpAny_bind (wpAny_mkText (wpAny_bind (wpAny_loadPart (s:={ s with toks:=s.toks + 1 + 1 }) e2 ?_)))))))
  dsimp only
  have cc:(!es.toArray.any (·.key.isStr name) && es.toArray.any (·.refKey)) = false:=by
    rw [← Array.any_toList,← Array.any_toList,hk,Bool.and_false]
  rw [aRefKeyMayBeTheName_at,cc]
  have up:(s.heap.update dx (Obj.putName name (PyData.keyHash w.params name) (.str name (s.toks + 1)) v)).get? dx = some (dictOf (putL name (PyData.keyHash w.params name) (.str name (s.toks + 1)) v es) (putN name es c)):=by
    have z:=Heap.get?_update_self (Obj.putName name (PyData.keyHash w.params name) (.str name (s.toks + 1)) v) e2 (by rw [putName_dict]; rfl)
    rw [z,putName_dict]
  refine wpAny_updatePart (s:={ s with toks:=s.toks + 1 + 1 }) e2 ?_
  refine wpAny_bind (wpAny_lookBehind up (pastItsLine_dict (by rw [List.size_toArray,sizeLine_eq]; lia)) ?_)
  exact wpAny_pure (h _ (Heap.SameBut.update ..) up)
theorem zG {prog:Program} {w:World} {E:Value→Shared→Prop} {s:Shared} {l:Addr} {items:Array Value} {c:Nat} {k:Int} {t:Tok} {v:Value} {Q:Unit→Shared→Prop} (ho:s.heap.get? l = some (loOf items c))
    (h0:0 ≤ k) (hfit:k < 2 ^ 63) (hn:k < items.size)
    (hQ:∀ h' c',h'.get? l = some (loOf (items.setIfInBounds k.toNat v) c')→Heap.SameBut l s.heap h'→Q () { s with heap:=h' }) :
    wpAny (model prog w) A (setItem (.ref l) (.int k t) v) Q E s:=by
  have hl:=cJ ho
  unfold setItem
  try with_reducible refine wpAny_holding ?_
  first | refine wpAny_bind (wpAny_pure ?_) | skip
  refine wpAny_bind (wpAny_sequenceKey hl.typeIs (by decide) ?_)
  refine wpAny_bind (wpAny_callSpecial?_slot (name:=Str.ofString "__setitem__") hl.typeIs slot_list_setitem
    (wpAny_call_entry slot_list_setitem hl.typeIs entry_list_setitem ?_ (args_list_setitem _ _ _)))
  show wpAny _ _ (Builtin.List.listSubscript? (.int k t) >>= _) _ _ s
  refine wpAny_bind (wpAny_listSubscript_int (fitsIndex_of h0 hfit) ?_)
  clear hfit
  obtain ⟨j,rfl⟩:=Int.eq_ofNat_of_zero_le h0
  have hj:j < items.size:=by lia
  have hx':items[j]? = some items[j]:=Array.getElem?_eq_getElem hj
  show wpAny _ _ ((seqItemAt l j >>= fun r=>pure (r.map (j,·))) >>= _) _ _ s
  refine wpAny_bind (wpAny_bind (wpAny_seqItemAt ho rfl (wpAny_pure ?_)))
  rw [hx']
  show wpAny _ _ (setSeqItemAt l j v >>= _) _ _ s
  have hfin:∃ c',(s.heap.update l (Obj.mapSeq (·.setIfInBounds j v))).get? l = some (loOf (items.setIfInBounds j v) c'):=by
    refine ⟨_,(Heap.get?_update_self _ ho ?_).trans rfl⟩
    rfl
  obtain ⟨c',hc'⟩:=hfin
  refine wpAny_bind (wpAny_setSeqItemAt ho rfl ?_)
  first
    | exact wpAny_bind (wpAny_pure (wpAny_pure ⟨.none,rfl,wpAny_pure (hQ _ c' hc' (Heap.SameBut.update ..))⟩))
    | exact wpAny_pure ⟨.none,rfl,wpAny_pure (hQ _ c' hc' (Heap.SameBut.update ..))⟩
end
inductive Src where
  | vals (xs:List V)
  | lst (xs:List V)
  | ref (k:Nat)
  | rev (k:Nat) (n:Nat)
noncomputable def revAt (ys:List V) (n j:Nat):Option (Option V):=if j < n then (ys[n - 1 - j]?).map some else if j = n then some none else none
noncomputable def nextOf (mem:Mem) (j:Nat) (src:Src):Option (Option V):=match src with
  | .vals xs=>some xs[j]?
  | .lst xs=>some xs[j]?
  | .ref k=>(dT mem k).map fun ys=>ys[j]?
  | .rev k n=>(dT mem k).bind fun ys=>revAt ys n j
noncomputable def wQ:Src→Bool
  | .lst _=>true
  | .ref _=>true
  | _=>false
inductive Iter where
  | of (e:IE)
  | range (e:IE)
  | head (e:PE) (n:Nat)
  | rev (e:IE)
inductive IS where
  | asg (i:Nat) (e:IE)
  | attr (o:IE) (a:At) (e:IE)
  | item (o i:IE) (e:IE)
  | unp (is:List Nat) (e:IE)
  | swp (is:List Nat) (e:IE)
  | augN (i:Nat) (op:Operator) (e:IE)
  | augA (o:IE) (a:At) (op:Operator) (e:IE)
  | augI (o i:IE) (op:Operator) (e:IE)
  | expr (e:IE)
  | ret (e:IE)
  | ret0
  | pass
  | brk
  | ite (c:IE) (t f:List IS)
  | while (c:IE) (b:List IS)
  | for1 (i:Nat) (e:Iter) (b:List IS)
  | forT (is:List Nat) (e:Iter) (b:List IS)
  | bad
noncomputable def setL (loc:Locs) (i:Nat) (v:V):Locs:=loc.set i (some v)
noncomputable def dI (loc:Locs):List Nat→List V→Locs
  | i :: is,v :: vs=>dI (setL loc i v) is vs
  | _,_=>loc
noncomputable def aFK (v:V):Option Int:=cW some v
noncomputable def asTup (v:V):Option (List V):=aBQ some v
noncomputable def asLst (v:V):Option (List V):=match v with
  | .lst xs=>some xs
  | _=>none
noncomputable def iopM (op:Operator) (old v:V) (mem:Mem) (k:V→Mem→Prop):Prop:=match old with
  | .ref i=>(match op with
    | .Add=>aC (refOf v) fun j=>aC (dT mem i) fun xs=>aC (dT mem j) fun ys=>xs.length + ys.length ≤ 2 ^ 20∧k (.ref i) (mem.set i (.lst (xs ++ ys)))
    | _=>False)
  | _=>aC (iopV op old v) fun x=>k x mem
noncomputable def putV (fs:List V) (j:Nat) (v:V):List V:=if j < fs.length then fs.set j v else fs ++ [v]
noncomputable def putO (o:MO) (a:At) (v:V) (q:MO→Prop):Prop:=match o with
  | .inst c fs=>aC (fidx c a) fun j=>j ≤ fs.length∧q (.inst c (putV fs j v))
  | _=>False
noncomputable def dY (o:V) (a:At) (v:V) (mem:Mem) (k:Mem→Prop):Prop:=aC (refOf o) fun i=>aC (mem[i]?) fun o=>putO o a v fun o'=>k (mem.set i o')
noncomputable def putD {α : Type} [DecidableEq α] (x:α) (v:V) (es:List (α × V)):List (α × V) :=
  if es.any (fun kv=>kv.1 = x) then es.map (fun kv=>if kv.1 = x then (kv.1,v) else kv) else es ++ [(x,v)]
noncomputable def setO (o:MO) (i v:V) (q:MO→Prop):Prop:=match o with
  | .lst xs=>aC (aFK i) fun n=>0 ≤ n∧n < xs.length∧n < 2 ^ 20∧q (.lst (xs.set n.toNat v))
  | .idict es=>aC (aFK i) fun n=>es.length ≤ 1000∧q (.idict (putD n v es))
  | .sdict es=>aC (strOf i) fun x=>es.length ≤ 1000∧q (.sdict (putD x v es))
  | _=>False
noncomputable def dA (o i v:V) (mem:Mem) (k:Mem→Prop):Prop:=aC (refOf o) fun r=>aC (mem[r]?) fun o=>setO o i v fun o'=>k (mem.set r o')
noncomputable def srcOf (mem:Mem) (v:V) (k:Src→Prop):Prop:=match v with
  | .tup xs=>k (.vals xs)
  | .lst xs=>k (.lst xs)
  | .str x=>k (.vals (x.cps.toList.map fun c=>.str ⟨#[c]⟩))
  | .ref r=>aC (dT mem r) fun _=>k (.ref r)
  | _=>False
section
variable (T:CT) (K:Frag) (hZ:Heap) (n:Nat)
noncomputable def sA (test:Locs→Mem→(Bool→Mem→Prop)→Prop) (body:Locs→Mem→(Locs→Mem→Prop)→(Locs→Mem→Prop)→Prop):Nat→Locs→Mem→(Locs→Mem→Prop)→Prop
  | 0,_,_,_=>False
  | N + 1,loc,mem,k=>test loc mem fun b m=>if b = true then body loc m (fun loc' m'=>sA test body N loc' m' k) k else k loc m
noncomputable def forN (src:Src) (put:Locs→V→Option Locs) (body:Locs→Mem→(Locs→Mem→Prop)→(Locs→Mem→Prop)→Prop):Nat→Nat→Locs→Mem→(Locs→Mem→Prop)→Prop
  | 0,_,_,_,_=>False
  | N + 1,j,loc,mem,k=>aC (nextOf mem j src) fun r=>match r with
    | none=>k loc mem
    | some x=>aC (put loc x) fun loc1=>body loc1 mem (fun loc' m'=>forN src put body N (j + 1) loc' m' k) k
noncomputable def iterM (loc:Locs) (mem:Mem) (it:Iter) (k:Src→Mem→Prop):Prop:=match it with
  | .of e=>wpE T K hZ n loc e mem fun v m=>srcOf m v fun src=>k src m
  | .range e=>wpE T K hZ n loc e mem fun v m=>aC (aFK v) fun i=>0 ≤ i∧i ≤ 2 ^ 20∧k (.vals ((List.range i.toNat).map fun (j:Nat)=>V.int (j:Int))) m
  | .head e z=>aC (evP mem loc e) fun v=>aC (asLst v) fun xs=>z ≤ 1000∧xs.length ≤ 1000∧k (.lst (xs.take z)) mem
  | .rev e=>wpE T K hZ n loc e mem fun v m=>aC (refOf v) fun r=>aC (dT m r) fun ys=>k (.rev r ys.length) m
noncomputable def unpM (l:Nat) (v:V) (q:List V→Prop):Prop:=aC (asTup v) fun vs=>vs.length = l∧q vs
noncomputable def put1 (i:Nat) (loc:Locs) (v:V):Option Locs:=some (setL loc i v)
noncomputable def putT (is:List Nat) (loc:Locs) (v:V):Option Locs:=aBQ (fun vs=>if vs.length = is.length then some (dI loc is vs) else none) v
mutual
noncomputable def wpS (loc:Locs):IS→Mem→(Locs→Mem→Prop)→(V→Mem→Prop)→(Locs→Mem→Prop)→Prop
  | .asg i e,mem,k,kr,kb=>wpE T K hZ n loc e mem fun v m=>k (setL loc i v) m
  | .attr o a e,mem,k,kr,kb=>wpE T K hZ n loc e mem fun v m=>wpE T K hZ n loc o m fun ov m2=>dY ov a v m2 fun m3=>k loc m3
  | .item o i e,mem,k,kr,kb=>wpE T K hZ n loc e mem fun v m=>wpE T K hZ n loc o m fun ov m2=>wpE T K hZ n loc i m2 fun iv m3=>dA ov iv v m3 fun m4=>k loc m4
  | .unp is e,mem,k,kr,kb=>wpE T K hZ n loc e mem fun v m=>unpM is.length v fun vs=>k (dI loc is vs) m
  | .swp is e,mem,k,kr,kb=>wpE T K hZ n loc e mem fun v m=>unpM is.length v fun vs=>k (dI loc is.reverse vs.reverse) m
  | .augN i op e,mem,k,kr,kb=>aC (loc[i]?).join fun old=>wpE T K hZ n loc e mem fun v m=>iopM op old v m fun x m2=>k (setL loc i x) m2
  | .augA o a op e,mem,k,kr,kb=>wpE T K hZ n loc o mem fun ov m=>aC (getA m ov a) fun old=>wpE T K hZ n loc e m fun v m2=>aC (iopV op old v) fun x=>dY ov a x m2 fun m3=>k loc m3
  | .augI o i op e,mem,k,kr,kb=>wpE T K hZ n loc o mem fun ov m=>wpE T K hZ n loc i m fun iv m1=>aC (jA m1 ov iv) fun old=>wpE T K hZ n loc e m1 fun v m2=>aC (iopV op old v) fun x=>dA ov iv x m2 fun m3=>k loc m3
  | .expr e,mem,k,kr,kb=>wpE T K hZ n loc e mem fun _ m=>k loc m
  | .ret e,mem,k,kr,kb=>wpE T K hZ n loc e mem kr
  | .ret0,mem,k,kr,kb=>kr .none mem
  | .pass,mem,k,kr,kb=>k loc mem
  | .brk,mem,k,kr,kb=>kb loc mem
  | .ite c t f,mem,k,kr,kb=>wpE T K hZ n loc c mem fun v m=>aC (truth v) fun b=>if b = true then wpSs loc t m k kr kb else wpSs loc f m k kr kb
  | .while c b,mem,k,kr,kb=>∃ N,sA (fun l m q=>wpE T K hZ n l c m fun v m=>aC (truth v) fun t=>q t m) (fun l m q qb=>wpSs l b m q kr qb) N loc mem k
  | .for1 i e b,mem,k,kr,kb=>iterM T K hZ n loc mem e fun src m=>∃ N,forN src (put1 i) (fun l m q qb=>wpSs l b m q kr qb) N 0 loc m k
  | .forT is e b,mem,k,kr,kb=>iterM T K hZ n loc mem e fun src m=>wQ src = true∧∃ N,forN src (putT is) (fun l m q qb=>wpSs l b m q kr qb) N 0 loc m k
  | .bad,mem,k,kr,kb=>False
noncomputable def wpSs (loc:Locs):List IS→Mem→(Locs→Mem→Prop)→(V→Mem→Prop)→(Locs→Mem→Prop)→Prop
  | [],mem,k,kr,kb=>k loc mem
  | st :: r,mem,k,kr,kb=>wpS loc st mem (fun loc' m=>wpSs loc' r m k kr kb) kr kb
end
end
structure dW (env:Env) (L:Addr) (W:List Addr):Prop where
  here:L ∈ W
  cells:∀ x c,env.cells.lookup x = some c→c ∈ W
  off:∀ x c,env.cells.lookup x = some c→c ≠ L
  inj:∀ x y c,env.cells.lookup x = some c→env.cells.lookup y = some c→x = y
structure SitW (T:CT) (hZ:Heap) (env:Env) (Γ:List Str) (L:Addr) (W S:List Addr) (ρ:List (Addr × Addr)) (h:Heap) (loc:Locs) (mem:Mem):Prop where
  Z:Sit T hZ env Γ L S ρ h loc mem
  sub:∀ a ∈ W,a ∈ S
  own:∀ x c,env.cells.lookup x = some c→∃ v₀,h.IsCell c v₀
section
variable {T:CT} {K:Frag} {hZ h h':Heap} {env:Env} {Γ:List Str} {L:Addr} {W S:List Addr} {ρ ρ':List (Addr × Addr)} {loc loc':Locs} {mem mem':Mem} {A:Around} {n:Nat}
theorem SitW.step {p:Bool} (Y:SitW T hZ env Γ L W S ρ h loc mem) (O:dW env L W) (st:Step p [] ρ h ρ' h') (M':MemR T hZ S ρ' h' mem'):SitW T hZ env Γ L W S ρ' h' loc mem':=by
  refine ⟨Y.Z.step st M',Y.sub,fun x c hc=>?_⟩
  refine e2a2 (Y.own x c hc) fun v₀ o ho hd=>?_
  exact ⟨v₀,o,st.keep c o ho (.inr (Y.Z.M.sfresh c (Y.sub c (O.cells x c hc))).1) (fun q=>nomatch q),hd⟩
theorem Step.own {c:Addr} (ρ:List (Addr × Addr)) (hs:Heap.SameBut c h h') (ht:∃ o,h'.get? c = some o):Step true [c] ρ h ρ h' :=
  ⟨List.prefix_refl _,by simp,fun b o e=>by
    by_cases q:b = c
    · subst q; exact ht
    · exact ⟨o,(hs.2 b q).trans e⟩,fun b o e _ hw=>(hs.2 b fun q=>hw (by rw [q]; exact List.mem_singleton.mpr rfl)).trans e⟩
theorem MemR.own {c:Addr} (M:MemR T hZ S ρ h mem) (hc:c ∈ S) (hs:Heap.SameBut c h h') (ht:∃ o,h'.get? c = some o):MemR T hZ S ρ h' mem:=by
  refine M.move (Step.own ρ hs ht) (fun a q=>by cases List.mem_singleton.mp q; exact hc) fun p hp o e=>(hs.2 p.2 fun q=>?_).trans e
  exact (M.sfresh c hc).1 (q ▸ List.mem_map_of_mem hp)
theorem tV {prog:Program} {w:World} {E:Value→Shared→Prop} {s:Shared} {x:Str} {i:Nat} {v:V} {v':Value} {Q:Unit→Shared→Prop} (En:dX env Γ L) (O:dW env L W) (Y:SitW T hZ env Γ L W S ρ s.heap loc mem)
    (hx:Γ[i]? = some x) (hk:env.kindOf x = some .local ∨ (env.kindOf x = some .cell∧∃ c,env.cells.lookup x = some c)) (r:RepV T s.heap (aG S ρ) ρ v v')
    (hQ:∀ h' tk',SitW T hZ env Γ L W S ρ h' (setL loc i v) mem→Step false W ρ s.heap ρ h'→Q () { s with heap:=h',toks:=tk' }) :
    wpAny (model prog w) A (storeName env x v') Q E s:=by
  obtain ⟨⟨M,⟨m,hn,hv⟩,iS⟩,sub,own⟩:=Y
  have key:∀ j y u,Γ[j]? = some y→(setL loc i v)[j]? = some (some u)→(j = i∧u = v∧y = x) ∨ (y ≠ x∧loc[j]? = some (some u)):=by
    intro j y u hj hu
    unfold setL at hu
    by_cases hji:j = i
    · subst hji
      left
      rw [hx] at hj; cases hj
      have hl:=(List.getElem?_eq_some_iff.mp hu).1
      rw [List.length_set] at hl
      rw [List.getElem?_set_self hl] at hu
      cases hu
      exact ⟨rfl,rfl,rfl⟩
    · right
      rw [List.getElem?_set_ne (Ne.symm hji)] at hu
      refine ⟨fun q=>hji ?_,hu⟩
      subst q
      exact (List.getElem?_inj (List.getElem?_eq_some_iff.mp hj).1 En.nodup).mp (hj.trans hx.symm)
  rcases hk with hk | ⟨hk,c,hc⟩
  · have hLoc:=En.loc
    refine wpAny_storeName_local hk (m:=m) (by rw [hLoc]; exact hn) (fun h' hn' hs'=>?_) (by rw [En.kind]; rfl)
    rw [hLoc] at hn' hs'
    have ht:∃ o,h'.get? L = some o:=let ⟨o,_,_,ho,_⟩:=hn'; ⟨o,ho⟩
    have st:=Step.own ρ hs' ht
    have hw:∀ a ∈ [L],a ∈ S:=fun a q=>by cases List.mem_singleton.mp q; exact iS
    refine hQ h' _ ⟨⟨M.own iS hs' ht,⟨_,hn',fun j y u hj hu=>?_⟩,iS⟩,sub,fun y c hcy=>?_⟩ (st.plain.weaken fun a q=>by cases List.mem_singleton.mp q; exact O.here)
    · rcases key j y u hj hu with ⟨rfl,rfl,rfl⟩ | ⟨hne,hu⟩
      · exact ⟨v',.inl ⟨hk,by simp⟩,RepV.step st hw r⟩
      · refine e1a2 (hv j y u hj hu) fun z hb hr=>?_
        refine ⟨z,?_,RepV.step st hw hr⟩
        rcases hb with ⟨h1,h2⟩ | ⟨h1,c,h2,h3,h4⟩
        · exact .inl ⟨h1,(if_neg hne).trans h2⟩
        · exact .inr ⟨h1,c,h2,h3,h4.sameBut hs' (O.off y c h2)⟩
    · obtain ⟨v₀,hc⟩:=own y c hcy
      exact ⟨v₀,hc.sameBut hs' (O.off y c hcy)⟩
  · obtain ⟨v₀,hv₀⟩:=own x c hc
    have hcW:=O.cells x c hc
    have hcS:=sub c hcW
    refine wpAny_storeName_cell En.kind hk hc hv₀ fun h' hv' hs'=>?_
    have ht:∃ o,h'.get? c = some o:=let ⟨o,ho,_⟩:=hv'; ⟨o,ho⟩
    have st:=Step.own ρ hs' ht
    have hw:∀ a ∈ [c],a ∈ S:=fun a q=>by cases List.mem_singleton.mp q; exact hcS
    refine hQ h' s.toks ⟨⟨M.own hcS hs' ht,⟨m,hn.sameBut hs' (Ne.symm (O.off x c hc)),fun j y u hj hu=>?_⟩,iS⟩,sub,fun y c' hcy=>?_⟩ (st.plain.weaken fun a q=>by cases List.mem_singleton.mp q; exact hcW)
    · rcases key j y u hj hu with ⟨rfl,rfl,rfl⟩ | ⟨hne,hu⟩
      · exact ⟨v',.inr ⟨.inl hk,c,hc,hcS,hv'⟩,RepV.step st hw r⟩
      · refine e1a2 (hv j y u hj hu) fun z hb hr=>?_
        refine ⟨z,?_,RepV.step st hw hr⟩
        rcases hb with ⟨h1,h2⟩ | ⟨h1,c',h2,h3,h4⟩
        · exact .inl ⟨h1,h2⟩
        · exact .inr ⟨h1,c',h2,h3,h4.sameBut hs' fun q=>hne (O.inj y x c (q ▸ h2) hc)⟩
    · by_cases q:c' = c
      · subst q; exact ⟨_,hv'⟩
      · obtain ⟨v₁,hc1⟩:=own y c' hcy
        exact ⟨v₁,hc1.sameBut hs' q⟩
noncomputable def aET (T:CT) (S:List Addr) (ρ:List (Addr × Addr)) (h:Heap) (loc:Locs) (mem:Mem) (k:Locs→Mem→Prop) (kr:V→Mem→Prop) (kb:Locs→Mem→Prop):Flow→Prop
  | .next=>k loc mem
  | .brk=>kb loc mem
  | .cont=>False
  | .ret w=>∃ v,kr v mem∧RepV T h (aG S ρ) ρ v w
noncomputable def HSg (T:CT) (K:Frag) (hZ:Heap) (n:Nat) (env:Env) (Γ:List Str) (L:Addr) (W:List Addr) (A:Around) (t:Sem Flow) (wpf:Locs→Mem→(Locs→Mem→Prop)→(V→Mem→Prop)→(Locs→Mem→Prop)→Prop):Prop :=
  ∀ (S:List Addr) (ρ:List (Addr × Addr)) (s:Shared) (loc:Locs) (mem:Mem) (k:Locs→Mem→Prop) (kr:V→Mem→Prop) (kb:Locs→Mem→Prop),SitW T hZ env Γ L W S ρ s.heap loc mem→wpf loc mem k kr kb →
    ∀ Q:Flow→Shared→Prop,(∀ f loc' mem' ρ' h' tk',aET T S ρ' h' loc' mem' k kr kb f→SitW T hZ env Γ L W S ρ' h' loc' mem'→Step false W ρ s.heap ρ' h'→Q f { s with heap:=h',toks:=tk' }) →
      wpAny (model T.prog T.w) A t Q (fun _ _=>False) s
noncomputable abbrev HS (T:CT) (K:Frag) (hZ:Heap) (n:Nat) (env:Env) (Γ:List Str) (L:Addr) (W:List Addr) (A:Around) (t:Sem Flow) (st:IS):Prop :=
  HSg T K hZ n env Γ L W A t (fun loc mem k kr kb=>wpS T K hZ n loc st mem k kr kb)
noncomputable abbrev HSs (T:CT) (K:Frag) (hZ:Heap) (n:Nat) (env:Env) (Γ:List Str) (L:Addr) (W:List Addr) (A:Around) (t:Sem Flow) (sts:List IS):Prop :=
  HSg T K hZ n env Γ L W A t (fun loc mem k kr kb=>wpSs T K hZ n loc sts mem k kr kb)
theorem Step.nilW {p:Bool} (st:Step p [] ρ h ρ' h'):Step p W ρ h ρ' h':=st.weaken aL
theorem hss_nil:HSs T K hZ n env Γ L W A (execs [] env) []:=by
  intro S ρ s loc mem k kr kb Y hw Q hQ
  exact wpAny_execs_nil (hQ .next loc mem ρ s.heap s.toks hw Y (Step.refl ..))
theorem hss_cons {st:Stmt} {r:List Stmt} {i:IS} {is:List IS} (h1:HS T K hZ n env Γ L W A (exec st env) i) (h2:HSs T K hZ n env Γ L W A (execs r env) is):HSs T K hZ n env Γ L W A (execs (st :: r) env) (i :: is):=by
  intro S ρ s loc mem k kr kb Y hw Q hQ
  dsimp only [wpSs] at hw
  refine wpAny_execs_cons (h1 S ρ s loc mem _ kr kb Y hw _ fun f loc1 m1 ρ1 h1 t1 k1 Y1 st1=>?_)
  cases f with
  | next=>exact h2 S ρ1 { s with heap:=h1,toks:=t1 } loc1 m1 k kr kb Y1 k1 _ fun f loc2 m2 ρ2 h2 t2 k2 Y2 st2=>hQ f loc2 m2 ρ2 h2 t2 k2 Y2 (st1.trans st2)
  | brk=>exact hQ .brk loc1 m1 ρ1 h1 t1 k1 Y1 st1
  | cont=>exact k1.elim
  | ret v=>exact hQ (.ret v) loc1 m1 ρ1 h1 t1 k1 Y1 st1
theorem hs_pass {pos:Pos}:HS T K hZ n env Γ L W A (exec (.Pass pos) env) .pass:=by
  intro S ρ s loc mem k kr kb Y hw Q hQ
  exact wpAny_Pass (hQ .next loc mem ρ s.heap s.toks hw Y (Step.refl ..))
theorem hs_ret0 {pos:Pos}:HS T K hZ n env Γ L W A (exec (.Return none pos) env) .ret0:=by
  intro S ρ s loc mem k kr kb Y hw Q hQ
  exact wpAny_Return_none (hQ (.ret .none) loc mem ρ s.heap s.toks ⟨.none,hw,rfl⟩ Y (Step.refl ..))
theorem hs_ret {e:Expr} {ie:IE} {pos:Pos} (O:dW env L W) (he:HE T K hZ n env Γ L A (eval e env) ie):HS T K hZ n env Γ L W A (exec (.Return (some e) pos) env) (.ret ie):=by
  intro S ρ s loc mem k kr kb Y hw Q hQ
  dsimp only [wpS] at hw
  exact wpAny_Return_some (he S ρ s loc mem kr Y.Z hw _ fun v m1 ρ1 h1 t1 w k1 r1 M1 st1=>hQ (.ret w) loc m1 ρ1 h1 t1 ⟨v,k1,r1⟩ (Y.step O st1 M1) st1.nilW)
theorem hs_brk {pos:Pos} (hb:exec (.Break pos) env = (do standAt pos; pure .brk)):HS T K hZ n env Γ L W A (exec (.Break pos) env) .brk:=by
  intro S ρ s loc mem k kr kb Y hw Q hQ
  rw [hb]
  exact wpAny_bind (wpAny_standAt (wpAny_pure (hQ .brk loc mem ρ s.heap s.toks hw Y (Step.refl ..))))
theorem hs_expr {e:Expr} {ie:IE} {pos:Pos} (O:dW env L W) (En:dX env Γ L) (hsw:swapsWith e none pos.line env = pure false) (he:HE T K hZ n env Γ L A (eval e env) ie):HS T K hZ n env Γ L W A (exec (.Expr e pos) env) (.expr ie):=by
  intro S ρ s loc mem k kr kb Y hw Q hQ
  dsimp only [wpS] at hw
  have hi:interactive env = false:=by unfold interactive; rw [En.kind]; rfl
  exact wpAny_Expr_any (he S ρ s loc mem _ Y.Z hw _ fun v m1 ρ1 h1 t1 w k1 r1 M1 st1=>hQ .next loc m1 ρ1 h1 t1 k1 (Y.step O st1 M1) st1.nilW) hi hsw
theorem hs_asg {x:Str} {i:Nat} {e:Expr} {ie:IE} {pos pos':Pos} (O:dW env L W) (En:dX env Γ L) (hsw:swapsWith e (some (.Name x pos')) pos.line env = pure false)
    (hx:Γ[i]? = some x) (hk:env.kindOf x = some .local ∨ (env.kindOf x = some .cell∧∃ c,env.cells.lookup x = some c)) (he:HE T K hZ n env Γ L A (eval e env) ie):HS T K hZ n env Γ L W A (exec (.Assign [.Name x pos'] e pos) env) (.asg i ie):=by
  intro S ρ s loc mem k kr kb Y hw Q hQ
  dsimp only [wpS] at hw
  refine wpAny_Assign_Name (he S ρ s loc mem _ Y.Z hw _ fun v m1 ρ1 h1 t1 w k1 r1 M1 st1=>?_) hsw
  exact tV (s:={ s with heap:=h1,toks:=t1 }) En O (Y.step O st1 M1) hx hk r1 fun h2 t2 Y2 st2=>hQ .next _ m1 ρ1 h2 t2 k1 Y2 (st1.nilW.trans st2)
theorem hs_ite {c:Expr} {ic:IE} {b o:List Stmt} {t f:List IS} {pos:Pos} (O:dW env L W) (hc:HET T K hZ n env Γ L A (isTrue c env (eval c env)) ic) (hb:HSs T K hZ n env Γ L W A (execs b env) t) (ho:HSs T K hZ n env Γ L W A (execs o env) f) :
    HS T K hZ n env Γ L W A (exec (.If c b o pos) env) (.ite ic t f):=by
  intro S ρ s loc mem k kr kb Y hw Q hQ
  dsimp only [wpS] at hw
  refine wpAny_If (hc S ρ s loc mem (fun b m=>if b = true then wpSs T K hZ n loc t m k kr kb else wpSs T K hZ n loc f m k kr kb) Y.Z hw _ fun b m1 ρ1 h1 t1 k1 M1 st1=>?_)
  cases b with
  | true =>
    rw [if_pos rfl] at k1 ⊢
    exact hb S ρ1 { s with heap:=h1,toks:=t1 } loc m1 k kr kb (Y.step O st1 M1) k1 _ fun f loc2 m2 ρ2 h2 t2 k2 Y2 st2=>hQ f loc2 m2 ρ2 h2 t2 k2 Y2 (st1.nilW.trans st2)
  | false =>
    rw [if_neg Bool.false_ne_true] at k1 ⊢
    exact ho S ρ1 { s with heap:=h1,toks:=t1 } loc m1 k kr kb (Y.step O st1 M1) k1 _ fun f loc2 m2 ρ2 h2 t2 k2 Y2 st2=>hQ f loc2 m2 ρ2 h2 t2 k2 Y2 (st1.nilW.trans st2)
theorem aEH {t:Sem Flow}:HS T K hZ n env Γ L W A t .bad:=by
  intro S ρ s loc mem k kr kb Y hw Q hQ
  dsimp only [wpS] at hw
end
section
variable {T:CT} {K:Frag} {hZ h h':Heap} {env:Env} {Γ:List Str} {L:Addr} {W S:List Addr} {ρ ρ':List (Addr × Addr)} {loc loc':Locs} {mem mem':Mem} {A:Around} {n:Nat}
theorem yS {bad:List Addr} (ns:List At) (fs:List V) (es:List DictEntry) (r:RepF T h bad ρ ns fs es):es.length = fs.length∧fs.length ≤ ns.length :=
  iC (P:=fun ns fs es=>es.length = fs.length∧fs.length ≤ ns.length) (fun _=>⟨rfl,Nat.zero_le _⟩) (fun _ _ _ _ _ _ _ _ _ ih=>⟨congrArg (· + 1) ih.1,Nat.succ_le_succ ih.2⟩) fs ns es r
theorem aBP {bad:List Addr} (ns:List At) (fs:List V) (es:List DictEntry) (r:RepF T h bad ρ ns fs es):es.any (·.refKey) = false :=
  iC (P:=fun _ _ es=>es.any (·.refKey) = false) (fun _=>rfl) (fun n _ _ _ e t hk _ _ ih=>hk.elim fun tk hk=>by
    rw [List.any_cons,ih]
    unfold DictEntry.refKey
    rw [hk]; rfl) fs ns es r
theorem yU (name:Str) (hsh:Int) (key v:Value) (es:List DictEntry):(putL name hsh key v es).length ≤ es.length + 1:=by
  induction es with
  | nil=>exact Nat.le_refl _
  | cons e r ih =>
    show (if e.key.isStr name then (⟨e.hash,e.key,v⟩ : DictEntry) :: r else e :: putL name hsh key v r).length ≤ _
    by_cases q:e.key.isStr name = true
    · rw [if_pos q]; exact Nat.le_succ _
    · rw [if_neg q]; exact Nat.succ_le_succ ih
theorem aDQ {f x:V} {fs:List V} {k:Nat}:putV (f :: fs) (k + 1) x = f :: putV fs k x:=by
  unfold putV
  by_cases q:k < fs.length
  · exact (if_pos (show k + 1 < (f :: fs).length from Nat.succ_lt_succ q)).trans (congrArg (f :: ·) (if_pos q).symm)
  · exact (if_neg (show ¬ k + 1 < (f :: fs).length from fun z=>q (Nat.lt_of_succ_lt_succ z))).trans (congrArg (f :: ·) (if_neg q).symm)
theorem repF_put {bad:List Addr} {a:At} {x:V} {v:Value} {hsh:Int} {tk:Tok} (rx:RepV T h bad ρ x v) (ns:List At) (fs:List V) (es:List DictEntry) (j:Nat) (r:RepF T h bad ρ ns fs es) (hj:ns.idxOf? a = some j) (hl:j ≤ fs.length) :
    RepF T h bad ρ ns (putV fs j x) (putL a.name hsh (.str a.name tk) v es) :=
  iC (P:=fun ns fs es=>∀ j,ns.idxOf? a = some j→j ≤ fs.length→RepF T h bad ρ ns (putV fs j x) (putL a.name hsh (.str a.name tk) v es))
    (fun ns j hj hl=>by
      cases ns with
      | nil=>exact nn hj
      | cons n ns=>exact idx_e hj (fun q e=>e ▸ ⟨_,[],rfl,⟨tk,by rw [q]⟩,rx,RepF.nil⟩) fun _ i _ e=>absurd (Nat.le_trans (Nat.le_of_eq e) hl) (Nat.not_succ_le_zero i))
    (fun n ns f fs e t hk hv hr ih j hj hl=>hk.elim fun tk' hkey=>idx_e hj
      (fun q e0=>by
        rw [← e0]
        exact ⟨⟨e.hash,e.key,v⟩,t,if_pos (q ▸ key_is hkey),⟨tk',hkey⟩,rx,hr⟩)
      fun q i hi e1=>by
        rw [← e1,aDQ]
        exact ⟨e,_,if_neg (by rw [(key_ne hkey q).1]; exact Bool.false_ne_true),⟨tk',hkey⟩,hv,ih i hi (Nat.le_of_succ_le_succ (Nat.le_trans (Nat.le_of_eq e1) hl))⟩) fs ns es r j hj hl
@[elab_as_elim] theorem aAB {bad:List Addr} {v:V} {v':Value} {q:Nat→Prop} {P:Value→Prop} (h':aC (refOf v) q) (r:RepV T h bad ρ v v') (H:∀ i p,v = .ref i→ρ[i]? = some p→q i→P (.ref p.1)):P v' :=
  e1a2 (aD h') fun i e hq=>e1a2 (show RepV T h bad ρ (.ref i) v' from uA e ▸ r) fun p hp ev=>ev ▸ H i p (uA e) hp hq
@[elab_as_elim] theorem aDT {bad:List Addr} {v:V} {v':Value} {q:Int→Prop} {P:Value→Prop} (h':aC (aFK v) q) (r:RepV T h bad ρ v v') (H:∀ i t,q i→P (.int i t)):P v' :=
  e1a2 (aD h') fun i e hq=>bG e r fun j t ej=>H j t (Option.some.inj ej ▸ hq)
@[elab_as_elim] theorem os_str {bad:List Addr} {v:V} {v':Value} {q:Str→Prop} {P:Value→Prop} (h':aC (strOf v) q) (r:RepV T h bad ρ v v') (H:∀ i t,q i→P (.str i t)):P v' :=
  e1a2 (aD h') fun i e hq=>fL (show RepV T h bad ρ (.str i) v' from yM e ▸ r) fun t=>H i t hq
@[elab_as_elim] theorem os_tup {bad:List Addr} {v:V} {v':Value} {q:List V→Prop} {P:Value→Prop} (h':aC (asTup v) q) (r:RepV T h bad ρ v v') (H:∀ xs a items,Froz h bad a→h.IsTuple a items→RepL T h bad ρ xs items.toList→q xs→P (.ref a)):P v' :=
  e1a2 (aD h') fun xs e hq=>nX e fun ys ev ey=>gS (show RepV T h bad ρ (.tup ys) v' from ev ▸ r) fun a items f t rl=>H ys a items f t rl (Option.some.inj ey ▸ hq)
theorem asLst_e {v:V} {xs:List V} (h:asLst v = some xs):v = .lst xs:=by
  cases v with
  | lst ys=>exact congrArg V.lst (Option.some.inj h)
  | _=>exact nn h
theorem aAk {p:Addr × Addr} {k:Nat} {o o':MO} (M:MemR T hZ S ρ h mem) (hp:ρ[k]? = some p) (hm:mem[k]? = some o) (ee:p.1 = p.2) (hs:Heap.SameBut p.1 h h') (ht:∃ x,h'.get? p.1 = some x)
    (r:Step false [] ρ h ρ h'→RepO T h' (aG S ρ) ρ p.1 p.2 o'):MemR T hZ S ρ h' (mem.set k o')∧Step false [] ρ h ρ h' :=
  M.set hp hm (ee ▸ hs) (r (Step.same ρ (ee ▸ hs) (List.mem_map_of_mem (List.mem_of_getElem? hp)) (ee ▸ ht)))
theorem lay_le (c:Cls):(lay c).length ≤ 14:=by cases c <;> decide
theorem vU {s:Shared} {E:Value→Shared→Prop} {o v:V} {o' v':Value} {a:At} {k:Mem→Prop} {Q:Unit→Shared→Prop} (St:Stat T K hZ) (M:MemR T hZ S ρ s.heap mem) (ro:RepV T s.heap (aG S ρ) ρ o o') (rv:RepV T s.heap (aG S ρ) ρ v v')
    (hw:dY o a v mem k) (hQ:∀ mem' h' tk',k mem'→MemR T hZ S ρ h' mem'→Step false [] ρ s.heap ρ h'→Q () { s with heap:=h',toks:=tk' }) :
    wpAny (model T.prog T.w) A (setAttr o' a.name v') Q E s:=by
  refine aAB hw ro fun i p _ hp hw=>e1a2 (aD hw) fun ob hm hw=>?_
  cases ob with
  | inst c fs =>
    refine e1a3 (aD hw) fun j hj hl hk=>e2a4 (M.rep _ p _ hp hm) fun es nn hfz e1 e2 rf=>?_
    obtain ⟨h1,h2⟩:=aAY hj
    refine e0a3 (jZ (St.cls c) h2) fun p1 p2 p3=>e0a3 (pC (St.cls c)) fun d1 d2 d3=>?_
    have hlen:=yS _ _ _ rf
    refine attr_at (St.X.keeps M.keep) e1 e2 d3 d2 p3 d1 (aBP _ _ _ rf) ?_ fun h' hs' ho'=>?_
    · have:=yU a.name (PyData.keyHash T.w.params a.name) (.str a.name (s.toks + 1)) v' es
      have:=lay_le c
      lia
    · have hne:p.1 ≠ p.2:=fun q=>by rw [q,e2] at e1; exact nomatch congrArg Obj.data (Option.some.inj e1)
      have stx:Step false [] ρ s.heap ρ h':=Step.same ρ hs' (List.mem_map_of_mem (List.mem_of_getElem? hp)) ⟨_,ho'⟩
      have upd:=M.set (o':=.inst c (putV fs j v)) hp hm hs' ⟨_,_,(stx.froz aL _ hfz).1,(hs'.2 _ hne).trans e1,ho',
        repF_put (RepV.step stx aL rv) (lay c) fs es j (RepF.step stx aL rf) h1 hl⟩
      exact hQ _ h' _ hk upd.1 upd.2
  | _=>exact False.elim hw
theorem any_keys {α : Type} [DecidableEq α] {kvs:List (α × Value)} {es:List (α × V)} {x:α} (e:kvs.map (·.1) = es.map (·.1)):kvs.any (fun kv=>kv.1 = x) = es.any (fun kv=>kv.1 = x):=by
  have h1:kvs.any (fun kv=>kv.1 = x) = (kvs.map (·.1)).any (fun k=>k = x):=by rw [List.any_map]; rfl
  have h2:es.any (fun kv=>kv.1 = x) = (es.map (·.1)).any (fun k=>k = x):=by rw [List.any_map]; rfl
  rw [h1,h2,e]
theorem qJ {α β : Type} [DecidableEq α] {x:α} {v:β} (l:List (α × β)):(l.map (fun kv=>if kv.1 = x then (kv.1,v) else kv)).map (·.1) = l.map (·.1):=by
  rw [List.map_map]
  exact List.map_congr_left fun kv _=>by
    show (if kv.1 = x then (kv.1,v) else kv).1 = kv.1
    by_cases q:kv.1 = x
    · rw [if_pos q]
    · rw [if_neg q]
theorem pZ {α : Type} [DecidableEq α] {kvs:List (α × Value)} {es:List (α × V)} {x:α} {v:V} {v':Value} (e:kvs.map (·.1) = es.map (·.1)):(stored kvs x v').map (·.1) = (putD x v es).map (·.1):=by
  unfold stored putD
  rw [any_keys e]
  cases es.any (fun kv=>kv.1 = x) with
  | true=>exact (qJ kvs).trans (e.trans (qJ es).symm)
  | false =>
    show (kvs ++ [(x,v')]).map (·.1) = (es ++ [(x,v)]).map (·.1)
    rw [List.map_append,List.map_append,e]; rfl
theorem yR {α : Type} [DecidableEq α] {bad:List Addr} {x:α} {v:V} {v':Value} (rv:RepV T h bad ρ v v') (es:List (α × V)):∀ (kvs:List (α × Value)),kvs.map (·.1) = es.map (·.1)→RepL T h bad ρ (es.map (·.2)) (kvs.map (·.2)) →
    RepL T h bad ρ ((es.map (fun kv=>if kv.1 = x then (kv.1,v) else kv)).map (·.2)) ((kvs.map (fun kv=>if kv.1 = x then (kv.1,v') else kv)).map (·.2)):=by
  induction es with
  | nil =>
    intro kvs e _
    cases kvs with
    | nil=>exact bE
    | cons=>exact nomatch e
  | cons p es ih =>
    intro kvs e r
    cases kvs with
    | nil=>exact nomatch e
    | cons q kvs =>
      obtain ⟨e1,e2⟩:=List.cons.inj e
      refine bB (?_:RepV T h bad ρ (if p.1 = x then (p.1,v) else p).2 (if q.1 = x then (q.1,v') else q).2) (ih kvs e2 (aDI r))
      by_cases hk:p.1 = x
      · rw [if_pos hk,if_pos (e1.trans hk)]; exact rv
      · rw [if_neg hk,if_neg fun z=>hk (e1.symm.trans z)]; exact aDL r
theorem sE {α : Type} [DecidableEq α] {bad:List Addr} {kvs:List (α × Value)} {es:List (α × V)} {x:α} {v:V} {v':Value} (e:kvs.map (·.1) = es.map (·.1)) (r:RepL T h bad ρ (es.map (·.2)) (kvs.map (·.2))) (rv:RepV T h bad ρ v v') :
    RepL T h bad ρ ((putD x v es).map (·.2)) ((stored kvs x v').map (·.2)):=by
  unfold stored putD
  rw [any_keys e]
  cases es.any (fun kv=>kv.1 = x) with
  | true=>exact yR rv es kvs e r
  | false =>
    show RepL T h bad ρ ((es ++ [(x,v)]).map (·.2)) ((kvs ++ [(x,v')]).map (·.2))
    rw [List.map_append,List.map_append]
    exact dB r (bB rv bE)
theorem repL_set {bad:List Addr} {v:V} {v':Value} (rv:RepV T h bad ρ v v') (xs:List V):∀ (l:List Value) (j:Nat),RepL T h bad ρ xs l→RepL T h bad ρ (xs.set j v) (l.set j v'):=by
  induction xs with
  | nil=>exact fun l j r=>wA r bE
  | cons x xs ih =>
    refine fun l j r=>jG (P:=fun l=>RepL T h bad ρ ((x :: xs).set j v) (l.set j v')) r fun w t hv hr=>?_
    cases j with
    | zero=>exact bB rv hr
    | succ j=>exact bB hv (ih t j hr)
theorem aEj {α : Type} {kvs:List (α × Value)} {es:List (α × V)} (e:kvs.map (·.1) = es.map (·.1)):kvs.length = es.length:=by
  have:=congrArg List.length e
  simpa using this
theorem vT {s:Shared} {E:Value→Shared→Prop} {o i v:V} {o' i' v':Value} {k:Mem→Prop} {Q:Unit→Shared→Prop} (M:MemR T hZ S ρ s.heap mem) (ro:RepV T s.heap (aG S ρ) ρ o o') (ri:RepV T s.heap (aG S ρ) ρ i i') (rv:RepV T s.heap (aG S ρ) ρ v v')
    (hw:dA o i v mem k) (hQ:∀ mem' h' tk',k mem'→MemR T hZ S ρ h' mem'→Step false [] ρ s.heap ρ h'→Q () { s with heap:=h',toks:=tk' }) :
    wpAny (model T.prog T.w) A (setItem o' i' v') Q E s:=by
  refine aAB hw ro fun r p _ hp hw=>e1a2 (aD hw) fun ob hm hw=>?_
  have rp:=M.rep _ p _ hp hm
  cases ob with
  | lst xs =>
    refine aDT hw ri fun nn t hw=>e0a4 hw fun h0 h1 h2 hk=>e2a2 rp.2 fun items c e1 rl=>?_
    have hlen:=aK _ _ rl
    rw [Array.length_toList] at hlen
    refine zG e1 h0 (by lia) (by lia) fun h' c' ho' hs'=>?_
    have upd:=aAk (o':=.lst (xs.set nn.toNat v)) M hp hm rp.1 hs' ⟨_,ho'⟩ fun stx=>⟨rp.1,_,c',ho',by
      rw [Array.toList_setIfInBounds]
      exact repL_set (RepV.step stx aL rv) _ _ _ (RepL.step stx aL rl)⟩
    exact hQ _ h' s.toks hk upd.1 upd.2
  | idict es =>
    refine aDT hw ri fun nn t hw=>e1a3 rp.2 fun kvs e1 ek rl=>wpAny_setItem_pairs (knd:=intKind T.prog T.w) (k:=nn) (intKind_is ..) e1 (fun h' ho' hs'=>?_) (by rw [aEj ek]; exact tT hw.1)
    have upd:=aAk (o':=.idict (putD nn v es)) M hp hm rp.1 hs' (ho'.elim fun o z=>z.elim fun _ z=>z.elim fun _ z=>⟨o,z.1⟩) fun stx=>⟨rp.1,_,ho',pZ ek,sE ek (RepL.step stx aL rl) (RepV.step stx aL rv)⟩
    exact hQ _ h' _ hw.2 upd.1 upd.2
  | sdict es =>
    refine os_str hw ri fun x t hw=>e1a3 rp.2 fun kvs e1 ek rl=>wpAny_setItem_pairs (knd:=strKind T.prog T.w) (k:=x) (strKind_is ..) e1 (fun h' ho' hs'=>?_) (by rw [aEj ek]; exact tT hw.1)
    have upd:=aAk (o':=.sdict (putD x v es)) M hp hm rp.1 hs' (ho'.elim fun o z=>z.elim fun _ z=>z.elim fun _ z=>⟨o,z.1⟩) fun stx=>⟨rp.1,_,ho',pZ ek,sE ek (RepL.step stx aL rl) (RepV.step stx aL rv)⟩
    exact hQ _ h' _ hw.2 upd.1 upd.2
  | _=>exact False.elim hw
theorem tY:seqSlot? (.type "list") (dunderI "add") = pure (some (.builtin "list.__iadd__")):=PySem.seqSlot_of PySem.F.slot_list_iadd.lookup (by decide +kernel)
theorem aEF {prog:Program} {w:World} {E:Value→Shared→Prop} {s:Shared} {l b:Addr} {items items2:Array Value} {n n2:Nat} {Q:Value→Shared→Prop} (hl:s.heap.get? l = some (loOf items n)) (hb:s.heap.get? b = some (loOf items2 n2)) (hz:items.size + items2.size ≤ sizeLine)
    (h:∀ h' c',h'.get? l = some (loOf (items ++ items2) c')→Heap.SameBut l s.heap h'→Q (.ref l) { s with heap:=h' }) :
    wpAny (model prog w) A (inplaceOp .Add (.ref l) (.ref b)) Q E s:=by
  have ha:s.TypeIs (.ref l) "list" := ⟨_,hl,rfl⟩
  have hb':s.TypeIs (.ref b) "list" := ⟨_,hb,rfl⟩
  unfold inplaceOp
  refine wpAny_holding ?_
  have hfi:fillsInplaceSlot (.type "list") "add" (Operator.Add == .Add) = pure false:=by
    unfold fillsInplaceSlot
    show (typeLookup (.type "list") (dunderI "add") >>= fun fi=>pure (fi.isSome && !isSeqSlot fi)) = pure false
    rw [PySem.F.slot_list_iadd.lookup,pure_bind]
    have:isSeqSlot (some (.builtin "list.__iadd__")) = true:=by decide +kernel
    rw [this]; rfl
  refine wpAny_bind (wpAny_typeOf ha (wpAny_bind (wpAny_of_eq hfi ?_)))
  show wpAny _ A (if false = true then _ else _) Q E s
  rw [if_neg Bool.false_ne_true]
  refine wpAny_bind (wpAny_binaryOp1_none (nm := "add") ha hb' noFill_list_add ?_)
  refine wpAny_bind (wpAny_of_eq tY ?_)
  refine wpAny_bind (wpAny_rule ?_)
  have e2:∃ c',(s.heap.update l (Obj.mapSeq fun x=>x ++ items2)).get? l = some (loOf (items ++ items2) c'):=⟨_,by rw [Heap.get?_update_self _ hl (by rw [mapSeq_app]; rfl),mapSeq_app]⟩
  obtain ⟨c',hc'⟩:=e2
  exact call_meets PySem.F.slot_list_iadd ha PySem.F.entry_list_iadd (PySem.F.args_list_iadd_2 _ _) (AutoSeq1.list___iadd___list_list_0 l items n b items2 n2 (extend_door hz) (Nat.le_trans (Nat.le_add_right _ _) hz) (Nat.le_succ_of_le hz)) ⟨hl,hb,h _ c' hc' (Heap.SameBut.update ..)⟩
theorem iop_M {s:Shared} {E:Value→Shared→Prop} {op:Operator} {o v:V} {o' v':Value} {k:V→Mem→Prop} {Q:Value→Shared→Prop} (M:MemR T hZ S ρ s.heap mem) (ro:RepV T s.heap (aG S ρ) ρ o o') (rv:RepV T s.heap (aG S ρ) ρ v v')
    (hw:iopM op o v mem k) (hQ:∀ x mem' h' tk' w,k x mem'→RepV T h' (aG S ρ) ρ x w→MemR T hZ S ρ h' mem'→Step false [] ρ s.heap ρ h'→Q w { s with heap:=h',toks:=tk' }) :
    wpAny (model T.prog T.w) A (inplaceOp op o' v') Q E s:=by
  have plain:aC (iopV op o v) (fun x=>k x mem)→wpAny (model T.prog T.w) A (inplaceOp op o' v') Q E s:=fun hw=>e1a2 (aD hw) fun x hx hk=>iop_V ro rv hx fun w tk' rx=>hQ x mem s.heap tk' w hk rx M (Step.refl ..)
  cases o with
  | ref i =>
    cases op with
    | Add =>
      refine e1a2 ro fun p hp e=>aAB hw rv fun j q _ hq hw=>e1a2 (aD hw) fun xs hm hw=>e1a3 (aD hw) fun ys hm2 hz hk=>?_
      subst e
      have rp:=M.rep _ p _ hp (eP hm)
      refine e2a2 rp.2 fun items c e1 rl=>e2a2 (M.rep _ q _ hq (eP hm2)).2 fun items2 c2 e12 rl2=>?_
      have hlen:=aK _ _ rl
      have hlen2:=aK _ _ rl2
      rw [Array.length_toList] at hlen hlen2
      refine aEF e1 e12 (by rw [hlen,hlen2]; exact Nat.le_trans hz (by decide)) fun h' c' ho' hs'=>?_
      have upd:=aAk (o':=.lst (xs ++ ys)) M hp (eP hm) rp.1 hs' ⟨_,ho'⟩ fun stx=>⟨rp.1,_,c',ho',by
        rw [Array.toList_append]
        exact dB (RepL.step stx aL rl) (RepL.step stx aL rl2)⟩
      exact hQ _ _ h' s.toks _ hk ⟨p,hp,rfl⟩ upd.1 upd.2
    | _=>exact False.elim hw
  | _=>exact plain hw
end
section
variable {T:CT} {K:Frag} {hZ h h':Heap} {env:Env} {Γ:List Str} {L:Addr} {W S:List Addr} {ρ ρ':List (Addr × Addr)} {loc loc':Locs} {mem mem':Mem} {A:Around} {n:Nat}
theorem hs_attr {o e:Expr} {a:At} {io ie:IE} {pos pos':Pos} (St:Stat T K hZ) (O:dW env L W) (hsw:swapsWith e (some (.Attribute o a.name pos')) pos.line env = pure false)
    (ho:HE T K hZ n env Γ L A (eval o env) io) (he:HE T K hZ n env Γ L A (eval e env) ie):HS T K hZ n env Γ L W A (exec (.Assign [.Attribute o a.name pos'] e pos) env) (.attr io a ie):=by
  intro S ρ s loc mem k kr kb Y hw Q hQ
  dsimp only [wpS] at hw
  refine plainObj_wpAny_Assign_Attribute (he S ρ s loc mem _ Y.Z hw _ fun v m1 ρ1 h1 t1 w k1 r1 M1 st1=>?_) hsw
  have Y1:=Y.step O st1 M1
  refine ho S ρ1 { s with heap:=h1,toks:=t1 } loc m1 _ Y1.Z k1 _ fun ov m2 ρ2 h2 t2 w2 k2 r2 M2 st2=>?_
  have Y2:=Y1.step O st2 M2
  exact vU (s:={ s with heap:=h2,toks:=t2 }) St M2 r2 (RepV.step st2 aL r1) k2 fun m3 h3 t3 k3 M3 st3 =>
    hQ .next loc m3 ρ2 h3 t3 k3 (Y2.step O st3 M3) ((st1.trans st2).trans st3).nilW
theorem hs_item {o i e:Expr} {io ii ie:IE} {pos pos':Pos} (O:dW env L W) (hsw:swapsWith e (some (.Subscript o i pos')) pos.line env = pure false)
    (ho:HE T K hZ n env Γ L A (eval o env) io) (hi:HE T K hZ n env Γ L A (eval i env) ii) (he:HE T K hZ n env Γ L A (eval e env) ie):HS T K hZ n env Γ L W A (exec (.Assign [.Subscript o i pos'] e pos) env) (.item io ii ie):=by
  intro S ρ s loc mem k kr kb Y hw Q hQ
  dsimp only [wpS] at hw
  refine wpAny_Assign_Subscript (he S ρ s loc mem _ Y.Z hw _ fun v m1 ρ1 h1 t1 w k1 r1 M1 st1=>?_) hsw
  have Y1:=Y.step O st1 M1
  refine ho S ρ1 { s with heap:=h1,toks:=t1 } loc m1 _ Y1.Z k1 _ fun ov m2 ρ2 h2 t2 w2 k2 r2 M2 st2=>?_
  have Y2:=Y1.step O st2 M2
  refine hi S ρ2 { s with heap:=h2,toks:=t2 } loc m2 _ Y2.Z k2 _ fun iv m3 ρ3 h3 t3 w3 k3 r3 M3 st3=>?_
  have Y3:=Y2.step O st3 M3
  exact vT (s:={ s with heap:=h3,toks:=t3 }) M3 (RepV.step st3 aL r2) r3 (RepV.step st3 aL (RepV.step st2 aL r1)) k3 fun m4 h4 t4 k4 M4 st4 =>
    hQ .next loc m4 ρ3 h4 t4 k4 (Y3.step O st4 M4) (((st1.trans st2).trans st3).trans st4).nilW
theorem hs_augA {o e:Expr} {a:At} {op:Operator} {io ie:IE} {tpos pos:Pos} (St:Stat T K hZ) (O:dW env L W)
    (ho:HE T K hZ n env Γ L A (eval o env) io) (he:HE T K hZ n env Γ L A (eval e env) ie):HS T K hZ n env Γ L W A (exec (.AugAssign (.Attribute o a.name tpos) op e pos) env) (.augA io a op ie):=by
  intro S ρ s loc mem k kr kb Y hw Q hQ
  dsimp only [wpS] at hw
  refine wpAny_AugAssign_AttributeAny (ho S ρ s loc mem _ Y.Z hw _ fun ov m1 ρ1 h1 t1 w k1 r1 M1 st1=>?_)
  have Y1:=Y.step O st1 M1
  refine e1a2 (aD k1) fun old hold k1=>?_
  refine get_A (s:={ s with heap:=h1,toks:=t1 }) St Y1.Z r1 hold fun w2 r2=>?_
  refine he S ρ1 { s with heap:=h1,toks:=t1 + 1 } loc m1 _ Y1.Z k1 _ fun v m3 ρ3 h3 t3 w3 k3 r3 M3 st3=>?_
  have Y3:=Y1.step O st3 M3
  refine e1a2 (aD k3) fun x hx k3=>?_
  refine iop_V (s:={ s with heap:=h3,toks:=t3 }) (RepV.step st3 aL r2) r3 hx fun w4 t4 r4=>?_
  exact vU (s:={ s with heap:=h3,toks:=t4 }) St M3 (RepV.step st3 aL r1) r4 k3 fun m5 h5 t5 k5 M5 st5 =>
    hQ .next loc m5 ρ3 h5 t5 k5 (Y3.step O st5 M5) ((st1.trans st3).trans st5).nilW
theorem aAS {s:Shared} {xs:List V} {x:V} {a:Addr} {items:Array Value} {j:Int} {i':Value} {Q:Value→Shared→Prop} {E:Value→Shared→Prop} (ht:s.heap.IsList a items)
    (rl:RepL T s.heap (aG S ρ) ρ xs items.toList) (ri:RepV T s.heap (aG S ρ) ρ (.int j) i') (hx:nthV xs j = some x) (hQ:∀ w tk',RepV T s.heap (aG S ρ) ρ x w→Q w { s with toks:=tk' }) :
    wpAny (model T.prog T.w) A (getItem (.ref a) i') Q E s:=by
  refine jF ri fun t=>aAC hx fun i h1 h2 hi hx=>e1a2 (eZ _ _ rl i x hx) fun w hw rw_=>?_
  have hl:=aK _ _ rl
  rw [Array.length_toList] at hl
  exact zL hi (fun c e=>wpAny_getItem_list ht c h2 (e ▸ dQ hw) (hQ w s.toks rw_)) fun c d e=>wpAny_getItem_list_neg ht c (by lia) h1 (by rw [hl,e]; exact dQ hw) (hQ w s.toks rw_)
theorem item_get {s:Shared} {v i x:V} {v' i':Value} {Q:Value→Shared→Prop} {E:Value→Shared→Prop} (Z:Sit T hZ env Γ L S ρ s.heap loc mem)
    (rv:RepV T s.heap (aG S ρ) ρ v v') (ri:RepV T s.heap (aG S ρ) ρ i i') (hx:jA mem v i = some x) (hQ:∀ w tk',RepV T s.heap (aG S ρ) ρ x w→Q w { s with toks:=tk' }) :
    wpAny (model T.prog T.w) A (getItem v' i') Q E s:=by
  refine aEq hx (fun xs j e1 e2 hj=>?_) (fun xs j e1 e2 hj=>?_) (fun r xs j e1 hm e2 hj=>?_) fun r es y e1 hm e2 hj=>?_ <;> subst e1 <;> subst e2
  · refine gS rv fun a items _ ht rl=>jF ri fun t=>aAC hj fun i h1 h2 hi hx=>e1a2 (eZ _ _ rl i x hx) fun w hw rw_=>?_
    exact getItem_tuple (items:=items) ht h1 h2 (wS (by rw [← Array.length_toList,aK _ _ rl]; exact hi) (Array.length_toList ▸ (List.getElem?_eq_some_iff.mp hw).1)) (dQ hw) (hQ w s.toks rw_)
  · exact vV rv fun a items _ ht rl=>aAS ht rl ri hj hQ
  · exact pK Z.M rv hm fun a items n ho rl=>aAS (cJ ho) rl ri hj hQ
  · exact aAs rv fun p hp=>e1a3 (Z.M.rep _ p _ hp hm).2 fun kvs ht ek rl=>fL ri fun t=>e1a2 (wH ek rl hj) fun w hw rw_=>wpAny_getItem_of (strKind_is ..) ht.mapOf hw (hQ w _ rw_)
theorem hs_augI {o i e:Expr} {op:Operator} {io ii ie:IE} {tpos pos:Pos} (O:dW env L W) (hst:∀ ov iv new,augStore i ov iv new = (do holding [new,ov,iv] (setItem ov iv new); release [new,ov,iv] []; pure .next))
    (ho:HE T K hZ n env Γ L A (eval o env) io) (hi:HE T K hZ n env Γ L A (eval i env) ii) (he:HE T K hZ n env Γ L A (eval e env) ie):HS T K hZ n env Γ L W A (exec (.AugAssign (.Subscript o i tpos) op e pos) env) (.augI io ii op ie):=by
  intro S ρ s loc mem k kr kb Y hw Q hQ
  dsimp only [wpS] at hw
  refine wpAny_AugAssign_SubscriptAny (ho S ρ s loc mem _ Y.Z hw _ fun ov m1 ρ1 h1 t1 w k1 r1 M1 st1=>?_) hst
  have Y1:=Y.step O st1 M1
  refine hi S ρ1 { s with heap:=h1,toks:=t1 } loc m1 _ Y1.Z k1 _ fun iv m2 ρ2 h2 t2 w2 k2 r2 M2 st2=>?_
  have Y2:=Y1.step O st2 M2
  refine e1a2 (aD k2) fun old hold k2=>?_
  have r1':=RepV.step st2 aL r1
  refine item_get (s:={ s with heap:=h2,toks:=t2 }) Y2.Z r1' r2 hold fun w3 t3 r3=>?_
  refine he S ρ2 { s with heap:=h2,toks:=t3 } loc m2 _ Y2.Z k2 _ fun v m4 ρ4 h4 t4 w4 k4 r4 M4 st4=>?_
  have Y4:=Y2.step O st4 M4
  refine e1a2 (aD k4) fun x hx k4=>?_
  refine iop_V (s:={ s with heap:=h4,toks:=t4 }) (RepV.step st4 aL r3) r4 hx fun w5 t5 r5=>?_
  exact vT (s:={ s with heap:=h4,toks:=t5 }) M4 (RepV.step st4 aL r1') (RepV.step st4 aL r2) r5 k4 fun m6 h6 t6 k6 M6 st6 =>
    hQ .next loc m6 ρ4 h6 t6 k6 (Y4.step O st6 M6) (((st1.trans st2).trans st4).trans st6).nilW
theorem hs_augN {x:Str} {i:Nat} {op:Operator} {e:Expr} {ie:IE} {pos pos':Pos} (O:dW env L W) (En:dX env Γ L)
    (hx:Γ[i]? = some x) (hk:env.kindOf x = some .local ∨ (env.kindOf x = some .cell∧∃ c,env.cells.lookup x = some c)) (he:HE T K hZ n env Γ L A (eval e env) ie):HS T K hZ n env Γ L W A (exec (.AugAssign (.Name x pos') op e pos) env) (.augN i op ie):=by
  intro S ρ s loc mem k kr kb Y hw Q hQ
  dsimp only [wpS] at hw
  refine e1a2 (aD hw) fun old hold hw=>?_
  refine e1a2 Y.Z.F.ns fun m hn hvals=>?_
  refine e1a2 (hvals i x old hx (Option.join_eq_some_iff.mp hold)) fun v' hb hr=>?_
  refine wpAny_AugAssign_Name (sT En hn hb ?_)
  refine he S ρ s loc mem _ Y.Z hw _ fun v m1 ρ1 h1 t1 w k1 r1 M1 st1=>?_
  have Y1:=Y.step O st1 M1
  refine iop_M (s:={ s with heap:=h1,toks:=t1 }) M1 (RepV.step st1 aL hr) r1 k1 fun y m2 h2 t2 w2 k2 r2 M2 st2=>?_
  have Y2:=Y1.step O st2 M2
  exact tV (s:={ s with heap:=h2,toks:=t2 }) En O Y2 hx hk r2 fun h3 t3 Y3 st3=>hQ .next _ m2 ρ1 h3 t3 k2 Y3 ((st1.trans st2).nilW.trans st3)
noncomputable def StoresAt (env:Env) (Γ:List Str) (st:Value→Sem Unit) (i:Nat):Prop :=
  ∃ x,Γ[i]? = some x∧(env.kindOf x = some .local ∨ (env.kindOf x = some .cell∧∃ c,env.cells.lookup x = some c)) ∧
    ∀ (M:Model) (A:Around) (E:Value→Shared→Prop) (s:Shared) (v:Value) (Q:Unit→Shared→Prop),wpAny M A (storeName env x v) Q E s→wpAny M A (st v) Q E s
noncomputable def eM (env:Env) (Γ:List Str):List (Value→Sem Unit)→List Nat→Prop
  | [],[]=>True
  | st :: sts,i :: is=>StoresAt env Γ st i∧eM env Γ sts is
  | _,_=>False
theorem nQ {E:Value→Shared→Prop} (En:dX env Γ L) (O:dW env L W) (sts:List (Value→Sem Unit)):∀ (is:List Nat) (vs:List V) (vals:List Value) (s:Shared) (loc:Locs) (Q:Unit→Shared→Prop),eM env Γ sts is→vs.length = is.length →
    SitW T hZ env Γ L W S ρ s.heap loc mem→RepL T s.heap (aG S ρ) ρ vs vals →
    (∀ h' tk',SitW T hZ env Γ L W S ρ h' (dI loc is vs) mem→Step false W ρ s.heap ρ h'→Q () { s with heap:=h',toks:=tk' })→wpAny (model T.prog T.w) A (assignInOrder sts vals) Q E s:=by
  induction sts with
  | nil =>
    intro is vs vals s loc Q h hl Y r hQ
    cases is with
    | nil =>
      obtain rfl:=List.eq_nil_of_length_eq_zero hl
      exact wA r (wpAny_pure (hQ s.heap s.toks Y (Step.refl ..)))
    | cons=>exact False.elim h
  | cons st sts ih =>
    intro is vs vals s loc Q h hl Y r hQ
    cases is with
    | nil=>exact False.elim h
    | cons i is =>
      cases vs with
      | nil=>exact nomatch hl
      | cons v vs =>
        refine e1a3 h.1 fun x hx hk hst=>jG (P:=fun vals=>wpAny (model T.prog T.w) A (assignInOrder (st :: sts) vals) Q E s) r fun w t rv rt=>?_
        refine wpAny_assignInOrder_more (hst _ _ _ _ _ _ (tV En O Y hx hk rv fun h1 t1 Y1 st1=>?_))
        exact ih is vs t { s with heap:=h1,toks:=t1 } (setL loc i v) Q h.2 (Nat.succ.inj hl) Y1 (RepL.step st1 Y.sub rt) fun h2 t2 Y2 st2=>hQ h2 t2 Y2 (st1.trans st2)
theorem uY {h h':Heap} (he:Heap.ExtBut h.objs.size h h'):∀ b o,h.get? b = some o→h'.get? b = some o:=fun b o e=>he b o (Nat.ne_of_lt (Heap.lt_size e)) e
theorem SitW.all (Y:SitW T hZ env Γ L W S ρ h loc mem) (O:dW env L W) (hk:∀ b o,h.get? b = some o→h'.get? b = some o):SitW T hZ env Γ L W S ρ h' loc mem :=
  Y.step O (Step.all (p:=true) ρ hk) (Y.Z.M.all hk)
theorem hs_unp {elts:List Expr} {k₀:Nat} {tpos pos:Pos} {e:Expr} {ie:IE} {is:List Nat} (O:dW env L W) (En:dX env Γ L) (hh:A.handled = none) (hsw:swapsWithSole [.Tuple elts k₀ tpos] e pos.line env = pure false) (hss:swappedStores [.Tuple elts k₀ tpos] e env = pure none)
    (hst:eM env Γ ((assignEach elts env).map (·.2)) is) (hlen:(assignEach elts env).length = is.length) (hstar:(assignEach elts env).findIdx? (·.1) = none) (he:HE T K hZ n env Γ L A (eval e env) ie) :
    HS T K hZ n env Γ L W A (exec (.Assign [.Tuple elts k₀ tpos] e pos) env) (.unp is ie):=by
  intro S ρ s loc mem k kr kb Y hw Q hQ
  dsimp only [wpS] at hw
  refine Assign_Tuple (he S ρ s loc mem _ Y.Z hw _ fun v m1 ρ1 h1 t1 w k1 r1 M1 st1=>?_) hsw hss
  have Y1:=Y.step O st1 M1
  refine os_tup k1 r1 fun vs a items _ ht rl k1=>?_
  have hl:=aK _ _ rl
  rw [Array.length_toList] at hl
  refine wpAny_assign_Tuple (s:={ s with heap:=h1,toks:=t1 }) hh ht (by rw [hlen,hl]; exact k1.1.symm) hstar fun h2 he2=>?_
  have hk:=uY he2
  refine nQ En O _ is vs _ { s with heap:=h2,toks:=t1 } loc _ hst k1.1 (Y1.all O hk) (RepL.step (Step.all (p:=true) ρ1 hk) aL rl) fun h3 t3 Y3 st3=>?_
  exact hQ .next _ m1 ρ1 h3 t3 k1.2 Y3 ((st1.trans (Step.all ρ1 hk)).nilW.trans st3)
theorem wB {bad:List Addr} (xs:List V):∀ (l:List Value),RepL T h bad ρ xs l→RepL T h bad ρ xs.reverse l.reverse:=by
  induction xs with
  | nil=>exact fun l r=>wA r bE
  | cons x xs ih =>
    refine fun l r=>jG (P:=fun l=>RepL T h bad ρ (x :: xs).reverse l.reverse) r fun w t hv hr=>?_
    rw [List.reverse_cons,List.reverse_cons]
    exact dB (ih t hr) (bB hv bE)
theorem hs_swp {elts:List Expr} {k₀:Nat} {tpos pos:Pos} {e:Expr} {ie:IE} {is:List Nat} {names:List Str} (O:dW env L W) (En:dX env Γ L) (hh:A.handled = none) (hsw:swapsWithSole [.Tuple elts k₀ tpos] e pos.line env = pure false) (hss:swappedStores [.Tuple elts k₀ tpos] e env = pure (some names))
    (hst:eM env Γ (names.reverse.map fun n=>bindName env n) is.reverse) (hlen:names.length = is.length) (he:HE T K hZ n env Γ L A (eval e env) ie) :
    HS T K hZ n env Γ L W A (exec (.Assign [.Tuple elts k₀ tpos] e pos) env) (.swp is ie):=by
  intro S ρ s loc mem k kr kb Y hw Q hQ
  dsimp only [wpS] at hw
  refine Assign_Tuple_swapped (he S ρ s loc mem _ Y.Z hw _ fun v m1 ρ1 h1 t1 w k1 r1 M1 st1=>?_) hsw hss
  have Y1:=Y.step O st1 M1
  refine os_tup k1 r1 fun vs a items _ ht rl k1=>?_
  have hl:=aK _ _ rl
  rw [Array.length_toList] at hl
  rw [hlen.trans (k1.1.symm.trans hl.symm)]
  refine wpAny_unpackItems_tuple (s:={ s with heap:=h1,toks:=t1 }) hh ht fun h2 he2=>?_
  have hk:=uY he2
  refine nQ En O _ is.reverse vs.reverse _ { s with heap:=h2,toks:=t1 } loc _ hst (by rw [List.length_reverse,List.length_reverse]; exact k1.1) (Y1.all O hk) (wB _ _ (RepL.step (Step.all (p:=true) ρ1 hk) aL rl)) fun h3 t3 Y3 st3=>?_
  exact hQ .next _ m1 ρ1 h3 t3 k1.2 Y3 ((st1.trans (Step.all ρ1 hk)).nilW.trans st3)
end
section
variable {T:CT} {K:Frag} {hZ h h':Heap} {env:Env} {Γ:List Str} {L I:Addr} {W S:List Addr} {ρ ρ':List (Addr × Addr)} {loc loc':Locs} {mem mem':Mem} {A:Around} {n:Nat}
theorem hs_while {c:Expr} {ic:IE} {b:List Stmt} {ib:List IS} {pos:Pos} (O:dW env L W) (hc:HET T K hZ n env Γ L A (isTrue c env (eval c env)) ic) (hb:HSs T K hZ n env Γ L W A (execs b env) ib) :
    HS T K hZ n env Γ L W A (exec (.While c b [] pos) env) (.while ic ib):=by
  intro S ρ s loc mem k kr kb Y hw Q hQ
  dsimp only [wpS] at hw
  obtain ⟨N,hw⟩:=hw
  refine wpAny_While (codeAny_whileLoop (fun N s'=>∃ loc' mem' ρ' h' tk',s' = { s with heap:=h',toks:=tk' } ∧
    sA (fun l m q=>wpE T K hZ n l ic m fun v m=>aC (truth v) fun t=>q t m) (fun l m q qb=>wpSs T K hZ n l ib m q kr qb) N loc' mem' k∧SitW T hZ env Γ L W S ρ' h' loc' mem'∧Step false W ρ s.heap ρ' h') ?_ N ⟨loc,mem,ρ,s.heap,s.toks,rfl,hw,Y,Step.refl ..⟩)
  intro N' s' hq
  refine e5a4 hq fun loc1 m1 ρ1 h1 t1 e0q hw1 Y1 st1=>?_
  subst e0q
  cases N' with
  | zero=>exact hw1.elim
  | succ N' =>
    refine wpAny_mono (hc S ρ1 { s with heap:=h1,toks:=t1 } loc1 m1 _ Y1.Z hw1 _ fun t m2 ρ2 h2 t2 k2 M2 st2=>?_) (fun _ _ q=>q) fun _ _ q=>q.elim
    have Y2:=Y1.step O st2 M2
    cases t with
    | true =>
      rw [if_pos rfl] at k2 ⊢
      refine wpAny_mono (hb S ρ2 { s with heap:=h2,toks:=t2 } loc1 m2 _ kr k Y2 k2 _ fun f loc3 m3 ρ3 h3 t3 k3 Y3 st3=>?_) (fun _ _ q=>q) fun _ _ q=>q.elim
      have stt:=(st1.trans st2.nilW).trans st3
      cases f with
      | next=>exact ⟨N',Nat.lt_succ_self _,loc3,m3,ρ3,h3,t3,rfl,k3,Y3,stt⟩
      | cont=>exact k3.elim
      | brk=>exact hQ .next loc3 m3 ρ3 h3 t3 k3 Y3 stt
      | ret v=>exact hQ (.ret v) loc3 m3 ρ3 h3 t3 k3 Y3 stt
    | false =>
      rw [if_neg Bool.false_ne_true] at k2 ⊢
      exact wpAny_execs_nil (hQ .next loc1 m2 ρ2 h2 t2 k2 Y2 (st1.trans st2.nilW))
theorem MemR.grow (M:MemR T hZ S ρ h mem) (hI:h.get? I = none) (hk:∀ b o,h.get? b = some o→h'.get? b = some o) (hn:∃ o,h'.get? I = some o) (hz:hZ.objs.size ≤ I):MemR T hZ (I :: S) ρ h' mem:=by
  have fz:∀ a,Froz h (aG S ρ) a→Froz h' (aG (I :: S) ρ) a∧∀ o,h.get? a = some o→h'.get? a = some o:=fun a f=>by
    obtain ⟨o,ho⟩:=f.is
    refine ⟨⟨⟨o,hk _ _ ho⟩,fun q=>?_⟩,fun o e=>hk a o e⟩
    rcases List.mem_cons.mp q with q | q
    · rw [q,hI] at ho; cases ho
    · exact f.ok q
  refine ⟨fun b o e=>hk b o (M.keep b o e),M.len,fun i p o hi ho=>RepO.mono fz (List.prefix_refl _) (fun o e=>hk _ o e) (M.rep i p o hi ho),M.nd,M.fresh,fun a ha=>?_⟩
  rcases List.mem_cons.mp ha with rfl | ha
  · refine ⟨fun q=>?_,hz,hn⟩
    obtain ⟨x,hx⟩:=M.bad_there (List.mem_append_right S q)
    rw [hI] at hx; cases hx
  · obtain ⟨x,y,o,z⟩:=M.sfresh a ha
    exact ⟨x,y,o,hk _ _ z⟩
theorem cX {a:Addr} (f:Froz h (aG S ρ) a) (hI:h.get? I = none) (hk:∀ b o,h.get? b = some o→h'.get? b = some o):Froz h' (aG (I :: S) ρ) a∧∀ o,h.get? a = some o→h'.get? a = some o:=by
  obtain ⟨o,ho⟩:=f.is
  refine ⟨⟨⟨o,hk _ _ ho⟩,fun q=>?_⟩,fun o e=>hk a o e⟩
  rcases List.mem_cons.mp q with q | q
  · rw [q,hI] at ho; cases ho
  · exact f.ok q
theorem aAT {a:Addr} (f:Froz h (aG (I :: S) ρ) a) (hk:∀ b o,b ≠ I→h.get? b = some o→h'.get? b = some o):Froz h' (aG S ρ) a∧∀ o,h.get? a = some o→h'.get? a = some o:=by
  obtain ⟨o,ho⟩:=f.is
  have hne:a ≠ I:=fun q=>f.ok (q ▸ List.mem_cons_self ..)
  exact ⟨⟨⟨o,hk a o hne ho⟩,fun q=>f.ok (List.mem_cons_of_mem _ q)⟩,fun o e=>hk a o hne e⟩
theorem SitW.grow (Y:SitW T hZ env Γ L W S ρ h loc mem) (hI:h.get? I = none) (hk:∀ b o,h.get? b = some o→h'.get? b = some o) (hn:∃ o,h'.get? I = some o) (hz:hZ.objs.size ≤ I):SitW T hZ env Γ L W (I :: S) ρ h' loc mem:=by
  obtain ⟨⟨M,⟨m,hns,hv⟩,iS⟩,sub,own⟩:=Y
  refine ⟨⟨M.grow hI hk hn hz,⟨m,?_,fun j y u hj hu=>?_⟩,List.mem_cons_of_mem _ iS⟩,fun a ha=>List.mem_cons_of_mem _ (sub a ha),fun x c hc=>?_⟩
  · refine e3a2 hns fun o es ep ho r=>?_
    exact ⟨o,es,ep,hk _ _ ho,r⟩
  · refine e1a2 (hv j y u hj hu) fun z hb hr=>?_
    refine ⟨z,?_,RepV.mono (fun a f=>cX f hI hk) (List.prefix_refl _) u z hr⟩
    rcases hb with hb | ⟨h1,c,h2,h3,o,h4,h5⟩
    · exact .inl hb
    · exact .inr ⟨h1,c,h2,List.mem_cons_of_mem _ h3,o,hk _ _ h4,h5⟩
  · refine e2a2 (own x c hc) fun v₀ o ho hd=>?_
    exact ⟨v₀,o,hk _ _ ho,hd⟩
theorem MemR.finish (M:MemR T hZ (I :: S) ρ h mem) (hIS:I ∉ S) (hk:∀ b o,b ≠ I→h.get? b = some o→h'.get? b = some o):MemR T hZ S ρ h' mem:=by
  have hz:=M.sfresh I (List.mem_cons_self ..)
  refine ⟨fun b o e=>hk b o (fun q=>?_) (M.keep b o e),M.len,fun i p o hi ho=>RepO.mono (fun a f=>aAT f hk) (List.prefix_refl _) (fun o e=>hk _ o (fun q=>?_) e) (M.rep i p o hi ho),M.nd,M.fresh,fun a ha=>?_⟩
  · exact absurd (Heap.lt_size e) (Nat.not_lt.mpr (q ▸ hz.2.1))
  · exact hz.1 (q ▸ List.mem_map_of_mem (List.mem_of_getElem? hi))
  · obtain ⟨x,y,o,z⟩:=M.sfresh a (List.mem_cons_of_mem _ ha)
    exact ⟨x,y,o,hk _ _ (fun q=>hIS (q ▸ ha)) z⟩
structure OffAt (env:Env) (L I:Addr) (S:List Addr):Prop where
  L:L ≠ I
  cells:∀ x c,env.cells.lookup x = some c→c ≠ I
  S:I ∉ S
theorem SitW.finish (Y:SitW T hZ env Γ L W (I :: S) ρ h loc mem) (F:OffAt env L I S) (sub:∀ a ∈ W,a ∈ S) (hk:∀ b o,b ≠ I→h.get? b = some o→h'.get? b = some o):SitW T hZ env Γ L W S ρ h' loc mem:=by
  obtain ⟨⟨M,⟨m,hns,hv⟩,iS⟩,_,own⟩:=Y
  refine ⟨⟨M.finish F.S hk,⟨m,?_,fun j y u hj hu=>?_⟩,(List.mem_cons.mp iS).resolve_left F.L⟩,sub,fun x c hc=>?_⟩
  · refine e3a2 hns fun o es ep ho r=>?_
    exact ⟨o,es,ep,hk _ _ F.L ho,r⟩
  · refine e1a2 (hv j y u hj hu) fun z hb hr=>?_
    refine ⟨z,?_,RepV.mono (fun a f=>aAT f hk) (List.prefix_refl _) u z hr⟩
    rcases hb with hb | ⟨h1,c,h2,h3,o,h4,h5⟩
    · exact .inl hb
    · have hc:=F.cells y c h2
      exact .inr ⟨h1,c,h2,(List.mem_cons.mp h3).resolve_left hc,o,hk _ _ hc h4,h5⟩
  · refine e2a2 (own x c hc) fun v₀ o ho hd=>?_
    exact ⟨v₀,o,hk _ _ (F.cells x c hc) ho,hd⟩
theorem SitW.iter (Y:SitW T hZ env Γ L W S ρ h loc mem) (hI:I ∈ S) (hL:L ≠ I) (hC:∀ x c,env.cells.lookup x = some c→c ≠ I) (hk:∀ b o,b ≠ I→h.get? b = some o→h'.get? b = some o) (hn:∃ o,h'.get? I = some o):SitW T hZ env Γ L W S ρ h' loc mem:=by
  obtain ⟨⟨M,⟨m,hns,hv⟩,iS⟩,sub,own⟩:=Y
  have st:Step true [I] ρ h ρ h':=⟨List.prefix_refl _,by simp,fun b o e=>by
    by_cases q:b = I
    · subst q; exact hn
    · exact ⟨o,hk b o q e⟩,fun b o e _ hw=>hk b o (fun q=>hw (by rw [q]; exact List.mem_singleton.mpr rfl)) e⟩
  have hw:∀ a ∈ [I],a ∈ S:=fun a q=>by cases List.mem_singleton.mp q; exact hI
  refine ⟨⟨M.move st hw fun p hp o e=>hk _ o (fun q=>(M.sfresh I hI).1 (q ▸ List.mem_map_of_mem hp)) e,⟨m,?_,fun j y u hj hu=>?_⟩,iS⟩,sub,fun x c hc=>?_⟩
  · refine e3a2 hns fun o es ep ho r=>?_
    exact ⟨o,es,ep,hk _ _ hL ho,r⟩
  · refine e1a2 (hv j y u hj hu) fun z hb hr=>?_
    refine ⟨z,?_,RepV.step st hw hr⟩
    rcases hb with hb | ⟨h1,c,h2,h3,o,h4,h5⟩
    · exact .inl hb
    · exact .inr ⟨h1,c,h2,h3,o,hk _ _ (hC y c h2) h4,h5⟩
  · refine e2a2 (own x c hc) fun v₀ o ho hd=>?_
    exact ⟨v₀,o,hk _ _ (hC x c hc) ho,hd⟩
noncomputable def ItAt (T:CT) (S:List Addr) (ρ:List (Addr × Addr)) (h:Heap) (mem:Mem) (A:Around) (I:Addr) (j:Nat):Src→Prop
  | .vals xs=>j ≤ xs.length∧∃ fp P St,Walks T.prog T.w A I fp [I] xs.length P St∧St j h∧(∀ b ∈ fp,b = I ∨ Froz h (aG S ρ) b)∧(∀ i h,St i h→∃ o,h.get? I = some o)∧(∀ i x v,xs[i]? = some x→P i v→RepV T h (aG S ρ) ρ x v)
  | .lst xs=>∃ l items,h.IsListIter I l j∧h.IsList l items∧Froz h (aG S ρ) l∧RepL T h (aG S ρ) ρ xs items.toList
  | .ref k=>∃ p,ρ[k]? = some p∧h.IsListIter I p.1 j
  | .rev k n=>∃ p,ρ[k]? = some p∧h.IsRevIter I p.1 ((n:Int) - 1 - (j:Int))
theorem ItAt.imp {S':List Addr} {src:Src} {j:Nat} (it:ItAt T S ρ h mem A I j src) (hf:∀ a,Froz h (aG S ρ) a→Froz h' (aG S' ρ') a∧∀ o,h.get? a = some o→h'.get? a = some o) (hρ:ρ <+: ρ') (kI:∀ o,h.get? I = some o→h'.get? I = some o):ItAt T S' ρ' h' mem' A I j src:=by
  cases src with
  | vals xs =>
    obtain ⟨hjl,fp,P,St,Wk,hst,hfp,hth,hv⟩:=it
    exact ⟨hjl,fp,P,St,Wk,Wk.frame _ _ _ hst fun b hb o e=>(hfp b hb).elim (fun q=>q ▸ kI o (q ▸ e)) fun f=>(hf b f).2 o e,fun b hb=>(hfp b hb).imp id fun f=>(hf b f).1,hth,fun i x v hx hp=>RepV.mono hf hρ x v (hv i x v hx hp)⟩
  | lst xs=>exact e2a4 it fun l items hit hl f rl=>⟨l,items,hit.at kI,hl.at (hf l f).2,(hf l f).1,RepL.mono hf hρ _ _ rl⟩
  | ref k=>exact e1a2 it fun p hp hit=>⟨p,nW hρ hp,hit.at kI⟩
  | rev k n=>exact e1a2 it fun p hp hit=>⟨p,nW hρ hp,hit.at kI⟩
theorem ItAt.step {src:Src} {j:Nat} {w:List Addr} (it:ItAt T S ρ h mem A I j src) (hIS:I ∈ S) (st:Step false w ρ h ρ' h') (hw:∀ a ∈ w,a ∈ S) (hIw:I ∉ w) (hI:I ∉ ρ.map (·.2)):ItAt T S ρ' h' mem' A I j src :=
  it.imp (st.froz hw) st.ext fun o e=>st.keep I o e (.inr hI) hIw
theorem revAt_e {ys:List V} {m j:Nat} {r:Option V} {P:Prop} (h:revAt ys m j = some r) (k1:j < m→∀ x,ys[m - 1 - j]? = some x→some x = r→P) (k2:j = m→none = r→P):P:=by
  unfold revAt at h
  by_cases q:j < m
  · rw [if_pos q] at h; exact bJ h (k1 q)
  · rw [if_neg q] at h; exact if_e h fun q h=>k2 q (Option.some.inj h)
theorem aEs {src:Src} {j:Nat} {s:Shared} {r:Option V} {Q:Option Value→Shared→Prop} {E:Value→Shared→Prop} (hh:A.handled = none) (Y:SitW T hZ env Γ L W S ρ s.heap loc mem) (hIS:I ∈ S) (it:ItAt T S ρ s.heap mem A I j src) (hn:nextOf mem j src = some r)
    (hL:L ≠ I) (hC:∀ x c,env.cells.lookup x = some c→c ≠ I)
    (hdone:r = none→∀ h' tk',(∀ b o,b ≠ I→s.heap.get? b = some o→h'.get? b = some o)→Q none { s with heap:=h',toks:=tk' })
    (hitem:∀ x,r = some x→∀ w h' tk',SitW T hZ env Γ L W S ρ h' loc mem→Step true [I] ρ s.heap ρ h'→RepV T h' (aG S ρ) ρ x w→ItAt T S ρ h' mem A I (j + 1) src→Q (some w) { s with heap:=h',toks:=tk' }) :
    wpAny (model T.prog T.w) A (pyNext (.ref I)) Q E s:=by
  have hw:∀ a ∈ [I],a ∈ S:=fun a q=>List.mem_singleton.mp q ▸ hIS
  have item:∀ x w h' tk',r = some x→(∀ b o,b ≠ I→s.heap.get? b = some o→h'.get? b = some o)→(∃ o,h'.get? I = some o)→RepV T s.heap (aG S ρ) ρ x w→(Step true [I] ρ s.heap ρ h'→ItAt T S ρ h' mem A I (j + 1) src)→Q (some w) { s with heap:=h',toks:=tk' }:=fun x w h' tk' hr hk ht rw_ it' =>
    have st:Step true [I] ρ s.heap ρ h':=⟨List.prefix_refl _,by simp,fun b o e=>by
      by_cases q:b = I
      · rw [q]; exact ht
      · exact ⟨o,hk b o q e⟩,fun b o e _ hw=>hk b o (fun q=>hw (q ▸ List.mem_singleton.mpr rfl)) e⟩
    hitem x hr w h' tk' (Y.iter hIS hL hC hk ht) st (RepV.step st hw rw_) (it' st)
  have list:∀ (ys:List V) l items,r = ys[j]?→s.heap.IsListIter I l j→s.heap.IsList l items→RepL T s.heap (aG S ρ) ρ ys items.toList →
      (∀ h',h'.IsListIter I l (j + 1)→Heap.SameBut I s.heap h'→Step true [I] ρ s.heap ρ h'→ItAt T S ρ h' mem A I (j + 1) src)→wpAny (model T.prog T.w) A (pyNext (.ref I)) Q E s:=fun ys l items hr hit hl rl next=>by
    have hlen:=aK _ _ rl
    rw [Array.length_toList] at hlen
    cases hx:ys[j]? with
    | some x=>exact e1a2 (eZ _ _ rl j x hx) fun w hw' rw_=>wpAny_pyNext_list_item hit hl (dQ hw') fun h' hit' hs'=>item x w h' s.toks (hr.trans hx) (fun b o hb e=>(hs'.2 b hb).trans e) (hit'.elim fun o z=>⟨o,z.1⟩) rw_ (next h' hit' hs')
    | none=>exact wpAny_pyNext_list_end hh hit hl (Array.getElem?_eq_none (by rw [hlen]; exact List.getElem?_eq_none_iff.mp hx)) fun h' he'=>hdone (hr.trans hx) h' s.toks fun b o hb e=>he' b o hb e
  cases src with
  | vals xs =>
    obtain ⟨hjl,fp,P,St,Wk,hst,hfp,hth,hv⟩:=it
    obtain rfl:=Option.some.inj hn
    clear list
    by_cases hj:j < xs.length
    · refine Wk.item j s _ _ hj hst fun v h' tk hP hst' hk=>item xs[j] v h' tk (List.getElem?_eq_getElem hj) (fun b o hb e=>hk b o (fun q=>hb (List.mem_singleton.mp q)) e) (hth _ _ hst') (hv j _ v (List.getElem?_eq_getElem hj) hP)
        fun st=>⟨hj,fp,P,St,Wk,hst',fun b hb=>(hfp b hb).imp id fun f=>(st.froz hw b f).1,hth,fun i x v hx hp=>RepV.step st hw (hv i x v hx hp)⟩
    · exact Wk.done s _ _ (Nat.le_antisymm hjl (Nat.le_of_not_lt hj) ▸ hst) fun h' tk hk=>hdone (List.getElem?_eq_none (Nat.le_of_not_lt hj)) h' tk fun b o hb e=>hk b o (fun q=>hb (List.mem_singleton.mp q)) e
  | lst xs =>
    exact e2a4 it fun l items hit hl hf rl=>list xs l items (Option.some.inj hn).symm hit hl rl fun h' hit' hs' st =>
      ⟨l,items,hit',hl.at fun o e=>(hs'.2 l fun q=>hf.ok (List.mem_append_left _ (q ▸ hIS))).trans e,(st.froz hw l hf).1,RepL.step st hw rl⟩
  | ref k =>
    exact e1a2 it fun p hp hit=>bJ hn fun ys hm e=>e2a2 (Y.Z.M.rep _ p _ hp (eP hm)).2 fun items c e1 rl=>list ys p.1 items e.symm hit (cJ e1) rl fun h' hit' _ _=>⟨p,hp,hit'⟩
  | rev k n =>
    refine e1a2 it fun p hp hit=>aI hn fun ys hm hn=>revAt_e hn (fun hj x hx e=>?_) fun hj e=>?_
    · refine e2a2 (Y.Z.M.rep _ p _ hp (eP hm)).2 fun items c e1 rl=>e1a2 (eZ _ _ rl _ x hx) fun w hw' rw_=>?_
      have e0:(n:Int) - 1 - (j:Int) = ((n - 1 - j:Nat):Int):=by lia
      rw [e0] at hit
      refine wpAny_pyNext_rev_item hit (cJ e1) (dQ hw') fun h' hit' hs'=>item x w h' s.toks e.symm (fun b o hb e=>(hs'.2 b hb).trans e) (hit'.elim fun o z=>⟨o,z.1⟩) rw_ fun _=>⟨p,hp,?_⟩
      have e2:((n - 1 - j:Nat):Int) - 1 = (n:Int) - 1 - ((j + 1:Nat):Int):=by lia
      rw [e2] at hit'
      exact hit'
    · have e0:(n:Int) - 1 - (j:Int) = -1:=by lia
      rw [e0] at hit
      exact wpAny_pyNext_rev_end hh hit fun h' he'=>hdone e.symm h' s.toks fun b o hb e=>he' b o hb e
end
section
variable {T:CT} {K:Frag} {hZ h h':Heap} {env:Env} {Γ:List Str} {L I:Addr} {W S:List Addr} {ρ ρ':List (Addr × Addr)} {loc loc':Locs} {mem mem':Mem} {A:Around} {n:Nat}
structure aFR (T:CT) (hZ:Heap) (env:Env) (Γ:List Str) (L:Addr) (W:List Addr) (A:Around) (target:Expr) (put:Locs→V→Option Locs) (src:Src):Prop where
  stores:∀ (S:List Addr) (ρ:List (Addr × Addr)) (s:Shared) (loc loc1:Locs) (mem:Mem) (x:V) (w:Value) (E:Value→Shared→Prop),SitW T hZ env Γ L W S ρ s.heap loc mem→RepV T s.heap (aG S ρ) ρ x w→put loc x = some loc1→∀ Q:Unit→Shared→Prop,
    (∀ h' tk',SitW T hZ env Γ L W S ρ h' loc1 mem→Step false W ρ s.heap ρ h'→Q () { s with heap:=h',toks:=tk' })→wpAny (model T.prog T.w) A (assign target env w) Q E s
  go:∀ (S:List Addr) (ρ:List (Addr × Addr)) (s:Shared) (I:Addr) (j:Nat) (loc loc1:Locs) (mem:Mem) (x:V) (w:Value) (E:Value→Shared→Prop) (Q:Unit→Shared→Prop),ItAt T S ρ s.heap mem A I j src→RepV T s.heap (aG S ρ) ρ x w→put loc x = some loc1 →
    Q () s→wpAny (model T.prog T.w) A (letOwnedTupleGo target (.ref I) w) Q E s
theorem put_name {x:Str} {pos:Pos} {i:Nat} {src:Src} (O:dW env L W) (En:dX env Γ L) (hx:Γ[i]? = some x) (hk:env.kindOf x = some .local ∨ (env.kindOf x = some .cell∧∃ c,env.cells.lookup x = some c)):aFR T hZ env Γ L W A (.Name x pos) (put1 i) src where
  stores:=fun S ρ s loc loc1 mem v w E Y r hp Q hQ=>by
    obtain rfl:=Option.some.inj hp
    exact wpAny_assign_Name (tV En O Y hx hk r hQ)
  go:=fun S ρ s I j loc loc1 mem v w E Q _ _ _ hQ=>wpAny_of_eq (a:=()) rfl hQ
theorem aDP {elts:List Expr} {k₀:Nat} {pos:Pos} {is:List Nat} {src:Src} (O:dW env L W) (En:dX env Γ L) (hh:A.handled = none) (hl:wQ src = true)
    (hst:eM env Γ ((assignEach elts env).map (·.2)) is) (hlen:(assignEach elts env).length = is.length) (hstar:(assignEach elts env).findIdx? (·.1) = none):aFR T hZ env Γ L W A (.Tuple elts k₀ pos) (putT is) src where
  stores:=fun S ρ s loc loc1 mem v w E Y r hp Q hQ=>nX hp fun vs ev hy=>if_e hy fun hvl hz=>by
    subst ev
    obtain rfl:=Option.some.inj hz
    refine gS r fun a items _ ht rl=>?_
    have hlv:=aK _ _ rl
    rw [Array.length_toList] at hlv
    refine wpAny_assign_Tuple hh ht (by rw [hlen,hlv]; exact hvl.symm) hstar fun h2 he2=>?_
    have hk:=uY he2
    exact nQ En O _ is vs _ { s with heap:=h2 } loc _ hst hvl (Y.all O hk) (RepL.step (Step.all (p:=true) ρ hk) aL rl) fun h3 t3 Y3 st3=>hQ h3 t3 Y3 ((Step.all ρ hk).nilW.trans st3)
  go:=fun S ρ s I j loc loc1 mem v w E Q it r hp hQ=>nX hp fun vs ev _=>by
    subst ev
    refine gS r fun a items _ ht rl=>?_
    cases src with
    | lst xs=>obtain ⟨l,items,hit,_⟩:=it; exact wpAny_letOwnedTupleGo_listiter hit hQ
    | ref k=>obtain ⟨p,_,hit⟩:=it; exact wpAny_letOwnedTupleGo_listiter hit hQ
    | _=>exact ff hl
theorem loop_run {target:Expr} {body:List Stmt} {ib:List IS} {put:Locs→V→Option Locs} {src:Src} {s:Shared} {N:Nat} {k:Locs→Mem→Prop} {kr:V→Mem→Prop} {Q:Flow→Shared→Prop} {RE:Value→Shared→Prop} (O:dW env L W) (hh:A.handled = none)
    (hb:HSs T K hZ n env Γ L W A (execs body env) ib) (hp:aFR T hZ env Γ L W A target put src) (F:OffAt env L I S) (sub:∀ a ∈ W,a ∈ S)
    (Y:SitW T hZ env Γ L W (I :: S) ρ s.heap loc mem) (it:ItAt T (I :: S) ρ s.heap mem A I 0 src)
    (hw:forN src put (fun l m q qb=>wpSs T K hZ n l ib m q kr qb) N 0 loc mem k)
    (hQ:∀ f loc' mem' ρ' h' tk',aET T S ρ' h' loc' mem' k kr (fun _ _=>False) f→SitW T hZ env Γ L W S ρ' h' loc' mem'→Step false (I :: W) ρ s.heap ρ' h' ∨ (∃ h1,Step false (I :: W) ρ s.heap ρ' h1∧∀ b o,b ≠ I→h1.get? b = some o→h'.get? b = some o)→Q f { s with heap:=h',toks:=tk' }) :
    codeAny (model T.prog T.w) A (.forLoop target (.ref I) body [] env) (fun r s'=>match r with | .ok f=>Q f s' | .error e=>RE e s') s:=by
  have hIS:I ∈ I :: S:=List.mem_cons_self ..
  have hIW:I ∉ W:=fun q=>F.S (sub I q)
  refine codeAny_forLoop_any (fun N s'=>∃ j loc' mem' ρ' h' tk',s' = { s with heap:=h',toks:=tk' } ∧
    forN src put (fun l m q qb=>wpSs T K hZ n l ib m q kr qb) N j loc' mem' k∧SitW T hZ env Γ L W (I :: S) ρ' h' loc' mem'∧ItAt T (I :: S) ρ' h' mem' A I j src∧Step false (I :: W) ρ s.heap ρ' h') ?_ N ⟨0,loc,mem,ρ,s.heap,s.toks,rfl,hw,Y,it,Step.refl ..⟩
  intro N' s' hq
  refine e6a5 hq fun j loc1 m1 ρ1 h1 t1 e0q hw1 Y1 it1 st1=>?_
  subst e0q
  cases N' with
  | zero=>exact hw1.elim
  | succ N' =>
    refine e1a2 (aD hw1) fun r hr hw1=>?_
    refine aEs (s:={ s with heap:=h1,toks:=t1 }) hh Y1 hIS it1 hr F.L F.cells ?_ ?_
    · rintro rfl h2 t2 hk
      refine wpAny_execs_nil (hQ .next loc1 m1 ρ1 h2 t2 hw1 (Y1.finish F sub hk) (.inr ⟨h1,st1,hk⟩))
    · rintro x rfl w h2 t2 Y2 st2 r2 it2
      dsimp only
      refine e1a2 (aD hw1) fun loc2 hloc2 hw2=>?_
      refine hp.go (I :: S) ρ1 _ I (j + 1) loc1 loc2 m1 x w _ _ it2 r2 hloc2 ?_
      refine hp.stores (I :: S) ρ1 { s with heap:=h2,toks:=t2 } loc1 loc2 m1 x w _ Y2 r2 hloc2 _ fun h3 t3 Y3 st3=>?_
      have it3:=it2.step (mem':=m1) hIS st3 Y2.sub hIW (Y2.Z.M.sfresh I hIS).1
      refine wpAny_mono (hb (I :: S) ρ1 { s with heap:=h3,toks:=t3 } loc2 m1 _ kr k Y3 hw2 _ fun f loc4 m4 ρ4 h4 t4 k4 Y4 st4=>?_) (fun _ _ q=>q) fun _ _ q=>q.elim
      have stt:Step false (I :: W) ρ s.heap ρ4 h4:=((st1.trans (st2.plain.weaken fun a q=>by cases List.mem_singleton.mp q; exact List.mem_cons_self ..)).trans (st3.weaken fun a q=>List.mem_cons_of_mem _ q)).trans (st4.weaken fun a q=>List.mem_cons_of_mem _ q)
      cases f with
      | next =>
        exact ⟨N',Nat.lt_succ_self _,j + 1,loc4,m4,ρ4,h4,t4,rfl,k4,Y4,it3.step hIS st4 Y3.sub hIW (Y3.Z.M.sfresh I hIS).1,stt⟩
      | cont=>exact k4.elim
      | brk=>exact hQ .next loc4 m4 ρ4 h4 t4 k4 (Y4.finish F sub fun _ _ _ e=>e) (.inl stt)
      | ret v =>
        refine e1a2 k4 fun x hx rx=>?_
        exact hQ (.ret v) loc4 m4 ρ4 h4 t4 ⟨x,hx,RepV.mono (fun a f=>⟨f.sub fun b q=>List.mem_cons_of_mem _ q,fun o e=>e⟩) (List.prefix_refl _) x v rx⟩ (Y4.finish F sub fun _ _ _ e=>e) (.inl stt)
theorem step_forget {p:Bool} {s₁:Heap} (st:Step p (I :: W) ρ s₁ ρ' h') (hk:∀ b o,h.get? b = some o→s₁.get? b = some o) (hI:h.get? I = none) (hnew:∀ q ∈ ρ'.drop ρ.length,h.get? q.1 = none∧h.get? q.2 = none):Step p W ρ h ρ' h' :=
  ⟨st.ext,hnew,fun b o e=>st.there b o (hk b o e),fun b o e h1 h2=>st.keep b o (hk b o e) h1 fun q=>by
    rcases List.mem_cons.mp q with q | q
    · rw [q,hI] at e; cases e
    · exact h2 q⟩
theorem bH (hk:∀ b o,h.get? b = some o→h'.get? b = some o) {b:Addr} (e:h'.get? b = none):h.get? b = none:=by
  cases q:h.get? b with
  | none=>rfl
  | some o=>rw [hk b o q] at e; cases e
theorem loop_all {target:Expr} {body:List Stmt} {ib:List IS} {put:Locs→V→Option Locs} {src:Src} {s:Shared} {o:Obj} {k:Locs→Mem→Prop} {kr:V→Mem→Prop} {kb:Locs→Mem→Prop} {Q:Flow→Shared→Prop} {RE:Value→Shared→Prop} (St:Stat T K hZ) (O:dW env L W) (hh:A.handled = none)
    (hb:HSs T K hZ n env Γ L W A (execs body env) ib) (hp:aFR T hZ env Γ L W A target put src)
    (Y:SitW T hZ env Γ L W S ρ s.heap loc mem) (it:ItAt T (s.heap.objs.size :: S) ρ (s.heap.push o) mem A s.heap.objs.size 0 src) (ho:o.isFreed = false)
    (hw:∃ N,forN src put (fun l m q qb=>wpSs T K hZ n l ib m q kr qb) N 0 loc mem k)
    (hQ:∀ f loc' mem' ρ' h' tk',aET T S ρ' h' loc' mem' k kr kb f→SitW T hZ env Γ L W S ρ' h' loc' mem'→Step false W ρ s.heap ρ' h'→Q f { s with heap:=h',toks:=tk' }) :
    codeAny (model T.prog T.w) A (.forLoop target (.ref s.heap.objs.size) body [] env) (fun r s'=>match r with | .ok f=>Q f s' | .error e=>RE e s') { s with heap:=s.heap.push o }:=by
  obtain ⟨N,hw⟩:=hw
  have hn:=aR s.heap
  have hk:∀ b x,s.heap.get? b = some x→(s.heap.push o).get? b = some x:=fun _ _ e=>Heap.get?_push_of_some _ e
  have F:OffAt env L s.heap.objs.size S:=by
    refine ⟨fun q=>?_,fun x c hc q=>?_,fun q=>?_⟩
    · obtain ⟨m,⟨ob,_,_,e,_⟩,_⟩:=Y.Z.F.ns
      rw [q,hn] at e; cases e
    · refine e2a2 (Y.own x c hc) fun v₀ ob e _=>?_
      rw [q,hn] at e; cases e
    · obtain ⟨_,_,ob,e⟩:=Y.Z.M.sfresh _ q
      rw [hn] at e; cases e
  have Y1:=Y.grow hn hk ⟨o,Heap.get?_push_size _ ho⟩ (St.grown Y.Z.M)
  refine loop_run (s:={ s with heap:=s.heap.push o }) O hh hb hp F Y.sub Y1 it hw fun f loc' mem' ρ' h' tk' hf Y' hst=>?_
  refine hQ f loc' mem' ρ' h' tk' ?_ Y' ?_
  · cases f <;> first | exact hf | exact hf.elim
  · rcases hst with st | ⟨h1,st,hk1⟩
    · exact step_forget st hk hn fun q hq=>⟨bH hk (st.new q hq).1,bH hk (st.new q hq).2⟩
    · have st2:=step_forget st hk hn fun q hq=>⟨bH hk (st.new q hq).1,bH hk (st.new q hq).2⟩
      have ne:∀ b x,s.heap.get? b = some x→b ≠ s.heap.objs.size:=fun b x e=>Nat.ne_of_lt (Heap.lt_size e)
      refine ⟨st2.ext,st2.new,fun b x e=>?_,fun b x e c1 c2=>hk1 b x (ne b x e) (st2.keep b x e c1 c2)⟩
      obtain ⟨x',e'⟩:=st2.there b x e
      exact ⟨x',hk1 b x' (ne b x e) e'⟩
end
section
variable {T:CT} {K:Frag} {hZ h h':Heap} {env:Env} {Γ:List Str} {L I:Addr} {W S:List Addr} {ρ ρ':List (Addr × Addr)} {loc loc':Locs} {mem mem':Mem} {A:Around} {n:Nat}
noncomputable def HI (T:CT) (K:Frag) (hZ:Heap) (n:Nat) (env:Env) (Γ:List Str) (L:Addr) (A:Around) (t:Sem Value) (it:Iter):Prop :=
  ∀ (S:List Addr) (ρ:List (Addr × Addr)) (s:Shared) (loc:Locs) (mem:Mem) (k:Src→Mem→Prop),Sit T hZ env Γ L S ρ s.heap loc mem→iterM T K hZ n loc mem it k →
    ∀ Q:Value→Shared→Prop,(∀ src mem' ρ' h' tk' o,k src mem'→MemR T hZ S ρ' h' mem'→Step false [] ρ s.heap ρ' h'→o.isFreed = false→ItAt T (h'.objs.size :: S) ρ' (h'.push o) mem' A h'.objs.size 0 src→Q (.ref h'.objs.size) { s with heap:=h'.push o,toks:=tk' }) →
      wpAny (model T.prog T.w) A t (fun x s₁=>wpAny (model T.prog T.w) A (pyIter x) Q (fun _ _=>False) s₁) (fun _ _=>False) s
theorem lR {a:Addr} {o:Obj} (f:Froz h (aG S ρ) a):Froz (h.push o) (aG (h.objs.size :: S) ρ) a:=(cX f (aR h) fun _ _ e=>Heap.get?_push_of_some _ e).1
theorem qF {o:Obj} {xs:List V} {l:List Value} (r:RepL T h (aG S ρ) ρ xs l):RepL T (h.push o) (aG (h.objs.size :: S) ρ) ρ xs l :=
  RepL.mono (fun a f=>cX f (aR h) fun _ _ e=>Heap.get?_push_of_some _ e) (List.prefix_refl _) xs l r
theorem yQ {o:Obj} {x:V} {v:Value} (r:RepV T h (aG S ρ) ρ x v):RepV T (h.push o) (aG (h.objs.size :: S) ρ) ρ x v :=
  RepV.mono (fun a f=>cX f (aR h) fun _ _ e=>Heap.get?_push_of_some _ e) (List.prefix_refl _) x v r
theorem jM {xs:List V} {fp:List Addr} {P:Nat→Value→Prop} {St:Nat→Heap→Prop} (W:Walks T.prog T.w A I fp [I] xs.length P St) (h0:St 0 h) (hfp:∀ b ∈ fp,b = I ∨ Froz h (aG S ρ) b) (hth:∀ i h,St i h→∃ o,h.get? I = some o)
    (hv:∀ i x v,xs[i]? = some x→P i v→RepV T h (aG S ρ) ρ x v):ItAt T S ρ h mem A I 0 (.vals xs):=⟨Nat.zero_le _,fp,P,St,W,h0,hfp,hth,hv⟩
theorem aEo {s:Shared} {v:V} {v':Value} {k:Src→Prop} {Q:Value→Shared→Prop} {E:Value→Shared→Prop} (hh:A.handled = none) (M:MemR T hZ S ρ s.heap mem) (r:RepV T s.heap (aG S ρ) ρ v v') (hw:srcOf mem v k)
    (hQ:∀ src o,k src→o.isFreed = false→ItAt T (s.heap.objs.size :: S) ρ (s.heap.push o) mem A s.heap.objs.size 0 src→Q (.ref s.heap.objs.size) { s with heap:=s.heap.push o }):wpAny (model T.prog T.w) A (pyIter v') Q E s:=by
  cases v with
  | tup xs =>
    refine gS r fun a items hf ht rl=>?_
    have hlen:=aK _ _ rl
    rw [Array.length_toList] at hlen
    have Wk:=Walks.tuple (prog:=T.prog) (w:=T.w) hh s.heap.objs.size a (fun q=>by obtain ⟨o,e,_⟩:=ht; rw [q,aR] at e; cases e) items
    rw [hlen] at Wk
    refine wpAny_pyIter_tuple ht (hQ (.vals xs) _ hw rfl (jM Wk ⟨⟨_,Heap.get?_push_size _ rfl,rfl,rfl⟩,ht.push _⟩ (fun b hb=>?_) (fun i h st=>st.1.elim fun o z=>⟨o,z.1⟩) (fun i x v hx hp=>?_)))
    · exact (List.mem_cons.mp hb).imp id fun q=>by rw [List.mem_singleton.mp q]; exact lR hf
    · exact e1a2 (eZ _ _ rl i x hx) fun w hw' rw_=>Option.some.inj ((dQ hw').symm.trans (show items[i]? = some v from hp)) ▸ yQ rw_
  | lst xs =>
    refine vV r fun a items hf ht rl=>?_
    exact wpAny_pyIter_list ht (hQ (.lst xs) _ hw rfl ⟨a,items,⟨_,Heap.get?_push_size _ rfl,rfl,rfl⟩,by obtain ⟨o,e,r⟩:=ht; exact ⟨o,Heap.get?_push_of_some _ e,r⟩,lR hf,qF rl⟩)
  | str x =>
    refine fL r fun t=>?_
    have key:∀ (i:Nat) (y:V) (v:Value) (hp:Heap) (b:List Addr),(x.cps.toList.map fun c=>V.str ⟨#[c]⟩)[i]? = some y→SignAt x i v→RepV T hp b ρ y v:=by
      intro i y v hp b hy hq
      refine e2a2 hq fun c u hc e=>?_
      rw [List.getElem?_map,show x.cps.toList[i]? = some c by simpa using hc] at hy
      exact e ▸ Option.some.inj hy ▸ ⟨u,rfl⟩
    have hl:(x.cps.toList.map fun c=>V.str ⟨#[c]⟩).length = x.cps.size:=(List.length_map ..).trans Array.length_toList
    cases ha:x.cps.all (· < 128)
    · have Wk:=Walks.strWide (prog:=T.prog) (w:=T.w) hh s.heap.objs.size x t
      rw [← hl] at Wk
      exact wpAny_pyIter_wide ha (hQ (.vals _) _ hw rfl (jM Wk ⟨_,Heap.get?_push_size _ rfl,rfl,rfl⟩ (fun b hb=>.inl (List.mem_singleton.mp hb)) (fun i h st=>st.elim fun o z=>⟨o,z.1⟩) (fun i y v hy hp=>key i y v _ _ hy hp)))
    · have Wk:=Walks.strAscii (prog:=T.prog) (w:=T.w) hh s.heap.objs.size x t
      rw [← hl] at Wk
      exact wpAny_pyIter_ascii ha (hQ (.vals _) _ hw rfl (jM Wk ⟨_,Heap.get?_push_size _ rfl,rfl,rfl⟩ (fun b hb=>.inl (List.mem_singleton.mp hb)) (fun i h st=>st.elim fun o z=>⟨o,z.1⟩) (fun i y v hy hp=>key i y v _ _ hy hp)))
  | ref k' =>
    exact e1a2 r fun p hp e=>e1a2 (aD hw) fun xs hm hw=>e2a2 (M.rep _ p _ hp (eP hm)).2 fun items c e1 rl=>e ▸ wpAny_pyIter_list (cJ e1) (hQ (.ref k') _ hw rfl ⟨p,hp,⟨_,Heap.get?_push_size _ rfl,rfl,rfl⟩⟩)
  | _=>exact False.elim hw
theorem hi_of {e:Expr} {ie:IE} (hh:A.handled = none) (he:HE T K hZ n env Γ L A (eval e env) ie):HI T K hZ n env Γ L A (eval e env) (.of ie):=by
  intro S ρ s loc mem k Z hw Q hQ
  refine he S ρ s loc mem _ Z hw _ fun v m1 ρ1 h1 t1 w k1 r1 M1 st1=>?_
  exact aEo (s:={ s with heap:=h1,toks:=t1 }) hh M1 r1 k1 fun src o hk ho it=>hQ src m1 ρ1 h1 t1 o hk M1 st1 ho it
theorem wU {x:Str} {np pos:Pos} {Ty:String} {e:Expr} {ie:IE} {S:List Addr} {s:Shared} {k:V→Mem→Prop} {Q:Value→Shared→Prop} (St:Stat T K hZ) (En:dX env Γ L) (hk:env.kindOf x = some .globalImplicit) (hd:(x == ("__debug__" : Str)) = false) (hg:hH K x = some (.type Ty))
    (hs:notStar e = true) (he:HE T K hZ n env Γ L A (eval e env) ie) (Z:Sit T hZ env Γ L S ρ s.heap loc mem) (hw:wpE T K hZ n loc ie mem k)
    (hQ:∀ v mem' ρ' h' tk' w,k v mem'→RepV T h' (aG S ρ') ρ' v w→MemR T hZ S ρ' h' mem'→Step false [] ρ s.heap ρ' h'→wpAny (model T.prog T.w) A (call (.type Ty) [w]) Q (fun _ _=>False) { s with heap:=h',toks:=tk' }) :
    wpAny (model T.prog T.w) A (eval (.Call (.Name x np) [e] [] pos) env) Q (fun _ _=>False) s:=by
  have gl:=qP (T:=T) (S:=S) (A:=A) (pos:=np) (Γ:=Γ) (L:=L) St En hk hd hg rfl ρ s loc mem _ Z rfl
  refine wpAny_Call_ofName (gl _ fun fv h1 t1 r1 st1 M1=>?_)
  have hfv:fv = .type Ty:=r1.1
  subst hfv
  refine qV (by simp [hs]) ?_
  have hes:=pN (T:=T) (K:=K) (hZ:=hZ) (n:=n) (Γ:=Γ) (L:=L) (A:=A) (pos:=pos) hs he (zP (pos:=pos))
  refine hes S ρ { s with heap:=h1,toks:=t1 } loc mem (fun vs m=>∃ v,vs = [v]∧k v m) (Z.step st1 M1) ?_ _ fun vs m2 ρ2 h2 t2 ws k2 r2 M2 st2=>?_
  · dsimp only [wpEs]
    have:(fun (v:V) (m:Mem)=>∃ v_1,[v] = [v_1]∧k v_1 m) = k:=by
      funext v m
      simp
    rw [this]
    exact hw
  · refine e1a2 k2 fun v e0q hk2=>?_
    subst e0q
    refine e1a2 (pJ r2) fun w e0q rw_=>?_
    subst e0q
    exact hQ v m2 ρ2 h2 t2 w hk2 rw_ M2 (st1.plain.trans st2)
theorem sL {bad:List Addr} {k j:Nat} {a:Int} {g:Nat→Int} (hg:∀ j:Nat,a + (j:Int) * 1 = g j) {y:V} {v:Value} (hy:((List.range k).map fun j=>V.int (g j))[j]? = some y) (hv:∃ u,v = .int (a + (j:Int) * 1) u):RepV T h bad ρ y v:=by
  rw [List.getElem?_map] at hy
  refine bJ hy fun q hq e=>?_
  obtain ⟨hlt,rfl⟩:=List.getElem?_eq_some_iff.mp hq
  rw [List.getElem_range,← hg] at e
  exact e ▸ hv
theorem hi_range {x:Str} {np pos:Pos} {e:Expr} {ie:IE} (St:Stat T K hZ) (hh:A.handled = none) (En:dX env Γ L) (hk:env.kindOf x = some .globalImplicit) (hd:(x == ("__debug__" : Str)) = false) (hg:hH K x = some (.type "range"))
    (hs:notStar e = true) (he:HE T K hZ n env Γ L A (eval e env) ie):HI T K hZ n env Γ L A (eval (.Call (.Name x np) [e] [] pos) env) (.range ie):=by
  intro S ρ s loc mem k Z hw Q hQ
  refine wU St En hk hd hg hs he Z hw fun v m1 ρ1 h1 t1 w k1 r1 M1 st1=>?_
  refine aDT k1 r1 fun i t k1=>e0a3 k1 fun h0 h2 k1=>call_range_1 ?_
  have hz:Builtin.Range.rangeSize 0 i 1 = i:=by rw [rangeSize_one]; split <;> lia
  refine wpAny_pyIter_range (Heap.get?_push_size _ rfl) (small_one (by lia) (by lia) (by lia) (by lia)) ?_
  rw [hz]
  have hlen:((List.range i.toNat).map fun (j:Nat)=>V.int (j:Int)).length = i.toNat:=(List.length_map ..).trans List.length_range
  have Wk:=Walks.range (prog:=T.prog) (w:=T.w) hh (h1.push { cls:=.type "range",data:=.fields #[.int 0 t1,.int i t,.int 1 (t1 + 1)] }).objs.size 0 1 i.toNat
  rw [← hlen] at Wk
  refine hQ (.vals ((List.range i.toNat).map fun (j:Nat)=>V.int (j:Int))) m1 ρ1 _ _ _ k1 (M1.push _) (st1.trans (Step.push ..)) rfl (jM Wk ?_ (fun b hb=>.inl (List.mem_singleton.mp hb)) (fun i h st=>⟨_,st⟩) ?_)
  · show IsRangeIter _ _ _ _ _
    rw [hlen,show (0:Int) + ((0:Nat):Int) * 1 = 0 by simp,show ((i.toNat:Nat):Int) - ((0:Nat):Int) = i by lia]
    exact Heap.get?_push_size _ rfl
  · exact fun j y v hy hv=>sL (a:=0) (g:=fun j=>(j:Int)) (fun j=>by rw [Int.mul_one,Int.zero_add]) hy hv
theorem hi_rev {x:Str} {np pos:Pos} {e:Expr} {ie:IE} (St:Stat T K hZ) (hh:A.handled = none) (En:dX env Γ L) (hk:env.kindOf x = some .globalImplicit) (hd:(x == ("__debug__" : Str)) = false) (hg:hH K x = some (.type "reversed"))
    (hs:notStar e = true) (he:HE T K hZ n env Γ L A (eval e env) ie):HI T K hZ n env Γ L A (eval (.Call (.Name x np) [e] [] pos) env) (.rev ie):=by
  intro S ρ s loc mem k Z hw Q hQ
  refine wU St En hk hd hg hs he Z hw fun v m1 ρ1 h1 t1 w k1 r1 M1 st1=>?_
  refine aAB k1 r1 fun r p _ hp k1=>e1a2 (aD k1) fun ys hm k1=>e2a2 (M1.rep _ p _ hp (eP hm)).2 fun items c e1 rl=>call_reversed_list (cJ e1) ?_
  have hlen:=aK _ _ rl
  rw [Array.length_toList] at hlen
  have hit:(h1.push (revObj p.1 ((items.size:Int) - 1))).IsRevIter h1.objs.size p.1 ((items.size:Int) - 1):=⟨_,Heap.get?_push_size _ rfl,rfl,rfl⟩
  refine wpAny_pyIter_revIter hit (hQ (.rev r ys.length) m1 ρ1 h1 t1 _ k1 M1 st1 rfl ⟨p,hp,?_⟩)
  rw [hlen] at hit ⊢
  rw [show (ys.length:Int) - 1 - ((0:Nat):Int) = (ys.length:Int) - 1 by simp]
  exact hit
theorem aDJ {bad:List Addr} (j:Nat) (xs:List V):∀ (l:List Value),RepL T h bad ρ xs l→RepL T h bad ρ (xs.take j) (l.take j):=by
  induction xs generalizing j with
  | nil =>
    refine fun l r=>wA r ?_
    rw [List.take_nil,List.take_nil]; exact bE
  | cons x xs ih =>
    refine fun l r=>jG (P:=fun l=>RepL T h bad ρ ((x :: xs).take j) (l.take j)) r fun w t hv hr=>?_
    cases j with
    | zero=>exact bE
    | succ j=>exact bB hv (ih j t hr)
theorem hi_head {e:Expr} {pe:PE} {z:Nat} {k₀:Nat} {p p₀ pos:Pos} (hh:A.handled = none) (he:∀ S,HP T hZ env Γ L S A (eval e env) pe) :
    HI T K hZ n env Γ L A (eval (.Subscript e (.Slice none (some (.Constant (.int z) k₀ p₀)) none p) pos) env) (.head pe z):=by
  intro S ρ s loc mem k Z hw Q hQ
  dsimp only [iterM] at hw
  refine e1a2 (aD hw) fun v hv hw=>?_
  refine Subscript_ (he S ρ s loc mem v Z hv _ fun v' h1 t1 r1 st1 M1=>?_)
  refine wpAny_Slice (wpAny_evalPart_none (wpAny_evalPart_some (wpAny_Constant_int (wpAny_evalPart_none ?_))))
  refine e1a4 (aD hw) fun xs hx hz hl hk=>?_
  obtain rfl:=asLst_e hx
  refine vV r1 fun a items hf ht rl=>?_
  have hlen:=aK _ _ rl
  rw [Array.length_toList] at hlen
  dsimp only
  have st2:Step true [] ρ h1 ρ (h1.push { cls:=.type "slice",data:=.fields #[.none,.int z t1,.none] }):=Step.push ..
  have M2:=M1.push { cls:=.type "slice",data:=.fields #[.none,.int z t1,.none] }
  have rl2:=RepL.step st2 aL rl
  have hsl:(h1.push { cls:=.type "slice",data:=.fields #[.none,.int z t1,.none] }).IsSliceOf h1.objs.size .none (.int z t1) .none:=Heap.IsSliceOf.new ..
  have htl:(h1.push { cls:=.type "slice",data:=.fields #[.none,.int z t1,.none] }).IsList a items:=by obtain ⟨o,e,r⟩:=ht; exact ⟨o,Heap.get?_push_of_some _ e,r⟩
  clear rl ht hf
  generalize h1.push { cls:=.type "slice",data:=.fields #[.none,.int z t1,.none] } = H2 at st2 M2 rl2 hsl htl ⊢
  refine tail_any (s:={ s with heap:=H2,toks:=t1 + 1 }) (ops:=[.ref h1.objs.size,.ref a]) htl.typeIs slot_list_getitem.lookup (wpAny_getItem_list_slice htl hsl .none (.int _ _) .none (by simp) ?_ (by rw [hlen]; exact tT hl)) rfl
  rw [show (slicePick items none (some (z:Int)) none) = (items.toList.take z).toArray from slicePick_upto' items z]
  have hnew:(H2.push { cls:=.type "list",data:=.seq (items.toList.take z).toArray }).IsList H2.objs.size (items.toList.take z).toArray:=⟨_,Heap.get?_push_size _ rfl,rfl,0,rfl⟩
  have hfz:Froz (H2.push { cls:=.type "list",data:=.seq (items.toList.take z).toArray }) (aG S ρ) H2.objs.size:=M2.froz_new (Heap.get?_push_size _ rfl) (aR _)
  have rl4:=RepL.step (Step.push (p:=true) ρ H2 { cls:=.type "list",data:=.seq (items.toList.take z).toArray }) aL (aDJ z xs _ rl2)
  refine wpAny_pyIter_list (s:={ s with heap:=H2.push { cls:=.type "list",data:=.seq (items.toList.take z).toArray },toks:=t1 + 1 }) hnew ?_
  exact hQ (.lst (xs.take z)) mem ρ _ _ _ hk (M2.push _) ((st1.trans st2).trans (Step.push ..)).plain rfl ⟨_,_,⟨_,Heap.get?_push_size _ rfl,rfl,rfl⟩,by obtain ⟨o,e,r⟩:=hnew; exact ⟨o,Heap.get?_push_of_some _ e,r⟩,lR hfz,qF (by simpa using rl4)⟩
theorem hs_for {target iter:Expr} {body:List Stmt} {ib:List IS} {put:Locs→V→Option Locs} {it:Iter} {pos:Pos} {c:Src→Prop} (St:Stat T K hZ) (O:dW env L W) (hh:A.handled = none) (hfs:∀ x,foldedSetIterable iter env x = pure x)
    (hi:HI T K hZ n env Γ L A (eval iter env) it) (hb:HSs T K hZ n env Γ L W A (execs body env) ib) (hp:∀ src,c src→aFR T hZ env Γ L W A target put src) :
    HSg T K hZ n env Γ L W A (exec (.For target iter body [] pos) env) (fun loc mem k kr kb=>iterM T K hZ n loc mem it fun src m=>c src∧∃ N,forN src put (fun l m q qb=>wpSs T K hZ n l ib m q kr qb) N 0 loc m k):=by
  intro S ρ s loc mem k kr kb Y hw Q hQ
  refine wpAny_For (hi S ρ s loc mem _ Y.Z hw _ fun src m1 ρ1 h1 t1 o k1 M1 st1 ho itA=>?_) hfs
  exact loop_all (s:={ s with heap:=h1,toks:=t1 }) (kb:=kb) St O hh hb (hp src k1.1) (Y.step O st1 M1) itA ho k1.2 fun f loc' mem' ρ' h' tk' hf Y' st'=>hQ f loc' mem' ρ' h' tk' hf Y' (st1.nilW.trans st')
theorem hs_for1 {x:Str} {px:Pos} {i:Nat} {iter:Expr} {body:List Stmt} {ib:List IS} {it:Iter} {pos:Pos} (St:Stat T K hZ) (O:dW env L W) (En:dX env Γ L) (hh:A.handled = none) (hfs:∀ x,foldedSetIterable iter env x = pure x)
    (hx:Γ[i]? = some x) (hk:env.kindOf x = some .local ∨ (env.kindOf x = some .cell∧∃ c,env.cells.lookup x = some c))
    (hi:HI T K hZ n env Γ L A (eval iter env) it) (hb:HSs T K hZ n env Γ L W A (execs body env) ib):HS T K hZ n env Γ L W A (exec (.For (.Name x px) iter body [] pos) env) (.for1 i it ib):=by
  have z:=hs_for (T:=T) (K:=K) (hZ:=hZ) (n:=n) (Γ:=Γ) (L:=L) (W:=W) (A:=A) (pos:=pos) (c:=fun _=>True) St O hh hfs hi hb fun src _=>put_name (src:=src) (pos:=px) O En hx hk
  intro S ρ s loc mem k kr kb Y hw Q hQ
  dsimp only [wpS] at hw
  refine z S ρ s loc mem k kr kb Y ?_ Q hQ
  simpa only [true_and] using hw
theorem hs_forT {elts:List Expr} {k₀:Nat} {px:Pos} {is:List Nat} {iter:Expr} {body:List Stmt} {ib:List IS} {it:Iter} {pos:Pos} (St:Stat T K hZ) (O:dW env L W) (En:dX env Γ L) (hh:A.handled = none) (hfs:∀ x,foldedSetIterable iter env x = pure x)
    (hst:eM env Γ ((assignEach elts env).map (·.2)) is) (hlen:(assignEach elts env).length = is.length) (hstar:(assignEach elts env).findIdx? (·.1) = none)
    (hi:HI T K hZ n env Γ L A (eval iter env) it) (hb:HSs T K hZ n env Γ L W A (execs body env) ib):HS T K hZ n env Γ L W A (exec (.For (.Tuple elts k₀ px) iter body [] pos) env) (.forT is it ib):=by
  have z:=hs_for (T:=T) (K:=K) (hZ:=hZ) (n:=n) (Γ:=Γ) (L:=L) (W:=W) (A:=A) (pos:=pos) (c:=fun src=>wQ src = true) St O hh hfs hi hb fun src hs=>aDP (src:=src) (pos:=px) (k₀:=k₀) O En hh hs hst hlen hstar
  intro S ρ s loc mem k kr kb Y hw Q hQ
  dsimp only [wpS] at hw
  exact z S ρ s loc mem k kr kb Y hw Q hQ
end
theorem xK {prog:Program} {w:World} {A:Around} {R:Result→Shared→Prop} {s:Shared} {elt target iter:Expr} {ifs:List Expr} {scope:Scope} {pos:Pos} {it acc:Value} {env:Env} (I:Nat→Shared→Prop)
    (turn:∀ n s,I n s→wpAny (model prog w) A (pyNext it) (fun r s₁=>match r with
      | none=>R (.ok .next) s₁
      | some v=>wpAny (model prog w) A (letOwnedTupleGo target it v) (fun _ s₁'=>wpAny (model prog w) A (assign target env v) (fun _ s₂ =>
          wpAny (model prog w) A (forIn ifs true fun c r=>if r = true then do let ok ← isTrue c env (eval c env); pure (ForInStep.yield ok) else pure (ForInStep.yield r)) (fun ok s₃ =>
            if ok = true then wpAny (model prog w) A (eval elt env) (fun x s₄ =>
              wpAny (model prog w) A (call (.builtin "list.append") [acc,x]) (fun _ s₅=>∃ m,m < n∧I m s₅) (notedBy (model prog w) A env fun e s'=>R (.error e) s') s₄) (notedBy (model prog w) A env fun e s'=>R (.error e) s') s₃
            else ∃ m,m < n∧I m s₃) (notedBy (model prog w) A env fun e s'=>R (.error e) s') s₂) (notedBy (model prog w) A env fun e s'=>R (.error e) s') s₁') (notedBy (model prog w) A env fun e s'=>R (.error e) s') s₁) (notedBy (model prog w) A env fun e s'=>R (.error e) s') s)
    (n:Nat) (h:I n s):codeAny (model prog w) A (.compLoop (.ListComp elt [⟨target,iter,ifs,0⟩] scope pos) 0 it acc env) R s:=by
  refine codeAny_loop rfl I (fun n s hI=>?_) n h
  show wpAny _ A ((compTurn (.ListComp elt [⟨target,iter,ifs,0⟩] scope pos) 0 it acc env).onRaise (fun x=>do noteFrame x env; theTreesLotGoes x)) _ _ s
  refine wpAny_noted ?_
  rw [compTurn_list]
  refine wpAny_bind (wpAny_standAt (wpAny_bind (wpAny_mono (turn n s hI) (fun r s₁ h₁=>?_) fun _ _ h'=>h')))
  cases r with
  | none=>exact wpAny_pure h₁
  | some v =>
    refine wpAny_bind (wpAny_mono h₁ (fun _ s₁' h₁'=>?_) fun _ _ h'=>h')
    refine wpAny_bind (wpAny_mono h₁' (fun _ s₂ h₂=>wpAny_bind (wpAny_mono h₂ (fun ok s₃ h₃=>?_) fun _ _ h'=>h')) fun _ _ h'=>h')
    cases ok with
    | false=>exact wpAny_pure ⟨rfl,h₃⟩
    | true =>
      exact wpAny_bind (wpAny_bind (wpAny_mono h₃ (fun x s₄ h₄=>wpAny_bind (wpAny_mono h₄ (fun _ s₅ h₅=>wpAny_pure (wpAny_pure ⟨rfl,h₅⟩)) fun _ _ h'=>h')) fun _ _ h'=>h'))
section
variable {T:CT} {K:Frag} {hZ h h':Heap} {env:Env} {Γ:List Str} {L I:Addr} {W S:List Addr} {ρ ρ':List (Addr × Addr)} {loc loc':Locs} {mem mem':Mem} {A:Around} {n:Nat}
theorem it_self {src:Src} {j:Nat} {s:Shared} {Q:Value→Shared→Prop} {E:Value→Shared→Prop} (it:ItAt T S ρ s.heap mem A I j src) (hQ:Q (.ref I) s):wpAny (model T.prog T.w) A (pyIter (.ref I)) Q E s:=by
  cases src with
  | vals xs=>obtain ⟨_,fp,P,St,Wk,hst,_⟩:=it; exact Wk.self j s _ _ hst hQ
  | lst xs=>obtain ⟨l,items,hit,_⟩:=it; exact wpAny_pyIter_listiter hit hQ
  | ref k=>obtain ⟨p,_,hit⟩:=it; exact wpAny_pyIter_listiter hit hQ
  | rev k n=>obtain ⟨p,_,hit⟩:=it; exact wpAny_pyIter_revIter hit hQ
theorem qA {prog:Program} {w:World} {E:Value→Shared→Prop} {s:Shared} {x:Str} {i:Nat} {v:V} {v':Value} {Q:Unit→Shared→Prop} (En:dX env Γ L) (Y:SitW T hZ env Γ L W S ρ s.heap loc mem) (off:∀ x c,env.cells.lookup x = some c→c ≠ L)
    (hx:Γ[i]? = some x) (hk:env.kindOf x = some .local) (r:RepV T s.heap (aG S ρ) ρ v v')
    (hQ:∀ h' tk',SitW T hZ env Γ L W S ρ h' (setL loc i v) mem→Heap.SameBut L s.heap h'→Step true [L] ρ s.heap ρ h'→Q () { s with heap:=h',toks:=tk' }) :
    wpAny (model prog w) A (storeName env x v') Q E s:=by
  obtain ⟨⟨M,⟨m,hn,hv⟩,iS⟩,sub,own⟩:=Y
  have key:∀ j y u,Γ[j]? = some y→(setL loc i v)[j]? = some (some u)→(j = i∧u = v∧y = x) ∨ (y ≠ x∧loc[j]? = some (some u)):=by
    intro j y u hj hu
    unfold setL at hu
    by_cases hji:j = i
    · subst hji
      left
      rw [hx] at hj; cases hj
      have hl:=(List.getElem?_eq_some_iff.mp hu).1
      rw [List.length_set] at hl
      rw [List.getElem?_set_self hl] at hu
      cases hu
      exact ⟨rfl,rfl,rfl⟩
    · right
      rw [List.getElem?_set_ne (Ne.symm hji)] at hu
      refine ⟨fun q=>hji ?_,hu⟩
      subst q
      exact (List.getElem?_inj (List.getElem?_eq_some_iff.mp hj).1 En.nodup).mp (hj.trans hx.symm)
  have hLoc:=En.loc
  refine wpAny_storeName_local hk (m:=m) (by rw [hLoc]; exact hn) (fun h' hn' hs'=>?_) (by rw [En.kind]; rfl)
  rw [hLoc] at hn' hs'
  have ht:∃ o,h'.get? L = some o:=let ⟨o,_,_,ho,_⟩:=hn'; ⟨o,ho⟩
  have st:=Step.own ρ hs' ht
  have hw:∀ a ∈ [L],a ∈ S:=fun a q=>by cases List.mem_singleton.mp q; exact iS
  refine hQ h' _ ⟨⟨M.own iS hs' ht,⟨_,hn',fun j y u hj hu=>?_⟩,iS⟩,sub,fun y c hcy=>?_⟩ hs' st
  · rcases key j y u hj hu with ⟨rfl,rfl,rfl⟩ | ⟨hne,hu⟩
    · exact ⟨v',.inl ⟨hk,by simp⟩,RepV.step st hw r⟩
    · refine e1a2 (hv j y u hj hu) fun z hb hr=>?_
      refine ⟨z,?_,RepV.step st hw hr⟩
      rcases hb with ⟨h1,h2⟩ | ⟨h1,c,h2,h3,h4⟩
      · exact .inl ⟨h1,(if_neg hne).trans h2⟩
      · exact .inr ⟨h1,c,h2,h3,h4.sameBut hs' (off y c h2)⟩
  · obtain ⟨v₀,hc⟩:=own y c hcy
    exact ⟨v₀,hc.sameBut hs' (off y c hcy)⟩
inductive CTarget (env:Env) (Γ:List Str):Expr→List Nat→Prop
  | one {x:Str} {p:Pos} {i:Nat} (hx:Γ[i]? = some x) (hk:env.kindOf x = some .local):CTarget env Γ (.Name x p) [i]
  | two {x y:Str} {p q pos:Pos} {i j k:Nat} (hx:Γ[i]? = some x) (hk:env.kindOf x = some .local) (hy:Γ[j]? = some y) (hk2:env.kindOf y = some .local):CTarget env Γ (.Tuple [.Name x p,.Name y q] k pos) [i,j]
theorem uM {target:Expr} {is:List Nat} {s:Shared} {E:Value→Shared→Prop} {v:V} {v':Value} {loc1:Locs} {Q:Unit→Shared→Prop} (C:CTarget env Γ target is) (En:dX env Γ L) (hh:A.handled = none) (Y:SitW T hZ env Γ L W S ρ s.heap loc mem) (off:∀ x c,env.cells.lookup x = some c→c ≠ L)
    (r:RepV T s.heap (aG S ρ) ρ v v') (hp:putC is loc v = some loc1)
    (hQ:∀ h' tk',SitW T hZ env Γ L W S ρ h' loc1 mem→Step true [L] ρ s.heap ρ h'→Q () { s with heap:=h',toks:=tk' }):wpAny (model T.prog T.w) A (assign target env v') Q E s:=by
  cases C with
  | one hx hk =>
    obtain rfl:=Option.some.inj hp
    exact wpAny_assign_Name (qA En Y off hx hk r fun h' tk' Y' _ st=>hQ h' tk' Y' st)
  | two hx hk hy hk2 =>
    refine nX hp fun xs ev hp=>two_e hp fun a b exs hp=>?_
    obtain rfl:=Option.some.inj hp
    refine gS (show RepV T s.heap (aG S ρ) ρ (.tup [a,b]) v' from exs ▸ ev ▸ r) fun t items _ ht rl=>e2a3 (aAw rl) fun va vb hl ra rb=>?_
    have hsz:items.size = 2:=by rw [← Array.length_toList,hl]; rfl
    refine wpAny_assign_Tuple hh ht (by rw [hsz]; rfl) rfl fun h2 he2=>?_
    have hk':=uY he2
    have Y2:SitW T hZ env Γ L W S ρ h2 loc mem:=⟨Y.Z.step (Step.all (p:=true) ρ hk') (Y.Z.M.all hk'),Y.sub,fun x c hc=>e2a2 (Y.own x c hc) fun v₀ o ho hd=>⟨v₀,o,hk' _ _ ho,hd⟩⟩
    rw [hl]
    have st0:Step true [] ρ s.heap ρ h2:=Step.all ρ hk'
    have hw:∀ a ∈ [L],a ∈ S:=fun a q=>List.mem_singleton.mp q ▸ Y.Z.F.inS
    exact wpAny_assignInOrder_more (wpAny_assign_Name (qA (s:={ s with heap:=h2 }) En Y2 off hx hk (RepV.step st0 aL ra) fun h3 t3 Y3 _ st3 =>
      wpAny_assignInOrder_more (wpAny_assign_Name (qA (s:={ s with heap:=h3,toks:=t3 }) En Y3 off hy hk2 (RepV.step st3 hw (RepV.step st0 aL rb)) fun h4 t4 Y4 _ st4 =>
        wpAny_assignInOrder_none (hQ h4 t4 Y4 ((st0.nilW.trans st3).trans st4))))))
theorem aCr {target:Expr} {is:List Nat} {s:Shared} {E:Value→Shared→Prop} {src:Src} {j:Nat} {v:V} {v':Value} {loc1:Locs} {Q:Unit→Shared→Prop} (C:CTarget env Γ target is) (hl:is.length = 1 ∨ wQ src = true) (it:ItAt T S ρ s.heap mem A I j src)
    (r:RepV T s.heap (aG S ρ) ρ v v') (hp:putC is loc v = some loc1) (hQ:Q () s):wpAny (model T.prog T.w) A (letOwnedTupleGo target (.ref I) v') Q E s:=by
  cases C with
  | one hx hk=>exact wpAny_of_eq (a:=()) rfl hQ
  | two hx hk hy hk2 =>
    refine nX hp fun xs ev _=>gS (show RepV T s.heap (aG S ρ) ρ (.tup xs) v' from ev ▸ r) fun a items _ ht rl=>?_
    refine hl.elim (fun q=>nomatch q) fun hl=>?_
    cases src with
    | lst xs=>exact e2a4 it fun l items hit _ _ _=>wpAny_letOwnedTupleGo_listiter hit hQ
    | ref k=>exact e1a2 it fun p _ hit=>wpAny_letOwnedTupleGo_listiter hit hQ
    | _=>exact ff hl
inductive CTests (T:CT) (hZ:Heap) (env:Env) (Γ:List Str) (L:Addr) (A:Around):List Expr→Option PE→Prop
  | none:CTests T hZ env Γ L A [] none
  | one {c:Expr} {pe:PE} (h:∀ S,HT T hZ env Γ L S A (isTrue c env (eval c env)) pe):CTests T hZ env Γ L A [c] (some pe)
theorem aCq {ifs:List Expr} {test:Option PE} {s:Shared} {E:Value→Shared→Prop} {b:Bool} {Q:Bool→Shared→Prop} (C:CTests T hZ env Γ L A ifs test) (Z:Sit T hZ env Γ L S ρ s.heap loc mem) (hb:aBH mem loc test = some b)
    (hQ:∀ h' tk',Step true [] ρ s.heap ρ h'→MemR T hZ S ρ h' mem→Q b { s with heap:=h',toks:=tk' }) :
    wpAny (model T.prog T.w) A (forIn ifs true fun c r=>if r = true then do let ok ← isTrue c env (eval c env); pure (ForInStep.yield ok) else pure (ForInStep.yield r)) Q E s:=by
  cases C with
  | none =>
    cases hb
    exact wpAny_tests_nil (hQ s.heap s.toks (Step.refl ..) Z.M)
  | one h =>
    refine aI hb fun v hv hb=>?_
    rw [List.forIn_cons]
    show wpAny _ A ((isTrue _ env (eval _ env) >>= fun ok=>pure (ForInStep.yield ok)) >>= _) Q E s
    refine wpAny_bind (wpAny_bind (wpAny_mono (h S ρ s loc mem v b Z hv hb _ fun h1 t1 st1 M1=>wpAny_pure ?_) (fun _ _ q=>q) fun _ _ q=>q.elim))
    show wpAny _ A (pure b) Q E _
    exact wpAny_pure (hQ h1 t1 st1 M1)
noncomputable def HCs (T:CT) (K:Frag) (hZ:Heap) (n:Nat) (env:Env) (Γ:List Str) (L:Addr) (A:Around) (t:Sem Value) (rg:Bool) (srcs:List IE):Prop :=
  ∀ (S:List Addr) (ρ:List (Addr × Addr)) (s:Shared) (loc:Locs) (mem:Mem) (k:List V→Mem→Prop),Sit T hZ env Γ L S ρ s.heap loc mem→wpEs T K hZ n loc srcs mem (fun vs m=>aC (oC m rg vs) fun xs=>k xs m) →
    ∀ Q:Value→Shared→Prop,(∀ xs src mem' ρ' h' tk' o,k xs mem'→(∀ j,nextOf mem' j src = some xs[j]?)→(rg = true ∨ wQ src = true)→xs.length ≤ 2001→MemR T hZ S ρ' h' mem'→Step false [] ρ s.heap ρ' h'→o.isFreed = false →
        ItAt T (h'.objs.size :: S) ρ' (h'.push o) mem' A h'.objs.size 0 src→Q (.ref h'.objs.size) { s with heap:=h'.push o,toks:=tk' }) →
      wpAny (model T.prog T.w) A t (fun x s₁=>wpAny (model T.prog T.w) A (pyIter x) Q (fun _ _=>False) s₁) (fun _ _=>False) s
theorem hcs_of {e:Expr} {ie:IE} (hh:A.handled = none) (he:HE T K hZ n env Γ L A (eval e env) ie):HCs T K hZ n env Γ L A (eval e env) false [ie]:=by
  intro S ρ s loc mem k Z hw Q hQ
  dsimp only [wpEs] at hw
  refine he S ρ s loc mem _ Z hw _ fun v m1 ρ1 h1 t1 w k1 r1 M1 st1=>?_
  refine e1a2 (aD k1) fun xs hxs hk=>?_
  refine aI hxs fun ys hs hxs=>if_e hxs fun hc hxs=>?_
  obtain rfl:=Option.some.inj hxs
  have len:ys.length ≤ 2001:=Nat.le_trans hc (by decide)
  cases v with
  | lst xs =>
    obtain rfl:=Option.some.inj hs
    exact aEo (s:={ s with heap:=h1,toks:=t1 }) (mem:=m1) (k:=fun src=>src = .lst xs) hh M1 r1 rfl fun src o hsrc ho it=>hQ xs src m1 ρ1 h1 t1 o hk (fun j=>hsrc ▸ rfl) (.inr (hsrc ▸ rfl)) len M1 st1 ho it
  | ref r =>
    exact aEo (s:={ s with heap:=h1,toks:=t1 }) (mem:=m1) (k:=fun src=>src = .ref r) hh M1 r1 (show aC (dT m1 r) (fun _=>Src.ref r = Src.ref r) by rw [show dT m1 r = some ys from hs]; rfl) fun src o hsrc ho it=>hQ ys src m1 ρ1 h1 t1 o hk (fun j=>hsrc ▸ (congrArg (Option.map fun ys=>ys[j]?) hs)) (.inr (hsrc ▸ rfl)) len M1 st1 ho it
  | _=>exact nn hs
theorem aEL {x:Str} {np pos:Pos} {e f:Expr} {ie jf:IE} (St:Stat T K hZ) (hh:A.handled = none) (En:dX env Γ L) (hk:env.kindOf x = some .globalImplicit) (hd:(x == ("__debug__" : Str)) = false) (hg:hH K x = some (.type "range"))
    (hs:notStar e = true) (hs2:notStar f = true) (he:HE T K hZ n env Γ L A (eval e env) ie) (hf:HE T K hZ n env Γ L A (eval f env) jf):HCs T K hZ n env Γ L A (eval (.Call (.Name x np) [e,f] [] pos) env) true [ie,jf]:=by
  intro S ρ s loc mem k Z hw Q hQ
  have gl:=qP (T:=T) (S:=S) (A:=A) (pos:=np) (Γ:=Γ) (L:=L) St En hk hd hg rfl ρ s loc mem _ Z rfl
  refine wpAny_Call_ofName (gl _ fun fv h1 t1 r1 st1 M1=>?_)
  have hfv:fv = .type "range" := r1.1
  subst hfv
  refine qV (by simp [hs,hs2]) ?_
  have hes:=pN (T:=T) (K:=K) (hZ:=hZ) (n:=n) (Γ:=Γ) (L:=L) (A:=A) (pos:=pos) hs he (pN hs2 hf (zP (pos:=pos)))
  refine hes S ρ { s with heap:=h1,toks:=t1 } loc mem _ (Z.step st1 M1) hw _ fun vs m2 ρ2 h2 t2 ws k2 r2 M2 st2=>?_
  refine e1a2 (aD k2) fun xs hxs hk2=>?_
  refine two_V hxs r2 fun x y va vb ra rb hxs=>bG hxs ra fun a ta hxs=>bG hxs rb fun b tb hxs=>if_e hxs fun hc hxs=>call_range_2 ?_
  obtain rfl:=Option.some.inj hxs
  have hz:Builtin.Range.rangeSize a b 1 = b - a:=by rw [rangeSize_one]; split <;> lia
  refine wpAny_pyIter_range (Heap.get?_push_size _ rfl) (small_one (by lia) (by lia) (by lia) (by lia)) ?_
  rw [hz]
  have hlen:((List.range (b - a).toNat).map fun (j:Nat)=>V.int (a + (j:Int))).length = (b - a).toNat:=(List.length_map ..).trans List.length_range
  have Wk:=Walks.range (prog:=T.prog) (w:=T.w) hh (h2.push { cls:=.type "range",data:=.fields #[.int a ta,.int b tb,.int 1 t2] }).objs.size a 1 (b - a).toNat
  rw [← hlen] at Wk
  refine hQ _ (.vals ((List.range (b - a).toNat).map fun (j:Nat)=>V.int (a + (j:Int)))) m2 ρ2 _ _ _ hk2 (fun j=>rfl) (.inl rfl) (by rw [hlen]; lia) (M2.push _) ((st1.plain.trans st2).trans (Step.push ..)) rfl (jM Wk ?_ (fun b hb=>.inl (List.mem_singleton.mp hb)) (fun i h st=>⟨_,st⟩) ?_)
  · show IsRangeIter _ _ _ _ _
    rw [hlen,show a + ((0:Nat):Int) * 1 = a by simp,show (((b - a).toNat:Nat):Int) - ((0:Nat):Int) = b - a by lia]
    exact Heap.get?_push_size _ rfl
  · exact fun j y v hy hv=>sL (a:=a) (g:=fun j=>a + (j:Int)) (fun j=>by rw [Int.mul_one]) hy hv
theorem SitW.stepC {p:Bool} (Y:SitW T hZ env Γ L W S ρ h loc mem) (hcs:∀ x c,env.cells.lookup x = some c→c ∈ S) (st:Step p [] ρ h ρ h') (M':MemR T hZ S ρ h' mem'):SitW T hZ env Γ L W S ρ h' loc mem':=by
  refine ⟨Y.Z.step st M',Y.sub,fun x c hc=>?_⟩
  refine e2a2 (Y.own x c hc) fun v₀ o ho hd=>?_
  exact ⟨v₀,o,st.keep c o ho (.inr (Y.Z.M.sfresh c (hcs x c hc)).1) (fun q=>nomatch q),hd⟩
structure CEnv (T:CT) (hZ:Heap) (env:Env) (Γ:List Str) (scope:Scope) (cl:List (Str × Addr)) (Γ':List Str) (caps:List Nat) (A:Around) (target elt:Expr) (ifs:List Expr) (is:List Nat) (test:Option PE) (pe:PE):Prop where
  clos:closureFor scope env = pure cl
  cell:∀ y ∈ scope.names,y.2 ≠ .cell
  kind:scope.kind = .function
  names:∀ y ∈ scope.names,y.2 = .local→scope.names.lookup y.1 = some .local
  en:∀ C,dX (compEnvC scope cl C env) Γ' C
  tgt:∀ C,CTarget (compEnvC scope cl C env) Γ' target is
  tests:∀ C,CTests T hZ (compEnvC scope cl C env) Γ' C A ifs test
  elt:∀ C S,HP T hZ (compEnvC scope cl C env) Γ' C S A (eval elt (compEnvC scope cl C env)) pe
  captured:∀ (i:Nat) (x:Str),Γ'[i]? = some x→i < caps.length→∃ j,caps[i]? = some j∧Γ[j]? = some x∧(env.kindOf x = some .cell ∨ env.kindOf x = some .free)∧cl.lookup x = env.cells.lookup x ∧
    ((compEnvC scope cl 0 env).kindOf x = some .cell ∨ ((compEnvC scope cl 0 env).kindOf x = some .free∧(x == ("__classdict__" : Str)) = false))
  cover:∀ x c,cl.lookup x = some c→∃ i,Γ'[i]? = some x∧i < caps.length
structure CS (T:CT) (hZ:Heap) (S:List Addr) (ρ:List (Addr × Addr)) (m:Mem) (h hh:Heap) (I D C:Addr):Prop where
  keep:∀ b x,h.get? b = some x→hh.get? b = some x
  nI:h.get? I = none
  nD:h.get? D = none
  nC:h.get? C = none
  DI:D ≠ I
  CD:C ≠ D
  CI:C ≠ I
  M:MemR T hZ (C :: D :: I :: S) ρ hh m
  tD:hh.get? D = some (loOf #[] 0)
  fz:∀ a,Froz h (aG S ρ) a→Froz hh (aG (C :: D :: I :: S) ρ) a∧∀ o,h.get? a = some o→hh.get? a = some o
section
variable {D C:Addr} {hh:Heap}
theorem aCz {o:Obj} {hB:Heap} (St:Stat T K hZ) (M:MemR T hZ S ρ h mem) (ho:o.isFreed = false) (eB:hB = (h.push o).push (loOf #[] 0)) (k1:∀ b x,hB.get? b = some x→hh.get? b = some x) (tC:∃ x,hh.get? hB.objs.size = some x) :
    CS T hZ S ρ mem h hh h.objs.size (h.push o).objs.size hB.objs.size∧∀ {src:Src},ItAt T (h.objs.size :: S) ρ (h.push o) mem A h.objs.size 0 src→ItAt T (hB.objs.size :: (h.push o).objs.size :: h.objs.size :: S) ρ hh mem A h.objs.size 0 src:=by
  have nI:=aR h
  have nD:=aR (h.push o)
  have nC:=aR hB
  have kA:∀ b x,h.get? b = some x→(h.push o).get? b = some x:=fun b x e=>Heap.get?_push_of_some _ e
  have kB:∀ b x,(h.push o).get? b = some x→hB.get? b = some x:=fun b x e=>eB ▸ Heap.get?_push_of_some _ e
  have tI:(h.push o).get? h.objs.size = some o:=Heap.get?_push_size _ ho
  have tD:hB.get? (h.push o).objs.size = some (loOf #[] 0):=eB ▸ Heap.get?_push_size _ rfl
  have MA:=M.grow nI kA ⟨_,tI⟩ (St.grown M)
  have MB:=MA.grow nD kB ⟨_,tD⟩ (St.grown MA)
  have ne:∀ {b c:Addr} {g:Heap} {x:Obj},g.get? b = none→g.get? c = some x→b ≠ c:=fun n t q=>nomatch (q ▸ n).symm.trans t
  exact ⟨⟨fun b x e=>k1 _ _ (kB _ _ (kA _ _ e)),nI,bH kA nD,bH kA (bH kB nC),ne nD tI,ne nC tD,ne nC (kB _ _ tI),MB.grow nC k1 tC (St.grown MB),k1 _ _ tD,
    fun a f=>⟨(cX (cX (cX f nI kA).1 nD kB).1 nC k1).1,fun o e=>k1 _ _ (kB _ _ (kA _ _ e))⟩⟩,
    fun it=>it.imp (fun a f=>⟨(cX (cX f nD kB).1 nC k1).1,fun o e=>k1 _ _ (kB _ _ e)⟩) (List.prefix_refl _) fun o e=>k1 _ _ (kB _ _ e)⟩
section
variable {elt target iter:Expr} {ifs:List Expr} {scope:Scope} {pos:Pos} {cl:List (Str × Addr)} {Γ':List Str} {caps is:List Nat} {rg:Bool} {test:Option PE} {pe:PE}
theorem aBr (X:CEnv T hZ env Γ scope cl Γ' caps A target elt ifs is test pe) (hcaps:(caps.all fun i=>((loc[i]?).join).isSome) = true) (F:Frm T env Γ L S ρ h loc) {i:Nat} {x:Str} (hx:Γ'[i]? = some x) (hi:i < caps.length) :
    ∃ (j:Nat) (u:V) (v:Value) (c:Addr),caps[i]? = some j∧loc[j]? = some (some u)∧cl.lookup x = some c∧c ∈ S∧h.IsCell c (some v)∧RepV T h (aG S ρ) ρ u v :=
  e1a5 (X.captured i x hx hi) fun j hj hΓ hkd hcl _=>(Option.isSome_iff_exists.mp (List.all_eq_true.mp hcaps j (List.mem_of_getElem? hj))).elim fun u hu=>by
    have hl:=Option.join_eq_some_iff.mp hu
    refine e1a2 F.ns fun m hns hv=>e1a2 (hv j x u hΓ hl) fun v hbd hr=>hbd.elim (fun q=>?_) fun q=>e1a3 q.2 fun c h2 h3 h4=>⟨j,u,v,c,hj,hl,hcl.trans h2,h3,h4,hr⟩
    rw [q.1] at hkd
    exact hkd.elim (fun z=>nomatch z) fun z=>nomatch z
theorem xJ (X:CEnv T hZ env Γ scope cl Γ' caps A target elt ifs is test pe) (hcaps:(caps.all fun i=>((loc[i]?).join).isSome) = true) (F:Frm T env Γ L S ρ h loc) {x:Str} {c:Addr} (hc:cl.lookup x = some c):c ∈ S∧∃ v,h.IsCell c (some v) :=
  e1a2 (X.cover x c hc) fun i hx hi=>e4a6 (aBr X hcaps F hx hi) fun j u v c' _ _ h5 h6 h7 _=>Option.some.inj (h5.symm.trans hc) ▸ ⟨h6,v,h7⟩
theorem comp_sit (X:CEnv T hZ env Γ scope cl Γ' caps A target elt ifs is test pe) (hcaps:(caps.all fun i=>((loc[i]?).join).isSome) = true) (F:Frm T env Γ L S ρ h loc) (cs:CS T hZ S ρ mem h hh I D C) {names:Str→Option Value} (hns:hh.Ns C names) :
    SitW T hZ (compEnvC scope cl C env) Γ' C [] (C :: D :: I :: S) ρ hh (caps.map (fun i=>(loc[i]?).join) ++ List.replicate is.length none) mem:=by
  refine ⟨⟨cs.M,⟨_,hns,fun i x v' hx hl=>?_⟩,List.mem_cons_self ..⟩,fun _ q=>(nomatch q),fun x c hc=>(xJ X hcaps F hc).2.elim fun v h=>⟨some v,h.keeps cs.keep⟩⟩
  by_cases hi:i < caps.length
  · rw [List.getElem?_append_left (by rw [List.length_map]; exact hi),List.getElem?_map] at hl
    refine e4a6 (aBr X hcaps F hx hi) fun j u v c hj hlj h5 h6 h7 hr=>?_
    rw [hj] at hl
    obtain rfl:u = v':=Option.some.inj ((Option.join_eq_some_iff.mpr hlj).symm.trans (Option.some.inj hl))
    exact e1a5 (X.captured i x hx hi) fun _ _ _ _ _ hkk=>⟨v,.inr ⟨hkk,c,h5,.tail _ (.tail _ (.tail _ h6)),h7.keeps cs.keep⟩,RepV.mono cs.fz (List.prefix_refl _) u v hr⟩
  · rw [List.getElem?_append_right (by rw [List.length_map]; exact Nat.le_of_not_lt hi),List.getElem?_replicate] at hl
    by_cases q:i - (caps.map fun i=>(loc[i]?).join).length < is.length
    · rw [if_pos q] at hl; exact nomatch hl
    · rw [if_neg q] at hl; exact nomatch hl
inductive CI (T:CT) (hZ:Heap) (env':Env) (Γ':List Str) (S':List Addr) (ρ:List (Addr × Addr)) (m:Mem) (A:Around) (I D C:Addr) (src:Src) (is:List Nat) (test:Option PE) (pe:PE) (xs out:List V) (h:Heap) (s:Shared):Nat→Shared→Prop
  | mk {j:Nat} {loc':Locs} {items:Array Value} {c:Nat} {hh:Heap} {tk:Tok} {ys zs:List V} (hj:j ≤ xs.length) (hc:nA m is test pe loc' (xs.drop j) = some zs) (hy:ys ++ zs = out) (hl:ys.length ≤ j)
      (Y:SitW T hZ env' Γ' C [] S' ρ hh loc' m) (it:ItAt T S' ρ hh m A I j src) (hD:hh.get? D = some (loOf items c)) (r:RepL T hh (aG S' ρ) ρ ys items.toList) (k:∀ b x,h.get? b = some x→hh.get? b = some x) :
      CI T hZ env' Γ' S' ρ m A I D C src is test pe xs out h s (xs.length + 1 - j) { s with heap:=hh,toks:=tk }
theorem xC {a:Addr} {S':List Addr} (h:a ∈ S'):∀ b ∈ [a],b ∈ S':=fun _ q=>List.mem_singleton.mp q ▸ h
theorem aBo {a b:Addr} (h:b ≠ a):a ∉ [b]:=fun q=>h (List.mem_singleton.mp q).symm
theorem aFu {s:Shared} {src:Src} {xs out:List V} {R:Result→Shared→Prop} (hhZ:A.handled = none) (X:CEnv T hZ env Γ scope cl Γ' caps A target elt ifs is test pe) (cs:CS T hZ S ρ mem h hh I D C) (hnext:∀ j,nextOf mem j src = some xs[j]?) (hlst:is.length = 1 ∨ wQ src = true) (hxl:xs.length ≤ 2001)
    (hcell:∀ x c,cl.lookup x = some c→c ∈ S∧∃ v,h.IsCell c (some v))
    (fin:∀ hh c items tk (m2:Str→Option Value),hh.Ns C m2→hh.get? D = some (loOf items c)→(∀ b x,h.get? b = some x→hh.get? b = some x)→(∀ h4,Heap.SameBut C hh h4→RepL T h4 (aG S ρ) ρ out items.toList)→R (.ok .next) { s with heap:=hh,toks:=tk })
    (n:Nat) (s':Shared) (hI:CI T hZ (compEnvC scope cl C env) Γ' (C :: D :: I :: S) ρ mem A I D C src is test pe xs out h s n s') :
    wpAny (model T.prog T.w) A (pyNext (.ref I)) (fun r s₁=>match r with
      | none=>R (.ok .next) s₁
      | some v=>wpAny (model T.prog T.w) A (letOwnedTupleGo target (.ref I) v) (fun _ s₁'=>wpAny (model T.prog T.w) A (assign target (compEnvC scope cl C env) v) (fun _ s₂ =>
          wpAny (model T.prog T.w) A (forIn ifs true fun c r=>if r = true then do let ok ← isTrue c (compEnvC scope cl C env) (eval c (compEnvC scope cl C env)); pure (ForInStep.yield ok) else pure (ForInStep.yield r)) (fun ok s₃ =>
            if ok = true then wpAny (model T.prog T.w) A (eval elt (compEnvC scope cl C env)) (fun x s₄ =>
              wpAny (model T.prog T.w) A (call (.builtin "list.append") [.ref D,x]) (fun _ s₅=>∃ m,m < n∧CI T hZ (compEnvC scope cl C env) Γ' (C :: D :: I :: S) ρ mem A I D C src is test pe xs out h s m s₅) (notedBy (model T.prog T.w) A (compEnvC scope cl C env) fun e s'=>R (.error e) s') s₄) (notedBy (model T.prog T.w) A (compEnvC scope cl C env) fun e s'=>R (.error e) s') s₃
            else ∃ m,m < n∧CI T hZ (compEnvC scope cl C env) Γ' (C :: D :: I :: S) ρ mem A I D C src is test pe xs out h s m s₃) (notedBy (model T.prog T.w) A (compEnvC scope cl C env) fun e s'=>R (.error e) s') s₂) (notedBy (model T.prog T.w) A (compEnvC scope cl C env) fun e s'=>R (.error e) s') s₁') (notedBy (model T.prog T.w) A (compEnvC scope cl C env) fun e s'=>R (.error e) s') s₁) (notedBy (model T.prog T.w) A (compEnvC scope cl C env) fun e s'=>R (.error e) s') s':=by
  have iS:I ∈ C :: D :: I :: S:=.tail _ (.tail _ (.head _))
  have dS:D ∈ C :: D :: I :: S:=.tail _ (.head _)
  have hcs:∀ x c,(compEnvC scope cl C env).cells.lookup x = some c→c ∈ C :: D :: I :: S:=fun x c q=>.tail _ (.tail _ (.tail _ (hcell x c q).1))
  have off:∀ b,h.get? b = none→∀ x c,(compEnvC scope cl C env).cells.lookup x = some c→c ≠ b:=fun b hb x c q z=>(hcell x c q).2.elim fun v w=>w.elim fun o y=>nomatch (z ▸ hb:h.get? c = none).symm.trans y.1
  have hIρ:I ∉ ρ.map (·.2):=(cs.M.sfresh I iS).1
  cases hI with
  | @mk j loc2 items c h2 t2 ys zs hj hcv hys hyl Y2 it2 hD2 rl2 ka2 =>
  refine aEs (s:={ s with heap:=h2,toks:=t2 }) hhZ Y2 iS it2 (hnext j) cs.CI (off I cs.nI) (fun hnone h3 t3 hk3=>?_) fun x hx w h3 t3 Y3 st3 r3 it3=>?_
  · rw [List.drop_eq_nil_of_le (List.getElem?_eq_none_iff.mp hnone)] at hcv
    obtain rfl:[] = zs:=Option.some.inj hcv
    rw [List.append_nil] at hys
    refine e1a2 Y2.Z.F.ns fun m2 hn2 _=>fin h3 c items t3 m2 (hn2.at' fun o e=>hk3 C o cs.CI e) (hk3 D _ cs.DI hD2) (fun b x e=>hk3 b x (fun q=>nomatch (q ▸ cs.nI:h.get? b = none).symm.trans e) (ka2 b x e)) fun h4 hs4=>hys ▸ RepL.mono (fun a f=>?_) (List.prefix_refl _) _ _ rl2
    have n1:a ≠ C:=fun q=>f.ok (q ▸ List.mem_cons_self ..)
    have n2:a ≠ I:=fun q=>f.ok (List.mem_append_left _ (q ▸ iS))
    have k:∀ o,h2.get? a = some o→h4.get? a = some o:=fun o e=>hs4.extBut a o n1 (hk3 a o n2 e)
    exact ⟨⟨f.is.elim fun x hx=>⟨x,k x hx⟩,fun q=>f.ok (.tail _ (.tail _ (.tail _ q)))⟩,k⟩
  · obtain ⟨hjl,rfl⟩:=List.getElem?_eq_some_iff.mp hx
    rw [List.drop_eq_getElem_cons hjl] at hcv
    refine aI hcv fun loc3 hput hcv=>aI hcv fun t htest hcv=>?_
    have lt:xs.length + 1 - (j + 1) < xs.length + 1 - j:=by lia
    have hD3:h3.get? D = some (loOf items c):=st3.keep D _ hD2 (.inl rfl) (aBo cs.DI.symm)
    refine aCr (X.tgt C) hlst it3 r3 hput (uM (s:={ s with heap:=h3,toks:=t3 }) (X.tgt C) (X.en C) hhZ Y3 (off C cs.nC) r3 hput fun h4 t4 Y4 st4=>aCq (s:={ s with heap:=h4,toks:=t4 }) (X.tests C) Y4.Z htest fun h5 t5 st5 M5=>?_)
    have hw:=xC (a:=C) (S':=C :: D :: I :: S) (.head _)
    have Y5:=Y4.stepC hcs st5 M5
    have it5:=(it3.step (mem':=mem) iS st4.plain hw (aBo cs.CI) hIρ).step (mem':=mem) iS st5.plain aL (fun q=>nomatch q) hIρ
    have hD5:h5.get? D = some (loOf items c):=st5.keep D _ (st4.keep D _ hD3 (.inl rfl) (aBo cs.CD)) (.inl rfl) (fun q=>nomatch q)
    have rl5:=RepL.step st5 aL (RepL.step st4 hw (RepL.step st3 (xC iS) rl2))
    have k5:∀ b y,h.get? b = some y→h5.get? b = some y:=fun b y e =>
      st5.keep b y (st4.keep b y (st3.keep b y (ka2 b y e) (.inl rfl) fun q=>nomatch (List.mem_singleton.mp q ▸ cs.nI:h.get? b = none).symm.trans e) (.inl rfl) fun q=>nomatch (List.mem_singleton.mp q ▸ cs.nC:h.get? b = none).symm.trans e) (.inl rfl) (fun q=>nomatch q)
    clear it3 it2 Y2 Y3 Y4 rl2 ka2 hD2 hD3
    cases t with
    | true =>
      refine aI hcv fun v hv2 hcv=>bJ hcv fun zs' hzs ez=>?_
      refine wpAny_mono (X.elt C _ ρ { s with heap:=h5,toks:=t5 } loc3 mem v Y5.Z hv2 _ fun v' h6 t6 r6 st6 M6=>?_) (fun _ _ q=>q) fun _ _ q=>q.elim
      have rl6:=RepL.step st6 aL rl5
      have hlen:=aK _ _ rl6
      rw [Array.length_toList] at hlen
      refine append_at (s:={ s with heap:=h6,toks:=t6 }) (D:=D) (its:=items) (n:=c) (x:=v') (st6.keep D _ hD5 (.inl rfl) fun q=>nomatch q) (fun h7 hs7 hD7=>?_) (by rw [hlen]; exact Nat.le_trans hyl (Nat.le_trans hj (Nat.le_trans hxl (by decide))))
      have st7:Step true [D] ρ h6 ρ h7:=Step.own ρ hs7 ⟨_,hD7⟩
      refine ⟨_,lt,.mk (ys:=ys ++ [v]) (zs:=zs') hjl hzs (by rw [List.append_assoc,← hys,← ez]; rfl) (by rw [List.length_append]; exact Nat.succ_le_succ hyl) ((Y5.stepC hcs st6 M6).iter dS cs.CD (off D cs.nD) (fun b o hb e=>(hs7.2 b hb).trans e) ⟨_,hD7⟩)
        ((it5.step (mem':=mem) iS st6.plain aL (fun q=>nomatch q) hIρ).step (mem':=mem) iS st7.plain (xC dS) (aBo cs.DI) hIρ) hD7 ?_ fun b y e=>(hs7.2 b fun q=>nomatch (q ▸ cs.nD:h.get? b = none).symm.trans e).trans (st6.keep b y (k5 b y e) (.inl rfl) fun q=>nomatch q)⟩
      rw [Array.toList_push]
      exact dB (RepL.step st7 (xC dS) rl6) (bB (RepV.step st7 (xC dS) r6) bE)
    | false=>exact ⟨_,lt,.mk hjl hcv hys (Nat.le_succ_of_le hyl) Y5 it5 hD5 rl5 k5⟩
theorem he_comp {srcs:List IE} (St:Stat T K hZ) (hh:A.handled = none) (hfs:∀ x,foldedSetIterable iter env x = pure x)
    (hsrc:HCs T K hZ n env Γ L A (eval iter env) rg srcs) (hrg:rg = true→is.length = 1) (X:CEnv T hZ env Γ scope cl Γ' caps A target elt ifs is test pe) :
    HE T K hZ n env Γ L A (eval (.ListComp elt [⟨target,iter,ifs,0⟩] scope pos) env) (.comp caps is rg srcs test pe):=by
  intro S ρ s loc mem k Z hw Q hQ
  obtain ⟨hcaps,hw⟩:=hw
  rw [eval_ListComp]
  refine wpAny_comprehension_free (use:=none) rfl hfs X.clos X.kind X.names ?_
  refine hsrc S ρ s loc mem (fun xs m=>aC (nA m is test pe (caps.map (fun i=>(loc[i]?).join) ++ List.replicate is.length none) xs) fun ys=>k (.lst ys) m) Z hw _ fun xs src m1 ρ1 h1 t1 o k1 hnext hlst hxl M1 st1 ho itA=>?_
  refine e1a2 (aD k1) fun out hout hk=>?_
  have Z1:=Z.step st1 M1
  refine wpAny_newObj_type (wpAny_newFunctionEnv X.cell (by intro y hy; simp at hy) (fun h₁ hns₁ hsb₁=>?_) X.kind)
  dsimp only at hns₁ hsb₁ ⊢
  obtain ⟨cs,itC⟩:=aCz (A:=A) (hh:=h₁) St M1 ho rfl (fun b x e=>hsb₁.extBut b x (fun q=>nomatch (q ▸ aR _).symm.trans e) (Heap.get?_push_of_some _ e)) (hns₁.elim fun x z=>z.elim fun _ z=>z.elim fun _ z=>⟨x,z.1⟩)
  have loop:∀ s₃:Shared,s₃ = { s with heap:=h₁,toks:=t1 + ([]:List (Str × Value)).length } →
      codeAny (model T.prog T.w) A (.compLoop (.ListComp elt [⟨target,iter,ifs,0⟩] scope pos) 0 (.ref h1.objs.size) (.ref (h1.push o).objs.size) (compEnvC scope cl ((h1.push o).push { cls:=.type "list",dict:=none,data:=.seq ([]:List Value).toArray }).objs.size env))
        (compPost (model T.prog T.w) A (fun _ _=>False) none Q (.ref (h1.push o).objs.size) ((h1.push o).push { cls:=.type "list",dict:=none,data:=.seq ([]:List Value).toArray }).objs.size) s₃:=by
    rintro _ rfl
    refine xK _ (aFu (s:=s) (out:=out) hh X cs hnext (hlst.imp hrg id) hxl (fun x c q=>xJ X hcaps Z1.F q) fun h3 c items tk m2 hn hD ka rl=>?_) (xs.length + 1 - 0)
      (.mk (Nat.zero_le _) (by rw [List.drop_zero]; exact hout) rfl (Nat.le_refl _) (comp_sit X hcaps Z1.F cs hns₁) (itC itA) cs.tD bE cs.keep)
    refine ⟨m2,hn,fun h4 hs4=>?_⟩
    have ka4:∀ b x,h1.get? b = some x→h4.get? b = some x:=fun b x e=>hs4.extBut b x (fun q=>nomatch (q ▸ cs.nC).symm.trans e) (ka b x e)
    have hD4:=hs4.extBut _ _ (Ne.symm cs.CD) hD
    exact hQ (.lst out) m1 ρ1 h4 tk (.ref (h1.push o).objs.size) hk ⟨_,items,rfl,⟨⟨_,hD4⟩,fun q=>(M1.bad_there q).elim fun x hx=>nomatch cs.nD.symm.trans hx⟩,cJ hD4,rl h4 hs4⟩ (M1.all ka4) (st1.trans (Step.all ρ1 ka4))
  exact codeAny_compStart_list (loop _ rfl) (it_self (s:={ s with heap:=h₁,toks:=t1 + ([]:List (Str × Value)).length }) (itC itA) (loop _ rfl))
end
end
end
section
variable {T:CT} {K:Frag} {hZ h h':Heap} {env:Env} {Γ:List Str} {L I:Addr} {W S:List Addr} {ρ ρ':List (Addr × Addr)} {loc loc':Locs} {mem mem':Mem} {A:Around} {n:Nat}
theorem jI {α : Type} [DecidableEq α]:∀ (kvs acc:List (α × Value)),(acc.map (·.1) ++ kvs.map (·.1)).Nodup→merged acc kvs = acc ++ kvs
  | [],acc,_=>by simp [merged]
  | (k,v) :: r,acc,h=>by
    have hk:acc.any (fun kv=>kv.1 = k) = false:=by
      rw [List.any_eq_false]
      intro p hp q
      have:p.1 = k:=by simpa using q
      rw [List.map_cons] at h
      exact (List.nodup_append.mp h).2.2 p.1 (List.mem_map_of_mem hp) k (List.mem_cons_self ..) this
    have e:merged acc ((k,v) :: r) = merged (stored acc k v) r:=rfl
    rw [e]
    unfold stored
    rw [hk,if_neg Bool.false_ne_true,jI r (acc ++ [(k,v)]) (by simpa [List.append_assoc] using h),List.append_assoc]
    rfl
noncomputable def CarriesR (T:CT) (h:Heap) (bad:List Addr) (ρ:List (Addr × Addr)) (kvs:List (Str × V)) (vals:List (Value × Value)):Prop :=
  ∃ kvv:List (Str × Value),Carries (strKind T.prog T.w) vals kvv∧kvv.map (·.1) = kvs.map (·.1)∧RepL T h bad ρ (kvs.map (·.2)) (kvv.map (·.2))
noncomputable def HEd (T:CT) (K:Frag) (hZ:Heap) (n:Nat) (env:Env) (Γ:List Str) (L:Addr) (A:Around) (t:Sem (List (Value × Value))) (es:List (Str × IE)):Prop :=
  ∀ (S:List Addr) (ρ:List (Addr × Addr)) (s:Shared) (loc:Locs) (mem:Mem) (k:List (Str × V)→Mem→Prop),Sit T hZ env Γ L S ρ s.heap loc mem→wpD T K hZ n loc es mem k →
    ∀ Q:List (Value × Value)→Shared→Prop,(∀ v mem' ρ' h' tk' w,k v mem'→v.map (·.1) = es.map (·.1)→CarriesR T h' (aG S ρ') ρ' v w→MemR T hZ S ρ' h' mem'→Step false [] ρ s.heap ρ' h'→Q w { s with heap:=h',toks:=tk' }) →
      wpAny (model T.prog T.w) A t Q (fun _ _=>False) s
theorem hed_nil:HEd T K hZ n env Γ L A (evalPairs []) []:=by
  intro S ρ s loc mem k Z hw Q hQ
  dsimp only [wpD] at hw
  exact evalPairs_nil (hQ [] mem ρ s.heap s.toks [] hw rfl ⟨[],trivial,rfl,bE⟩ Z.M (Step.refl ..))
theorem hed_cons {x:Str} {k₀:Nat} {p pos:Pos} {v:Expr} {ie:IE} {rest:List (Sem Value × Sem Value)} {es:List (Str × IE)} (hv:HE T K hZ n env Γ L A (eval v env) ie) (hr:HEd T K hZ n env Γ L A (evalPairs rest) es) :
    HEd T K hZ n env Γ L A (evalPairs ((eval (.Constant (.str x) k₀ p) env,do let y ← eval v env; standAt pos; pure y) :: rest)) ((x,ie) :: es):=by
  intro S ρ s loc mem k Z hw Q hQ
  dsimp only [wpD] at hw
  refine evalPairs_cons (wpAny_Constant_str (wpAny_bind ?_))
  refine hv S ρ { s with toks:=s.toks + 1 } loc mem _ Z hw _ fun v m1 ρ1 h1 t1 w k1 r1 M1 st1=>wpAny_bind (wpAny_standAt (wpAny_pure ?_))
  refine hr S ρ1 { s with heap:=h1,toks:=t1 } loc m1 _ (Z.step st1 M1) k1 _ fun vs m2 ρ2 h2 t2 ws k2 kk r2 M2 st2=>?_
  refine e1a3 r2 fun kvv c1 c2 c3=>?_
  exact hQ _ m2 ρ2 h2 t2 _ k2 (by rw [List.map_cons,List.map_cons,kk]) ⟨(x,w) :: kvv,⟨strKind_is ..,rfl,c1⟩,by rw [List.map_cons,List.map_cons,c2],bB (RepV.step st2 aL r1) c3⟩ M2 (st1.trans st2)
theorem Sit.grow (Z:Sit T hZ env Γ L S ρ h loc mem) (hI:h.get? I = none) (hk:∀ b o,h.get? b = some o→h'.get? b = some o) (hn:∃ o,h'.get? I = some o) (hz:hZ.objs.size ≤ I):Sit T hZ env Γ L (I :: S) ρ h' loc mem:=by
  obtain ⟨M,⟨m,hns,hv⟩,iS⟩:=Z
  refine ⟨M.grow hI hk hn hz,⟨m,?_,fun j y u hj hu=>?_⟩,List.mem_cons_of_mem _ iS⟩
  · refine e3a2 hns fun o es ep ho r=>?_
    exact ⟨o,es,ep,hk _ _ ho,r⟩
  · refine e1a2 (hv j y u hj hu) fun z hb hr=>?_
    refine ⟨z,?_,RepV.mono (fun a f=>cX f hI hk) (List.prefix_refl _) u z hr⟩
    rcases hb with hb | ⟨h1,c,h2,h3,o,h4,h5⟩
    · exact .inl hb
    · exact .inr ⟨h1,c,h2,List.mem_cons_of_mem _ h3,o,hk _ _ h4,h5⟩
theorem MemR.adopt {D:Addr} {o:MO} (M:MemR T hZ (D :: S) ρ h mem) (hDS:D ∉ S) (hk:∀ b o,b ≠ D→h.get? b = some o→h'.get? b = some o)
    (r:RepO T h' (aG S (ρ ++ [(D,D)])) (ρ ++ [(D,D)]) D D o):MemR T hZ S (ρ ++ [(D,D)]) h' (mem ++ [o]):=by
  have hz:=M.sfresh D (List.mem_cons_self ..)
  have fz:∀ a,Froz h (aG (D :: S) ρ) a→Froz h' (aG S (ρ ++ [(D,D)])) a∧∀ o,h.get? a = some o→h'.get? a = some o:=fun a f=>by
    obtain ⟨x,hx⟩:=f.is
    have hne:a ≠ D:=fun q=>f.ok (q ▸ List.mem_cons_self ..)
    refine ⟨⟨⟨x,hk a x hne hx⟩,fun q=>?_⟩,fun o e=>hk a o hne e⟩
    rcases List.mem_append.mp q with q | q
    · exact f.ok (List.mem_cons_of_mem _ (List.mem_append_left _ q))
    · rw [List.map_append] at q
      rcases List.mem_append.mp q with q | q
      · exact f.ok (List.mem_cons_of_mem _ (List.mem_append_right _ q))
      · exact hne (List.mem_singleton.mp q)
  refine ⟨fun b x e=>hk b x (fun q=>absurd (Heap.lt_size e) (Nat.not_lt.mpr (q ▸ hz.2.1))) (M.keep b x e),by simp [M.len],fun i q x hi hx=>?_,?_,fun q hq=>?_,fun a ha=>?_⟩
  · by_cases hl:i < ρ.length
    · rw [List.getElem?_append_left hl] at hi
      rw [List.getElem?_append_left (by rw [← M.len]; exact hl)] at hx
      refine RepO.mono fz ⟨[(D,D)],rfl⟩ (fun ob e=>hk _ _ (fun z=>?_) e) (M.rep i q x hi hx)
      exact hz.1 (z ▸ List.mem_map_of_mem (List.mem_of_getElem? hi))
    · rw [List.getElem?_append_right (Nat.le_of_not_lt hl)] at hi
      rw [List.getElem?_append_right (by rw [← M.len]; exact Nat.le_of_not_lt hl),← M.len] at hx
      cases hq:i - ρ.length with
      | zero=>rw [hq] at hi hx; cases hi; cases hx; exact r
      | succ n=>rw [hq] at hi; simp at hi
  · rw [List.map_append]
    refine List.nodup_append.mpr ⟨M.nd,by simp,fun a ha b hb=>?_⟩
    rw [List.map_singleton] at hb
    cases List.mem_singleton.mp hb
    intro q
    rw [q] at ha
    exact hz.1 ha
  · rcases List.mem_append.mp hq with hq | hq
    · exact M.fresh q hq
    · cases List.mem_singleton.mp hq
      exact ⟨hz.2.1,hz.2.1⟩
  · obtain ⟨x,y,o',z⟩:=M.sfresh a (List.mem_cons_of_mem _ ha)
    have hne:a ≠ D:=fun q=>hDS (q ▸ ha)
    refine ⟨fun q=>?_,y,⟨o',hk _ _ hne z⟩⟩
    rw [List.map_append] at q
    rcases List.mem_append.mp q with q | q
    · exact x q
    · exact hne (List.mem_singleton.mp q)
theorem he_dictM {keys:List (Option Expr)} {values:List Expr} {pos:Pos} {es:List (Str × IE)} (St:Stat T K hZ) (hall:keys.all (·.isSome) = true) (hl:keys.length = values.length) (h0:keys ≠ []) (hlen:keys.length ≤ 15) (hnd:(es.map (·.1)).Nodup)
    (hp:HEd T K hZ n env Γ L A (evalPairs (pairTrees keys values env pos)) es) :
    HE T K hZ n env Γ L A (eval (.Dict keys values pos) env) (.dictM es):=by
  intro S ρ s loc mem k Z hw Q hQ
  dsimp only [wpE] at hw
  refine wpAny_Dict_walk (knd:=strKind T.prog T.w) hall hl h0 hlen ?_
  have hn:=aR s.heap
  generalize hD:s.heap.objs.size = D at *
  have kp:∀ b o,s.heap.get? b = some o→(s.heap.push { cls:=.type "dict",data:=.dict #[] }).get? b = some o:=fun b o e=>Heap.get?_push_of_some _ e
  have tD:(s.heap.push { cls:=.type "dict",data:=.dict #[] }).get? D = some { cls:=.type "dict",data:=.dict #[] }:=hD ▸ Heap.get?_push_size _ rfl
  have zD:hZ.objs.size ≤ D:=hD ▸ St.grown Z.M
  have Z1:=Z.grow hn kp ⟨_,tD⟩ zD
  have hDS:D ∉ S:=fun q=>by obtain ⟨_,_,ob,e⟩:=Z.M.sfresh _ q; rw [hn] at e; cases e
  refine hp (D :: S) ρ { s with heap:=s.heap.push { cls:=.type "dict",data:=.dict #[] } } loc mem _ Z1 hw _ fun kvs m1 ρ1 h1 t1 ws k1 kk r1 M1 st1=>?_
  refine e1a3 r1 fun kvv c1 c2 c3=>?_
  have hDρ:D ∉ ρ.map (·.2):=(Z1.M.sfresh D (List.mem_cons_self ..)).1
  have tD1:h1.get? D = some { cls:=.type "dict",data:=.dict #[] }:=st1.keep D _ tD (.inr hDρ) (fun q=>nomatch q)
  refine ⟨kvv,c1,?_,fun h2 hd2 hs2=>?_⟩
  · have z:=Heap.DictOf.new (knd:=strKind T.prog T.w) s.heap
    rw [hD] at z
    refine e3a2 z fun o es' ep e r=>?_
    rw [tD] at e
    cases e
    exact ⟨_,es',ep,tD1,r⟩
  · rw [jI kvv [] (by rw [List.map_nil,List.nil_append,c2,kk]; exact hnd),List.nil_append] at hd2
    have hk2:∀ b o,b ≠ D→h1.get? b = some o→h2.get? b = some o:=fun b o hb e=>(hs2.2 b hb).trans e
    have fz:∀ a,Froz h1 (aG (D :: S) ρ1) a→Froz h2 (aG S (ρ1 ++ [(D,D)])) a∧∀ o,h1.get? a = some o→h2.get? a = some o:=fun a f=>by
      obtain ⟨x,hx⟩:=f.is
      have hne:a ≠ D:=fun q=>f.ok (q ▸ List.mem_cons_self ..)
      refine ⟨⟨⟨x,hk2 a x hne hx⟩,fun q=>?_⟩,fun o e=>hk2 a o hne e⟩
      rcases List.mem_append.mp q with q | q
      · exact f.ok (List.mem_cons_of_mem _ (List.mem_append_left _ q))
      · rw [List.map_append] at q
        rcases List.mem_append.mp q with q | q
        · exact f.ok (List.mem_cons_of_mem _ (List.mem_append_right _ q))
        · exact hne (List.mem_singleton.mp q)
    have M2:=M1.adopt (o:=.sdict kvs) hDS hk2 ⟨rfl,kvv,hd2,c2,RepL.mono fz ⟨[(D,D)],rfl⟩ _ _ c3⟩
    refine hQ (.ref m1.length) _ (ρ1 ++ [(D,D)]) h2 _ (.ref D) k1 ⟨(D,D),by rw [← M1.len]; simp,rfl⟩ M2 ?_
    refine ⟨st1.ext.trans ⟨[(D,D)],rfl⟩,fun q hq=>?_,fun b o e=>?_,fun b o e h1' _=>?_⟩
    · obtain ⟨nw,rfl⟩:=st1.ext
      rw [List.append_assoc,List.drop_left] at hq
      have hnew:=st1.new
      rw [List.drop_left] at hnew
      rcases List.mem_append.mp hq with hq | hq
      · exact ⟨bH kp (hnew q hq).1,bH kp (hnew q hq).2⟩
      · cases List.mem_singleton.mp hq
        exact ⟨hn,hn⟩
    · have hne:b ≠ D:=fun q=>by rw [q,hn] at e; cases e
      obtain ⟨x,hx⟩:=st1.there b o (kp b o e)
      exact ⟨x,hk2 b x hne hx⟩
    · have hne:b ≠ D:=fun q=>by rw [q,hn] at e; cases e
      exact hk2 b o hne (st1.keep b o (kp b o e) h1' (fun q=>nomatch q))
end
noncomputable def grd {α : Type} (b:Bool) (x:Option α):Option α:=if b then x else none
theorem aAR {α : Type} {b:Bool} {x:Option α} {z:α} (h:grd b x = some z):b = true∧x = some z:=by
  cases b with
  | true=>exact ⟨rfl,h⟩
  | false=>cases h
theorem cD {α : Type} {b:Bool} {x:Option α} {z:α} {P:Prop} (h:grd b x = some z) (H:b = true→x = some z→P):P:=H (aAR h).1 (aAR h).2
theorem bnot {b:Bool} (h:(!b) = true):b = false:=by cases b <;> first | rfl | cases h
noncomputable def sole {α : Type} (l:List α):Option α:=match l with
  | []=>none
  | x :: r=>bif r.isEmpty then some x else none
theorem aFk {α : Type} {c:Bool} {x z:α} {P:Prop} (h:(bif c then some x else none) = some z) (k:c = true→x = z→P):P:=by
  cases c with
  | true=>exact k rfl (Option.some.inj h)
  | false=>exact nn h
theorem dH {α : Type} {l:List α} {x:α} (h:sole l = some x):l = [x]:=by
  cases l with
  | nil=>exact nn h
  | cons y r=>exact aFk h fun hr e=>e ▸ List.isEmpty_iff.mp hr ▸ rfl
noncomputable def pairOf {α : Type} (l:List α):Option (α × α):=match l with
  | []=>none
  | x :: r=>(sole r).map fun y=>(x,y)
theorem fM {α : Type} {l:List α} {p:α × α} (h:pairOf l = some p):l = [p.1,p.2]:=by
  cases l with
  | nil=>exact nn h
  | cons x r=>exact bJ h fun y hy e=>e ▸ dH hy ▸ rfl
noncomputable def exAt {α : Type} (n:Nat) (e:Expr) (k:e.ctorIdx = n→Option α):Option α:=if h:e.ctorIdx = n then k h else none
theorem sY {α : Type} {n:Nat} {e:Expr} {k:e.ctorIdx = n→Option α} {x:α} {P:Prop} (h:exAt n e k = some x) (H:∀ q,k q = some x→P):P:=by
  by_cases q:e.ctorIdx = n
  · exact H q ((dif_pos q).symm.trans h)
  · exact nn ((dif_neg q).symm.trans h)
noncomputable def strC0 (k:Const):Option Str:=match k with
  | .str x=>some x
  | _=>none
theorem strC0_s {k:Const} {x:Str} {P:Const→Prop} (h:strC0 k = some x) (H:P (.str x)):P k:=by
  cases k with
  | str y=>exact bY (P:=fun x=>P (.str x)→P (.str y)) h id H
  | _=>exact nn h
noncomputable def aAq (e:Expr):Option Str:=exAt 19 e fun h=>Expr.Constant.elim (motive_1:=fun _=>Option Str) e h fun k _ _=>strC0 k
theorem lK {e:Expr} {x:Str} (h:aAq e = some x):∃ k p,e = .Constant (.str x) k p :=
  sY h fun q=>Expr.Constant.elim (motive_1:=fun e=>∀ q:e.ctorIdx = 19,Expr.Constant.elim (motive_1:=fun _=>Option Str) e q (fun k _ _=>strC0 k) = some x→∃ k p,e = .Constant (.str x) k p) e q
    (fun k n p _ h=>strC0_s (P:=fun k=>∃ k' p',Expr.Constant k n p = .Constant (.str x) k' p') h ⟨n,p,rfl⟩) q
noncomputable def hK:List (Option Expr)→List Expr→Option (List (Str × Str))
  | [],vs=>bif vs.isEmpty then some [] else none
  | k :: ks,vs=>vs.head?.bind fun v=>o2 (k.bind aAq) (aAq v) fun a b=>(hK ks vs.tail).map ((a,b) :: ·)
section
variable {T:CT} {K:Frag} {hZ h h':Heap} {env:Env} {Γ:List Str} {L I:Addr} {W S:List Addr} {ρ ρ':List (Addr × Addr)} {loc loc':Locs} {mem mem':Mem} {A:Around} {n:Nat}
noncomputable def PairsAre (T:CT) (es:List (Str × Str)) (ws:List (Value × Value)):Prop :=
  ∃ kvv:List (Str × Value),Carries (strKind T.prog T.w) ws kvv∧kvv.map (·.1) = es.map (·.1)∧∀ x,(∀ y,es.lookup x = some y→∃ t,valueAt kvv x = some (.str y t))∧(es.lookup x = none→valueAt kvv x = none)
theorem uN (ks:List (Option Expr)):∀ (vs:List Expr) (es:List (Str × Str)),hK ks vs = some es→ks.all (·.isSome) = true∧ks.length = vs.length∧es.length = ks.length ∧
    ∀ (pos:Pos) (E:Value→Shared→Prop) (s:Shared) (Q:List (Value × Value)→Shared→Prop),(∀ tk ws,PairsAre T es ws→Q ws { s with toks:=tk })→wpAny (model T.prog T.w) A (evalPairs (pairTrees ks vs env pos)) Q E s:=by
  induction ks with
  | nil =>
    refine fun vs es h=>aFk h fun hv e=>?_
    subst e
    obtain rfl:=List.isEmpty_iff.mp hv
    exact ⟨rfl,rfl,rfl,fun pos E s Q hQ=>evalPairs_nil (hQ s.toks [] ⟨[],trivial,rfl,fun x=>⟨fun _ h=>nn h,fun _=>rfl⟩⟩)⟩
  | cons k ks ih =>
    intro vs es h
    cases vs with
    | nil=>exact nn h
    | cons v vs =>
      refine aI h fun v' hv h=>o2_e h fun a b ha hb h=>aI ha fun k0 e0 ha=>bJ h fun es' hes e=>e2a1 (lK ha) fun k1 p1 e1=>e2a1 (lK hb) fun k2 p2 e2=>?_
      obtain rfl:v = v':=Option.some.inj hv
      subst e0 e1 e2 e
      refine e0a4 (ih vs es' hes) fun h1 h2 h3 h4=>⟨h1,congrArg (· + 1) h2,congrArg (· + 1) h3,fun pos E s Q hQ=>?_⟩
      refine evalPairs_cons (wpAny_Constant_str (wpAny_bind (wpAny_Constant_str (wpAny_bind (wpAny_standAt (wpAny_pure ?_))))))
      refine h4 pos E _ _ fun tk ws hw=>hQ tk _ (e1a3 hw fun kvv c1 c2 c3=>⟨(a,_) :: kvv,⟨strKind_is ..,rfl,c1⟩,by rw [List.map_cons,List.map_cons,c2],fun x=>?_⟩)
      rw [List.lookup_cons]
      cases q:x == a with
      | true =>
        refine ⟨fun y hy=>⟨s.toks + 1,?_⟩,fun h=>nomatch h⟩
        rw [← Option.some.inj hy]
        exact congrArg (Option.map Prod.snd) (List.find?_cons_of_pos (p:=fun kv:Str × Value=>decide (kv.1 = x)) (decide_eq_true (beq_iff_eq.mp q).symm))
      | false =>
        have e:valueAt ((a,Value.str b (s.toks + 1)) :: kvv) x = valueAt kvv x:=congrArg (Option.map Prod.snd) (List.find?_cons_of_neg (p:=fun kv:Str × Value=>decide (kv.1 = x)) fun z=>(beq_eq_false_iff_ne.mp q) (of_decide_eq_true z).symm)
        exact ⟨fun y hy=>((c3 x).1 y hy).imp fun t ht=>e.trans ht,fun hy=>e.trans ((c3 x).2 hy)⟩
theorem hp_dget {keys:List (Option Expr)} {values:List Expr} {dpos apos pos:Pos} {ke de:Expr} {pk pd:PE} {es:List (Str × Str)} (St:Stat T K hZ) (hc:hK keys values = some es) (h0:keys ≠ []) (hlen:keys.length ≤ 15) (hnd:(es.map (·.1)).Nodup)
    (hn1:notStar ke = true) (hn2:notStar de = true) (hp:(apos.endLine == pos.line) = true) (hk:HP T hZ env Γ L S A (eval ke env) pk) (hd:HP T hZ env Γ L S A (eval de env) pd) :
    HP T hZ env Γ L S A (eval (.Call (.Attribute (.Dict keys values dpos) "get" apos) [ke,de] [] pos) env) (.dget es pk pd):=by
  intro ρ s loc mem v Z hv Q hQ
  dsimp only [evP] at hv
  refine e0a4 (uN (T:=T) (A:=A) (env:=env) keys values es hc) fun c1 c2 c3 c4=>?_
  refine aEd rfl (by simp [hn1,hn2]) (by show 2 < 30; decide) hp ?_
  refine wpAny_Dict_walk (knd:=strKind T.prog T.w) c1 c2 h0 hlen ?_
  have hn:=aR s.heap
  have hz:=St.grown Z.M
  generalize hD:s.heap.objs.size = D at *
  have kp:∀ b o,s.heap.get? b = some o→(s.heap.push { cls:=.type "dict",data:=.dict #[] }).get? b = some o:=fun b o e=>Heap.get?_push_of_some _ e
  refine c4 dpos _ _ _ fun tk ws hw=>?_
  refine e1a3 hw fun kvv d1 d2 d3=>?_
  refine ⟨kvv,d1,?_,fun h2 hd2 hs2 pl=>?_⟩
  · have z:=Heap.DictOf.new (knd:=strKind T.prog T.w) s.heap
    rw [hD] at z
    exact z
  · rw [jI kvv [] (by rw [List.map_nil,List.nil_append,d2]; exact hnd),List.nil_append] at hd2
    refine getMethod_builtin (Heap.MapOf.typeIs hd2.mapOf) PySem.F.plainAttrs_dict PySem.F.slot_dict_get PySem.F.type_dict_get hd2.mapOf.noDict ?_
    refine hJ (by simp [hn1,hn2]) ?_
    have k2:∀ b o,s.heap.get? b = some o→h2.get? b = some o:=fun b o e=>(hs2.2 b (fun q=>by rw [q,hn] at e; cases e)).trans (kp b o e)
    have st2:Step true [] ρ s.heap ρ h2:=Step.all ρ k2
    have Z2:=Z.step st2 (Z.M.all k2)
    have hps:=uJ (T:=T) (hZ:=hZ) (env:=env) (Γ:=Γ) (L:=L) (S:=S) (A:=A) (pos:=pos) hn1 hk (uJ hn2 hd (aEI (pos:=pos)))
    refine o2_e hv fun kx dv hx hdv hv=>uC hv fun x ex hv=>?_
    subst ex
    refine hps ρ { s with heap:=h2,toks:=_ } loc mem [.str x,dv] Z2 ((show (evP mem loc pk).bind _ = _ by rw [hx]; show Option.map _ ((evP mem loc pd).bind _) = _; rw [hdv]; rfl)) _ fun vs h3 t3 r3 st3 M3=>?_
    obtain ⟨kv,w,rfl,⟨t,rfl⟩,rw_⟩:=aAw r3
    have hD3:h3.DictOf (strKind T.prog T.w) D kvv:=by
      refine e3a2 hd2 fun o es' ep e r=>?_
      have nD:D ∉ ρ.map (·.2):=fun q=>by
        obtain ⟨x,hx⟩:=Z.M.bad_there (List.mem_append_right S q)
        rw [hn] at hx; cases hx
      exact ⟨o,es',ep,st3.keep D o e (.inl rfl) (fun q=>nomatch q),r⟩
    have hsys:(D == sysModules) = false:=by
      have:=St.size
      rw [beq_eq_false_iff_ne]
      intro q
      rw [q] at hz
      exact absurd this (Nat.not_lt.mpr hz)
    have hres:RepV T h3 (aG S ρ) ρ (((es.lookup x).map V.str).getD dv) ((valueAt kvv x).getD w):=by
      cases q:es.lookup x with
      | some y=>exact ((d3 x).1 y q).elim fun t ht=>by rw [ht]; exact ⟨t,rfl⟩
      | none=>rw [(d3 x).2 q]; exact rw_
    exact call_meetsIn (s:={ s with heap:=h3,toks:=t3 }) PySem.F.slot_dict_get (Heap.MapOf.typeIs hD3.mapOf) PySem.F.entry_dict_get (PySem.F.args_dict_get_3 _ _ _) (meets_dict_get_default (strKind T.prog T.w) D (k:=x) (strKind_is ..) hsys w)
      ⟨_,hD3.mapOf,hQ _ h3 (t3 + 1) (Option.some.inj hv ▸ hres) (st2.trans st3) M3⟩
end
structure CX where
  K:Frag
  Γ:List Str
  names:List (Str × NameKind)
noncomputable def aES (mk:PE→PE→PE):List PE→Option PE
  | []=>none
  | [a]=>some a
  | a :: r=>(aES mk r).map (mk a)
noncomputable def xA (mk:IE→IE→IE):List IE→Option IE
  | []=>none
  | [a]=>some a
  | a :: r=>(xA mk r).map (mk a)
noncomputable def wN (c:CX) (x:Str):Option Nat:=(c.names.lookup x).bind fun k=>grd (k == .local || k == .cell) (c.Γ.idxOf? x)
noncomputable def gName (c:CX) (x:Str):Option Value:=(c.names.lookup x).bind fun k=>grd (k == .globalImplicit) ((hH c.K x).bind fun v=>grd (handedIn v && !(x == ("__debug__" : Str))) (some v))
noncomputable def nameP (c:CX) (x:Str):Option PE:=((wN c x).map .loc).or ((gName c x).map fun v=>.glob (globV v))
noncomputable def xY (c:CX) (x:Str):Option BI:=(gName c x).bind biOf
theorem or_e {α : Type} {a b:Option α} {z:α} {P:Prop} (h:a.or b = some z) (k1:a = some z→P) (k2:b = some z→P):P:=by
  cases a with
  | none=>exact k2 h
  | some x=>exact k1 h
theorem or_s {α : Type} {a b:Option α} {Q:α→Prop} (k1:∀ z,a = some z→Q z) (k2:∀ z,b = some z→Q z) (z:α) (h:a.or b = some z):Q z:=or_e h (k1 z) (k2 z)
noncomputable def exIs {α : Type} {F:α→Expr} (n:Nat) (e:Expr) (k:e.ctorIdx = n→{q:α // e = F q}):Option {q:α // e = F q}:=if h:e.ctorIdx = n then some (k h) else none
theorem is_e {α β : Type} {F:α→Expr} {e:Expr} {o:Option {q:α // e = F q}} {k:{q:α // e = F q}→Option β} {z:β} {P:Expr→Prop} (h:o.bind k = some z) (H:∀ q (he:e = F q),k ⟨q,he⟩ = some z→P (F q)):P e :=
  aI h fun q _ h=>Eq.subst (motive:=P) q.2.symm (H q.1 q.2 h)
noncomputable def conOf (e:Expr):=exIs (F:=fun q:Const × Nat × Pos=>.Constant q.1 q.2.1 q.2.2) 19 e fun h=>Expr.Constant.elim (motive_1:=fun e=>{q:Const × Nat × Pos // e = .Constant q.1 q.2.1 q.2.2}) e h fun a b c=>⟨(a,b,c),rfl⟩
noncomputable def qI (e:Expr):=exIs (F:=fun q:Str × Pos=>.Name q.1 q.2) 23 e fun h=>Expr.Name.elim (motive_1:=fun e=>{q:Str × Pos // e = .Name q.1 q.2}) e h fun a b=>⟨(a,b),rfl⟩
noncomputable def yA (e:Expr):=exIs (F:=fun q:Expr × Str × Pos=>.Attribute q.1 q.2.1 q.2.2) 20 e fun h=>Expr.Attribute.elim (motive_1:=fun e=>{q:Expr × Str × Pos // e = .Attribute q.1 q.2.1 q.2.2}) e h fun a b c=>⟨(a,b,c),rfl⟩
noncomputable def aDs (e:Expr):=exIs (F:=fun q:Expr × Expr × Pos=>.Subscript q.1 q.2.1 q.2.2) 21 e fun h=>Expr.Subscript.elim (motive_1:=fun e=>{q:Expr × Expr × Pos // e = .Subscript q.1 q.2.1 q.2.2}) e h fun a b c=>⟨(a,b,c),rfl⟩
noncomputable def binOf (e:Expr):=exIs (F:=fun q:Expr × Operator × Expr × Pos=>.BinOp q.1 q.2.1 q.2.2.1 q.2.2.2) 2 e fun h=>Expr.BinOp.elim (motive_1:=fun e=>{q:Expr × Operator × Expr × Pos // e = .BinOp q.1 q.2.1 q.2.2.1 q.2.2.2}) e h fun a b c d=>⟨(a,b,c,d),rfl⟩
noncomputable def unOf (e:Expr):=exIs (F:=fun q:UnaryOp × Expr × Pos=>.UnaryOp q.1 q.2.1 q.2.2) 3 e fun h=>Expr.UnaryOp.elim (motive_1:=fun e=>{q:UnaryOp × Expr × Pos // e = .UnaryOp q.1 q.2.1 q.2.2}) e h fun a b c=>⟨(a,b,c),rfl⟩
noncomputable def cmpOf (e:Expr):=exIs (F:=fun q:Expr × List CmpOp × List Expr × Pos=>.Compare q.1 q.2.1 q.2.2.1 q.2.2.2) 15 e fun h=>Expr.Compare.elim (motive_1:=fun e=>{q:Expr × List CmpOp × List Expr × Pos // e = .Compare q.1 q.2.1 q.2.2.1 q.2.2.2}) e h fun a b c d=>⟨(a,b,c,d),rfl⟩
noncomputable def booOf (e:Expr):=exIs (F:=fun q:BoolOp × List Expr × Pos=>.BoolOp q.1 q.2.1 q.2.2) 0 e fun h=>Expr.BoolOp.elim (motive_1:=fun e=>{q:BoolOp × List Expr × Pos // e = .BoolOp q.1 q.2.1 q.2.2}) e h fun a b c=>⟨(a,b,c),rfl⟩
noncomputable def ifeOf (e:Expr):=exIs (F:=fun q:Expr × Expr × Expr × Pos=>.IfExp q.1 q.2.1 q.2.2.1 q.2.2.2) 5 e fun h=>Expr.IfExp.elim (motive_1:=fun e=>{q:Expr × Expr × Expr × Pos // e = .IfExp q.1 q.2.1 q.2.2.1 q.2.2.2}) e h fun a b c d=>⟨(a,b,c,d),rfl⟩
noncomputable def yL (e:Expr):=exIs (F:=fun q:List Expr × Nat × Pos=>.Tuple q.1 q.2.1 q.2.2) 25 e fun h=>Expr.Tuple.elim (motive_1:=fun e=>{q:List Expr × Nat × Pos // e = .Tuple q.1 q.2.1 q.2.2}) e h fun a b c=>⟨(a,b,c),rfl⟩
noncomputable def lisOf (e:Expr):=exIs (F:=fun q:List Expr × Pos=>.List q.1 q.2) 24 e fun h=>Expr.List.elim (motive_1:=fun e=>{q:List Expr × Pos // e = .List q.1 q.2}) e h fun a b=>⟨(a,b),rfl⟩
noncomputable def calOf (e:Expr):=exIs (F:=fun q:Expr × List Expr × List Keyword × Pos=>.Call q.1 q.2.1 q.2.2.1 q.2.2.2) 16 e fun h=>Expr.Call.elim (motive_1:=fun e=>{q:Expr × List Expr × List Keyword × Pos // e = .Call q.1 q.2.1 q.2.2.1 q.2.2.2}) e h fun a b c d=>⟨(a,b,c,d),rfl⟩
noncomputable def comOf (e:Expr):=exIs (F:=fun q:Expr × List Comprehension × Scope × Pos=>.ListComp q.1 q.2.1 q.2.2.1 q.2.2.2) 8 e fun h=>Expr.ListComp.elim (motive_1:=fun e=>{q:Expr × List Comprehension × Scope × Pos // e = .ListComp q.1 q.2.1 q.2.2.1 q.2.2.2}) e h fun a b c d=>⟨(a,b,c,d),rfl⟩
noncomputable def nameOf (e:Expr):Option Str:=exAt 23 e fun h=>Expr.Name.elim (motive_1:=fun _=>Option Str) e h fun x _=>some x
theorem fN {e:Expr} {x:Str} (h:nameOf e = some x):∃ p,e = .Name x p :=
  sY h fun q=>Expr.Name.elim (motive_1:=fun e=>∀ q:e.ctorIdx = 23,Expr.Name.elim (motive_1:=fun _=>Option Str) e q (fun x _=>some x) = some x→∃ p,e = .Name x p) e q (fun y p _ h=>⟨p,congrArg (Expr.Name · p) (Option.some.inj h)⟩) q
noncomputable def intC0 (k:Const):Option Int:=match k with
  | .int x=>some x
  | _=>none
theorem intC0_s {k:Const} {x:Int} {P:Const→Prop} (h:intC0 k = some x) (H:P (.int x)):P k:=by
  cases k with
  | int y=>exact bY (P:=fun x=>P (.int x)→P (.int y)) h id H
  | _=>exact nn h
noncomputable def intOf (e:Expr):Option Int:=exAt 19 e fun h=>Expr.Constant.elim (motive_1:=fun _=>Option Int) e h fun k _ _=>intC0 k
theorem sV {e:Expr} {x:Int} (h:intOf e = some x):∃ k p,e = .Constant (.int x) k p :=
  sY h fun q=>Expr.Constant.elim (motive_1:=fun e=>∀ q:e.ctorIdx = 19,Expr.Constant.elim (motive_1:=fun _=>Option Int) e q (fun k _ _=>intC0 k) = some x→∃ k p,e = .Constant (.int x) k p) e q
    (fun k n p _ h=>intC0_s (P:=fun k=>∃ k' p',Expr.Constant k n p = .Constant (.int x) k' p') h ⟨n,p,rfl⟩) q
noncomputable def dictOf (e:Expr):Option (List (Option Expr) × List Expr):=exAt 6 e fun h=>Expr.Dict.elim (motive_1:=fun _=>Option (List (Option Expr) × List Expr)) e h fun ks vs _=>some (ks,vs)
theorem qT {e:Expr} {q:List (Option Expr) × List Expr} (h:dictOf e = some q):∃ p,e = .Dict q.1 q.2 p :=
  sY h fun i=>Expr.Dict.elim (motive_1:=fun e=>∀ i:e.ctorIdx = 6,Expr.Dict.elim (motive_1:=fun _=>Option (List (Option Expr) × List Expr)) e i (fun ks vs _=>some (ks,vs)) = some q→∃ p,e = .Dict q.1 q.2 p) e i
    (fun ks vs p _ h=>bY (P:=fun q=>∃ p',Expr.Dict ks vs p = .Dict q.1 q.2 p') h ⟨p,rfl⟩) i
noncomputable def slcOf (e:Expr):Option (Option Expr × Option Expr):=exAt 26 e fun h=>Expr.Slice.elim (motive_1:=fun _=>Option (Option Expr × Option Expr)) e h fun lo hi st _=>st.elim (some (lo,hi)) fun _=>none
theorem sF {e:Expr} {q:Option Expr × Option Expr} (h:slcOf e = some q):∃ p,e = .Slice q.1 q.2 none p :=
  sY h fun i=>Expr.Slice.elim (motive_1:=fun e=>∀ i:e.ctorIdx = 26,Expr.Slice.elim (motive_1:=fun _=>Option (Option Expr × Option Expr)) e i (fun lo hi st _=>st.elim (some (lo,hi)) fun _=>none) = some q→∃ p,e = .Slice q.1 q.2 none p) e i
    (fun lo hi st p _=>by
      cases st with
      | none=>exact fun h=>bY (P:=fun q=>∃ p',Expr.Slice lo hi none p = .Slice q.1 q.2 none p') h ⟨p,rfl⟩
      | some _=>exact fun h=>nn h) i
noncomputable def constP:Const→Option PE
  | .none=>some (.cst .none)
  | .bool b=>some (.cst (.bool b))
  | .int i=>some (.cst (.int i))
  | .str x=>some (.cst (.str x))
  | _=>none
noncomputable def unP (P:Expr→Option PE) (op:UnaryOp) (e:Expr):Option PE:=match op with
  | .USub=>(intOf e).map .neg
  | .Not=>(P e).map .notE
  | _=>none
noncomputable def boP (op:BoolOp) (l:List PE):Option PE:=match op with
  | .And=>aES .andE l
  | .Or=>aES .orE l
mutual
noncomputable def cY (c:CX):Nat→Expr→Option PE
  | 0,_=>none
  | f + 1,e=>((conOf e).bind fun q=>constP q.1.1).or <| ((qI e).bind fun q=>nameP c q.1.1).or <|
    ((yA e).bind fun q=>o2 (At.of q.1.2.1) (cY c f q.1.1) fun a' pe=>grd (dZ q.1.1) (some (.attr pe a'))).or <|
    ((aDs e).bind fun q=>((slcOf q.1.2.1).bind fun s=>(cY c f q.1.1).bind fun a=>o2 (s.1.bind (cY c f)) (s.2.bind (cY c f)) fun b d=>some (.sliceFT a b d)).or
      (o2 (cY c f q.1.1) (cY c f q.1.2.1) fun a b=>grd (dJ q.1.2.1) (some (.item a b)))).or <|
    ((binOf e).bind fun q=>o2 (cY c f q.1.1) (cY c f q.1.2.2.1) fun a b=>some (.bin q.1.2.1 a b)).or <|
    ((unOf e).bind fun q=>unP (cY c f) q.1.1 q.1.2.1).or <|
    ((cmpOf e).bind fun q=>o2 (sole q.1.2.1) (sole q.1.2.2.1) fun op i=>o2 (cY c f q.1.1) (cY c f i) fun a b=>grd (!behindInMarks op i) (some (.cmp op a b))).or <|
    ((booOf e).bind fun q=>(nB c f q.1.2.1).bind (boP q.1.1)).or <|
    ((ifeOf e).bind fun q=>(cY c f q.1.1).bind fun x=>o2 (cY c f q.1.2.1) (cY c f q.1.2.2.1) fun y z=>some (.ite x y z)).or <|
    ((yL e).bind fun q=>(nB c f q.1.1).bind fun l=>grd (decide (l.length ≤ 1000)) (some (.tup l))).or <|
    ((lisOf e).bind fun q=>(nB c f q.1.1).bind fun l=>grd (decide (l.length ≤ 1000)) (some (.lst l))).or <|
    (calOf e).bind fun q=>grd q.1.2.2.1.isEmpty (((qI q.1.1).bind fun x=>o2 (xY c x.1.1) (nB c f q.1.2.1) fun b l=>grd (q.1.2.1.all notStar && !q.1.2.1.isEmpty) (some (.bi b l))).or
      ((yA q.1.1).bind fun o=>o2 (dictOf o.1.1) (pairOf q.1.2.1) fun d a=>(hK d.1 d.2).bind fun es=>o2 (cY c f a.1) (cY c f a.2) fun pk pd =>
          grd (o.1.2.1 == ("get" : Str) && !d.1.isEmpty && decide (d.1.length ≤ 15) && decide (es.map (·.1)).Nodup && notStar a.1 && notStar a.2 && o.1.2.2.endLine == q.1.2.2.2.line) (some (.dget es pk pd))))
noncomputable def nB (c:CX):Nat→List Expr→Option (List PE)
  | 0,_=>none
  | f + 1,[]=>some []
  | f + 1,e :: es=>o2 (cY c f e) (nB c f es) fun a l=>grd (notStar e) (some (a :: l))
end
noncomputable def compT (c:CX) (f:Nat) (e:Expr):Option PE:=((cmpOf e).bind fun q=>o2 (pairOf q.1.2.1) (pairOf q.1.2.2.1) fun o r=>(cY c f q.1.1).bind fun a=>o2 (cY c f r.1) (cY c f r.2) fun b d=>grd (!behindInMarks o.2 r.2) (some (.andE (.cmp o.1 a b) (.cmp o.2 b d)))).or (cY c f e)
noncomputable def mF (c:CX) (scope:Scope):List (Str × NameKind):=scope.names.map fun (n,k)=>if (k == NameKind.free && (c.names.lookup n == some .cell)) then (n,NameKind.cell) else (n,k)
noncomputable def eD (scope:Scope):List Str:=(scope.names.filter fun p=>p.2 == .free).map (·.1)
noncomputable def cT (t:Expr):List Str:=(((qI t).map fun q=>[q.1.1]).or ((yL t).bind fun q=>(pairOf q.1.1).bind fun r=>o2 (nameOf r.1) (nameOf r.2) fun x y=>some [x,y])).getD []
theorem tgt_is {t:Expr} (h:cT t ≠ []):(∃ x p,t = .Name x p) ∨ ∃ x p y q k r,t = .Tuple [.Name x p,.Name y q] k r:=by
  cases hn:qI t with
  | some q=>exact .inl ⟨_,_,q.2⟩
  | none =>
    cases ht:(yL t).bind fun q=>(pairOf q.1.1).bind fun r=>o2 (nameOf r.1) (nameOf r.2) fun x y=>some [x,y] with
    | none=>exact absurd (show (((qI t).map fun q=>[q.1.1]).or _).getD [] = [] by rw [hn,ht]; rfl) h
    | some z =>
      refine .inr (aI ht fun q _ hq=>aI hq fun r hr hq=>o2_e hq fun x y hx hy _=>(fN hx).elim fun p1 e1=>(fN hy).elim fun p2 e2=>⟨x,p1,y,p2,q.1.2.1,q.1.2.2,q.2.trans ?_⟩)
      rw [fM hr,e1,e2]
noncomputable def aBs (c:CX):List Str→Option (List Nat)
  | []=>some []
  | x :: r=>o2 (c.Γ.idxOf? x) (aBs c r) fun i l=>some (i :: l)
noncomputable def fS (c:CX) (scope:Scope) (target:Expr):CX:=⟨c.K,eD scope ++ cT target,mF c scope⟩
noncomputable def uV (c:CX) (scope:Scope) (target:Expr):Bool :=
  scope.names.all (fun y=>!(y.2 == .cell)) && (scope.kind == .function) && scope.names.all (fun y=>!(y.2 == .local) || scope.names.lookup y.1 == some .local) &&
  decide (fS c scope target).Γ.Nodup && (fS c scope target).Γ.all (fun x=>!(x == ("__debug__" : Str))) && (eD scope).all (fun x=>(c.names.lookup x == some .cell) && ((mF c scope).lookup x == some .cell)) &&
  (cT target).all (fun x=>(mF c scope).lookup x == some .local) && (!(cT target).isEmpty)
noncomputable def aDo (c:CX) (f:Nat) (l:List Expr):Option (Option PE):=bif l.isEmpty then some none else (sole l).bind fun t=>(compT c f t).map some
noncomputable def isSet (e:Expr):Bool:=e.ctorIdx == 7
noncomputable def callOf (e:Expr):Option (Expr × List Expr):=exAt 16 e fun h=>Expr.Call.elim (motive_1:=fun _=>Option (Expr × List Expr)) e h fun fn es ks _=>grd ks.isEmpty (some (fn,es))
theorem aAf {e:Expr} {q:Expr × List Expr} (h:callOf e = some q):∃ p,e = .Call q.1 q.2 [] p :=
  sY h fun i=>Expr.Call.elim (motive_1:=fun e=>∀ i:e.ctorIdx = 16,Expr.Call.elim (motive_1:=fun _=>Option (Expr × List Expr)) e i (fun fn es ks _=>grd ks.isEmpty (some (fn,es))) = some q→∃ p,e = .Call q.1 q.2 [] p) e i
    (fun fn es ks p _ h=>cD h fun h1 h=>bY (P:=fun q=>∃ p',Expr.Call fn es ks p = .Call q.1 q.2 [] p') h ⟨p,by rw [List.isEmpty_iff.mp h1]⟩) i
noncomputable def unE (E:Expr→Option IE) (op:UnaryOp) (e:Expr):Option IE:=match op with
  | .Not=>(E e).map .notE
  | _=>none
noncomputable def boE (op:BoolOp) (l:List IE):Option IE:=match op with
  | .And=>xA .andE l
  | .Or=>xA .orE l
noncomputable def rng2 (c:CX) (e:Expr):Option (Str × Expr × Expr):=(callOf e).bind fun q=>o2 (nameOf q.1) (pairOf q.2) fun x a=>(c.names.lookup x).bind fun k=>(hH c.K x).bind fun v=>grd (k == .globalImplicit && v == .type "range" && notStar a.1 && notStar a.2 && !(x == ("__debug__" : Str))) (some (x,a))
mutual
noncomputable def cS (c:CX):Nat→Expr→Option IE
  | 0,_=>none
  | f + 1,e=>((cY c (f + 1) e).map .p).or (compF c f e)
noncomputable def compF (c:CX):Nat→Expr→Option IE
  | 0,_=>none
  | f + 1,e=>((yA e).bind fun q=>o2 (At.of q.1.2.1) (cS c f q.1.1) fun a' pe=>grd (dZ q.1.1) (some (.attr pe a'))).or <|
    ((aDs e).bind fun q=>o2 (cS c f q.1.1) (cS c f q.1.2.1) fun a b=>grd (dJ q.1.2.1) (some (.item a b))).or <|
    ((binOf e).bind fun q=>o2 (cS c f q.1.1) (cS c f q.1.2.2.1) fun a b=>some (.bin q.1.2.1 a b)).or <|
    ((unOf e).bind fun q=>unE (cS c f) q.1.1 q.1.2.1).or <|
    ((cmpOf e).bind fun q=>o2 (sole q.1.2.1) (sole q.1.2.2.1) fun op i=>o2 (cS c f q.1.1) (cS c f i) fun a b=>grd (!behindInMarks op i) (some (.cmp op a b))).or <|
    ((booOf e).bind fun q=>(iZ c f q.1.2.1).bind (boE q.1.1)).or <|
    ((yL e).bind fun q=>(iZ c f q.1.1).map .tup).or <|
    ((lisOf e).bind fun q=>(iZ c f q.1.1).map .lst).or <|
    ((calOf e).bind fun q=>grd q.1.2.2.1.isEmpty (((qI q.1.1).bind fun x=>(iZ c f q.1.2.1).bind fun l=>((xY c x.1.1).bind fun b=>grd (q.1.2.1.all notStar && !q.1.2.1.isEmpty) (some (.bi b l))).or ((nameP c x.1.1).bind fun b=>grd (q.1.2.1.all notStar) (some (.call b l)))).or
      ((yA q.1.1).bind fun o=>(At.of o.1.2.1).bind fun m'=>o2 (cS c f o.1.1) (iZ c f q.1.2.1) fun b l=>grd (dZ o.1.1 && q.1.2.1.all notStar && decide (q.1.2.1.length < 30) && o.1.2.2.endLine == q.1.2.2.2.line) (some (.meth b m' l))))).or <|
    (comOf e).bind fun q=>(sole q.1.2.1).bind fun g=>grd (g.is_async == 0) ((aBs c (eD q.1.2.2.1)).bind fun caps=>o2 (compC c f g.iter) (aDo (fS c q.1.2.2.1 g.target) f g.ifs) fun src test=>(cY (fS c q.1.2.2.1 g.target) f q.1.1).bind fun pe =>
        grd (uV c q.1.2.2.1 g.target && (!src.1 || (cT g.target).length == 1)) (some (.comp caps ((List.range (cT g.target).length).map (· + caps.length)) src.1 src.2 test pe)))
noncomputable def compC (c:CX):Nat→Expr→Option (Bool × List IE)
  | 0,_=>none
  | f + 1,e=>((rng2 c e).bind fun p=>o2 (cS c f p.2.1) (cS c f p.2.2) fun ia ib=>some (true,[ia,ib])).or (grd (!isSet e) ((cS c f e).map fun ie=>(false,[ie])))
noncomputable def iZ (c:CX):Nat→List Expr→Option (List IE)
  | 0,_=>none
  | f + 1,[]=>some []
  | f + 1,e :: es=>o2 (cS c f e) (iZ c f es) fun a l=>grd (notStar e) (some (a :: l))
end
noncomputable def aFx (c:CX) (f:Nat) (e:Expr):Option IE:=((lisOf e).bind fun q=>(iZ c f q.1.1).map .lstM).or (cS c f e)
noncomputable def aFz (c:CX) (f:Nat):List (Option Expr)→List Expr→Option (List (Str × IE))
  | [],vs=>bif vs.isEmpty then some [] else none
  | k :: ks,vs=>vs.head?.bind fun v=>(k.bind aAq).bind fun a=>o2 (aFx c f v) (aFz c f ks vs.tail) fun ie l=>some ((a,ie) :: l)
noncomputable def compR (c:CX) (intKeys:Bool) (f:Nat) (e:Expr):Option IE:=((dictOf e).bind fun q=>bif q.1.isEmpty && q.2.isEmpty then some (bif intKeys then .dictI else .dictS) else
    (aFz c f q.1 q.2).bind fun es=>grd (!q.1.isEmpty && decide (q.1.length ≤ 15) && decide (es.map (·.1)).Nodup) (some (.dictM es))).or (aFx c f e)
structure CxP (T:CT) (K:Frag) (hZ:Heap) (n:Nat) (env:Env) (Γ:List Str) (L:Addr) (A:Around) (c:CX):Prop where
  St:Stat T K hZ
  cK:c.K = K
  cΓ:c.Γ = Γ
  En:dX env Γ L
  kind:∀ x,env.kindOf x = c.names.lookup x
  R:Rnd A n
structure CxOk (T:CT) (K:Frag) (hZ:Heap) (n:Nat) (env:Env) (Γ:List Str) (L:Addr) (W:List Addr) (A:Around) (c:CX):Prop extends CxP T K hZ n env Γ L A c where
  O:dW env L W
  cell:∀ x,env.kindOf x = some .cell→∃ c,env.cells.lookup x = some c
  bk:env.blockKind = .function
section
variable {T:CT} {K:Frag} {hZ h h':Heap} {env:Env} {Γ:List Str} {L I:Addr} {W S:List Addr} {ρ ρ':List (Addr × Addr)} {loc loc':Locs} {mem mem':Mem} {A:Around} {n:Nat} {c:CX}
theorem CxP.units (X:CxP T K hZ n env Γ L A c):A.units + 64 < cLine:=by have:=X.R.units; lia
noncomputable def dM (T:CT) (hZ:Heap) (env:Env) (Γ:List Str) (L:Addr) (A:Around) (e:Expr) (pe:PE):Prop :=
  (∀ S,HP T hZ env Γ L S A (eval e env) pe)∧(∀ S,HT T hZ env Γ L S A (isTrue e env (eval e env)) pe)
theorem bF {e:Expr} {pe:PE} (h:∀ S,HP T hZ env Γ L S A (eval e env) pe) (he:∀ whole,isTrue e env whole = (do let v ← whole; standAt e.pos; holding [v] (truthy v))):dM T hZ env Γ L A e pe :=
  ⟨h,fun S=>ht_plain (h S) (he _)⟩
theorem aEE {l:List Str} {x:Str} {i:Nat} (h:l.idxOf? x = some i):l[i]? = some x:=by
  have h2:=(List.findIdx?_eq_some_iff_getElem.mp (show l.findIdx? (· == x) = some i from h))
  obtain ⟨hl,he,_⟩:=h2
  rw [List.getElem?_eq_getElem hl]
  simpa using he
theorem aEm {x:Str} {i:Nat} {P:Prop} (h:wN c x = some i) (H:c.Γ.idxOf? x = some i→(c.names.lookup x = some .local ∨ c.names.lookup x = some .cell)→P):P :=
  aI h fun k hk h=>cD h fun hb h=>H h ((Bool.or_eq_true_iff.mp hb).imp (fun q=>hk.trans (congrArg some (beq_iff_eq.mp q))) fun q=>hk.trans (congrArg some (beq_iff_eq.mp q)))
theorem aEP {x:Str} {v:Value} {P:Prop} (X:CxP T K hZ n env Γ L A c) (h:gName c x = some v) (H:env.kindOf x = some .globalImplicit→(x == ("__debug__" : Str)) = false→hH K x = some v→handedIn v = true→P):P :=
  aI h fun k hk h=>cD h fun hb h=>aI h fun w hw h=>cD h fun hh e=>by
    obtain rfl:=Option.some.inj e
    exact H ((X.kind x).trans (hk.trans (congrArg some (beq_iff_eq.mp hb)))) (bnot (Bool.and_eq_true_iff.mp hh).2) (X.cK ▸ hw) (Bool.and_eq_true_iff.mp hh).1
theorem aDY {x:Str} {pos:Pos} {pe:PE} (X:CxP T K hZ n env Γ L A c) (h:nameP c x = some pe):HP T hZ env Γ L S A (eval (.Name x pos) env) pe :=
  or_e h (fun h=>bJ h fun i hi e=>aEm hi fun hx _=>e ▸ hp_loc X.En (X.cΓ ▸ aEE hx)) fun h=>bJ h fun v hv e=>aEP X hv fun hk hd hg hi=>e ▸ qP X.St X.En hk hd hg hi
theorem ht_ite {cnd a b:Expr} {pc pa pb:PE} {pos:Pos} {whole:Sem Value} (hc:HT T hZ env Γ L S A (isTrue cnd env (eval cnd env)) pc) (ha:HT T hZ env Γ L S A (isTrue a env (eval a env)) pa) (hb:HT T hZ env Γ L S A (isTrue b env (eval b env)) pb) :
    HT T hZ env Γ L S A (isTrue (.IfExp cnd a b pos) env whole) (.ite pc pa pb):=by
  intro ρ s loc mem v t Z hv ht Q hQ
  show wpAny _ _ (isTrue cnd env (eval cnd env) >>= fun r=>if r = true then isTrue a env (eval a env) else isTrue b env (eval b env)) _ _ _
  refine aI hv fun vc hvc hv=>aI hv fun t htc hv=>wpAny_bind (hc ρ s loc mem vc t Z hvc htc _ fun h1 t1 st1 M1=>?_)
  cases t with
  | true=>exact ha ρ _ loc mem v _ (Z.step st1 M1) hv ht _ fun h2 t2 st2 M2=>hQ h2 t2 (st1.trans st2) M2
  | false=>exact hb ρ _ loc mem v _ (Z.step st1 M1) hv ht _ fun h2 t2 st2 M2=>hQ h2 t2 (st1.trans st2) M2
theorem bool_and {pos:Pos} (es:List Expr):∀ (l:List PE) (pe:PE),l.length = es.length→(∀ (i:Nat) (e:Expr) (p:PE),es[i]? = some e→l[i]? = some p→dM T hZ env Γ L A e p)→aES .andE l = some pe →
    (∀ S,HP T hZ env Γ L S A (boolOp pos .And (evalEach es env)) pe)∧∀ S,HT T hZ env Γ L S A (allTrue .And es env) pe:=by
  induction es with
  | nil =>
    intro l pe hl _ hf
    obtain rfl:=List.eq_nil_of_length_eq_zero hl
    exact nn hf
  | cons e es ih =>
    intro l pe hl hb hf
    cases l with
    | nil=>exact nomatch hl
    | cons p l =>
      have z:=hb 0 e p rfl rfl
      have hl':l.length = es.length:=Nat.succ.inj hl
      cases es with
      | nil =>
        obtain rfl:=List.eq_nil_of_length_eq_zero hl'
        obtain rfl:=Option.some.inj hf
        exact ⟨z.1,fun S=>zM (z.2 S)⟩
      | cons e2 es =>
        cases l with
        | nil=>exact nomatch hl'
        | cons p2 l =>
          exact bJ hf fun q hq e0=>e0 ▸ (fun i=>⟨fun S=>hp_and1 (z.1 S) (i.1 S),fun S=>ht_and (z.2 S) (i.2 S)⟩) (ih (p2 :: l) q hl' (fun i e' p' h1 h2=>hb (i + 1) e' p' h1 h2) hq)
theorem bool_or {pos:Pos} (es:List Expr):∀ (l:List PE) (pe:PE),l.length = es.length→(∀ (i:Nat) (e:Expr) (p:PE),es[i]? = some e→l[i]? = some p→dM T hZ env Γ L A e p)→aES .orE l = some pe →
    (∀ S,HP T hZ env Γ L S A (boolOp pos .Or (evalEach es env)) pe)∧∀ S,HT T hZ env Γ L S A (allTrue .Or es env) pe:=by
  induction es with
  | nil =>
    intro l pe hl _ hf
    obtain rfl:=List.eq_nil_of_length_eq_zero hl
    exact nn hf
  | cons e es ih =>
    intro l pe hl hb hf
    cases l with
    | nil=>exact nomatch hl
    | cons p l =>
      have z:=hb 0 e p rfl rfl
      have hl':l.length = es.length:=Nat.succ.inj hl
      cases es with
      | nil =>
        obtain rfl:=List.eq_nil_of_length_eq_zero hl'
        obtain rfl:=Option.some.inj hf
        exact ⟨z.1,fun S=>aCb (z.2 S)⟩
      | cons e2 es =>
        cases l with
        | nil=>exact nomatch hl'
        | cons p2 l =>
          exact bJ hf fun q hq e0=>e0 ▸ (fun i=>⟨fun S=>hp_or1 (z.1 S) (i.1 S),fun S=>ht_or (z.2 S) (i.2 S)⟩) (ih (p2 :: l) q hl' (fun i e' p' h1 h2=>hb (i + 1) e' p' h1 h2) hq)
noncomputable def tM (T:CT) (hZ:Heap) (env:Env) (Γ:List Str) (L:Addr) (A:Around) (es:List Expr) (l:List PE):Prop :=
  l.length = es.length∧(∀ (i:Nat) (e:Expr) (p:PE),es[i]? = some e→l[i]? = some p→dM T hZ env Γ L A e p)∧es.all notStar = true∧∀ (pos:Pos) S,HPs T hZ env Γ L S A (spliced (backTo pos (starEach es env))) l
theorem aBy {x:Str} {b:BI} {P:Prop} (X:CxP T K hZ n env Γ L A c) (h:xY c x = some b) (H:∀ v,env.kindOf x = some .globalImplicit→(x == ("__debug__" : Str)) = false→hH K x = some v→handedIn v = true→biOf v = some b→P):P :=
  aI h fun v hv hb=>aEP X hv fun h1 h2 h3 h4=>H v h1 h2 h3 h4 hb
theorem fY {a b:Bool} {P:Prop} (h:(a && b) = true) (H:a = true→b = true→P):P:=H (Bool.and_eq_true_iff.mp h).1 (Bool.and_eq_true_iff.mp h).2
theorem aAE {α : Type} {l:List α} (h:(!l.isEmpty) = true):l ≠ []:=fun q=>by rw [q] at h; exact ff h
theorem aEM {es:List Expr} {l:List PE} {e:Expr} {a:PE} (z1:dM T hZ env Γ L A e a) (z2:tM T hZ env Γ L A es l) (hs:notStar e = true):tM T hZ env Γ L A (e :: es) (a :: l):=by
  refine ⟨congrArg (· + 1) z2.1,fun i e p he hp=>?_,Bool.and_eq_true_iff.mpr ⟨hs,z2.2.2.1⟩,fun pos S=>uJ hs (z1.1 S) (z2.2.2.2 pos S)⟩
  cases i with
  | zero=>exact Option.some.inj he ▸ Option.some.inj hp ▸ z1
  | succ i=>exact z2.2.1 i e p he hp
theorem aFj {k:Const} {i:Nat} {p:Pos} {pe:PE} (h:constP k = some pe):dM T hZ env Γ L A (.Constant k i p) pe:=by
  cases k with
  | none=>exact Option.some.inj h ▸ bF (fun S=>hp_none) fun _=>rfl
  | bool=>exact Option.some.inj h ▸ bF (fun S=>hp_bool) fun _=>rfl
  | int=>exact Option.some.inj h ▸ bF (fun S=>hp_int) fun _=>rfl
  | str=>exact Option.some.inj h ▸ bF (fun S=>hp_str) fun _=>rfl
  | _=>exact nn h
theorem unP_ok {P:Expr→Option PE} (ihP:∀ e pe,P e = some pe→dM T hZ env Γ L A e pe) {op:UnaryOp} {e:Expr} {p:Pos} {pe:PE} (h:unP P op e = some pe):dM T hZ env Γ L A (.UnaryOp op e p) pe:=by
  cases op with
  | USub=>exact bJ h fun i hi e0=>e2a1 (sV hi) fun k q e1=>e0 ▸ e1 ▸ bF (fun S=>hp_neg) fun _=>rfl
  | Not=>exact bJ h fun q hq e0=>e0 ▸ ⟨fun S=>hp_not ((ihP _ _ hq).1 S),fun S=>ht_not ((ihP _ _ hq).2 S)⟩
  | _=>exact nn h
theorem boP_ok {op:BoolOp} {es:List Expr} {l:List PE} {p:Pos} {pe:PE} (z:tM T hZ env Γ L A es l) (h:boP op l = some pe):dM T hZ env Γ L A (.BoolOp op es p) pe:=by
  cases op with
  | And=>exact (fun q=>⟨q.1,fun S=>aEG (q.2 S)⟩) (bool_and (pos:=p) _ _ _ z.1 z.2.1 h)
  | Or=>exact (fun q=>⟨q.1,fun S=>aEG (q.2 S)⟩) (bool_or (pos:=p) _ _ _ z.1 z.2.1 h)
theorem callP_ok {f:Nat} (X:CxP T K hZ n env Γ L A c) (ihP:∀ (e:Expr) (pe:PE),cY c f e = some pe→dM T hZ env Γ L A e pe) (ihS:∀ (es:List Expr) (l:List PE),nB c f es = some l→tM T hZ env Γ L A es l) {fn:Expr} {es:List Expr} {p:Pos} {pe:PE}
    (h:(((qI fn).bind fun x=>o2 (xY c x.1.1) (nB c f es) fun b l=>grd (es.all notStar && !es.isEmpty) (some (.bi b l))).or
      ((yA fn).bind fun o=>o2 (dictOf o.1.1) (pairOf es) fun d a=>(hK d.1 d.2).bind fun es=>o2 (cY c f a.1) (cY c f a.2) fun pk pd =>
          grd (o.1.2.1 == ("get" : Str) && !d.1.isEmpty && decide (d.1.length ≤ 15) && decide (es.map (·.1)).Nodup && notStar a.1 && notStar a.2 && o.1.2.2.endLine == p.line) (some (.dget es pk pd)))) = some pe):dM T hZ env Γ L A (.Call fn es [] p) pe:=by
  refine or_e h (fun h=>?_) fun h=>?_
  · exact is_e (P:=fun fn=>dM T hZ env Γ L A (.Call fn es [] p) pe) h fun q _ h=>o2_e h fun b l hb hl h=>cD h fun hs e=>fY hs fun h1 h2=>aBy X hb fun v g1 g2 g3 g4 g5=>Option.some.inj e ▸ bF (fun S=>hp_bi X.St X.R.handled X.En g1 g2 g3 g4 g5 (aAE h2) h1 ((ihS _ _ hl).2.2.2 _ S)) fun _=>rfl
  · refine is_e (P:=fun fn=>dM T hZ env Γ L A (.Call fn es [] p) pe) h fun q _ h=>o2_e h fun d a hd ha h=>aI h fun es' hc h=>o2_e h fun pk pd hk hd' h=>cD h fun hs e=>?_
    refine fY hs fun hs h7=>fY hs fun hs h6=>fY hs fun hs h5=>fY hs fun hs h4=>fY hs fun hs h3=>fY hs fun h1 h2=>(qT hd).elim fun dp ed=>?_
    rw [fM ha,ed,beq_iff_eq.mp h1,← Option.some.inj e]
    exact bF (fun S=>hp_dget X.St hc (aAE h2) (of_decide_eq_true h3) (of_decide_eq_true h4) h5 h6 h7 ((ihP _ _ hk).1 S) ((ihP _ _ hd').1 S)) fun _=>rfl
theorem aCC {f:Nat} (X:CxP T K hZ n env Γ L A c) (ihP:∀ (e:Expr) (pe:PE),cY c f e = some pe→dM T hZ env Γ L A e pe) (ihS:∀ (es:List Expr) (l:List PE),nB c f es = some l→tM T hZ env Γ L A es l) (e:Expr):∀ pe:PE,cY c (f + 1) e = some pe→dM T hZ env Γ L A e pe :=
  or_s (fun pe h=>is_e (P:=fun e=>dM T hZ env Γ L A e pe) h fun q _ h=>aFj h) <|
  or_s (fun pe h=>is_e (P:=fun e=>dM T hZ env Γ L A e pe) h fun q _ h=>bF (fun S=>aDY X h) fun _=>rfl) <|
  or_s (fun pe h=>is_e (P:=fun e=>dM T hZ env Γ L A e pe) h fun q _ h=>o2_e h fun a' pe ha hp h=>cD h fun hs e=>Option.some.inj e ▸ (At.of_name ha).symm ▸ bF (fun S=>hp_attr X.St hs ((ihP _ _ hp).1 S)) fun _=>rfl) <|
  or_s (fun pe h=>is_e (P:=fun e=>dM T hZ env Γ L A e pe) h fun q _ h=>or_e h
    (fun h=>aI h fun s hs h=>aI h fun a h1 h=>o2_e h fun b d h2 h3 e=>aI h2 fun lo e2 h2=>aI h3 fun hi e3 h3=>(sF hs).elim fun sp es=>by
      rw [es,e2,e3,← Option.some.inj e]
      exact bF (fun S=>aCc ((ihP _ _ h1).1 S) ((ihP _ _ h2).1 S) ((ihP _ _ h3).1 S)) fun _=>rfl)
    fun h=>o2_e h fun a b h1 h2 h=>cD h fun hs e=>Option.some.inj e ▸ bF (fun S=>hp_item hs ((ihP _ _ h1).1 S) ((ihP _ _ h2).1 S)) fun _=>rfl) <|
  or_s (fun pe h=>is_e (P:=fun e=>dM T hZ env Γ L A e pe) h fun q _ h=>o2_e h fun a b h1 h2 e=>Option.some.inj e ▸ bF (fun S=>hp_bin ((ihP _ _ h1).1 S) ((ihP _ _ h2).1 S)) fun _=>rfl) <|
  or_s (fun pe h=>is_e (P:=fun e=>dM T hZ env Γ L A e pe) h fun q _ h=>unP_ok ihP h) <|
  or_s (fun pe h=>is_e (P:=fun e=>dM T hZ env Γ L A e pe) h fun q _ h=>o2_e h fun op i ho hi h=>o2_e h fun a b h1 h2 h=>cD h fun hm e=>by
    rw [dH ho,dH hi,← Option.some.inj e]
    exact ⟨fun S=>hp_cmp X.St X.units (bnot hm) ((ihP _ _ h1).1 S) ((ihP _ _ h2).1 S),fun S=>ht_cmp X.St X.units (bnot hm) ((ihP _ _ h1).1 S) ((ihP _ _ h2).1 S)⟩) <|
  or_s (fun pe h=>is_e (P:=fun e=>dM T hZ env Γ L A e pe) h fun q _ h=>aI h fun l hl h=>boP_ok (ihS _ _ hl) h) <|
  or_s (fun pe h=>is_e (P:=fun e=>dM T hZ env Γ L A e pe) h fun q _ h=>aI h fun x h1 h=>o2_e h fun y w h2 h3 e=>Option.some.inj e ▸ ⟨fun S=>hp_ite ((ihP _ _ h1).2 S) ((ihP _ _ h2).1 S) ((ihP _ _ h3).1 S),fun S=>ht_ite ((ihP _ _ h1).2 S) ((ihP _ _ h2).2 S) ((ihP _ _ h3).2 S)⟩) <|
  or_s (fun pe h=>is_e (P:=fun e=>dM T hZ env Γ L A e pe) h fun q _ h=>aI h fun l hl h=>cD h fun hn e=>Option.some.inj e ▸ bF (fun S=>hp_tup (of_decide_eq_true hn) ((ihS _ _ hl).2.2.2 _ S)) fun _=>rfl) <|
  or_s (fun pe h=>is_e (P:=fun e=>dM T hZ env Γ L A e pe) h fun q _ h=>aI h fun l hl h=>cD h fun hn e=>Option.some.inj e ▸ bF (fun S=>hp_lst (of_decide_eq_true hn) ((ihS _ _ hl).2.2.2 _ S)) fun _=>rfl) <|
  fun pe h=>is_e (P:=fun e=>dM T hZ env Γ L A e pe) h fun q _ h=>cD h fun hk h=>by
    rw [List.isEmpty_iff.mp hk]
    exact callP_ok X ihP ihS h
theorem aFy (X:CxP T K hZ n env Γ L A c) (f:Nat):(∀ (e:Expr) (pe:PE),cY c f e = some pe→dM T hZ env Γ L A e pe)∧∀ (es:List Expr) (l:List PE),nB c f es = some l→tM T hZ env Γ L A es l:=by
  induction f with
  | zero=>exact ⟨fun _ _ h=>nn h,fun _ _ h=>nn h⟩
  | succ f ih =>
    refine ⟨aCC X ih.1 ih.2,fun es l h=>?_⟩
    cases es with
    | nil=>exact Option.some.inj h ▸ ⟨rfl,fun i e p h _=>nn h,rfl,fun pos S=>aEI⟩
    | cons e es=>exact o2_e h fun a l h1 h2 h=>cD h fun hs e0=>Option.some.inj e0 ▸ aEM (ih.1 _ _ h1) (ih.2 _ _ h2) hs
theorem cR (X:CxP T K hZ n env Γ L A c) (f:Nat):∀ (e:Expr) (pe:PE),cY c f e = some pe→dM T hZ env Γ L A e pe:=(aFy X f).1
theorem ht_chain {l m r:Expr} {o1 o2:CmpOp} {pos:Pos} {whole:Sem Value} {a b d:PE} (X:CxP T K hZ n env Γ L A c) (hm:behindInMarks o2 r = false) (hl:HP T hZ env Γ L S A (eval l env) a) (hb:HP T hZ env Γ L S A (eval m env) b) (hr:HP T hZ env Γ L S A (eval r env) d) :
    HT T hZ env Γ L S A (isTrue (.Compare l [o1,o2] [m,r] pos) env whole) (.andE (.cmp o1 a b) (.cmp o2 b d)):=by
  intro ρ s loc mem v t Z hv ht Q hQ
  have e:isTrue (.Compare l [o1,o2] [m,r] pos) env whole = (do
      let lv ← eval l env
      let rv ← holding [lv] (eval m env)
      standAt pos
      let c ← holding [lv,rv] (compareOp o1 lv rv)
      release [lv,rv] [c]
      if ← holding [c,rv] (truthy c) then (do
        let rv2 ← holding [rv] (markedBehindIn o2 r (eval r env))
        standAt pos
        let c ← operate [rv,rv2] (compareOp o2 rv rv2)
        holding [c] (truthy c)) else pure false):=rfl
  rw [e]
  refine aI hv fun vc hvc hv=>aI hv fun b1 htc hv=>o2_e hvc fun va vb hva hvb hvc=>bJ hvc fun c1 hb1 ec=>?_
  obtain rfl:c1 = b1:=Option.some.inj ((congrArg truth ec).trans htc)
  refine wpAny_bind (hl ρ s loc mem va Z hva _ fun v1 h1 t1 r1 st1 M1=>wpAny_bind (wpAny_holding (hb ρ { s with heap:=h1,toks:=t1 } loc mem vb (Z.step st1 M1) hvb _ fun v2 h2 t2 r2 st2 M2=>wpAny_bind (wpAny_standAt (wpAny_bind (wpAny_holding ?_))))))
  refine aCF (s:={ s with heap:=h2,toks:=t2 }) X.St X.units M2 (RepV.step st2 aL r1) r2 hb1 fun tk=>wpAny_bind (wpAny_release (wpAny_bind (wpAny_holding (wpAny_truthy_bool ?_))))
  cases c1 with
  | true =>
    refine o2_e hv fun vb' vd hvb' hvd hv=>bJ hv fun b2 hb2 e2=>wpAny_bind (wpAny_holding ?_)
    rw [markedBehindIn_of_false hm]
    refine hr ρ { s with heap:=h2,toks:=tk } loc mem vd ((Z.step st1 M1).step st2 M2) hvd _ fun v3 h3 t3 r3 st3 M3=>wpAny_bind (wpAny_standAt (wpAny_bind (wpAny_operateT ?_)))
    refine aCF (s:={ s with heap:=h3,toks:=t3 }) X.St X.units M3 (RepV.step st3 aL r2) r3 (Option.some.inj (hvb'.symm.trans hvb) ▸ hb2) fun tk2=>wpAny_holding (wpAny_truthy_bool ?_)
    exact Option.some.inj ((congrArg truth e2).trans ht) ▸ hQ h3 tk2 ((st1.trans st2).trans st3) M3
  | false=>exact wpAny_pure (Option.some.inj (htc.symm.trans ((congrArg truth (Option.some.inj hv)).trans ht)) ▸ hQ h2 tk (st1.trans st2) M2)
theorem aAd (X:CxP T K hZ n env Γ L A c) {f:Nat} {e:Expr} {pe:PE} (h:compT c f e = some pe):∀ S,HT T hZ env Γ L S A (isTrue e env (eval e env)) pe :=
  or_e h (fun h=>is_e (P:=fun e=>∀ S,HT T hZ env Γ L S A (isTrue e env (eval e env)) pe) h fun q _ h=>o2_e h fun o r ho hr h=>aI h fun a h1 h=>o2_e h fun b d h2 h3 h=>cD h fun hm e=>by
    rw [fM ho,fM hr,← Option.some.inj e]
    exact fun S=>ht_chain X (bnot hm) ((cR X _ _ _ h1).1 S) ((cR X _ _ _ h2).1 S) ((cR X _ _ _ h3).1 S)) fun h=>(cR X _ _ _ h).2
theorem vK (X:CxP T K hZ n env Γ L A c) {f:Nat} {ifs:List Expr} {test:Option PE} (h:aDo c f ifs = some test):CTests T hZ env Γ L A ifs test:=by
  cases ifs with
  | nil=>exact Option.some.inj h ▸ .none
  | cons t r=>exact aI (show (sole (t :: r)).bind _ = some test from h) fun t' ht h=>bJ h fun pe hpe e=>e ▸ (dH ht).symm ▸ .one (aAd X hpe)
end
section
variable {T:CT} {K:Frag} {hZ h h':Heap} {env:Env} {Γ:List Str} {L I:Addr} {W S:List Addr} {ρ ρ':List (Addr × Addr)} {loc loc':Locs} {mem mem':Mem} {A:Around} {n:Nat} {c:CX}
theorem he_and1 {pos:Pos} {x y:Sem Value} {r:List (Sem Value)} {a b:IE} (hx:HE T K hZ n env Γ L A x a) (hy:HE T K hZ n env Γ L A (boolOp pos .And (y :: r)) b):HE T K hZ n env Γ L A (boolOp pos .And (x :: y :: r)) (.andE a b):=by
  intro S ρ s loc mem k Z hw Q hQ
  dsimp only [wpE] at hw
  show wpAny _ _ (do let v ← x; standAt pos; let t ← holding [v] (truthy v); match BoolOp.And,t with | .And,false | .Or,true=>pure v | _,_=>boolOp pos .And (y :: r)) _ _ _
  refine wpAny_bind (hx S ρ s loc mem _ Z hw _ fun v m1 ρ1 h1 t1 w k1 r1 M1 st1=>wpAny_bind (wpAny_standAt (wpAny_bind (wpAny_holding ?_))))
  refine e1a2 (aD k1) fun t ht k1=>?_
  cases t with
  | true =>
    exact gK (s:={ s with heap:=h1,toks:=t1 }) r1 ht (hy S ρ1 _ loc m1 k (Z.step st1 M1) k1 _ fun v2 m2 ρ2 h2 t2 w2 k2 r2 M2 st2=>hQ v2 m2 ρ2 h2 t2 w2 k2 r2 M2 (st1.trans st2))
  | false =>
    exact gK (s:={ s with heap:=h1,toks:=t1 }) r1 ht (wpAny_pure (hQ v m1 ρ1 h1 t1 w k1 r1 M1 st1))
theorem he_or1 {pos:Pos} {x y:Sem Value} {r:List (Sem Value)} {a b:IE} (hx:HE T K hZ n env Γ L A x a) (hy:HE T K hZ n env Γ L A (boolOp pos .Or (y :: r)) b):HE T K hZ n env Γ L A (boolOp pos .Or (x :: y :: r)) (.orE a b):=by
  intro S ρ s loc mem k Z hw Q hQ
  dsimp only [wpE] at hw
  show wpAny _ _ (do let v ← x; standAt pos; let t ← holding [v] (truthy v); match BoolOp.Or,t with | .And,false | .Or,true=>pure v | _,_=>boolOp pos .Or (y :: r)) _ _ _
  refine wpAny_bind (hx S ρ s loc mem _ Z hw _ fun v m1 ρ1 h1 t1 w k1 r1 M1 st1=>wpAny_bind (wpAny_standAt (wpAny_bind (wpAny_holding ?_))))
  refine e1a2 (aD k1) fun t ht k1=>?_
  cases t with
  | true =>
    exact gK (s:={ s with heap:=h1,toks:=t1 }) r1 ht (wpAny_pure (hQ v m1 ρ1 h1 t1 w k1 r1 M1 st1))
  | false =>
    exact gK (s:={ s with heap:=h1,toks:=t1 }) r1 ht (hy S ρ1 _ loc m1 k (Z.step st1 M1) k1 _ fun v2 m2 ρ2 h2 t2 w2 k2 r2 M2 st2=>hQ v2 m2 ρ2 h2 t2 w2 k2 r2 M2 (st1.trans st2))
noncomputable def dN (T:CT) (K:Frag) (hZ:Heap) (n:Nat) (env:Env) (Γ:List Str) (L:Addr) (A:Around) (e:Expr) (ie:IE):Prop :=
  HE T K hZ n env Γ L A (eval e env) ie∧HET T K hZ n env Γ L A (isTrue e env (eval e env)) ie
theorem cH {e:Expr} {ie:IE} (h:HE T K hZ n env Γ L A (eval e env) ie) (he:∀ whole,isTrue e env whole = (do let v ← whole; standAt e.pos; holding [v] (truthy v))):dN T K hZ n env Γ L A e ie :=
  ⟨h,aEJ h (he _)⟩
theorem aFG {pos:Pos} (es:List Expr):∀ (l:List IE) (pe:IE),l.length = es.length→(∀ (i:Nat) (e:Expr) (p:IE),es[i]? = some e→l[i]? = some p→dN T K hZ n env Γ L A e p)→xA .andE l = some pe →
    (HE T K hZ n env Γ L A (boolOp pos .And (evalEach es env)) pe)∧HET T K hZ n env Γ L A (allTrue .And es env) pe:=by
  induction es with
  | nil =>
    intro l pe hl _ hf
    obtain rfl:=List.eq_nil_of_length_eq_zero hl
    exact nn hf
  | cons e es ih =>
    intro l pe hl hb hf
    cases l with
    | nil=>exact nomatch hl
    | cons p l =>
      have z:=hb 0 e p rfl rfl
      have hl':l.length = es.length:=Nat.succ.inj hl
      cases es with
      | nil =>
        obtain rfl:=List.eq_nil_of_length_eq_zero hl'
        obtain rfl:=Option.some.inj hf
        exact ⟨z.1,wT z.2⟩
      | cons e2 es =>
        cases l with
        | nil=>exact nomatch hl'
        | cons p2 l=>exact bJ hf fun q hq e0=>e0 ▸ (fun i=>⟨he_and1 z.1 i.1,het_and z.2 i.2⟩) (ih (p2 :: l) q hl' (fun i e' p' h1 h2=>hb (i + 1) e' p' h1 h2) hq)
theorem boolE_or {pos:Pos} (es:List Expr):∀ (l:List IE) (pe:IE),l.length = es.length→(∀ (i:Nat) (e:Expr) (p:IE),es[i]? = some e→l[i]? = some p→dN T K hZ n env Γ L A e p)→xA .orE l = some pe →
    (HE T K hZ n env Γ L A (boolOp pos .Or (evalEach es env)) pe)∧HET T K hZ n env Γ L A (allTrue .Or es env) pe:=by
  induction es with
  | nil =>
    intro l pe hl _ hf
    obtain rfl:=List.eq_nil_of_length_eq_zero hl
    exact nn hf
  | cons e es ih =>
    intro l pe hl hb hf
    cases l with
    | nil=>exact nomatch hl
    | cons p l =>
      have z:=hb 0 e p rfl rfl
      have hl':l.length = es.length:=Nat.succ.inj hl
      cases es with
      | nil =>
        obtain rfl:=List.eq_nil_of_length_eq_zero hl'
        obtain rfl:=Option.some.inj hf
        exact ⟨z.1,zO z.2⟩
      | cons e2 es =>
        cases l with
        | nil=>exact nomatch hl'
        | cons p2 l=>exact bJ hf fun q hq e0=>e0 ▸ (fun i=>⟨he_or1 z.1 i.1,het_or z.2 i.2⟩) (ih (p2 :: l) q hl' (fun i e' p' h1 h2=>hb (i + 1) e' p' h1 h2) hq)
theorem oI:∀ (names:List (Str × NameKind)) (acc:List (Str × Addr)),(∀ x,(x,NameKind.free) ∈ names→∃ c,env.cells.lookup x = some c) →
    ∃ cl,(forIn names acc fun (x:Str × NameKind) (cs:List (Str × Addr))=>(if (x.2 == NameKind.free) = true then do let a ← cellOf env x.1; pure (ForInStep.yield ((x.1,a) :: cs)) else pure (ForInStep.yield cs):Sem (ForInStep (List (Str × Addr))))) = pure cl ∧
      (∀ x,(x,NameKind.free) ∈ names→cl.lookup x = env.cells.lookup x)∧(∀ x c,cl.lookup x = some c→(x,NameKind.free) ∈ names ∨ acc.lookup x = some c)∧(∀ x,(x,NameKind.free) ∉ names→cl.lookup x = acc.lookup x)
  | [],acc,_=>⟨acc,by rw [List.forIn_nil],fun _ q=>(by cases q),fun x c h=>.inr h,fun _ _=>rfl⟩
  | (y,k) :: r,acc,h=>by
    by_cases hk:(k == NameKind.free) = true
    · have hk':k = .free:=by simpa using hk
      subst hk'
      obtain ⟨c,hc⟩:=h y (List.mem_cons_self ..)
      refine e1a4 (oI r ((y,c) :: acc) fun x q=>h x (List.mem_cons_of_mem _ q)) fun cl e1 e2 e3 e4=>?_
      refine ⟨cl,?_,fun x hx=>?_,fun x c' hx=>?_,fun x hx=>?_⟩
      · rw [List.forIn_cons]
        have:cellOf env y = pure c:=by unfold cellOf; rw [hc]
        simp only [beq_self_eq_true,if_true,this,pure_bind]
        exact e1
      · by_cases q:(x,NameKind.free) ∈ r
        · exact e2 x q
        · have hxy:x = y:=by
            rcases List.mem_cons.mp hx with z | z
            · exact congrArg Prod.fst z
            · exact absurd z q
          subst hxy
          rw [e4 x q,List.lookup_cons,hc]
          simp
      · rcases e3 x c' hx with q | q
        · exact .inl (List.mem_cons_of_mem _ q)
        · rw [List.lookup_cons] at q
          by_cases hxy:x = y
          · subst hxy; exact .inl (List.mem_cons_self ..)
          · rw [show (x == y) = false by simpa using hxy] at q
            exact .inr q
      · have h1:(x,NameKind.free) ∉ r:=fun q=>hx (List.mem_cons_of_mem _ q)
        have h2:x ≠ y:=fun q=>hx (q ▸ List.mem_cons_self ..)
        rw [e4 x h1,List.lookup_cons,show (x == y) = false by simpa using h2]
    · refine e1a4 (oI r acc fun x q=>h x (List.mem_cons_of_mem _ q)) fun cl e1 e2 e3 e4=>?_
      have hne:∀ x,(x,NameKind.free) ∈ (y,k) :: r→(x,NameKind.free) ∈ r:=fun x q=>by
        rcases List.mem_cons.mp q with z | z
        · exact absurd (by have q2:NameKind.free = k:=congrArg Prod.snd z
                           rw [← q2]; rfl) hk
        · exact z
      refine ⟨cl,?_,fun x hx=>e2 x (hne x hx),fun x c' hx=>?_,fun x hx=>e4 x fun q=>hx (List.mem_cons_of_mem _ q)⟩
      · rw [List.forIn_cons]
        simp only [hk,Bool.false_eq_true,if_false,pure_bind]
        exact e1
      · rcases e3 x c' hx with q | q
        · exact .inl (List.mem_cons_of_mem _ q)
        · exact .inr q
theorem uW {scope:Scope} (h:∀ x,(x,NameKind.free) ∈ scope.names→∃ c,env.cells.lookup x = some c) :
    ∃ cl,closureFor scope env = pure cl∧(∀ x,(x,NameKind.free) ∈ scope.names→cl.lookup x = env.cells.lookup x)∧(∀ x c,cl.lookup x = some c→(x,NameKind.free) ∈ scope.names):=by
  refine e1a4 (oI (env:=env) scope.names [] h) fun cl e1 e2 e3 e4=>?_
  refine ⟨cl,?_,e2,fun x c hx=>(e3 x c hx).resolve_right fun q=>by cases q⟩
  unfold closureFor
  have:(forIn scope.names ([]:List (Str × Addr)) fun (x:Str × NameKind) (cs:List (Str × Addr))=>(if (x.2 == NameKind.free) = true then do let a ← cellOf env x.1; pure (ForInStep.yield ((x.1,a) :: cs)) else pure (ForInStep.yield cs):Sem (ForInStep (List (Str × Addr))))) = pure cl:=e1
  first
    | (rw [← this]; rfl)
    | (simp only [bind_pure]; exact this)
    | (refine Eq.trans ?_ this; simp)
theorem aFD (xs:List Str):∀ (caps:List Nat),aBs c xs = some caps→caps.length = xs.length∧∀ (i:Nat) (x:Str),xs[i]? = some x→∃ j,caps[i]? = some j∧c.Γ[j]? = some x:=by
  induction xs with
  | nil=>exact fun caps h=>Option.some.inj h ▸ ⟨rfl,fun i x hx=>nn hx⟩
  | cons y r ih =>
    refine fun caps h=>o2_e h fun i l hi hl e=>Option.some.inj e ▸ ⟨congrArg (· + 1) (ih l hl).1,fun k x hx=>?_⟩
    cases k with
    | zero=>exact ⟨i,rfl,Option.some.inj hx ▸ aEE hi⟩
    | succ k=>exact (ih l hl).2 k x hx
theorem tZ (X:CxOk T K hZ n env Γ L W A c) (scope:Scope):(relabel scope env).names = mF c scope:=by
  unfold relabel mF
  dsimp only
  apply List.map_congr_left
  rintro ⟨y,k⟩ _
  have h1:(env.scope.kind == ScopeKind.function) = true:=by rw [X.En.kind]; rfl
  simp only [h1,Bool.and_true,X.kind y]
theorem jJ {scope:Scope} {x:Str}:x ∈ eD scope ↔ (x,NameKind.free) ∈ scope.names:=by
  unfold eD
  rw [List.mem_map]
  constructor
  · rintro ⟨⟨y,k⟩,hm,rfl⟩
    obtain ⟨h1,h2⟩:=List.mem_filter.mp hm
    have:k = .free:=by simpa using h2
    exact this ▸ h1
  · intro h
    exact ⟨(x,.free),List.mem_filter.mpr ⟨h,by simp⟩,rfl⟩
theorem aCA {elt target iter:Expr} {ifs:List Expr} {scope:Scope} {pos:Pos} {caps:List Nat} {rg:Bool} {srcs:List IE} {test:Option PE} {pe:PE} {f:Nat} (X:CxOk T K hZ n env Γ L W A c) (hfs:∀ x,foldedSetIterable iter env x = pure x)
    (hsrc:HCs T K hZ n env Γ L A (eval iter env) rg srcs) (hcap:aBs c (eD scope) = some caps) (htest:aDo (fS c scope target) f ifs = some test) (helt:cY (fS c scope target) f elt = some pe)
    (hfine:uV c scope target = true) (hrg:(!rg || (cT target).length == 1) = true) :
    HE T K hZ n env Γ L A (eval (.ListComp elt [⟨target,iter,ifs,0⟩] scope pos) env) (.comp caps ((List.range (cT target).length).map (· + caps.length)) rg srcs test pe):=by
  simp only [uV,Bool.and_eq_true,List.all_eq_true,Bool.not_eq_true',beq_eq_false_iff_ne,beq_iff_eq,Bool.or_eq_true,decide_eq_true_eq,List.isEmpty_eq_false_iff] at hfine
  obtain ⟨⟨⟨⟨⟨⟨⟨f1,f2⟩,f3⟩,f4⟩,f5⟩,f6⟩,f7⟩,f8⟩:=hfine
  obtain ⟨clen,cget⟩:=aFD _ _ hcap
  refine e1a3 (uW (env:=env) (scope:=scope) fun x hx=>X.cell x ((X.kind x).trans (f6 x (jJ.mpr hx)).1)) fun cl cl1 cl2 cl3=>?_
  have hkind:∀ C x,(compEnvC scope cl C env).kindOf x = (fS c scope target).names.lookup x:=fun C x=>by
    show (relabel scope env).names.lookup x = _
    rw [tZ X]
    rfl
  have hcx:∀ C,CxP T K hZ n (compEnvC scope cl C env) (fS c scope target).Γ C A (fS c scope target):=fun C =>
    ⟨X.St,X.cK,rfl,⟨f2,rfl,X.En.glob,X.En.bi,f4,fun x hx=>by rw [beq_eq_false_iff_ne]; exact f5 x hx⟩,hkind C,X.R⟩
  have hlocal:∀ C x,x ∈ cT target→(compEnvC scope cl C env).kindOf x = some .local:=fun C x hx=>(hkind C x).trans (f7 x hx)
  refine he_comp (cl:=cl) (Γ':=(fS c scope target).Γ) X.St X.R.handled hfs hsrc (fun q=>?_) ⟨cl1,f1,f2,fun y hy hl=>?_,fun C=>(hcx C).En,fun C=>?_,fun C=>vK (hcx C) htest,fun C S=>(cR (hcx C) _ _ _ helt).1 S,fun i x hx hi=>?_,fun x c' hx=>?_⟩
  · subst q
    simpa using hrg
  · rcases f3 y hy with q | q
    · exact absurd hl q
    · exact q
  · have base:∀ i,(fS c scope target).Γ[i + caps.length]? = (cT target)[i]?:=fun i=>by
      show (eD scope ++ cT target)[i + caps.length]? = _
      rw [clen,List.getElem?_append_right (Nat.le_add_left _ _),Nat.add_sub_cancel]
    have hl:=hlocal C
    rcases tgt_is f8 with ⟨x,p,rfl⟩ | ⟨x,p,y,q,k,r,rfl⟩
    · exact .one (base 0) (hl _ (List.mem_singleton.mpr rfl))
    · exact .two (base 0) (hl _ (List.mem_cons_self ..)) (base 1) (hl _ (List.mem_cons_of_mem _ (List.mem_singleton.mpr rfl)))
  · have hx':(eD scope)[i]? = some x:=by
      have z:(eD scope ++ cT target)[i]? = some x:=hx
      rwa [List.getElem?_append_left (by rw [← clen]; exact hi)] at z
    refine e1a2 (cget i x hx') fun j hj hg=>?_
    have hm:=List.mem_of_getElem? hx'
    exact ⟨j,hj,X.cΓ ▸ hg,.inl ((X.kind x).trans (f6 x hm).1),cl2 x (jJ.mp hm),.inl ((hkind 0 x).trans (f6 x hm).2)⟩
  · obtain ⟨i,hi⟩:=List.mem_iff_getElem?.mp (jJ.mpr (cl3 x c' hx))
    have hlt:=(List.getElem?_eq_some_iff.mp hi).1
    refine ⟨i,?_,by rw [clen]; exact hlt⟩
    show (eD scope ++ cT target)[i]? = _
    rw [List.getElem?_append_left hlt]
    exact hi
theorem wY {e:Expr} (h:isSet e = false) (x:Value):foldedSetIterable e env x = pure x:=by
  cases e <;> first | rfl | exact nomatch h
noncomputable def tN (T:CT) (K:Frag) (hZ:Heap) (n:Nat) (env:Env) (Γ:List Str) (L:Addr) (A:Around) (es:List Expr) (l:List IE):Prop :=
  l.length = es.length∧(∀ (i:Nat) (e:Expr) (p:IE),es[i]? = some e→l[i]? = some p→dN T K hZ n env Γ L A e p)∧es.all notStar = true∧∀ (pos:Pos),HEs T K hZ n env Γ L A (spliced (backTo pos (starEach es env))) l
theorem aCd {es:List Expr} {l:List IE} {e:Expr} {a:IE} (z1:dN T K hZ n env Γ L A e a) (z2:tN T K hZ n env Γ L A es l) (hs:notStar e = true):tN T K hZ n env Γ L A (e :: es) (a :: l):=by
  refine ⟨congrArg (· + 1) z2.1,fun i e p he hp=>?_,Bool.and_eq_true_iff.mpr ⟨hs,z2.2.2.1⟩,fun pos=>pN hs z1.1 (z2.2.2.2 pos)⟩
  cases i with
  | zero=>exact Option.some.inj he ▸ Option.some.inj hp ▸ z1
  | succ i=>exact z2.2.1 i e p he hp
theorem unE_ok {E:Expr→Option IE} (ihE:∀ e ie,E e = some ie→dN T K hZ n env Γ L A e ie) {op:UnaryOp} {e:Expr} {p:Pos} {ie:IE} (h:unE E op e = some ie):dN T K hZ n env Γ L A (.UnaryOp op e p) ie:=by
  cases op with
  | Not=>exact bJ h fun q hq e0=>e0 ▸ ⟨he_not (ihE _ _ hq).1,het_not (ihE _ _ hq).2⟩
  | _=>exact nn h
theorem boE_ok {op:BoolOp} {es:List Expr} {l:List IE} {p:Pos} {ie:IE} (z:tN T K hZ n env Γ L A es l) (h:boE op l = some ie):dN T K hZ n env Γ L A (.BoolOp op es p) ie:=by
  cases op with
  | And=>exact (fun q=>⟨q.1,aAQ q.2⟩) (aFG (pos:=p) _ _ _ z.1 z.2.1 h)
  | Or=>exact (fun q=>⟨q.1,aAQ q.2⟩) (boolE_or (pos:=p) _ _ _ z.1 z.2.1 h)
section
variable {f:Nat} (X:CxOk T K hZ n env Γ L W A c) (ihE:∀ (e:Expr) (ie:IE),cS c f e = some ie→dN T K hZ n env Γ L A e ie) (ihC:∀ (e:Expr) (p:Bool × List IE),compC c f e = some p→HCs T K hZ n env Γ L A (eval e env) p.1 p.2∧∀ x,foldedSetIterable e env x = pure x)
  (ihS:∀ (es:List Expr) (l:List IE),iZ c f es = some l→tN T K hZ n env Γ L A es l)
include X ihE ihS in
theorem callE_ok {fn:Expr} {es:List Expr} {p:Pos}:∀ {ie:IE},(((qI fn).bind fun x=>(iZ c f es).bind fun l=>((xY c x.1.1).bind fun b=>grd (es.all notStar && !es.isEmpty) (some (.bi b l))).or ((nameP c x.1.1).bind fun b=>grd (es.all notStar) (some (.call b l)))).or
      ((yA fn).bind fun o=>(At.of o.1.2.1).bind fun m'=>o2 (cS c f o.1.1) (iZ c f es) fun b l=>grd (dZ o.1.1 && es.all notStar && decide (es.length < 30) && o.1.2.2.endLine == p.line) (some (.meth b m' l)))) = some ie→dN T K hZ n env Γ L A (.Call fn es [] p) ie :=
  fun {ie} h=>or_s (Q:=fun ie=>dN T K hZ n env Γ L A (.Call fn es [] p) ie) (fun ie h=>is_e (P:=fun fn=>dN T K hZ n env Γ L A (.Call fn es [] p) ie) h fun q _ h=>aI h fun l hl h =>
      or_s (Q:=fun ie=>dN T K hZ n env Γ L A (.Call (.Name q.1 q.2) es [] p) ie) (fun ie h=>aI h fun b hb h=>cD h fun hs e=>fY hs fun h1 h2=>aBy X.toCxP hb fun v g1 g2 g3 g4 g5=>Option.some.inj e ▸ cH (he_bi X.St X.R.handled X.En g1 g2 g3 g4 g5 (aAE h2) h1 ((ihS _ _ hl).2.2.2 _)) fun _=>rfl)
        (fun ie h=>aI h fun b hn h=>cD h fun hs e=>Option.some.inj e ▸ cH (he_call X.St X.R (fun S=>aDY X.toCxP hn) hs ((ihS _ _ hl).2.2.2 _)) fun _=>rfl) ie h)
    (fun ie h=>is_e (P:=fun fn=>dN T K hZ n env Γ L A (.Call fn es [] p) ie) h fun q _ h=>aI h fun m' hm h=>o2_e h fun b l ho hl h=>cD h fun hs e=>fY hs fun hs h4=>fY hs fun hs h3=>fY hs fun h1 h2=>by
      rw [At.of_name hm,← Option.some.inj e]
      exact cH (he_meth X.St X.R h1 h2 (of_decide_eq_true h3) h4 (ihE _ _ ho).1 ((ihS _ _ hl).2.2.2 _)) fun _=>rfl) ie h
include X ihE ihC ihS in
theorem aCD (e:Expr):∀ ie:IE,compF c (f + 1) e = some ie→dN T K hZ n env Γ L A e ie :=
  or_s (fun ie h=>is_e (P:=fun e=>dN T K hZ n env Γ L A e ie) h fun q _ h=>o2_e h fun a' pe ha hp h=>cD h fun hs e=>Option.some.inj e ▸ (At.of_name ha).symm ▸ cH (he_attr X.St hs (ihE _ _ hp).1) fun _=>rfl) <|
  or_s (fun ie h=>is_e (P:=fun e=>dN T K hZ n env Γ L A e ie) h fun q _ h=>o2_e h fun a b h1 h2 h=>cD h fun hs e=>Option.some.inj e ▸ cH (he_item hs (ihE _ _ h1).1 (ihE _ _ h2).1) fun _=>rfl) <|
  or_s (fun ie h=>is_e (P:=fun e=>dN T K hZ n env Γ L A e ie) h fun q _ h=>o2_e h fun a b h1 h2 e=>Option.some.inj e ▸ cH (he_bin (ihE _ _ h1).1 (ihE _ _ h2).1) fun _=>rfl) <|
  or_s (fun ie h=>is_e (P:=fun e=>dN T K hZ n env Γ L A e ie) h fun q _ h=>unE_ok ihE h) <|
  or_s (fun ie h=>is_e (P:=fun e=>dN T K hZ n env Γ L A e ie) h fun q _ h=>o2_e h fun op i ho hi h=>o2_e h fun a b h1 h2 h=>cD h fun hm e=>by
    rw [dH ho,dH hi,← Option.some.inj e]
    exact ⟨he_cmp X.St X.R (bnot hm) (ihE _ _ h1).1 (ihE _ _ h2).1,het_cmp X.St X.R (bnot hm) (ihE _ _ h1).1 (ihE _ _ h2).1⟩) <|
  or_s (fun ie h=>is_e (P:=fun e=>dN T K hZ n env Γ L A e ie) h fun q _ h=>aI h fun l hl h=>boE_ok (ihS _ _ hl) h) <|
  or_s (fun ie h=>is_e (P:=fun e=>dN T K hZ n env Γ L A e ie) h fun q _ h=>bJ h fun l hl e=>e ▸ cH (he_tup ((ihS _ _ hl).2.2.2 _)) fun _=>rfl) <|
  or_s (fun ie h=>is_e (P:=fun e=>dN T K hZ n env Γ L A e ie) h fun q _ h=>bJ h fun l hl e=>e ▸ cH (he_lst ((ihS _ _ hl).2.2.2 _)) fun _=>rfl) <|
  or_s (fun ie h=>is_e (P:=fun e=>dN T K hZ n env Γ L A e ie) h fun q _ h=>cD h fun hk h=>by
    rw [List.isEmpty_iff.mp hk]
    exact callE_ok X ihE ihS h) <|
  fun ie h=>is_e (P:=fun e=>dN T K hZ n env Γ L A e ie) h fun q _ h=>aI h fun g hg h=>cD h fun h0 h=>aI h fun caps hcap h=>o2_e h fun src test hsrc htest h=>aI h fun pe helt h=>cD h fun hs e=>fY hs fun hs1 hs2=>by
    obtain ⟨target,iter,ifs,ia⟩:=g
    obtain rfl:ia = 0:=beq_iff_eq.mp h0
    rw [dH hg,← Option.some.inj e]
    exact cH (aCA X (ihC _ _ hsrc).2 (ihC _ _ hsrc).1 hcap htest helt hs1 hs2) fun _=>rfl
include X ihE in
theorem aCE (e:Expr):∀ (p:Bool × List IE),compC c (f + 1) e = some p→HCs T K hZ n env Γ L A (eval e env) p.1 p.2∧∀ x,foldedSetIterable e env x = pure x :=
  or_s (fun p h=>aI h fun r hr h=>o2_e h fun ia ib h1 h2 e=>aI hr fun q hq hr=>o2_e hr fun x a hn ha hr=>aI hr fun k hk hr=>aI hr fun v hg hr=>cD hr fun hs er=>fY hs fun hs h4=>fY hs fun hs h3=>fY hs fun hs h2'=>fY hs fun h0 h1' =>
      (aAf hq).elim fun pc e1=>(fN hn).elim fun np e2=>by
    obtain rfl:=Option.some.inj er
    obtain rfl:=beq_iff_eq.mp h0
    obtain rfl:=beq_iff_eq.mp h1'
    rw [e1,e2,fM ha,← Option.some.inj e]
    exact ⟨aEL X.St X.R.handled X.En ((X.kind _).trans hk) (bnot h4) (X.cK ▸ hg) h2' h3 (ihE _ _ h1).1 (ihE _ _ h2).1,fun _=>rfl⟩)
  fun p h=>cD h fun hset h=>bJ h fun ie he e0=>e0 ▸ ⟨hcs_of X.R.handled (ihE _ _ he).1,wY (bnot hset)⟩
end
theorem xN (X:CxOk T K hZ n env Γ L W A c) (f:Nat):(∀ (e:Expr) (ie:IE),cS c f e = some ie→dN T K hZ n env Γ L A e ie)∧(∀ (e:Expr) (ie:IE),compF c f e = some ie→dN T K hZ n env Γ L A e ie) ∧
    (∀ (e:Expr) (p:Bool × List IE),compC c f e = some p→HCs T K hZ n env Γ L A (eval e env) p.1 p.2∧∀ x,foldedSetIterable e env x = pure x)∧∀ (es:List Expr) (l:List IE),iZ c f es = some l→tN T K hZ n env Γ L A es l:=by
  induction f with
  | zero=>exact ⟨fun _ _ h=>nn h,fun _ _ h=>nn h,fun _ _ h=>nn h,fun _ _ h=>nn h⟩
  | succ f ih =>
    refine e0a4 ih fun ihE ihF ihC ihS=>⟨fun e=>or_s (fun ie h=>bJ h fun pe hp e0=>e0 ▸ ⟨he_p (cR X.toCxP _ _ _ hp).1,het_p (cR X.toCxP _ _ _ hp).2⟩) (ihF e),aCD X ihE ihC ihS,aCE X ihE,fun es l h=>?_⟩
    cases es with
    | nil=>exact Option.some.inj h ▸ ⟨rfl,fun i e p h _=>nn h,rfl,fun pos=>zP⟩
    | cons e es=>exact o2_e h fun a l h1 h2 h=>cD h fun hs e0=>Option.some.inj e0 ▸ aCd (ihE _ _ h1) (ihS _ _ h2) hs
theorem aQ (X:CxOk T K hZ n env Γ L W A c) (f:Nat):∀ (e:Expr) (ie:IE),cS c f e = some ie→dN T K hZ n env Γ L A e ie:=(xN X f).1
theorem xM (X:CxOk T K hZ n env Γ L W A c) (f:Nat):∀ (es:List Expr) (l:List IE),iZ c f es = some l→tN T K hZ n env Γ L A es l:=(xN X f).2.2.2
theorem pB (X:CxOk T K hZ n env Γ L W A c) {f:Nat} {e:Expr} {ie:IE} (h:aFx c f e = some ie):HE T K hZ n env Γ L A (eval e env) ie :=
  or_e h (fun h=>is_e (P:=fun e=>HE T K hZ n env Γ L A (eval e env) ie) h fun q _ h=>bJ h fun l hl e=>e ▸ he_lstM X.St ((xM X _ _ _ hl).2.2.2 _)) fun h=>(aQ X _ _ _ h).1
theorem xL (X:CxOk T K hZ n env Γ L W A c) {f:Nat} {pos:Pos} (ks:List (Option Expr)):∀ (vs:List Expr) (es:List (Str × IE)),aFz c f ks vs = some es→ks.all (·.isSome) = true∧ks.length = vs.length∧HEd T K hZ n env Γ L A (evalPairs (pairTrees ks vs env pos)) es:=by
  induction ks with
  | nil =>
    refine fun vs es h=>aFk h fun hv e=>?_
    obtain rfl:=List.isEmpty_iff.mp hv
    exact e ▸ ⟨rfl,rfl,hed_nil⟩
  | cons k ks ih =>
    intro vs es h
    cases vs with
    | nil=>exact nn h
    | cons v vs =>
      refine aI h fun v' hv h=>aI h fun a ha h=>aI ha fun k0 e0 ha=>e2a1 (lK ha) fun k1 p1 e1=>o2_e h fun ie l hv' hr e=>e0a3 (ih _ _ hr) fun h1 h2 h3=>?_
      obtain rfl:v = v':=Option.some.inj hv
      rw [e0,e1,← Option.some.inj e]
      exact ⟨h1,congrArg (· + 1) h2,hed_cons (pB X hv') h3⟩
theorem lV (X:CxOk T K hZ n env Γ L W A c) {b:Bool} {f:Nat} {e:Expr} {ie:IE} (h:compR c b f e = some ie):HE T K hZ n env Γ L A (eval e env) ie:=by
  refine or_e h (fun h=>aI h fun q hq h=>(qT hq).elim fun p e0=>?_) fun h=>pB X h
  rw [e0]
  cases hc:q.1.isEmpty && q.2.isEmpty with
  | true =>
    rw [hc] at h
    refine fY hc fun h1 h2=>?_
    rw [List.isEmpty_iff.mp h1,List.isEmpty_iff.mp h2,← Option.some.inj h]
    cases b
    · exact he_dictS X.St
    · exact he_dictI X.St
  | false =>
    rw [hc] at h
    exact aI h fun es hk h=>cD h fun hs e=>fY hs fun hs h3=>fY hs fun h1 h2=>e0a3 (xL X (pos:=p) _ _ _ hk) fun k1 k2 k3=>Option.some.inj e ▸ he_dictM X.St k1 k2 (aAE h1) (of_decide_eq_true h2) (of_decide_eq_true h3) k3
end
noncomputable def oA (e:Expr):Bool:=e.ctorIdx != 8 && e.ctorIdx != 9 && e.ctorIdx != 10
theorem fK {e:Expr} (h:oA e = true) (t:Option Expr) (l:Nat) (env:Env):swapsWith e t l env = pure false:=by
  cases e <;> first | rfl | exact nomatch h
noncomputable def qH (c:CX):List Expr→Option (List Nat)
  | []=>some []
  | e :: r=>o2 ((nameOf e).bind (wN c)) (qH c r) fun i l=>some (i :: l)
noncomputable def aDt (c:CX):List Str→Option (List Nat)
  | []=>some []
  | x :: r=>o2 (wN c x) (aDt c r) fun i l=>some (i :: l)
noncomputable def starred:Expr→Bool
  | .Starred .. => true
  | _=>false
noncomputable def swp (c:CX) (ts vs:List Expr):Option (Option (List Str)) :=
  if !(ts.length == 2 || ts.length == 3) || vs.length != ts.length then some none
  else if vs.any starred then some none
  else
    let line:=(ts.head?.map (·.pos.line)).getD 0
    let names:=ts.filterMap fun
      | .Name id pos=>if c.names.lookup id == some .local && pos.line == line then some id else none
      | _=>none
    if names.length != ts.length || names.eraseDups.length != names.length then some none
    else if vs.all (foldedForSure 8) then some none
    else if vs.all (constantsAlone 8) then none
    else some (some names)
noncomputable def aEu (e:Expr):Bool:=e.ctorIdx == 25
noncomputable def compI (c:CX) (f:Nat) (e:Expr):Option Iter :=
  ((calOf e).bind fun q=>grd q.1.2.2.1.isEmpty ((o2 (nameOf q.1.1) (sole q.1.2.1) fun x a=>(c.names.lookup x).bind fun k=>(hH c.K x).bind fun v =>
        grd (k == .globalImplicit && notStar a && !(x == ("__debug__" : Str)) && (v == .type "range" || v == .type "reversed")) (some (a,v == .type "range"))).bind fun p=>(cS c f p.1).map fun ie=>bif p.2 then .range ie else .rev ie)).or <|
  ((aDs e).bind fun q=>(slcOf q.1.2.1).bind fun s=>grd s.1.isNone (o2 (cY c f q.1.1) (s.2.bind intOf) fun pe z=>grd (decide (0 ≤ z)) (some (.head pe z.toNat)))).or <|
  grd (!isSet e) ((cS c f e).map .of)
noncomputable def compA (c:CX) (f:Nat) (t v:Expr):Option IS :=
  ((qI t).bind fun q=>o2 (wN c q.1.1) (compR c false f v) fun i ie=>grd (oA v) (some (.asg i ie))).or <|
  ((yA t).bind fun q=>(At.of q.1.2.1).bind fun a'=>o2 (cS c f q.1.1) (compR c (q.1.2.1 == Str.ofString "places") f v) fun io ie=>grd (oA v) (some (.attr io a' ie))).or <|
  ((aDs t).bind fun q=>(cS c f q.1.1).bind fun io=>o2 (cS c f q.1.2.1) (cS c f v) fun ii ie=>grd (oA v) (some (.item io ii ie))).or <|
  (yL t).bind fun q=>((yL v).bind fun vs=>o2 (swp c q.1.1 vs.1.1) (cS c f v) fun r ie=>r.elim ((qH c q.1.1).map fun is=>.unp is ie) fun names=>(aDt c names.reverse).map fun is=>.swp is.reverse ie).or
    (o2 (qH c q.1.1) (cS c f v) fun is ie=>grd (oA v && !aEu v) (some (.unp is ie)))
noncomputable def compU (c:CX) (f:Nat) (t:Expr) (op:Operator) (v:Expr):Option IS :=
  ((qI t).bind fun q=>o2 (wN c q.1.1) (cS c f v) fun i ie=>some (.augN i op ie)).or <|
  ((yA t).bind fun q=>(At.of q.1.2.1).bind fun a'=>o2 (cS c f q.1.1) (cS c f v) fun io ie=>some (.augA io a' op ie)).or <|
  (aDs t).bind fun q=>(cS c f q.1.1).bind fun io=>o2 (cS c f q.1.2.1) (cS c f v) fun ii ie=>grd (dJ q.1.2.1) (some (.augI io ii op ie))
noncomputable def aFA (c:CX) (t:Expr) (ii:Iter) (b:List IS):Option IS:=((qI t).bind fun q=>(wN c q.1.1).map fun i=>.for1 i ii b).or ((yL t).bind fun q=>(qH c q.1.1).map fun is=>.forT is ii b)
mutual
noncomputable def compS (c:CX):Nat→Stmt→IS
  | 0,_=>.bad
  | f + 1,st=>((match st with
    | .Expr e _=>(cS c f e).bind fun ie=>grd (oA e) (some (.expr ie))
    | .Assign ts v _=>(sole ts).bind fun t=>compA c f t v
    | .AugAssign t op v _=>compU c f t op v
    | .Return e _=>e.elim (some .ret0) fun e=>(compR c false f e).map .ret
    | .Pass _=>some .pass
    | .Break _=>some .brk
    | .If t b o _=>(cS c f t).map fun it=>.ite it (fV c f b) (fV c f o)
    | .While t b o _=>grd o.isEmpty ((cS c f t).map fun it=>.while it (fV c f b))
    | .For t it b o _=>grd o.isEmpty ((compI c f it).bind fun ii=>aFA c t ii (fV c f b))
    | _=>none):Option IS).getD .bad
noncomputable def fV (c:CX):Nat→List Stmt→List IS
  | 0,_=>[.bad]
  | f + 1,[]=>[]
  | f + 1,st :: r=>compS c f st :: fV c f r
end
section
variable {T:CT} {K:Frag} {hZ h h':Heap} {env:Env} {Γ:List Str} {L I:Addr} {W S:List Addr} {ρ ρ':List (Addr × Addr)} {loc loc':Locs} {mem mem':Mem} {A:Around} {n:Nat} {c:CX}
theorem bQ (X:CxOk T K hZ n env Γ L W A c) {x:Str} {i:Nat} (h:wN c x = some i):Γ[i]? = some x∧(env.kindOf x = some .local ∨ (env.kindOf x = some .cell∧∃ c,env.cells.lookup x = some c)) :=
  aEm h fun hx hk=>⟨X.cΓ ▸ aEE hx,hk.imp (X.kind x).trans fun q=>⟨(X.kind x).trans q,X.cell x ((X.kind x).trans q)⟩⟩
theorem oB (X:CxOk T K hZ n env Γ L W A c) (elts:List Expr):∀ (is:List Nat),qH c elts = some is →
    eM env Γ ((assignEach elts env).map (·.2)) is∧(assignEach elts env).length = is.length∧(assignEach elts env).findIdx? (·.1) = none:=by
  induction elts with
  | nil=>exact fun is h=>Option.some.inj h ▸ ⟨trivial,rfl,rfl⟩
  | cons e r ih =>
    refine fun is h=>o2_e h fun i l hi hl h=>aI hi fun x hx hi=>(fN hx).elim fun p e0=>e0a3 (ih _ hl) fun a b d=>?_
    rw [← Option.some.inj h,e0,show assignEach (.Name x p :: r) env = (false,assign (.Name x p) env) :: assignEach r env from rfl]
    refine ⟨⟨⟨x,(bQ X hi).1,(bQ X hi).2,fun M A E s v Q hq=>wpAny_assign_Name hq⟩,a⟩,congrArg (· + 1) b,?_⟩
    rw [List.findIdx?_cons,d]
    rfl
theorem vP (X:CxOk T K hZ n env Γ L W A c) (names:List Str):∀ (is:List Nat),aDt c names = some is→eM env Γ (names.map fun n=>bindName env n) is∧names.length = is.length:=by
  induction names with
  | nil=>exact fun is h=>Option.some.inj h ▸ ⟨trivial,rfl⟩
  | cons x r ih =>
    exact fun is h=>o2_e h fun i l hi hl e=>Option.some.inj e ▸ ⟨⟨⟨x,(bQ X hi).1,(bQ X hi).2,fun M A E s v Q hq=>wpAny_bindName hq⟩,(ih l hl).1⟩,congrArg (· + 1) (ih l hl).2⟩
theorem vO {v:Expr} {ts:List Expr} {k:Nat} {p:Pos} (h:aEu v = false):swappedStores [.Tuple ts k p] v env = pure none:=by
  cases v <;> first | rfl | exact nomatch h
set_option tactic.hygienic true in
theorem sD {ts vs:List Expr} {k k2:Nat} {p p2:Pos} {r:Option (List Str)} (X:CxOk T K hZ n env Γ L W A c) (h:swp c ts vs = some r):swappedStores [.Tuple ts k p] (.Tuple vs k2 p2) env = pure r:=by
  have hk:env.kindOf = fun x=>c.names.lookup x:=funext X.kind
  unfold swp at h
  unfold swappedStores
  simp only [hk,X.bk,bne_self_eq_false,Bool.or_false]
  dsimp only at h
  split at h
  · rename_i h1; cases h; exact if_pos h1
  · rename_i h1
    refine (if_neg h1).trans ?_
    split at h
    · rename_i h2; cases h; exact if_pos h2
    · rename_i h2
      refine (if_neg (c:=(vs.any starred) = true) h2).trans ?_
      split at h
      · rename_i h3; cases h; exact if_pos h3
      · rename_i h3
        refine (if_neg h3).trans ?_
        split at h
        · rename_i h4; cases h; exact if_pos h4
        · rename_i h4
          refine (if_neg h4).trans ?_
          split at h
          · cases h
          · rename_i h5
            cases h
            exact if_neg h5
theorem iM (X:CxOk T K hZ n env Γ L W A c) {f:Nat} {e:Expr}:∀ it:Iter,compI c f e = some it→HI T K hZ n env Γ L A (eval e env) it∧∀ x,foldedSetIterable e env x = pure x :=
  or_s (fun it h=>is_e (P:=fun e=>HI T K hZ n env Γ L A (eval e env) it∧∀ x,foldedSetIterable e env x = pure x) h fun q _ h=>cD h fun hk h=>aI h fun p hv h=>bJ h fun ie he e0=>o2_e hv fun x a hx ha hv=>aI hv fun k hn hv=>aI hv fun v hg hv=>cD hv fun hs ep =>
      fY hs fun hs h3=>fY hs fun hs h2=>fY hs fun h0 h1=>(fN hx).elim fun np ex=>by
    obtain rfl:=beq_iff_eq.mp h0
    obtain rfl:=Option.some.inj ep
    rw [List.isEmpty_iff.mp hk,ex,dH ha,← e0]
    rcases Bool.or_eq_true_iff.mp h3 with hr | hr
    · obtain rfl:=beq_iff_eq.mp hr
      exact ⟨hi_range X.St X.R.handled X.En ((X.kind _).trans hn) (bnot h2) (X.cK ▸ hg) h1 (aQ X _ _ _ he).1,fun _=>rfl⟩
    · obtain rfl:=beq_iff_eq.mp hr
      exact ⟨hi_rev X.St X.R.handled X.En ((X.kind _).trans hn) (bnot h2) (X.cK ▸ hg) h1 (aQ X _ _ _ he).1,fun _=>rfl⟩) <|
  or_s (fun it h=>is_e (P:=fun e=>HI T K hZ n env Γ L A (eval e env) it∧∀ x,foldedSetIterable e env x = pure x) h fun q _ h=>aI h fun s hs h=>cD h fun h0 h=>o2_e h fun pe z hp hz h=>cD h fun hz0 e0=>aI hz fun e' he hz=>e2a1 (sV hz) fun k kp ek=>(sF hs).elim fun sp es=>by
    obtain ⟨w,rfl⟩:=Int.eq_ofNat_of_zero_le (of_decide_eq_true hz0)
    rw [es,Option.isNone_iff_eq_none.mp h0,he,ek,← Option.some.inj e0]
    exact ⟨hi_head X.R.handled (cR X.toCxP _ _ _ hp).1,fun _=>rfl⟩)
  fun it h=>cD h fun hs h=>bJ h fun ie he e0=>e0 ▸ ⟨hi_of X.R.handled (aQ X _ _ _ he).1,wY (bnot hs)⟩
theorem aFI {i:Expr} (h:dJ i = true) (ov iv new:Value):augStore i ov iv new = (do holding [new,ov,iv] (setItem ov iv new); release [new,ov,iv] []; pure .next):=by
  cases i <;> first | rfl | exact nomatch h
theorem sole_eq (t v:Expr) (l:Nat) (env:Env):swapsWithSole [t] v l env = swapsWith v (some t) l env:=by first | rfl | (unfold swapsWithSole; rfl) | simp only [swapsWithSole]
theorem zN {st:Stmt} {o:Option IS} (h:∀ i,o = some i→HS T K hZ n env Γ L W A (exec st env) i):HS T K hZ n env Γ L W A (exec st env) (o.getD .bad):=by
  cases o with
  | none=>exact aEH
  | some i=>exact h i rfl
theorem aAe (X:CxOk T K hZ n env Γ L W A c) {f:Nat} {t v:Expr} {p:Pos}:∀ i:IS,compA c f t v = some i→HS T K hZ n env Γ L W A (exec (.Assign [t] v p) env) i :=
  or_s (fun i h=>is_e (P:=fun t=>HS T K hZ n env Γ L W A (exec (.Assign [t] v p) env) i) h fun q _ h=>o2_e h fun i ie hi he h=>cD h fun hs e=>Option.some.inj e ▸ hs_asg X.O X.En (fK hs _ _ _) (bQ X hi).1 (bQ X hi).2 (lV X he)) <|
  or_s (fun i h=>is_e (P:=fun t=>HS T K hZ n env Γ L W A (exec (.Assign [t] v p) env) i) h fun q _ h=>aI h fun a' ha h=>o2_e h fun io ie ho he h=>cD h fun hs e=>by
    rw [At.of_name ha,← Option.some.inj e]
    exact hs_attr X.St X.O (fK hs _ _ _) (aQ X _ _ _ ho).1 (lV X he)) <|
  or_s (fun i h=>is_e (P:=fun t=>HS T K hZ n env Γ L W A (exec (.Assign [t] v p) env) i) h fun q _ h=>aI h fun io ho h=>o2_e h fun ii ie hi he h=>cD h fun hs e=>Option.some.inj e ▸ hs_item X.O (fK hs _ _ _) (aQ X _ _ _ ho).1 (aQ X _ _ _ hi).1 (aQ X _ _ _ he).1) <|
  fun i h=>is_e (P:=fun t=>HS T K hZ n env Γ L W A (exec (.Assign [t] v p) env) i) h fun q _ h=>or_e h (fun h=>aI h fun vs _ h=>o2_e h fun r ie hsw he h=>by
    have z:=(aQ X _ _ _ he).1
    rw [vs.2] at z ⊢
    cases r with
    | none=>exact bJ h fun is hn e=>e0a3 (oB X _ _ hn) fun a b d=>e ▸ hs_unp X.O X.En X.R.handled rfl (sD X hsw) a b d z
    | some names=>exact bJ h fun is hn e=>e ▸ hs_swp X.O X.En X.R.handled rfl (sD X hsw) (by rw [List.reverse_reverse]; exact (vP X _ _ hn).1) (by rw [List.length_reverse,← (vP X _ _ hn).2,List.length_reverse]) z)
    fun h=>o2_e h fun is ie hn he h=>cD h fun hs e=>fY hs fun hs1 hs2=>e0a3 (oB X _ _ hn) fun a b d=>Option.some.inj e ▸ hs_unp X.O X.En X.R.handled ((sole_eq _ _ _ _).trans (fK hs1 _ _ _)) (vO (bnot hs2)) a b d (aQ X _ _ _ he).1
theorem aAc (X:CxOk T K hZ n env Γ L W A c) {f:Nat} {t v:Expr} {op:Operator} {p:Pos}:∀ i:IS,compU c f t op v = some i→HS T K hZ n env Γ L W A (exec (.AugAssign t op v p) env) i :=
  or_s (fun i h=>is_e (P:=fun t=>HS T K hZ n env Γ L W A (exec (.AugAssign t op v p) env) i) h fun q _ h=>o2_e h fun i ie hi he e=>Option.some.inj e ▸ hs_augN X.O X.En (bQ X hi).1 (bQ X hi).2 (aQ X _ _ _ he).1) <|
  or_s (fun i h=>is_e (P:=fun t=>HS T K hZ n env Γ L W A (exec (.AugAssign t op v p) env) i) h fun q _ h=>aI h fun a' ha h=>o2_e h fun io ie ho he e=>by
    rw [At.of_name ha,← Option.some.inj e]
    exact hs_augA X.St X.O (aQ X _ _ _ ho).1 (aQ X _ _ _ he).1)
  fun i h=>is_e (P:=fun t=>HS T K hZ n env Γ L W A (exec (.AugAssign t op v p) env) i) h fun q _ h=>aI h fun io ho h=>o2_e h fun ii ie hi he h=>cD h fun hs e=>Option.some.inj e ▸ hs_augI X.O (aFI hs) (aQ X _ _ _ ho).1 (aQ X _ _ _ hi).1 (aQ X _ _ _ he).1
theorem uU (X:CxOk T K hZ n env Γ L W A c) {f:Nat} {t it:Expr} {ii:Iter} {b:List Stmt} {ib:List IS} {p:Pos} (hb:HSs T K hZ n env Γ L W A (execs b env) ib) (hi:compI c f it = some ii):∀ i:IS,aFA c t ii ib = some i→HS T K hZ n env Γ L W A (exec (.For t it b [] p) env) i :=
  or_s (fun i h=>is_e (P:=fun t=>HS T K hZ n env Γ L W A (exec (.For t it b [] p) env) i) h fun q _ h=>bJ h fun i hi' e=>e ▸ hs_for1 X.St X.O X.En X.R.handled (iM X _ hi).2 (bQ X hi').1 (bQ X hi').2 (iM X _ hi).1 hb)
  fun i h=>is_e (P:=fun t=>HS T K hZ n env Γ L W A (exec (.For t it b [] p) env) i) h fun q _ h=>bJ h fun is hn e=>e0a3 (oB X _ _ hn) fun a b' d=>e ▸ hs_forT X.St X.O X.En X.R.handled (iM X _ hi).2 a b' d (iM X _ hi).1 hb
theorem aFw (X:CxOk T K hZ n env Γ L W A c):∀ f:Nat,(∀ st:Stmt,HS T K hZ n env Γ L W A (exec st env) (compS c f st))∧∀ sts:List Stmt,HSs T K hZ n env Γ L W A (execs sts env) (fV c f sts):=by
  intro f
  induction f with
  | zero=>exact ⟨fun st=>aEH,fun sts S ρ s loc mem k kr kb Y hw Q hQ=>False.elim hw⟩
  | succ f ih =>
    obtain ⟨ihS,ihL⟩:=ih
    refine ⟨fun st=>?_,fun sts=>?_⟩
    · cases st with
      | Expr e p=>exact zN fun i h=>aI h fun ie he h=>cD h fun hs e=>Option.some.inj e ▸ hs_expr X.O X.En (fK hs _ _ _) (aQ X _ _ _ he).1
      | Assign ts v p=>exact zN fun i h=>aI h fun t ht h=>(dH ht).symm ▸ aAe X i h
      | AugAssign t op v p=>exact zN fun i h=>aAc X i h
      | Return e p =>
        cases e with
        | none=>exact hs_ret0
        | some e=>exact zN fun i h=>bJ h fun ie he e=>e ▸ hs_ret X.O (lV X he)
      | Pass=>exact hs_pass
      | Break=>exact hs_brk rfl
      | If t b o p=>exact zN fun i h=>bJ h fun ie he e=>e ▸ hs_ite X.O (aQ X _ _ _ he).2 (ihL _) (ihL _)
      | While t b o p=>exact zN fun i h=>cD h fun ho h=>bJ h fun ie he e=>e ▸ (List.isEmpty_iff.mp ho).symm ▸ hs_while X.O (aQ X _ _ _ he).2 (ihL _)
      | For t it b o p=>exact zN fun i h=>cD h fun ho h=>aI h fun ii he h=>(List.isEmpty_iff.mp ho).symm ▸ uU X (ihL _) he i h
      | _=>exact aEH
    · cases sts with
      | nil=>exact hss_nil
      | cons st r=>exact hss_cons (ihS _) (ihL _)
theorem pA (X:CxOk T K hZ n env Γ L W A c):∀ (f:Nat) (sts:List Stmt),HSs T K hZ n env Γ L W A (execs sts env) (fV c f sts):=fun f=>(aFw X f).2
end
structure Fn where
  Γ:List Str
  np:Nat
  ir:List IS
noncomputable def fnAt (K:Frag) (a:Addr):Option FuncData:=match K.lookup a with
  | some ⟨_,_,.func fd,_⟩=>some fd
  | _=>none
noncomputable def dG (fd:FuncData):List Stmt:=match fd.body with
  | .stmts b=>b
  | _=>[]
noncomputable def aN (fd:FuncData):List Str:=fd.params.args.map (·.arg)
noncomputable def aV (fd:FuncData):List Str:=aN fd ++ ((fd.scope.names.filter fun p=>(p.2 == .local || p.2 == .cell) && !(aN fd).contains p.1).map (·.1))
noncomputable def fuel:Nat:=60
noncomputable def fnIR (K:Frag) (a:Addr):Option Fn:=match fnAt K a with
  | some fd=>some ⟨aV fd,(aN fd).length,fV ⟨K,aV fd,fd.scope.names⟩ fuel (dG fd)⟩
  | none=>none
noncomputable def aEv (fd:FuncData):Bool:=match fd.body with
  | .stmts _=>true
  | _=>false
noncomputable def eO (K:Frag) (fd:FuncData):Bool :=
  codeIn K fd.code fd.qualname && fd.globals == mainGlobals && fd.builtins == builtinsNs && fd.closure.isEmpty && (fd.scope.kind == .function) && !fd.scope.isGenerator && !fd.scope.isCoroutine &&
  (aN fd).all (fun x=>fd.scope.names.lookup x == some .local) && decide (aV fd).Nodup && (aV fd).all (fun x=>!(x == ("__debug__" : Str))) && aEv fd
noncomputable def iD (fd:FuncData):Bool:=fd.scope.names.all fun x=>!(x.2 == .cell)
section
variable {T:CT} {K:Frag} {hZ h h':Heap} {Γ:List Str} {L I:Addr} {W S:List Addr} {ρ ρ':List (Addr × Addr)} {loc loc':Locs} {mem mem':Mem} {A:Around} {n:Nat} {c:CX}
set_option tactic.hygienic true in
theorem fF {fd:FuncData} (h:eO K fd = true):codeIn K fd.code fd.qualname = true∧fd.globals = mainGlobals∧fd.builtins = builtinsNs∧fd.closure = []∧fd.scope.kind = .function∧fd.scope.isGenerator = false∧fd.scope.isCoroutine = false ∧
    (∀ x ∈ aN fd,fd.scope.names.lookup x = some .local)∧(aV fd).Nodup∧(∀ x ∈ aV fd,(x == ("__debug__" : Str)) = false)∧fd.body = .stmts (dG fd):=by
  simp only [eO,Bool.and_eq_true,beq_iff_eq,List.isEmpty_iff,Bool.not_eq_true',List.all_eq_true,decide_eq_true_eq] at h
  obtain ⟨⟨⟨⟨⟨⟨⟨⟨⟨⟨h1,h2⟩,h3⟩,h4⟩,h5⟩,h6⟩,h7⟩,h8⟩,h9⟩,h10⟩,h11⟩:=h
  refine ⟨h1,h2,h3,h4,h5,h6,h7,h8,h9,h10,?_⟩
  unfold aEv at h11
  unfold dG
  split at h11
  · rename_i b hb; rw [hb]
  · cases h11
set_option tactic.hygienic true in
theorem zR {a:Addr} {fd:FuncData} (h:fnAt K a = some fd):∃ o,K.lookup a = some o∧o.data = .func fd:=by
  unfold fnAt at h
  split at h
  · rename_i hk; cases h; exact ⟨_,hk,rfl⟩
  · cases h
noncomputable def loc0 (args:List V) (k:Nat):Locs:=args.map some ++ List.replicate k none
theorem aBE:∀ (names:List Str) (vals:List Value) (i:Nat) (x:Str) (v:Value),names.Nodup→names[i]? = some x→vals[i]? = some v→(names.zip vals).reverse.lookup x = some v:=by
  intro names vals i x v hn hx hv
  have hm:(x,v) ∈ names.zip vals:=by
    rw [List.mem_iff_getElem?]
    exact ⟨i,by rw [List.getElem?_zip_eq_some]; exact ⟨hx,hv⟩⟩
  have uniq:∀ v',(x,v') ∈ names.zip vals→v' = v:=by
    intro v' hm'
    obtain ⟨j,hj⟩:=List.mem_iff_getElem?.mp hm'
    rw [List.getElem?_zip_eq_some] at hj
    have:j = i:=(List.getElem?_inj (List.getElem?_eq_some_iff.mp hj.1).1 hn).mp (hj.1.trans hx.symm)
    subst this
    exact Option.some.inj (hj.2.symm.trans hv)
  have gen:∀ l:List (Str × Value),(x,v) ∈ l→(∀ v',(x,v') ∈ l→v' = v)→l.lookup x = some v:=by
    intro l
    induction l with
    | nil=>intro h; cases h
    | cons p r ih =>
      intro h u
      obtain ⟨y,w⟩:=p
      rw [List.lookup_cons]
      by_cases hxy:x = y
      · subst hxy
        simp only [beq_self_eq_true]
        rw [u w (List.mem_cons_self ..)]
      · have:(x == y) = false:=by simpa using hxy
        rw [this]
        exact ih ((List.mem_cons.mp h).resolve_left fun q=>hxy (congrArg Prod.fst q)) fun v' h'=>u v' (List.mem_cons_of_mem _ h')
  exact gen _ (List.mem_reverse.mpr hm) fun v' h'=>uniq v' (List.mem_reverse.mp h')
theorem aAt {env:Env} {body:List Stmt} {ir:List IS} {s:Shared} {args:List V} {vals:List Value} {names:List Str} {m:Str→Option Value} {tk:Nat} {h₁:Heap} {R:Value→Shared→Prop} {post:V→Mem→Prop} {k:Nat}
    (En:dX env Γ L) (O:dW env L W) (M:MemR T hZ S ρ s.heap mem) (r:RepL T s.heap (aG S ρ) ρ args vals) (hb:HSs T K hZ n env Γ L W A (execs body env) ir)
    (hpre:∀ (i:Nat) (x:Str),i < args.length→Γ[i]? = some x→names[i]? = some x∧env.kindOf x = some .local)
    (hm:∀ (i:Nat) (x:Str) (v:Value),names[i]? = some x→vals[i]? = some v→m x = some v)
    (hns:h₁.Ns L m) (hkeep:∀ b o,s.heap.get? b = some o→h₁.get? b = some o) (hW:∀ a ∈ W,s.heap.get? a = none∧hZ.objs.size ≤ a∧∃ o,h₁.get? a = some o) (hcells:∀ x c,env.cells.lookup x = some c→∃ v₀,h₁.IsCell c v₀)
    (hw:wpSs T K hZ n (loc0 args k) ir mem (fun _ m=>post .none m) post (fun _ _=>False))
    (hR:∀ v mem' ρ' h' tk' w,post v mem'→RepV T h' (aG S ρ') ρ' v w→MemR T hZ S ρ' h' mem'→Step false [] ρ s.heap ρ' h'→R w { s with heap:=h',toks:=tk' }) :
    wpAny (model T.prog T.w) A (execs body env) (fun f s'=>R (match f with | .ret v=>v | _=>.none) s') (fun _ _=>False) { s with heap:=h₁,toks:=tk }:=by
  have grow:∀ (V:List Addr),(∀ a ∈ V,a ∈ W)→MemR T hZ (V ++ S) ρ h₁ mem:=by
    intro V hV
    have fz:∀ a,Froz s.heap (aG S ρ) a→Froz h₁ (aG (V ++ S) ρ) a∧∀ o,s.heap.get? a = some o→h₁.get? a = some o:=fun a f=>by
      obtain ⟨o,ho⟩:=f.is
      refine ⟨⟨⟨o,hkeep _ _ ho⟩,fun q=>?_⟩,fun o e=>hkeep a o e⟩
      rw [aG,List.append_assoc] at q
      rcases List.mem_append.mp q with q | q
      · rw [(hW a (hV a q)).1] at ho; cases ho
      · exact f.ok q
    refine ⟨fun b o e=>hkeep b o (M.keep b o e),M.len,fun i p o hi ho=>RepO.mono fz (List.prefix_refl _) (fun o e=>hkeep _ o e) (M.rep i p o hi ho),M.nd,M.fresh,fun a ha=>?_⟩
    rcases List.mem_append.mp ha with ha | ha
    · refine ⟨fun q=>?_,(hW a (hV a ha)).2.1,(hW a (hV a ha)).2.2⟩
      obtain ⟨x,hx⟩:=M.bad_there (List.mem_append_right S q)
      rw [(hW a (hV a ha)).1] at hx; cases hx
    · obtain ⟨x,y,o,z⟩:=M.sfresh a ha
      exact ⟨x,y,o,hkeep _ _ z⟩
  have fz:∀ a,Froz s.heap (aG S ρ) a→Froz h₁ (aG (W ++ S) ρ) a∧∀ o,s.heap.get? a = some o→h₁.get? a = some o:=fun a f=>by
    obtain ⟨o,ho⟩:=f.is
    refine ⟨⟨⟨o,hkeep _ _ ho⟩,fun q=>?_⟩,fun o e=>hkeep a o e⟩
    rw [aG,List.append_assoc] at q
    rcases List.mem_append.mp q with q | q
    · rw [(hW a q).1] at ho; cases ho
    · exact f.ok q
  have M1:=grow W fun _ h=>h
  have r1:=RepL.mono fz (List.prefix_refl _) args vals r
  have Y:SitW T hZ env Γ L W (W ++ S) ρ h₁ (loc0 args k) mem:=by
    refine ⟨⟨M1,⟨m,hns,fun i x v' hx hl=>?_⟩,List.mem_append_left _ O.here⟩,fun a h=>List.mem_append_left _ h,hcells⟩
    have hi:i < args.length:=by
      by_cases q:i < args.length
      · exact q
      · unfold loc0 at hl
        rw [List.getElem?_append_right (by simpa using q)] at hl
        rw [List.getElem?_replicate] at hl
        split at hl <;> cases hl
    unfold loc0 at hl
    rw [List.getElem?_append_left (by simpa using hi),List.getElem?_map] at hl
    refine e1a2 (Option.map_eq_some_iff.mp hl) fun y hy e=>?_
    cases e
    refine e1a2 (eZ _ _ r1 i _ hy) fun v hv rv=>?_
    obtain ⟨hn,hk⟩:=hpre i x hi hx
    exact ⟨v,.inl ⟨hk,hm i x v hn hv⟩,rv⟩
  refine hb (W ++ S) ρ { s with heap:=h₁,toks:=tk } (loc0 args k) mem _ _ _ Y hw _ fun f loc' mem' ρ' h' tk' hf Y' st=>?_
  have stn:Step false [] ρ s.heap ρ' h':=by
    refine ⟨st.ext,fun q hq=>⟨bH hkeep (st.new q hq).1,bH hkeep (st.new q hq).2⟩,fun b o e=>st.there b o (hkeep b o e),fun b o e h1 _=>st.keep b o (hkeep b o e) h1 fun q=>?_⟩
    rw [(hW b q).1] at e; cases e
  have fzs:∀ a,Froz h' (aG (W ++ S) ρ') a→Froz h' (aG S ρ') a∧∀ o,h'.get? a = some o→h'.get? a = some o:=fun a f =>
    ⟨f.sub fun x hx=>by rw [aG,List.append_assoc]; exact List.mem_append_right _ hx,fun o e=>e⟩
  have M':=Y'.Z.M
  have M2:MemR T hZ S ρ' h' mem':=⟨M'.keep,M'.len,fun i p o hi ho=>RepO.mono fzs (List.prefix_refl _) (fun o e=>e) (M'.rep i p o hi ho),M'.nd,M'.fresh,fun a ha=>M'.sfresh a (List.mem_append_right _ ha)⟩
  cases f with
  | next=>exact hR .none mem' ρ' h' tk' .none hf rfl M2 stn
  | brk=>exact hf.elim
  | cont=>exact hf.elim
  | ret w =>
    refine e1a2 hf fun v hp rv=>?_
    exact hR v mem' ρ' h' tk' w hp (RepV.mono fzs (List.prefix_refl _) v w rv) M2 stn
theorem Rnd.less {A:Around} (R:Rnd A (n + 1)) (env:Env):Rnd (A.deeper env) n:=by
  obtain ⟨a,b,d⟩:=R
  refine ⟨a,?_,?_⟩
  · show A.depth + 1 + 2 * n < recursionLimit
    lia
  · show A.units + 3 + 8 * n + 100 < cLine
    lia
theorem Rnd.mark {A:Around} (R:Rnd A n):Rnd A n:=R
theorem wX {fd:FuncData} {i:Nat} {x:Str} (h:i < (aN fd).length) (hx:(aV fd)[i]? = some x):(aN fd)[i]? = some x:=by
  unfold aV at hx
  rwa [List.getElem?_append_left h] at hx
theorem yN {a:Addr} {fd:FuncData} {args dargs:List V} {dvals:List Value} {post:V→Mem→Prop} (St:Stat T K hZ) (hf:fnAt K a = some fd) (hp:eO K fd = true) (hc:iD fd = true)
    (hd:∀ (h:Heap) (bad:List Addr) (ρ:List (Addr × Addr)),RepL T h bad ρ dargs dvals) (hlen:args.length + dargs.length = (aN fd).length)
    (hbind:∀ (s:Shared) (vals:List Value),K.In s.heap→vals.length = args.length→BindsTo s fd ⟨vals,[]⟩ ((aN fd).zip (vals ++ dvals)))
    (hw:wpSs T K hZ n (loc0 (args ++ dargs) ((aV fd).length - (aN fd).length)) (fV ⟨K,aV fd,fd.scope.names⟩ fuel (dG fd)) mem (fun _ m=>post .none m) post (fun _ _=>False)) :
    aA T K hZ (n + 1) (.ref a) args mem post:=by
  intro A S ρ s vals R M r Q hQ
  refine e0a11 (fF hp) fun p1 p2 p3 p4 p5 p6 p7 p8 p9 p10 p11=>?_
  refine e1a2 (zR hf) fun o ho hdata=>?_
  have X:=St.X.keeps M.keep
  have hvl:=aK _ _ r
  have rr:RepL T s.heap (aG S ρ) ρ (args ++ dargs) (vals ++ dvals):=dB r (hd _ _ _)
  refine codeAny_call_def (by have:=R.depth; lia) (X a o ho) hdata (St.lim.keeps M.keep) (codeRec_of X p1) p11 (hbind s vals X hvl) ?_ ?_ ?_ p7 p6 p5
  · simp only [iD,List.all_eq_true,Bool.not_eq_true',beq_eq_false_iff_ne] at hc
    exact hc
  · intro x hx
    exact p8 x.1 (List.of_mem_zip hx).1
  · intro h₁ hns hkeep
    have hsz:hZ.objs.size ≤ s.heap.objs.size:=St.grown M
    let env:=callEnv fd s.heap.objs.size a
    have En:dX env (aV fd) s.heap.objs.size:=⟨p5,rfl,p2,p3,p9,p10⟩
    have hcl:env.cells = []:=p4
    have O:dW env s.heap.objs.size [s.heap.objs.size]:=⟨List.mem_singleton.mpr rfl,fun x c e=>(by rw [hcl] at e; cases e),fun x c e=>(by rw [hcl] at e; cases e),fun x y c e=>(by rw [hcl] at e; cases e)⟩
    have hk:∀ x,env.kindOf x = fd.scope.names.lookup x:=fun x=>rfl
    have hcx:CxOk T K hZ n env (aV fd) s.heap.objs.size [s.heap.objs.size] (A.deeper env) ⟨K,aV fd,fd.scope.names⟩:=by
      refine ⟨⟨St,rfl,rfl,En,hk,R.less env⟩,O,fun x hx=>?_,?_⟩
      · rw [hk] at hx
        simp only [iD,List.all_eq_true,Bool.not_eq_true',beq_eq_false_iff_ne] at hc
        have:(x,NameKind.cell) ∈ fd.scope.names:=mem_of_lookup hx
        exact absurd rfl (hc _ this)
      · unfold Env.blockKind
        show (if fd.scope.kind.isAnnotationScope then _ else fd.scope.kind) = _
        rw [p5]; rfl
    have run:=aAt (T:=T) (K:=K) (n:=n) (A:=A.deeper env) (env:=env) (body:=dG fd) (s:=s) (tk:=s.toks + ((aN fd).zip (vals ++ dvals)).length) (R:=fun v s'=>Q v s') (post:=post) (names:=aN fd) (k:=(aV fd).length - (aN fd).length)
      En O M rr (pA hcx fuel (dG fd)) (fun i x hi hx=>?_) (fun i x v hx hv=>aBE _ _ i x v ((List.nodup_append.mp p9).1) hx hv) hns hkeep (fun b hb=>?_) (fun x c e=>(by rw [hcl] at e; cases e)) hw hQ
    · exact wpAny_mono run (fun f s' q=>q) fun _ _ q=>q.elim
    · have:=wX (by rw [← hlen]; simpa using hi) hx
      exact ⟨this,p8 x (List.mem_of_getElem? this)⟩
    · cases List.mem_singleton.mp hb
      exact ⟨aR _,hsz,let ⟨o,_,_,e,_⟩:=hns; ⟨o,e⟩⟩
end
section
variable {T:CT} {K:Frag} {hZ h h':Heap} {bad bad':List Addr} {S:List Addr} {ρ ρ':List (Addr × Addr)} {mem mem':Mem} {A:Around} {n:Nat}
noncomputable def Sm (ρ:List (Addr × Addr)) (x:V):Prop:=∃ T h bad v,RepV T h bad ρ x v
theorem nU {xs:List V} {l:List Value} (r:RepL T h bad ρ xs l) {x:V} (hx:x ∈ xs):Sm ρ x :=
  (List.mem_iff_getElem?.mp hx).elim fun j e=>e1a2 (eZ xs l r j x e) fun v _ rv=>⟨T,h,bad,v,rv⟩
theorem aDM {x:V} {xs:List V} (hx:x ∈ xs) {ns:List At} {l:List DictEntry} (r:RepF T h bad ρ ns xs l):Sm ρ x :=
  iC (P:=fun _ xs _=>x ∈ xs→Sm ρ x) (fun _ q=>(List.not_mem_nil q).elim) (fun _ _ y ys e _ _ hv _ ih q=>(List.mem_cons.mp q).elim (fun q=>⟨T,h,bad,e.val,q ▸ hv⟩) ih) xs ns l r hx
section
variable {p:Addr × Addr}
theorem qE (hf:∀ a,Froz h bad a→Froz h bad' a) (x:V):Sm ρ x→∀ v,RepV T h bad (ρ ++ [p]) x v→RepV T h bad' ρ x v :=
  V.ind (P:=fun x=>Sm ρ x→∀ v,RepV T h bad (ρ ++ [p]) x v→RepV T h bad' ρ x v) (fun _ _ r=>r) (fun _ _ _ r=>r) (fun _ _ _ r=>r) (fun _ _ _ r=>r) (fun _ _ _ r=>r)
    (fun k s v r=>e4a1 s fun _ _ _ _ r0=>e1a2 r0 fun q hq _=>e1a2 r fun q' hq' e=>⟨q',(List.getElem?_append_left (List.getElem?_eq_some_iff.mp hq).1).symm.trans hq',e⟩)
    (fun xs ih s v r=>e4a1 s fun _ _ _ _ r0=>e2a4 r0 fun _ _ _ _ _ l0=>e2a4 r fun a items e f t rl=>⟨a,items,e,hf a f,t,RepL.imp xs (fun x hx=>ih x hx (nU l0 hx)) _ rl⟩)
    (fun xs ih s v r=>e4a1 s fun _ _ _ _ r0=>e2a4 r0 fun _ _ _ _ _ l0=>e2a4 r fun a items e f t rl=>⟨a,items,e,hf a f,t,RepL.imp xs (fun x hx=>ih x hx (nU l0 hx)) _ rl⟩)
    (fun c xs ih s v r=>e4a1 s fun _ _ _ _ r0=>e4a6 r0 fun _ _ _ _ _ _ _ _ _ l0=>e4a6 r fun a d es n e f g t u rl=>⟨a,d,es,n,e,hf a f,hf d g,t,u,RepF.imp xs (fun x hx=>ih x hx (aDM hx l0)) _ es rl⟩) x
theorem qG (hf:∀ a,Froz h bad a→Froz h bad' a) {xs:List V} (hs:∀ x ∈ xs,Sm ρ x) {l:List Value} (r:RepL T h bad (ρ ++ [p]) xs l):RepL T h bad' ρ xs l:=RepL.imp xs (fun x hx=>qE hf x (hs x hx)) l r
end
theorem jD (a:Args):(Code.builtin "type.__call__" a).frames = 0:=by
  first | rfl | with_unfolding_all rfl
theorem pU (C:Addr) (l:List Value) (kw:List (Str × Value)):(Code.builtin "type.__call__" ⟨.ref C :: l,kw⟩).weight ≤ 2:=by
  unfold Code.weight
  rw [jD]
  have h1:(Code.builtin "type.__call__" ⟨.ref C :: l,kw⟩).isCaller = false:=by first | rfl | with_unfolding_all rfl | simp [Code.isCaller]
  rw [h1]
  split <;> split <;> simp
theorem rM (a:Args):(Code.builtin "type.__call__" a).cUnits = 1:=by
  show 1 + 3 * (Code.builtin "type.__call__" a).frames = 1
  rw [jD]
theorem Rnd.class {A:Around} (R:Rnd A (n + 1)) (C:Addr) (l:List Value) (kw:List (Str × Value)):Rnd (A.under (.builtin "type.__call__" ⟨.ref C :: l,kw⟩)) n:=by
  obtain ⟨x,y,z⟩:=R
  have h1:=pU C l kw
  have h2:=rM ⟨.ref C :: l,kw⟩
  refine ⟨x,?_,?_⟩
  · show A.depth + (Code.builtin "type.__call__" ⟨.ref C :: l,kw⟩).weight + 2 * n < recursionLimit
    lia
  · show A.units + (Code.builtin "type.__call__" ⟨.ref C :: l,kw⟩).cUnits + 8 * n + 100 < cLine
    lia
noncomputable def cF (K:Frag) (c:Cls) (fI:Addr):Bool:=makesIn K (addrOf c) && (findIn K (.ref (addrOf c)) "__init__" == some (some (.ref fI))) && (typeIn K (.ref fI) == some (.type "function"))
theorem xO {c:Cls} {fI:Addr} {args:List V} {s:Shared} {vals:List Value} {post:Mem→Prop} {Q:Value→Shared→Prop} (St:Stat T K hZ) (hm:cF K c fI = true) (R:Rnd A (n + 1)) (M:MemR T hZ S ρ s.heap mem) (r:RepL T s.heap (aG S ρ) ρ args vals)
    (hi:aA T K hZ n (.ref fI) (.ref mem.length :: args) (mem ++ [.inst c []]) (fun v m=>v = .none∧post m))
    (hQ:∀ m ρ' h' tk',post m→MemR T hZ S ρ' h' m→ρ ++ [(s.heap.objs.size + 1,s.heap.objs.size)] <+: ρ'→Step false [] ρ s.heap ρ' h'→Q (.ref (s.heap.objs.size + 1)) { s with heap:=h',toks:=tk' }) :
    codeAny (model T.prog T.w) A (.call (.ref (addrOf c)) ⟨vals,[]⟩) (aAg Q) s:=by
  simp only [cF,Bool.and_eq_true,beq_iff_eq] at hm
  have X:=St.X.keeps M.keep
  obtain ⟨hh,g,d,t,os⟩:=s
  refine make_core (makes_of X hm.1.1) (looks_findIn X hm.1.2) (fun self=>bind_fn X self hm.2) (.inl rfl) ?_
  have k1:∀ b o,hh.get? b = some o→(hh.push emptyDict).get? b = some o:=fun b o e=>Heap.get?_push_of_some _ e
  have k2:∀ b o,(hh.push emptyDict).get? b = some o→((hh.push emptyDict).push (instObj (addrOf c) hh.objs.size)).get? b = some o:=fun b o e=>Heap.get?_push_of_some _ e
  have kk:∀ b o,hh.get? b = some o→((hh.push emptyDict).push (instObj (addrOf c) hh.objs.size)).get? b = some o:=fun b o e=>k2 b o (k1 b o e)
  have sz:(hh.push emptyDict).objs.size = hh.objs.size + 1:=Heap.size_push ..
  have nx:(hh.push emptyDict).get? (hh.objs.size + 1) = none:=by rw [← sz]; exact aR _
  have td:((hh.push emptyDict).push (instObj (addrOf c) hh.objs.size)).get? hh.objs.size = some emptyDict:=k2 _ _ (Heap.get?_push_size _ rfl)
  have tx:((hh.push emptyDict).push (instObj (addrOf c) hh.objs.size)).get? (hh.objs.size + 1) = some (instObj (addrOf c) hh.objs.size):=by
    rw [← sz]; exact Heap.get?_push_size _ rfl
  have hz:=St.grown M
  have hx0:hh.get? (hh.objs.size + 1) = none:=bH k1 nx
  have fzx:Froz ((hh.push emptyDict).push (instObj (addrOf c) hh.objs.size)) (aG S (ρ ++ [(hh.objs.size + 1,hh.objs.size)])) (hh.objs.size + 1):=by
    refine ⟨⟨_,tx⟩,fun q=>?_⟩
    rcases List.mem_append.mp q with q | q
    · obtain ⟨x,hx⟩:=M.bad_there (List.mem_append_left _ q)
      rw [hx0] at hx; cases hx
    · rw [List.map_append] at q
      rcases List.mem_append.mp q with q | q
      · obtain ⟨x,hx⟩:=M.bad_there (List.mem_append_right S q)
        rw [hx0] at hx; cases hx
      · exact absurd (List.mem_singleton.mp q) (Nat.succ_ne_self _)
  have add:=M.add (p:=(hh.objs.size + 1,hh.objs.size)) (o:=.inst c []) kk hx0 (aR hh) (Nat.le_succ_of_le hz) hz ⟨[],0,fzx,tx,td,rfl⟩
  have fz2:=fun a f=>(add.2.froz (S:=S) aL) a f
  have rA:=RepL.step add.2 aL r
  have R2:=R.class (addrOf c) vals []
  have call:=hi (A.under (.builtin "type.__call__" ⟨.ref (addrOf c) :: vals,[]⟩)) S (ρ ++ [(hh.objs.size + 1,hh.objs.size)]) ⟨(hh.push emptyDict).push (instObj (addrOf c) hh.objs.size),g,d,t,os⟩ (.ref (hh.objs.size + 1) :: vals) R2 add.1
    (bB ⟨(hh.objs.size + 1,hh.objs.size),by rw [← M.len]; simp,rfl⟩ rA)
    (fun v s'=>v = .none∧Q (.ref (hh.objs.size + 1)) s') (fun v m ρ' h' tk' w hp rv M' st=>?_)
  · exact codeAny_mono call fun r s' z=>by
      rcases r with e | f
      · exact z.elim
      · cases f <;> first | exact z | exact z.elim
  · obtain ⟨rfl,hpm⟩:=hp
    cases rv
    exact ⟨rfl,hQ m ρ' h' tk' hpm M' st.ext (add.2.trans st)⟩
theorem yV {α : Type} {l l':List α} {x:α} (h:l ++ [x] <+: l'):l'[l.length]? = some x:=by
  obtain ⟨t,rfl⟩:=h
  rw [List.append_assoc,List.getElem?_append_right (Nat.le_refl _),Nat.sub_self]
  rfl
theorem gB {c:Cls} {fI:Addr} {args:List V} {post:Mem→Prop} (St:Stat T K hZ) (hm:cF K c fI = true)
    (hi:aA T K hZ n (.ref fI) (.ref mem.length :: args) (mem ++ [.inst c []]) (fun v m=>v = .none∧post m)):aA T K hZ (n + 1) (.ref (addrOf c)) args mem (fun v m=>v = .ref mem.length∧post m):=by
  intro A S ρ s vals R M r Q hQ
  refine xO St hm R M r hi fun m ρ' h' tk' hp M' hpre st=>?_
  refine hQ (.ref mem.length) m ρ' h' tk' _ ⟨rfl,hp⟩ ⟨(s.heap.objs.size + 1,s.heap.objs.size),?_,rfl⟩ M' st
  rw [← M.len]
  exact yV hpre
theorem aDH {T':CT} {p q:Addr × Addr} {h0:Heap} {b0:List Addr} {a d:Addr} {o:MO} (hf:∀ a,Froz h bad a→Froz h bad' a) (r0:RepO T' h0 b0 ρ q.1 q.2 o) (r:RepO T h bad (ρ ++ [p]) a d o):RepO T h bad' ρ a d o:=by
  cases o with
  | inst c fs=>exact e2a4 r fun es n f e1 e2 rf=>e2a4 r0 fun _ _ _ _ _ rf0=>⟨es,n,hf _ f,e1,e2,RepF.imp fs (fun x hx=>qE hf x (aDM hx rf0)) _ es rf⟩
  | lst xs=>exact e2a2 r.2 fun items n hx rl=>e2a2 r0.2 fun _ _ _ l0=>⟨r.1,items,n,hx,qG hf (fun _=>nU l0) rl⟩
  | sdict es=>exact e1a3 r.2 fun kvs x e rl=>e1a3 r0.2 fun _ _ _ l0=>⟨r.1,kvs,x,e,qG hf (fun _=>nU l0) rl⟩
  | idict es=>exact e1a3 r.2 fun kvs x e rl=>e1a3 r0.2 fun _ _ _ l0=>⟨r.1,kvs,x,e,qG hf (fun _=>nU l0) rl⟩
theorem nS {c:Cls} {fI:Addr} {args fs:List V} (St:Stat T K hZ) (hm:cF K c fI = true) (hs:∀ P:V→Prop,P .none→(∀ b,P (.bool b))→(∀ x ∈ args,P x)→∀ x ∈ fs,P x)
    (hi:aA T K hZ n (.ref fI) (.ref mem.length :: args) (mem ++ [.inst c []]) (fun v m=>v = .none∧m = mem ++ [.inst c fs])):aA T K hZ (n + 1) (.ref (addrOf c)) args mem (fun v m=>v = .inst c fs∧m = mem):=by
  intro A S ρ s vals R M r Q hQ
  refine xO St hm R M r hi fun m ρ' h' tk' hp M' hpre st=>?_
  subst hp
  generalize hp:(s.heap.objs.size + 1,s.heap.objs.size) = p at hpre
  have hρ:ρ' = ρ ++ [p]:=by
    refine (List.IsPrefix.eq_of_length hpre ?_).symm
    rw [M'.len]
    simp [M.len]
  subst hρ
  have hfz:∀ a,Froz h' (aG S (ρ ++ [p])) a→Froz h' (aG S ρ) a:=fun a f=>f.sub fun x hx=>by
    rcases List.mem_append.mp hx with hx | hx
    · exact List.mem_append_left _ hx
    · exact List.mem_append_right _ (by rw [List.map_append]; exact List.mem_append_left _ hx)
  have small:∀ x ∈ fs,Sm ρ x:=hs (Sm ρ) ⟨T,h',[],.none,rfl⟩ (fun b=>⟨T,h',[],.bool b,rfl⟩) fun x hx=>nU r hx
  have M2:MemR T hZ S ρ h' mem:=by
    refine ⟨M'.keep,M.len,fun i q x hi hx=>?_,?_,fun q hq=>M'.fresh q (List.mem_append_left _ hq),fun a ha=>?_⟩
    · have hil:=(List.getElem?_eq_some_iff.mp hi).1
      have z:=M'.rep i q x (by rw [List.getElem?_append_left hil]; exact hi) (by rw [List.getElem?_append_left (by rw [← M.len]; exact hil)]; exact hx)
      exact aDH hfz (M.rep i q x hi hx) z
    · have:=M'.nd
      rw [List.map_append] at this
      exact (List.nodup_append.mp this).1
    · refine e0a3 (M'.sfresh a ha) fun x y z=>?_
      exact ⟨fun q=>x (by rw [List.map_append]; exact List.mem_append_left _ q),y,z⟩
  have hlast:(ρ ++ [p])[ρ.length]? = some p:=by rw [List.getElem?_append_right (Nat.le_refl _),Nat.sub_self]; rfl
  refine e2a4 (M'.rep ρ.length p (.inst c fs) hlast (by rw [M.len,List.getElem?_append_right (Nat.le_refl _),Nat.sub_self]; rfl)) fun es nn fzx e1 e2 rf=>?_
  have fzd:Froz h' (aG S ρ) p.2:=by
    refine ⟨⟨_,e2⟩,fun q=>?_⟩
    rcases List.mem_append.mp q with q | q
    · exact (M'.sfresh p.2 q).1 (by rw [List.map_append]; exact List.mem_append_right _ (List.mem_singleton.mpr rfl))
    · have:=M'.nd
      rw [List.map_append] at this
      exact (List.nodup_append.mp this).2.2 p.2 q p.2 (List.mem_singleton.mpr rfl) rfl
  have st2:Step false [] ρ s.heap ρ h':=⟨List.prefix_refl _,by simp,st.there,st.keep⟩
  exact hQ (.inst c fs) mem ρ h' tk' _ ⟨rfl,rfl⟩ ⟨p.1,p.2,es,nn,by rw [← hp],hfz _ fzx,fzd,e1,e2,RepF.imp fs (fun x hx=>qE hfz x (small x hx)) _ es rf⟩ M2 st2
end
section
variable {T:CT} {K:Frag} {hZ h h':Heap} {Γ:List Str} {L I:Addr} {W S:List Addr} {ρ ρ':List (Addr × Addr)} {loc loc':Locs} {mem mem':Mem} {A:Around} {n:Nat} {c:CX}
theorem xW {kindOf:Str→Option NameKind}:∀ (binds:List (Str × Value)) (m:Str→Option Value) (x:Str),x ∉ binds.map (·.1)→bindL kindOf binds m x = m x
  | [],m,x,_=>rfl
  | (y,w) :: r,m,x,h=>by
    rw [List.map_cons,List.mem_cons,not_or] at h
    show bindL kindOf r _ x = _
    rw [xW r _ x h.2]
    split
    · exact if_neg h.1
    · rfl
theorem aBt {kindOf:Str→Option NameKind}:∀ (names:List Str) (vals:List Value) (m:Str→Option Value) (i:Nat) (x:Str) (v:Value),names.Nodup→(∀ y ∈ names,kindOf y = some .local)→names[i]? = some x→vals[i]? = some v→bindL kindOf (names.zip vals) m x = some v
  | [],_,_,_,_,_,_,_,hx,_=>by simp at hx
  | _ :: _,[],_,_,_,_,_,_,_,hv=>by simp at hv
  | y :: names,w :: vals,m,i,x,v,hn,hk,hx,hv=>by
    rw [List.zip_cons_cons]
    show bindL kindOf (names.zip vals) _ x = _
    rw [if_pos (hk y (List.mem_cons_self ..))]
    cases i with
    | zero =>
      simp only [List.getElem?_cons_zero,Option.some.injEq] at hx hv
      subst hx; subst hv
      rw [xW]
      · exact if_pos rfl
      · intro q
        refine e1a2 (List.mem_map.mp q) fun p hp e=>?_
        have:=(List.of_mem_zip (a:=p.1) (b:=p.2) hp).1
        rw [e] at this
        exact (List.nodup_cons.mp hn).1 this
    | succ i=>exact aBt names vals _ i x v (List.nodup_cons.mp hn).2 (fun y h=>hk y (List.mem_cons_of_mem _ h)) hx hv
theorem aDy {a:Addr} {fd:FuncData} {args:List V} {post:V→Mem→Prop} (St:Stat T K hZ) (hf:fnAt K a = some fd) (hp:eO K fd = true)
    {cx:Str} (hone:∀ k,cellsFrom k fd.scope.names [] = [(cx,k)]) (hcl:∀ x,fd.scope.names.lookup x = some .cell→x = cx) (hlen:args.length = (aN fd).length)
    (hbind:∀ (vals:List Value),vals.length = args.length→bindArgs fd ⟨vals,[]⟩ = pure ((aN fd).zip vals))
    (hw:wpSs T K hZ n (loc0 args ((aV fd).length - (aN fd).length)) (fV ⟨K,aV fd,fd.scope.names⟩ fuel (dG fd)) mem (fun _ m=>post .none m) post (fun _ _=>False)) :
    aA T K hZ (n + 1) (.ref a) args mem post:=by
  intro A S ρ s vals R M r Q hQ
  refine e0a11 (fF hp) fun p1 p2 p3 p4 p5 p6 p7 p8 p9 p10 p11=>?_
  refine e1a2 (zR hf) fun o ho hdata=>?_
  have X:=St.X.keeps M.keep
  have hvl:=aK _ _ r
  refine codeAny_call_cells (by have:=R.depth; lia) (X a o ho) hdata (St.lim.keeps M.keep) (codeRec_of X p1) p11 (hbind vals hvl) p4 (fun x hx=>.inl (p8 x.1 (List.of_mem_zip hx).1)) (fun s₁ IC=>?_) p7 p6 p5
  obtain ⟨⟨⟨h₁,tk,rfl⟩,hns,hkeep,_⟩,hcell,hapart,habove⟩:=IC
  have hsz:hZ.objs.size ≤ s.heap.objs.size:=St.grown M
  generalize hen:callEnvC fd s.heap.objs.size a = env at *
  have hk:∀ x,env.kindOf x = fd.scope.names.lookup x:=fun x=>by rw [← hen]; rfl
  have hL:env.locals = s.heap.objs.size:=by rw [← hen]; rfl
  have hcells:env.cells = cellsFrom (s.heap.objs.size + 1) fd.scope.names []:=by rw [← hen]; rfl
  have En:dX env (aV fd) s.heap.objs.size:=by
    refine ⟨?_,hL,?_,?_,p9,p10⟩
    · rw [← hen]; exact p5
    · rw [← hen]; exact p2
    · rw [← hen]; exact p3
  rw [hL] at hns
  have O:dW env s.heap.objs.size (s.heap.objs.size :: env.cells.map (·.2)):=by
    refine ⟨List.mem_cons_self ..,fun x c e=>List.mem_cons_of_mem _ (List.mem_map_of_mem (mem_of_lookup e)),fun x c e=>?_,fun x y c e1 e2=>?_⟩
    · have:=habove x c (mem_of_lookup e)
      rw [hL] at this
      exact Nat.ne_of_gt this
    · exact name_of_addr hapart (mem_of_lookup e1) (mem_of_lookup e2)
  have hcx:CxOk T K hZ n env (aV fd) s.heap.objs.size (s.heap.objs.size :: env.cells.map (·.2)) (A.deeper env) ⟨K,aV fd,fd.scope.names⟩:=by
    refine ⟨⟨St,rfl,rfl,En,hk,R.less env⟩,O,fun x hx=>?_,?_⟩
    · rw [hk] at hx
      have:=hcl x hx
      rw [this,hcells,hone]
      exact ⟨s.heap.objs.size + 1,by rw [List.lookup_cons]; simp⟩
    · unfold Env.blockKind
      rw [En.kind]; rfl
  have run:=aAt (T:=T) (K:=K) (n:=n) (A:=A.deeper env) (env:=env) (body:=dG fd) (s:=s) (tk:=tk) (R:=fun v s'=>Q v s') (post:=post) (names:=aN fd) (k:=(aV fd).length - (aN fd).length)
    En O M r (pA hcx fuel (dG fd)) (fun i x hi hx=>?_) (fun i x v hx hv=>aBt (aN fd) vals _ i x v ((List.nodup_append.mp p9).1) (fun y hy=>(hk y).trans (p8 y hy)) hx hv) hns hkeep (fun b hb=>?_) (fun x c e=>⟨_,hcell x c e⟩) hw hQ
  · exact wpAny_mono run (fun f s' q=>q) fun _ _ q=>q.elim
  · have:=wX (by rw [← hlen]; exact hi) hx
    exact ⟨this,(hk x).trans (p8 x (List.mem_of_getElem? this))⟩
  · rcases List.mem_cons.mp hb with rfl | hb
    · exact ⟨aR _,hsz,let ⟨o,_,_,e,_⟩:=hns; ⟨o,e⟩⟩
    · obtain ⟨⟨x,c⟩,hm,rfl⟩:=List.mem_map.mp hb
      have hlt:=habove x c hm
      rw [hL] at hlt
      refine ⟨?_,Nat.le_trans hsz (Nat.le_of_lt hlt),?_⟩
      · cases q:s.heap.get? c with
        | none=>rfl
        | some o=>exact absurd (Heap.lt_size q) (Nat.not_lt.mpr (Nat.le_of_lt hlt))
      · have hex:∃ y,env.cells.lookup y = some c:=by
          rw [hcells,hone] at hm ⊢
          cases List.mem_singleton.mp hm
          exact ⟨cx,by rw [List.lookup_cons]; simp⟩
        obtain ⟨y,hy⟩:=hex
        refine e1a2 (hcell y c hy) fun o e _=>?_
        exact ⟨o,e⟩
end
theorem fH:∀ (names:List Str) (vals:List Value) (x:Str),names.length = vals.length→x ∈ names→((names.zip vals).lookup x).isSome = true
  | [],_,_,_,h=>by cases h
  | y :: r,[],_,h,_=>by simp at h
  | y :: r,v :: vs,x,h,hx=>by
    rw [List.zip_cons_cons,List.lookup_cons]
    by_cases q:x = y
    · subst q; simp
    · rw [show (x == y) = false by simpa using q]
      exact fH r vs x (by simpa using h) ((List.mem_cons.mp hx).resolve_left q)
theorem hO:∀ (names:List Str) (vals:List Value),names.length = vals.length→names.Nodup→(names.filterMap fun n=>((names.zip vals).lookup n).map (n,·)) = names.zip vals:=by
  have gen:∀ (names:List Str) (vals:List Value) (pre:List (Str × Value)),names.length = vals.length→names.Nodup→(∀ x ∈ names,x ∉ pre.map (·.1))→(names.filterMap fun n=>((pre ++ names.zip vals).lookup n).map (n,·)) = names.zip vals:=by
    intro names
    induction names with
    | nil=>intro vals pre h _ _; simp
    | cons y r ih =>
      intro vals pre h hn hp
      cases vals with
      | nil=>simp at h
      | cons v vs =>
        have look:∀ (pre:List (Str × Value)) (l:List (Str × Value)) x,x ∉ pre.map (·.1)→(pre ++ l).lookup x = l.lookup x:=by
          intro pre l x
          induction pre with
          | nil=>intro _; rfl
          | cons p q ihp =>
            intro hx
            rw [List.map_cons,List.mem_cons,not_or] at hx
            obtain ⟨a,b⟩:=p
            rw [List.cons_append,List.lookup_cons,show (x == a) = false by simpa using hx.1]
            exact ihp hx.2
        have e:pre ++ (y :: r).zip (v :: vs) = (pre ++ [(y,v)]) ++ r.zip vs:=by rw [List.zip_cons_cons,List.append_assoc]; rfl
        have h0:(pre ++ (y :: r).zip (v :: vs)).lookup y = some v:=by
          rw [look _ _ _ (hp y (List.mem_cons_self ..)),List.zip_cons_cons,List.lookup_cons]; simp
        rw [List.filterMap_cons,h0]
        simp only [Option.map_some]
        rw [List.zip_cons_cons]
        congr 1
        have:=ih vs (pre ++ [(y,v)]) (by simpa using h) (List.nodup_cons.mp hn).2 (fun x hx q=>by
          rw [List.map_append] at q
          rcases List.mem_append.mp q with q | q
          · exact hp x (List.mem_cons_of_mem _ hx) q
          · have:x = y:=by simpa using q
            exact (List.nodup_cons.mp hn).1 (this ▸ hx))
        rw [List.append_assoc] at this
        exact this
  intro names vals h hn
  exact gen names vals [] h hn (by simp)
theorem skipE {β : Type} {c:Prop} [Decidable c] {E k r:Sem β} (n:¬c) (h:k = r):(if c then E else k) = r:=(if_neg n).trans h
theorem pureE {α β : Type} {m:Sem α} {x:α} {k:α→Sem β} {r:Sem β} (n:m = pure x) (h:k x = r):(m >>= k) = r:=by rw [n,pure_bind]; exact h
noncomputable def aAX (x:Str × Value) (r:List (Str × Value)):Sem (ForInStep (List (Str × Value))):=if (r.lookup x.1).isNone = true then pure (ForInStep.yield (r ++ [(x.1,x.2)])) else pure (ForInStep.yield r)
theorem aFH {fd:FuncData} {vals:List Value} (h1:fd.params.posonlyargs = []) (h2:fd.params.kwonlyargs = []) (h3:fd.params.vararg = none) (h4:fd.params.kwarg = none) :
    ∃ k,bindArgs fd ⟨vals,[]⟩ = seqItems? fd.defaults >>= k∧∀ (d:Option (Array Value)) (ds:List Value) (slots:List (Str × Value)),(d.getD #[]).toList = ds→vals.length ≤ (aN fd).length→ds.length ≤ (aN fd).length →
      (((aN fd).take ((aN fd).length - ds.length)).filter fun n=>(((aN fd).zip vals).lookup n).isNone) = [] →
      forIn (((aN fd).drop ((aN fd).length - ds.length)).zip ds) ((aN fd).zip vals) aAX = pure slots→k d = pure ((aN fd).filterMap fun n=>(slots.lookup n).map (n,·)):=by
  obtain ⟨nm,qn,ps,bd,sc,gl,cl,df,kd,dc,pm,an,cd,bi⟩:=fd
  obtain ⟨po,ar,va,ko,kdf,kw,dfs⟩:=ps
  unfold aN
  cases h1; cases h2; cases h3; cases h4
  dsimp only
  refine ⟨_,pureE (List.forIn_nil ..) rfl,fun d ds slots hd h1 h2 h3 h4=>?_⟩
  cases hd
  dsimp only
  have e:(d.getD #[]).toList.drop ((d.getD #[]).toList.length - (List.map (fun x:Arg=>x.arg) ar).length) = (d.getD #[]).toList:=by rw [Nat.sub_eq_zero_of_le h2,List.drop_zero]
  refine skipE (fun q=>Nat.not_lt_of_le h1 (of_decide_eq_true (Bool.and_eq_true_iff.mp q).1)) (skipE (fun q=>?_) (pureE (x:=slots) ?_ (pureE (List.forIn_nil ..) (skipE Bool.false_ne_true ?_))))
  · replace q:(!(List.filter (fun n=>(((List.map (fun x:Arg=>x.arg) ar).zip vals).lookup n).isNone) ((List.map (fun x:Arg=>x.arg) ar).take ((List.map (fun x:Arg=>x.arg) ar).length - ((d.getD #[]).toList.drop ((d.getD #[]).toList.length - (List.map (fun x:Arg=>x.arg) ar).length)).length))).isEmpty) = true:=q
    rw [e,h3] at q; cases q
  · show forIn (((List.map (fun x:Arg=>x.arg) ar).drop ((List.map (fun x:Arg=>x.arg) ar).length - ((d.getD #[]).toList.drop ((d.getD #[]).toList.length - (List.map (fun x:Arg=>x.arg) ar).length)).length)).zip ((d.getD #[]).toList.drop ((d.getD #[]).toList.length - (List.map (fun x:Arg=>x.arg) ar).length))) ((List.map (fun x:Arg=>x.arg) ar).zip vals) aAX = _
    rw [e]; exact h4
  · exact congrArg (fun l=>pure (List.filterMap (fun n=>Option.map (fun x=>(n,x)) (List.lookup n slots)) l)) (List.append_nil _)
theorem tO:∀ (P:List Str) (vs:List Value),P.zip vs = (P.take vs.length).zip vs
  | [],vs=>by rw [List.take_nil]
  | _ :: _,[]=>rfl
  | p :: P,v :: vs=>congrArg (List.cons _) (tO P vs)
theorem yY {P Q:List Str} {vals:List Value} (h:∀ x ∈ Q,((P.zip vals).lookup x).isSome = true):(Q.filter fun n=>((P.zip vals).lookup n).isNone) = []:=by
  rw [List.filter_eq_nil_iff]
  intro x hx
  have z:=h x hx
  cases q:(P.zip vals).lookup x with
  | none=>rw [q] at z; cases z
  | some _=>exact Bool.false_ne_true
theorem tG {fd:FuncData} {vals:List Value} (h1:fd.params.posonlyargs = []) (h2:fd.params.kwonlyargs = []) (h3:fd.params.vararg = none) (h4:fd.params.kwarg = none) (hd:fd.defaults = .none) (hl:vals.length = (aN fd).length) (hn:(aN fd).Nodup):bindArgs fd ⟨vals,[]⟩ = pure ((aN fd).zip vals):=by
  refine e1a2 (aFH (vals:=vals) h1 h2 h3 h4) fun k e H=>?_
  rw [e,hd]
  refine pureE (x:=none) rfl ((H none [] _ rfl (Nat.le_of_eq hl) (Nat.zero_le _) (yY fun x hx=>fH _ _ _ hl.symm (List.mem_of_mem_take hx)) ?_).trans (congrArg pure (hO _ _ hl.symm hn)))
  rw [List.zip_nil_right]; rfl
theorem aAj:∀ (names:List Str) (vals:List Value) (x:Str),x ∉ names→(names.zip vals).lookup x = none
  | [],_,_,_=>by simp
  | _ :: _,[],_,_=>by simp
  | y :: r,v :: vs,x,h=>by
    rw [List.mem_cons,not_or] at h
    rw [List.zip_cons_cons,List.lookup_cons,show (x == y) = false by simpa using h.1]
    exact aAj r vs x h.2
theorem sQ:∀ (l k:List (Str × Value)) (x:Str),l.lookup x = none→(l ++ k).lookup x = k.lookup x
  | [],_,_,_=>rfl
  | (y,v) :: l,k,x,h=>by
    rw [List.cons_append,List.lookup_cons]
    rw [List.lookup_cons] at h
    by_cases q:x = y
    · subst q; simp at h
    · rw [show (x == y) = false by simpa using q] at h ⊢
      exact sQ l k x h
theorem aAW:∀ (pairs slots:List (Str × Value)),(pairs.map (·.1)).Nodup→(∀ x ∈ pairs.map (·.1),slots.lookup x = none) →
    (forIn pairs slots fun (x:Str × Value) (r:List (Str × Value))=>(if (r.lookup x.1).isNone = true then pure (ForInStep.yield (r ++ [(x.1,x.2)])) else pure (ForInStep.yield r):Sem (ForInStep (List (Str × Value))))) = pure (slots ++ pairs)
  | [],slots,_,_=>by rw [List.forIn_nil,List.append_nil]
  | (y,v) :: r,slots,hn,h=>by
    rw [List.map_cons] at hn
    rw [List.forIn_cons,h y (by simp)]
    simp only [Option.isNone_none,if_true,pure_bind]
    rw [aAW r (slots ++ [(y,v)]) (List.nodup_cons.mp hn).2 (fun x hx=>?_),List.append_assoc]
    · rfl
    · rw [sQ _ _ _ (h x (by rw [List.map_cons]; exact List.mem_cons_of_mem _ hx)),List.lookup_cons]
      have:x ≠ y:=fun q=>(List.nodup_cons.mp hn).1 (q ▸ hx)
      rw [show (x == y) = false by simpa using this]
      rfl
theorem aAV:∀ (pairs slots:List (Str × Value)),(∀ x ∈ pairs.map (·.1),(slots.lookup x).isSome = true) →
    (forIn pairs slots fun (x:Str × Value) (r:List (Str × Value))=>(if (r.lookup x.1).isNone = true then pure (ForInStep.yield (r ++ [(x.1,x.2)])) else pure (ForInStep.yield r):Sem (ForInStep (List (Str × Value))))) = pure slots
  | [],slots,_=>by rw [List.forIn_nil]
  | (y,v) :: r,slots,h=>by
    have hy:(slots.lookup y).isNone = false:=by
      have:=h y (by simp)
      cases q:slots.lookup y with
      | none=>rw [q] at this; cases this
      | some _=>rfl
    rw [List.forIn_cons]
    simp only [hy,Bool.false_eq_true,if_false,pure_bind]
    exact aAV r slots fun x hx=>h x (by rw [List.map_cons]; exact List.mem_cons_of_mem _ hx)
theorem vH:∀ (P:List Str) (vals ds:List Value),P.length = vals.length + ds.length→P.zip vals ++ (P.drop vals.length).zip ds = P.zip (vals ++ ds)
  | P,[],ds,_=>by simp
  | [],v :: vs,ds,h=>by simp at h; lia
  | p :: P,v :: vs,ds,h=>by
    have:=vH P vs ds (by simpa [Nat.add_right_comm] using h)
    simp only [List.zip_cons_cons,List.cons_append,List.length_cons,List.drop_succ_cons,this]
theorem xV {fd:FuncData} {s:Shared} {vals:List Value} {Td:Addr} {o:Obj} {items:Array Value} {n:Nat} (h1:fd.params.posonlyargs = []) (h2:fd.params.kwonlyargs = []) (h3:fd.params.vararg = none) (h4:fd.params.kwarg = none)
    (hd:fd.defaults = .ref Td) (ho:s.heap.get? Td = some o) (hs:o.data = .seq items n) (hl:vals.length + items.size = (aN fd).length) (hn:(aN fd).Nodup):BindsTo s fd ⟨vals,[]⟩ ((aN fd).zip (vals ++ items.toList)):=by
  refine e1a2 (aFH (vals:=vals) h1 h2 h3 h4) fun k e H=>?_
  rw [← Array.length_toList] at hl
  have hs1:(aN fd).length - items.toList.length = vals.length:=by rw [← hl,Nat.add_sub_cancel]
  have hle:vals.length ≤ (aN fd).length:=hl ▸ Nat.le_add_right ..
  refine BindsTo.of_defaults hd ho hs e ((H (some items) items.toList _ rfl hle (hl ▸ Nat.le_add_left ..) (yY fun x hx=>?_) ?_).trans (congrArg pure (hO (aN fd) (vals ++ items.toList) (by rw [List.length_append]; exact hl.symm) hn)))
  · rw [hs1] at hx
    rw [tO]
    exact fH _ _ _ (by rw [List.length_take,Nat.min_eq_left hle]) hx
  · rw [hs1,← vH _ _ _ hl.symm]
    have hpz:(((aN fd).drop vals.length).zip items.toList).map (·.1) = (aN fd).drop vals.length:=List.map_fst_zip (by rw [List.length_drop,← hl,Nat.add_sub_cancel_left]; exact Nat.le_refl _)
    refine aAW _ _ (by rw [hpz]; exact hn.sublist (List.drop_sublist _ _)) fun x hx=>?_
    rw [hpz] at hx
    rw [tO]
    exact aAj _ _ _ fun q=>(List.nodup_append.mp (show ((aN fd).take vals.length ++ (aN fd).drop vals.length).Nodup by rw [List.take_append_drop]; exact hn)).2.2 x q x hx rfl
theorem aCG {fd:FuncData} {s:Shared} {vals:List Value} {Td:Addr} {o:Obj} {items:Array Value} {n:Nat} (h1:fd.params.posonlyargs = []) (h2:fd.params.kwonlyargs = []) (h3:fd.params.vararg = none) (h4:fd.params.kwarg = none)
    (hd:fd.defaults = .ref Td) (ho:s.heap.get? Td = some o) (hs:o.data = .seq items n) (hl:vals.length = (aN fd).length) (hi:items.size ≤ (aN fd).length) (hn:(aN fd).Nodup):BindsTo s fd ⟨vals,[]⟩ ((aN fd).zip vals):=by
  refine e1a2 (aFH (vals:=vals) h1 h2 h3 h4) fun k e H=>?_
  rw [← Array.length_toList] at hi
  exact BindsTo.of_defaults hd ho hs e ((H (some items) items.toList _ rfl (Nat.le_of_eq hl) hi (yY fun x hx=>fH _ _ _ hl.symm (List.mem_of_mem_take hx)) (aAV _ _ fun x hx=>by
    refine e1a2 (List.mem_map.mp hx) fun p hp e0q=>?_
    subst e0q
    exact fH _ _ _ hl.symm (List.mem_of_mem_drop (List.of_mem_zip (a:=p.1) (b:=p.2) hp).1))).trans (congrArg pure (hO _ _ hl.symm hn)))
noncomputable def cL (fd:FuncData):Bool:=fd.params.posonlyargs.isEmpty && fd.params.kwonlyargs.isEmpty && fd.params.vararg.isNone && fd.params.kwarg.isNone
noncomputable def fG (fd:FuncData):Bool:=fd.defaults == .none
noncomputable def lT (K:Frag) (fd:FuncData):Option (Array Value):=match fd.defaults with
  | .ref d=>(match K.lookup d with
    | some ⟨_,_,.seq items _,_⟩=>some items
    | _=>none)
  | _=>none
structure FnOk (K:Frag) (a:Addr) (np k:Nat) (dargs:List V) (ir:List IS):Prop where
  sem:∀ (T:CT) (hZ:Heap) (n:Nat) (args:List V) (mem:Mem) (post:V→Mem→Prop),Stat T K hZ→args.length + dargs.length = np →
    wpSs T K hZ n (loc0 (args ++ dargs) k) ir mem (fun _ m=>post .none m) post (fun _ _=>False)→aA T K hZ (n + 1) (.ref a) args mem post
theorem eY {fd:FuncData} (h:cL fd = true):fd.params.posonlyargs = []∧fd.params.kwonlyargs = []∧fd.params.vararg = none∧fd.params.kwarg = none:=by
  simp only [cL,Bool.and_eq_true,List.isEmpty_iff,Option.isNone_iff_eq_none] at h
  exact ⟨h.1.1.1,h.1.1.2,h.1.2,h.2⟩
theorem aB {K:Frag} {a:Addr} {np k:Nat} {ir:List IS} (h:(fnAt K a).any (fun fd=>eO K fd && iD fd && cL fd && fG fd && (aN fd).length == np && (aV fd).length - (aN fd).length == k) = true)
    (hir:(fnAt K a).map (fun fd=>fV ⟨K,aV fd,fd.scope.names⟩ fuel (dG fd)) = some ir):FnOk K a np k [] ir:=by
  refine ⟨fun T hZ n args mem post St hl hw=>?_⟩
  cases hf:fnAt K a with
  | none=>rw [hf] at h; cases h
  | some fd =>
    rw [hf] at h hir
    simp only [Option.any_some,Bool.and_eq_true,beq_iff_eq] at h
    obtain ⟨⟨⟨⟨⟨h1,h2⟩,h3⟩,h4⟩,h5⟩,h6⟩:=h
    simp only [Option.map_some,Option.some.injEq] at hir
    refine e0a4 (eY h3) fun s1 s2 s3 s4=>?_
    have hnd:=(fF h1).2.2.2.2.2.2.2.2.1
    refine yN (dargs:=[]) (dvals:=[]) St hf h1 h2 (fun _ _ _=>bE) (by rw [h5]; exact hl) (fun s vals X hv=>?_) (by rw [h6,hir]; exact hw)
    rw [List.append_nil]
    exact BindsTo.of_eq (tG s1 s2 s3 s4 (by simpa [fG] using h4) (by rw [hv,h5,← hl]; rfl) ((List.nodup_append.mp hnd).1))
noncomputable def aAN:List IS:=[
  .ret (.call (.glob (.glob A.cNode)) [(.p (.cst (.str (Str.ofString "const")))),(.p (.loc 2)),(.p (.loc 0)),(.p (.lst [])),(.p (.loc 1))])]
noncomputable def mP:List IS:=[
  .ret (.p (.orE (.cmp .Eq (.attr (.loc 0) .eL) (.cst (.str (Str.ofString "integer")))) (.cmp .Eq (.attr (.loc 0) .eL) (.cst (.str (Str.ofString "byte"))))))]
noncomputable def eW:List IS:=[
  .ret (.p (.cmp .Eq (.attr (.loc 0) .a_op) (.cst (.str (Str.ofString "const")))))]
noncomputable def aEC:List IS:=[
  .ret (.p (.andE (.cmp .LtE (.neg 2147483648) (.loc 0)) (.cmp .LtE (.loc 0) (.cst (.int 2147483647)))))]
noncomputable def sU:List IS:=[
  .ite (.call (.glob (.glob A.fits)) [(.p (.loc 0))]) [.ret (.p (.tup [(.loc 0),(.cst (.str (Str.ofString "")))]))] [],
  .ret (.tup [(.call (.glob (.glob (.ref 260))) [(.p (.loc 0))]),(.p (.cst (.str (Str.ofString "constant_overflow"))))])]
noncomputable def mQ:List IS:=[
  .ite (.p (.cmp .Eq (.loc 0) (.cst (.str (Str.ofString "neg"))))) [.ret (.call (.glob (.glob A.checked)) [(.p (.bin .Sub (.cst (.int 0)) (.loc 1)))])] [],
  .ite (.p (.cmp .Eq (.loc 0) (.cst (.str (Str.ofString "not"))))) [.ret (.p (.tup [(.bin .Sub (.cst (.int 1)) (.loc 1)),(.cst (.str (Str.ofString "")))]))] [],
  .ret (.p (.tup [(.bin .BitXor (.loc 1) (.glob (.int 4294967295))),(.cst (.str (Str.ofString "")))]))]
noncomputable def aAM:List IS:=[
  .asg 5 (.p (.attr (.attr (.loc 3) .bT) .eL)),
  .ite (.p (.cmp .Eq (.loc 2) (.cst (.str (Str.ofString "~"))))) [.ite (.p (.cmp .NotEq (.loc 5) (.cst (.str (Str.ofString "boolean"))))) [.ret (.call (.glob (.glob (.ref 344))) [(.p (.loc 1)),(.p (.attr (.loc 0) .cZ)),(.p (.loc 4)),(.p (.cst (.str (Str.ofString "bad_operands"))))])] [],.ret (.call (.glob (.glob A.unary_node)) [(.p (.loc 1)),(.p (.cst (.str (Str.ofString "not")))),(.p (.attr (.loc 0) .cZ)),(.p (.loc 3)),(.p (.loc 4))])] [],
  .ite (.p (.andE (.cmp .Eq (.loc 2) (.cst (.str (Str.ofString "-")))) (.cmp .Eq (.loc 5) (.cst (.str (Str.ofString "set")))))) [.ret (.call (.glob (.glob A.unary_node)) [(.p (.loc 1)),(.p (.cst (.str (Str.ofString "s~")))),(.p (.attr (.loc 0) .yD)),(.p (.loc 3)),(.p (.loc 4))])] [],
  .ite (.notE (.call (.glob (.glob A.is_integer)) [(.p (.attr (.loc 3) .bT))])) [.ret (.call (.glob (.glob (.ref 344))) [(.p (.loc 1)),(.p (.attr (.loc 0) .bP)),(.p (.loc 4)),(.p (.cst (.str (Str.ofString "bad_operands"))))])] [],
  .ite (.p (.cmp .Eq (.loc 2) (.cst (.str (Str.ofString "-"))))) [.ret (.call (.glob (.glob A.unary_node)) [(.p (.loc 1)),(.p (.cst (.str (Str.ofString "neg")))),(.p (.attr (.loc 0) .bP)),(.p (.loc 3)),(.p (.loc 4))])] [],
  .ret (.p (.loc 3))]
noncomputable def mL:List IS:=[
  .ite (.notE (.call (.glob (.glob A.is_const_checkops)) [(.p (.loc 3))])) [.ret (.call (.glob (.glob A.cNode)) [(.p (.loc 1)),(.p (.loc 4)),(.p (.loc 2)),(.p (.lst [(.loc 3)])),(.p (.cst .none))])] [],
  .unp [5,6] (.call (.glob (.glob A.fold_unary)) [(.p (.loc 1)),(.p (.attr (.loc 3) .aX))]),
  .ite (.p (.cmp .NotEq (.loc 6) (.cst (.str (Str.ofString ""))))) [.ret (.call (.glob (.glob (.ref 344))) [(.p (.loc 0)),(.p (.loc 2)),(.p (.loc 4)),(.p (.loc 6))])] [],
  .ret (.call (.glob (.glob A.const)) [(.p (.loc 2)),(.p (.loc 5)),(.p (.loc 4))])]
noncomputable def oS:List IS:=[
  .asg 1 (.meth (.p (.loc 0)) .lF []),
  .ite (.p (.cmp .Is (.loc 1) (.cst .none))) [.ret (.p (.cst .none))] [],
  .asg 2 (.meth (.p (.attr (.loc 0) .fB)) .nL [(.p (.attr (.loc 1) .aX))]),
  .ite (.p (.cmp .Is (.loc 2) (.cst .none))) [.expr (.meth (.p (.attr (.loc 0) .aM)) .bO [(.p (.attr (.loc 1) .aJ)),(.p (.cst (.str (Str.ofString "undefined"))))]),.ret (.p (.cst .none))] [],
  .ite (.p (.cmp .NotEq (.attr (.loc 2) .bN) (.cst (.str (Str.ofString "module"))))) [.ret (.p (.loc 2))] [],
  .ite (.notE (.meth (.p (.loc 0)) .fC [(.p (.cst (.str (Str.ofString "."))))])) [.ret (.p (.cst .none))] [],
  .asg 3 (.meth (.p (.loc 0)) .lF []),
  .ite (.p (.cmp .Is (.loc 3) (.cst .none))) [.ret (.p (.cst .none))] [],
  .asg 4 (.meth (.p (.attr (.loc 2) .aX)) .nL [(.p (.attr (.loc 3) .aX))]),
  .ite (.p (.cmp .Is (.loc 4) (.cst .none))) [.expr (.meth (.p (.attr (.loc 0) .aM)) .bO [(.p (.attr (.loc 3) .aJ)),(.p (.cst (.str (Str.ofString "not_exported"))))])] [],
  .ret (.p (.loc 4))]
noncomputable def kU:List IS:=[
  .ite (.p (.cmp .Eq (.attr (.loc 1) .bN) (.cst (.str (Str.ofString "const"))))) [.ret (.call (.glob (.glob A.const)) [(.p (.attr (.loc 1) .bT)),(.p (.attr (.loc 1) .aX)),(.p (.loc 2))])] [],
  .ite (.p (.orE (.cmp .Eq (.attr (.loc 1) .bN) (.cst (.str (Str.ofString "var")))) (.cmp .Eq (.attr (.loc 1) .bN) (.cst (.str (Str.ofString "par")))))) [.ret (.call (.glob (.glob A.variable_node)) [(.p (.loc 1)),(.p (.loc 2))])] [],
  .ite (.p (.cmp .Eq (.attr (.loc 1) .bN) (.cst (.str (Str.ofString "proc"))))) [.ret (.call (.glob (.glob A.cNode)) [(.p (.cst (.str (Str.ofString "proc")))),(.p (.loc 2)),(.p (.attr (.loc 1) .bT)),(.p (.lst [])),(.p (.loc 1))])] [],
  .ite (.p (.cmp .Eq (.attr (.loc 1) .bN) (.cst (.str (Str.ofString "std"))))) [.ret (.call (.glob (.glob A.cNode)) [(.p (.cst (.str (Str.ofString "std")))),(.p (.loc 2)),(.p (.attr (.attr (.loc 0) .bD) .tJ)),(.p (.lst [])),(.p (.attr (.loc 1) .aX))])] [],
  .ite (.p (.cmp .Eq (.attr (.loc 1) .bN) (.cst (.str (Str.ofString "type"))))) [.ret (.call (.glob (.glob A.cNode)) [(.p (.cst (.str (Str.ofString "type")))),(.p (.loc 2)),(.p (.attr (.loc 1) .bT)),(.p (.lst [])),(.p (.attr (.loc 1) .bT))])] [],
  .expr (.meth (.p (.attr (.loc 0) .aM)) .bO [(.p (.loc 2)),(.p (.cst (.str (Str.ofString "not_a_variable"))))]),
  .ret (.call (.glob (.glob A.const)) [(.p (.attr (.attr (.loc 0) .bD) .bP)),(.p (.cst (.int 0))),(.p (.loc 2))])]
noncomputable def iT:List IS:=[
  .asg 2 (.p (.attr (.loc 0) .hN)),
  .ite (.p (.cmp .Is (.loc 2) (.cst .none))) [.ret (.call (.glob (.glob A.cNode)) [(.p (.cst (.str (Str.ofString "var")))),(.p (.loc 1)),(.p (.attr (.loc 0) .bT)),(.p (.lst [])),(.p (.loc 0))])] [],
  .ite (.p (.cmp .Eq (.attr (.loc 2) .eL) (.cst (.str (Str.ofString "pointer"))))) [.ret (.call (.glob (.glob A.cNode)) [(.p (.cst (.str (Str.ofString "guard")))),(.p (.loc 1)),(.p (.loc 2)),(.lst [(.call (.glob (.glob A.cNode)) [(.p (.cst (.str (Str.ofString "var")))),(.p (.loc 1)),(.p (.attr (.loc 0) .bT)),(.p (.lst [])),(.p (.loc 0))])]),(.p (.loc 2))])] [],
  .ret (.call (.glob (.glob A.cNode)) [(.p (.cst (.str (Str.ofString "var")))),(.p (.loc 1)),(.p (.loc 2)),(.p (.lst [])),(.p (.loc 0))])]
noncomputable def mT:List IS:=[
  .asg 2 (.p (.attr (.attr (.loc 0) .cC) .aJ)),
  .asg 3 (.call (.glob (.glob A.qualident)) [(.p (.loc 0))]),
  .ite (.p (.cmp .Is (.loc 3) (.cst .none))) [.asg 4 (.call (.glob (.glob A.const)) [(.p (.attr (.attr (.loc 0) .bD) .bP)),(.p (.cst (.int 0))),(.p (.loc 2))])] [.asg 4 (.call (.glob (.glob A.object_node)) [(.p (.loc 0)),(.p (.loc 3)),(.p (.loc 2))])],
  .ret (.call (.glob (.glob A.selectors)) [(.p (.loc 0)),(.p (.loc 4)),(.p (.loc 1))])]
noncomputable def oR:List IS:=[
  .while (.p (.cst (.bool true))) [.asg 3 (.p (.attr (.attr (.loc 0) .cC) .aJ)),.ite (.meth (.p (.loc 0)) .dE [(.p (.cst (.str (Str.ofString "."))))]) [.asg 4 (.meth (.p (.loc 0)) .lF []),.ite (.p (.cmp .IsNot (.loc 4) (.cst .none))) [.asg 1 (.call (.glob (.glob (.ref 225))) [(.p (.attr (.loc 0) .bD)),(.p (.attr (.loc 0) .aM)),(.p (.loc 1)),(.p (.attr (.loc 4) .aX)),(.p (.loc 3))])] []] [.ite (.meth (.p (.loc 0)) .dE [(.p (.cst (.str (Str.ofString "["))))]) [.asg 1 (.call (.glob (.glob (.ref 211))) [(.p (.attr (.loc 0) .bD)),(.p (.attr (.loc 0) .aM)),(.p (.loc 1)),(.call (.loc 2) [(.p (.loc 0))]),(.p (.loc 3))]),.while (.meth (.p (.loc 0)) .dE [(.p (.cst (.str (Str.ofString ","))))]) [.asg 1 (.call (.glob (.glob (.ref 211))) [(.p (.attr (.loc 0) .bD)),(.p (.attr (.loc 0) .aM)),(.p (.loc 1)),(.call (.loc 2) [(.p (.loc 0))]),(.p (.loc 3))])],.expr (.meth (.p (.loc 0)) .fC [(.p (.cst (.str (Str.ofString "]"))))])] [.ite (.meth (.p (.loc 0)) .dE [(.p (.cst (.str (Str.ofString "^"))))]) [.asg 1 (.call (.glob (.glob (.ref 232))) [(.p (.attr (.loc 0) .bD)),(.p (.attr (.loc 0) .aM)),(.p (.loc 1)),(.p (.loc 3))])] [.ite (.andE (.meth (.p (.loc 0)) .a_at [(.p (.cst (.str (Str.ofString "("))))]) (.andE (.p (.cmp .NotEq (.attr (.loc 1) .a_op) (.cst (.str (Str.ofString "const"))))) (.p (.cmp .In (.attr (.attr (.loc 1) .bT) .eL) (.tup [(.cst (.str (Str.ofString "record"))),(.cst (.str (Str.ofString "pointer")))]))))) [.asg 1 (.call (.glob (.glob (.ref 636))) [(.p (.loc 0)),(.p (.loc 1)),(.p (.loc 3))])] [.ret (.p (.loc 1))]]]]]]
noncomputable def mR:List IS:=[
  .asg 1 (.call (.glob (.glob A.simple_expression)) [(.p (.loc 0))]),
  .asg 2 (.p (.attr (.loc 0) .cC)),
  .ite (.p (.cmp .Eq (.attr (.loc 2) .bN) (.cst (.str (Str.ofString "IS"))))) [.expr (.meth (.p (.loc 0)) .fZ []),.ret (.call (.glob (.glob (.ref 650))) [(.p (.loc 0)),(.p (.loc 1)),(.p (.attr (.loc 2) .aJ))])] [],
  .ite (.p (.cmp .In (.attr (.loc 2) .bN) (.tup [(.cst (.str (Str.ofString "="))),(.cst (.str (Str.ofString "#"))),(.cst (.str (Str.ofString "<"))),(.cst (.str (Str.ofString "<="))),(.cst (.str (Str.ofString ">"))),(.cst (.str (Str.ofString ">="))),(.cst (.str (Str.ofString "IN")))]))) [.expr (.meth (.p (.loc 0)) .fZ []),.ret (.call (.glob (.glob (.ref 428))) [(.p (.attr (.loc 0) .bD)),(.p (.attr (.loc 0) .aM)),(.p (.attr (.loc 2) .bN)),(.p (.loc 1)),(.call (.glob (.glob A.simple_expression)) [(.p (.loc 0))]),(.p (.attr (.loc 2) .aJ))])] [],
  .ret (.p (.loc 1))]
noncomputable def eU:List IS:=[
  .asg 1 (.p (.attr (.loc 0) .cC)),
  .ite (.p (.orE (.cmp .Eq (.attr (.loc 1) .bN) (.cst (.str (Str.ofString "+")))) (.cmp .Eq (.attr (.loc 1) .bN) (.cst (.str (Str.ofString "-")))))) [.expr (.meth (.p (.loc 0)) .fZ []),.asg 2 (.call (.glob (.glob A.unary)) [(.p (.attr (.loc 0) .bD)),(.p (.attr (.loc 0) .aM)),(.p (.attr (.loc 1) .bN)),(.call (.glob (.glob A.term)) [(.p (.loc 0))]),(.p (.attr (.loc 1) .aJ))])] [.asg 2 (.call (.glob (.glob A.term)) [(.p (.loc 0))])],
  .while (.p (.cmp .In (.attr (.attr (.loc 0) .cC) .bN) (.tup [(.cst (.str (Str.ofString "+"))),(.cst (.str (Str.ofString "-"))),(.cst (.str (Str.ofString "OR")))]))) [.asg 1 (.meth (.p (.loc 0)) .fZ []),.asg 2 (.call (.glob (.glob (.ref 365))) [(.p (.attr (.loc 0) .bD)),(.p (.attr (.loc 0) .aM)),(.p (.attr (.loc 1) .bN)),(.p (.loc 2)),(.call (.glob (.glob A.term)) [(.p (.loc 0))]),(.p (.attr (.loc 1) .aJ))])],
  .ret (.p (.loc 2))]
noncomputable def aEA:List IS:=[
  .asg 1 (.call (.glob (.glob A.factor)) [(.p (.loc 0))]),
  .while (.p (.cmp .In (.attr (.attr (.loc 0) .cC) .bN) (.tup [(.cst (.str (Str.ofString "*"))),(.cst (.str (Str.ofString "/"))),(.cst (.str (Str.ofString "DIV"))),(.cst (.str (Str.ofString "MOD"))),(.cst (.str (Str.ofString "&")))]))) [.asg 2 (.meth (.p (.loc 0)) .fZ []),.asg 1 (.call (.glob (.glob (.ref 365))) [(.p (.attr (.loc 0) .bD)),(.p (.attr (.loc 0) .aM)),(.p (.attr (.loc 2) .bN)),(.p (.loc 1)),(.call (.glob (.glob A.factor)) [(.p (.loc 0))]),(.p (.attr (.loc 2) .aJ))])],
  .ret (.p (.loc 1))]
noncomputable def wR:List IS:=[
  .asg 1 (.p (.attr (.loc 0) .cC)),
  .asg 2 (.p (.attr (.loc 1) .bN)),
  .ite (.p (.cmp .Eq (.loc 2) (.cst (.str (Str.ofString "ident"))))) [.ret (.call (.glob (.glob A.named_factor)) [(.p (.loc 0))])] [],
  .ite (.p (.cmp .Eq (.loc 2) (.cst (.str (Str.ofString "int"))))) [.expr (.meth (.p (.loc 0)) .fZ []),.ret (.call (.glob (.glob A.const)) [(.p (.attr (.attr (.loc 0) .bD) .bP)),(.p (.attr (.loc 1) .aX)),(.p (.attr (.loc 1) .aJ))])] [],
  .ite (.p (.cmp .Eq (.loc 2) (.cst (.str (Str.ofString "string"))))) [.expr (.meth (.p (.loc 0)) .fZ []),.ret (.call (.glob (.glob A.const)) [(.meth (.p (.attr (.loc 0) .bD)) .iO [(.p (.bin .Add (.bi .len [(.attr (.loc 1) .aX)]) (.cst (.int 1))))]),(.p (.attr (.loc 1) .aX)),(.p (.attr (.loc 1) .aJ))])] [],
  .ite (.p (.cmp .Eq (.loc 2) (.cst (.str (Str.ofString "NIL"))))) [.expr (.meth (.p (.loc 0)) .fZ []),.ret (.call (.glob (.glob A.const)) [(.p (.attr (.attr (.loc 0) .bD) .a_nil)),(.p (.cst .none)),(.p (.attr (.loc 1) .aJ))])] [],
  .ite (.p (.cmp .Eq (.loc 2) (.cst (.str (Str.ofString "{"))))) [.ret (.call (.glob (.glob (.ref 713))) [(.p (.loc 0))])] [],
  .ite (.p (.cmp .Eq (.loc 2) (.cst (.str (Str.ofString "("))))) [.expr (.meth (.p (.loc 0)) .fZ []),.asg 3 (.call (.glob (.glob A.expression)) [(.p (.loc 0))]),.expr (.meth (.p (.loc 0)) .fC [(.p (.cst (.str (Str.ofString ")"))))]),.ret (.p (.loc 3))] [],
  .ite (.p (.cmp .Eq (.loc 2) (.cst (.str (Str.ofString "~"))))) [.expr (.meth (.p (.loc 0)) .fZ []),.ret (.call (.glob (.glob A.unary)) [(.p (.attr (.loc 0) .bD)),(.p (.attr (.loc 0) .aM)),(.p (.cst (.str (Str.ofString "~")))),(.call (.glob (.glob A.factor)) [(.p (.loc 0))]),(.p (.attr (.loc 1) .aJ))])] [],
  .expr (.meth (.p (.loc 0)) .bO [(.p (.cst (.str (Str.ofString "expected factor"))))]),
  .ret (.call (.glob (.glob A.const)) [(.p (.attr (.attr (.loc 0) .bD) .bP)),(.p (.cst (.int 0))),(.p (.attr (.loc 1) .aJ))])]
noncomputable def fO:List IS:=[
  .asg 1 (.call (.glob (.glob A.designator)) [(.p (.loc 0)),(.p (.glob (.glob A.expression)))]),
  .ite (.p (.cmp .Eq (.attr (.loc 1) .a_op) (.cst (.str (Str.ofString "type"))))) [.expr (.meth (.p (.attr (.loc 0) .aM)) .bO [(.p (.attr (.loc 1) .aJ)),(.p (.cst (.str (Str.ofString "not_a_variable"))))]),.ret (.call (.glob (.glob A.const)) [(.p (.attr (.attr (.loc 0) .bD) .bP)),(.p (.cst (.int 0))),(.p (.attr (.loc 1) .aJ))])] [],
  .ite (.p (.cmp .Eq (.attr (.loc 1) .a_op) (.cst (.str (Str.ofString "std"))))) [.ret (.call (.glob (.glob (.ref 685))) [(.p (.loc 0)),(.p (.loc 1))])] [],
  .ite (.andE (.meth (.p (.loc 0)) .a_at [(.p (.cst (.str (Str.ofString "("))))]) (.p (.cmp .NotEq (.attr (.loc 1) .a_op) (.cst (.str (Str.ofString "const")))))) [.asg 2 (.p (.attr (.attr (.loc 0) .cC) .aJ)),.ret (.call (.glob (.glob (.ref 204))) [(.p (.attr (.loc 0) .bD)),(.p (.attr (.loc 0) .aM)),(.p (.loc 1)),(.call (.glob (.glob (.ref 692))) [(.p (.loc 0)),(.p (.glob (.glob A.expression)))]),(.p (.loc 2)),(.p (.cst (.bool false)))])] [],
  .ret (.p (.loc 1))]
noncomputable def fR:List IS:=[
  .asg 1 (.call (.glob (.glob A.expression)) [(.p (.loc 0))]),
  .ite (.p (.cmp .Eq (.attr (.loc 1) .a_op) (.cst (.str (Str.ofString "const"))))) [.ret (.p (.loc 1))] [],
  .expr (.meth (.p (.attr (.loc 0) .aM)) .bO [(.p (.attr (.loc 1) .aJ)),(.p (.cst (.str (Str.ofString "not_a_constant"))))]),
  .ret (.call (.glob (.glob A.const)) [(.p (.attr (.attr (.loc 0) .bD) .bP)),(.p (.cst (.int 0))),(.p (.attr (.loc 1) .aJ))])]
noncomputable def gZ:List IS:=[
  .asg 2 (.attr (.meth (.p (.loc 0)) .fZ []) .aJ),
  .asg 3 (.call (.glob (.glob A.expression)) [(.p (.loc 0))]),
  .expr (.meth (.p (.loc 0)) .fC [(.p (.cst (.str (Str.ofString "OF"))))]),
  .asg 4 (.p (.attr (.loc 3) .bT)),
  .ite (.p (.andE (.cmp .Eq (.attr (.loc 3) .a_op) (.cst (.str (Str.ofString "guard")))) (.andE (.cmp .Eq (.attr (.item (.attr (.loc 3) .lG) (.cst (.int 0))) .a_op) (.cst (.str (Str.ofString "var")))) (.cmp .IsNot (.attr (.attr (.item (.attr (.loc 3) .lG) (.cst (.int 0))) .aX) .hN) (.cst .none))))) [.asg 3 (.p (.item (.attr (.loc 3) .lG) (.cst (.int 0))))] [],
  .ite (.call (.glob (.glob A.is_type_subject)) [(.p (.loc 3))]) [.ret (.call (.glob (.glob (.ref 811))) [(.p (.loc 0)),(.p (.loc 1)),(.p (.loc 3)),(.p (.loc 4)),(.p (.loc 2))])] [],
  .ite (.andE (.notE (.call (.glob (.glob A.is_integer)) [(.p (.attr (.loc 3) .bT))])) (.p (.cmp .NotEq (.attr (.attr (.loc 3) .bT) .eL) (.cst (.str (Str.ofString "char")))))) [.expr (.meth (.p (.attr (.loc 0) .aM)) .bO [(.p (.attr (.loc 3) .aJ)),(.p (.cst (.str (Str.ofString "case_type"))))])] [],
  .ret (.call (.glob (.glob A.value_cases)) [(.p (.loc 0)),(.p (.loc 1)),(.p (.loc 3)),(.p (.loc 2))])]
noncomputable def gI:List IS:=[
  .ite (.p (.cmp .NotEq (.attr (.loc 0) .a_op) (.cst (.str (Str.ofString "var"))))) [.ret (.p (.cst (.bool false)))] [],
  .ite (.p (.cmp .Eq (.attr (.attr (.loc 0) .bT) .eL) (.cst (.str (Str.ofString "record"))))) [.ret (.p (.cmp .Eq (.attr (.attr (.loc 0) .aX) .bN) (.cst (.str (Str.ofString "par")))))] [],
  .ret (.p (.cmp .Eq (.attr (.attr (.loc 0) .bT) .eL) (.cst (.str (Str.ofString "pointer")))))]
noncomputable def mS:List IS:=[
  .asg 3 (.meth (.p (.loc 0)) .dE [(.p (.cst (.str (Str.ofString "ELSE"))))]),
  .ite (.p (.loc 3)) [.expr (.meth (.p (.loc 2)) .aP [(.call (.loc 1) [(.p (.loc 0))])])] [],
  .expr (.meth (.p (.loc 0)) .fC [(.p (.cst (.str (Str.ofString "END"))))]),
  .ret (.p (.loc 3))]
noncomputable def oW:List IS:=[
  .ret (.p (.cmp .NotIn (.attr (.attr (.loc 0) .cC) .bN) (.tup [(.cst (.str (Str.ofString "|"))),(.cst (.str (Str.ofString "ELSE"))),(.cst (.str (Str.ofString "END"))),(.cst (.str (Str.ofString "eof")))])))]
noncomputable def eA:List IS:=[
  .asg 2 (.p (.attr (.attr (.loc 0) .cC) .aJ)),
  .asg 3 (.call (.glob (.glob A.const_expression)) [(.p (.loc 0))]),
  .ite (.andE (.call (.glob (.glob A.is_integer)) [(.p (.attr (.loc 1) .bT))]) (.call (.glob (.glob A.is_integer)) [(.p (.attr (.loc 3) .bT))])) [.ret (.p (.attr (.loc 3) .aX))] [],
  .ite (.p (.andE (.cmp .Eq (.attr (.attr (.loc 1) .bT) .eL) (.cst (.str (Str.ofString "char")))) (.cmp .Eq (.attr (.attr (.loc 3) .bT) .eL) (.cst (.str (Str.ofString "char")))))) [.ret (.p (.attr (.loc 3) .aX))] [],
  .ite (.p (.andE (.cmp .Eq (.attr (.attr (.loc 1) .bT) .eL) (.cst (.str (Str.ofString "char")))) (.andE (.cmp .Eq (.attr (.attr (.loc 3) .bT) .eL) (.cst (.str (Str.ofString "string")))) (.cmp .Eq (.bi .len [(.attr (.loc 3) .aX)]) (.cst (.int 1)))))) [.ret (.p (.bi .ord [(.attr (.loc 3) .aX)]))] [],
  .expr (.meth (.p (.attr (.loc 0) .aM)) .bO [(.p (.loc 2)),(.p (.cst (.str (Str.ofString "label_type"))))]),
  .ret (.p (.cst .none))]
noncomputable def lA:List IS:=[
  .asg 3 (.p (.attr (.attr (.loc 0) .cC) .aJ)),
  .asg 4 (.call (.glob (.glob A.label_value)) [(.p (.loc 0)),(.p (.loc 1))]),
  .asg 5 (.p (.loc 4)),
  .ite (.meth (.p (.loc 0)) .dE [(.p (.cst (.str (Str.ofString ".."))))]) [.asg 5 (.call (.glob (.glob A.label_value)) [(.p (.loc 0)),(.p (.loc 1))])] [],
  .ite (.p (.orE (.cmp .Is (.loc 4) (.cst .none)) (.cmp .Is (.loc 5) (.cst .none)))) [.ret (.p (.cst .none))] [],
  .ite (.p (.cmp .Gt (.loc 4) (.loc 5))) [.expr (.meth (.p (.attr (.loc 0) .aM)) .bO [(.p (.loc 3)),(.p (.cst (.str (Str.ofString "label_range"))))]),.ret (.p (.cst .none))] [],
  .for1 6 (.of (.p (.loc 2))) [.ite (.p (.andE (.cmp .LtE (.loc 4) (.item (.loc 6) (.cst (.int 1)))) (.cmp .LtE (.item (.loc 6) (.cst (.int 0))) (.loc 5)))) [.expr (.meth (.p (.attr (.loc 0) .aM)) .bO [(.p (.loc 3)),(.p (.cst (.str (Str.ofString "label_twice"))))]),.ret (.p (.cst .none))] []],
  .ret (.p (.tup [(.loc 4),(.loc 5)]))]
noncomputable def mO:List IS:=[
  .asg 3 (.lstM []),
  .asg 4 (.p (.cst (.bool true))),
  .while (.p (.loc 4)) [.asg 5 (.call (.glob (.glob A.label_range)) [(.p (.loc 0)),(.p (.loc 1)),(.p (.loc 2))]),.ite (.p (.cmp .IsNot (.loc 5) (.cst .none))) [.expr (.meth (.p (.loc 3)) .aP [(.p (.loc 5))]),.expr (.meth (.p (.loc 2)) .aP [(.p (.loc 5))])] [],.asg 4 (.meth (.p (.loc 0)) .dE [(.p (.cst (.str (Str.ofString ","))))])],
  .ret (.p (.loc 3))]
noncomputable def kT:List IS:=[
  .asg 4 (.lstM [(.p (.loc 2))]),
  .asg 5 (.lstM []),
  .asg 6 (.lstM []),
  .asg 7 (.p (.cst (.bool true))),
  .while (.p (.loc 7)) [.ite (.call (.glob (.glob A.at_labels)) [(.p (.loc 0))]) [.expr (.meth (.p (.loc 5)) .aP [(.call (.glob (.glob A.label_list)) [(.p (.loc 0)),(.p (.loc 2)),(.p (.loc 6))])]),.expr (.meth (.p (.loc 0)) .fC [(.p (.cst (.str (Str.ofString ":"))))]),.expr (.meth (.p (.loc 4)) .aP [(.call (.loc 1) [(.p (.loc 0))])])] [],.asg 7 (.meth (.p (.loc 0)) .dE [(.p (.cst (.str (Str.ofString "|"))))])],
  .asg 8 (.call (.glob (.glob A.else_block)) [(.p (.loc 0)),(.p (.loc 1)),(.p (.loc 4))]),
  .ret (.call (.glob (.glob A.cNode)) [(.p (.cst (.str (Str.ofString "case")))),(.p (.loc 3)),(.p (.cst .none)),(.p (.loc 4)),(.p (.tup [(.loc 5),(.loc 8)]))])]
noncomputable def qN:List IS:=[
  .ret (.p (.tup [(.cst (.str (Str.ofString "ARRAY"))),(.cst (.str (Str.ofString "BEGIN"))),(.cst (.str (Str.ofString "BY"))),(.cst (.str (Str.ofString "CASE"))),(.cst (.str (Str.ofString "CONST"))),(.cst (.str (Str.ofString "DIV"))),(.cst (.str (Str.ofString "DO"))),(.cst (.str (Str.ofString "ELSE"))),(.cst (.str (Str.ofString "ELSIF"))),(.cst (.str (Str.ofString "END"))),(.cst (.str (Str.ofString "FOR"))),(.cst (.str (Str.ofString "IF"))),(.cst (.str (Str.ofString "IMPORT"))),(.cst (.str (Str.ofString "IN"))),(.cst (.str (Str.ofString "IS"))),(.cst (.str (Str.ofString "MOD"))),(.cst (.str (Str.ofString "MODULE"))),(.cst (.str (Str.ofString "NIL"))),(.cst (.str (Str.ofString "OF"))),(.cst (.str (Str.ofString "OR"))),(.cst (.str (Str.ofString "POINTER"))),(.cst (.str (Str.ofString "PROCEDURE"))),(.cst (.str (Str.ofString "RECORD"))),(.cst (.str (Str.ofString "REPEAT"))),(.cst (.str (Str.ofString "RETURN"))),(.cst (.str (Str.ofString "THEN"))),(.cst (.str (Str.ofString "TO"))),(.cst (.str (Str.ofString "TYPE"))),(.cst (.str (Str.ofString "UNTIL"))),(.cst (.str (Str.ofString "VAR"))),(.cst (.str (Str.ofString "WHILE")))]))]
noncomputable def eV:List IS:=[
  .ret (.p (.orE (.andE (.cmp .LtE (.cst (.str (Str.ofString "a"))) (.loc 0)) (.cmp .LtE (.loc 0) (.cst (.str (Str.ofString "z"))))) (.andE (.cmp .LtE (.cst (.str (Str.ofString "A"))) (.loc 0)) (.cmp .LtE (.loc 0) (.cst (.str (Str.ofString "Z")))))))]
noncomputable def qO:List IS:=[
  .ret (.p (.andE (.cmp .LtE (.cst (.str (Str.ofString "0"))) (.loc 0)) (.cmp .LtE (.loc 0) (.cst (.str (Str.ofString "9"))))))]
noncomputable def jU:List IS:=[
  .ret (.orE (.call (.glob (.glob A.is_digit)) [(.p (.loc 0))]) (.p (.andE (.cmp .LtE (.cst (.str (Str.ofString "A"))) (.loc 0)) (.cmp .LtE (.loc 0) (.cst (.str (Str.ofString "F")))))))]
noncomputable def jV:List IS:=[
  .asg 3 (.p (.cst (.int 0))),
  .for1 4 (.of (.p (.loc 0))) [.asg 3 (.bin .Add (.p (.bin .Mult (.loc 3) (.loc 1))) (.meth (.p (.cst (.str (Str.ofString "0123456789ABCDEF")))) .nL [(.p (.loc 4))])),.ite (.p (.cmp .Gt (.loc 3) (.loc 2))) [.ret (.p (.bin .Add (.loc 2) (.cst (.int 1))))] []],
  .ret (.p (.loc 3))]
noncomputable def iU:List IS:=[
  .ret (.p (.tup [(.cst (.str (Str.ofString "ABS"))),(.cst (.str (Str.ofString "ODD"))),(.cst (.str (Str.ofString "LEN"))),(.cst (.str (Str.ofString "LSL"))),(.cst (.str (Str.ofString "ASR"))),(.cst (.str (Str.ofString "ROR"))),(.cst (.str (Str.ofString "ORD"))),(.cst (.str (Str.ofString "CHR")))]))]
noncomputable def gU:List IS:=[
  .ret (.p (.tup [(.cst (.str (Str.ofString "INC"))),(.cst (.str (Str.ofString "DEC"))),(.cst (.str (Str.ofString "INCL"))),(.cst (.str (Str.ofString "EXCL"))),(.cst (.str (Str.ofString "NEW"))),(.cst (.str (Str.ofString "ASSERT")))]))]
noncomputable def aED:List IS:=[
  .asg 1 (.p (.attr (.loc 0) .bD)),
  .expr (.meth (.p (.loc 0)) .cV [(.p (.cst (.str (Str.ofString "BOOLEAN")))),(.p (.cst (.str (Str.ofString "type")))),(.p (.attr (.loc 1) .cZ)),(.p (.cst (.int 0)))]),
  .expr (.meth (.p (.loc 0)) .cV [(.p (.cst (.str (Str.ofString "CHAR")))),(.p (.cst (.str (Str.ofString "type")))),(.p (.attr (.loc 1) .cO)),(.p (.cst (.int 0)))]),
  .expr (.meth (.p (.loc 0)) .cV [(.p (.cst (.str (Str.ofString "BYTE")))),(.p (.cst (.str (Str.ofString "type")))),(.p (.attr (.loc 1) .tL)),(.p (.cst (.int 0)))]),
  .expr (.meth (.p (.loc 0)) .cV [(.p (.cst (.str (Str.ofString "INTEGER")))),(.p (.cst (.str (Str.ofString "type")))),(.p (.attr (.loc 1) .bP)),(.p (.cst (.int 0)))]),
  .expr (.meth (.p (.loc 0)) .cV [(.p (.cst (.str (Str.ofString "SET")))),(.p (.cst (.str (Str.ofString "type")))),(.p (.attr (.loc 1) .yD)),(.p (.cst (.int 0)))]),
  .attr (.meth (.p (.loc 0)) .cV [(.p (.cst (.str (Str.ofString "FALSE")))),(.p (.cst (.str (Str.ofString "const")))),(.p (.attr (.loc 1) .cZ)),(.p (.cst (.int 0)))]) .aX (.p (.cst (.int 0))),
  .attr (.meth (.p (.loc 0)) .cV [(.p (.cst (.str (Str.ofString "TRUE")))),(.p (.cst (.str (Str.ofString "const")))),(.p (.attr (.loc 1) .cZ)),(.p (.cst (.int 0)))]) .aX (.p (.cst (.int 1))),
  .for1 2 (.of (.bin .Add (.call (.glob (.glob A.std_functions)) []) (.call (.glob (.glob A.std_procedures)) []))) [.attr (.meth (.p (.loc 0)) .cV [(.p (.loc 2)),(.p (.cst (.str (Str.ofString "std")))),(.p (.attr (.loc 1) .tJ)),(.p (.cst (.int 0)))]) .aX (.p (.loc 2))]]
noncomputable def qM:List IS:=[
  .asg 1 (.lstM []),
  .asg 2 (.p (.cst (.int 5))),
  .for1 3 (.head (.loc 0) 40) [.asg 4 (.p (.bi .int [(.loc 3)])),.asg 2 (.p (.bin .Mod (.bin .Add (.bin .Mult (.loc 2) (.cst (.int 31))) (.loc 4)) (.cst (.int 1009)))),.asg 5 (.p (.bi .abs [(.loc 4)])),.for1 6 (.range (.p (.cst (.int 60)))) [.expr (.meth (.p (.loc 1)) .aP [(.p (.bin .Mod (.loc 5) (.cst (.int 840))))]),.augN 5 .FloorDiv (.p (.cst (.int 840))),.ite (.p (.cmp .Eq (.loc 5) (.cst (.int 0)))) [.brk] []],.ite (.p (.cmp .Gt (.bi .len [(.loc 1)]) (.cst (.int 400)))) [.brk] []],
  .ret (.lstM [(.p (.loc 1)),(.p (.cst (.int 0))),(.p (.loc 2))])]
noncomputable def lQ:List IS:=[
  .ite (.p (.cmp .Lt (.item (.loc 0) (.cst (.int 1))) (.bi .len [(.item (.loc 0) (.cst (.int 0)))]))) [.asg 2 (.p (.item (.item (.loc 0) (.cst (.int 0))) (.item (.loc 0) (.cst (.int 1))))),.augI (.p (.loc 0)) (.p (.cst (.int 1))) .Add (.p (.cst (.int 1)))] [.ite (.p (.cmp .Lt (.bi .len [(.item (.loc 0) (.cst (.int 0)))]) (.cst (.int 3)))) [.asg 2 (.p (.cst (.int 0)))] [.item (.p (.loc 0)) (.p (.cst (.int 2))) (.p (.bin .Mod (.bin .Add (.bin .Mult (.item (.loc 0) (.cst (.int 2))) (.cst (.int 37))) (.cst (.int 11))) (.cst (.int 1009)))),.asg 2 (.p (.item (.loc 0) (.cst (.int 2))))]],
  .ret (.p (.bin .Mod (.loc 2) (.loc 1)))]
noncomputable def gY:List IS:=[
  .ret (.call (.glob (.glob A.cNode)) [(.p (.cst (.str (Str.ofString "block")))),(.p (.attr (.attr (.loc 0) .cC) .aJ)),(.p (.cst .none)),(.p (.lst []))])]
noncomputable def oV:List IS:=[
  .asg 3 (.call (.glob (.glob A.law_pick)) [(.p (.loc 0)),(.p (.cst (.int 10)))]),
  .augI (.p (.loc 1)) (.p (.cst (.str (Str.ofString "wide")))) .Add (.bin .Mult (.p (.cst (.str (Str.ofString " ")))) (.bin .Add (.p (.cst (.int 1))) (.call (.glob (.glob A.law_pick)) [(.p (.loc 0)),(.p (.cst (.int 2)))]))),
  .asg 4 (.p (.bi .len [(.item (.loc 1) (.cst (.str (Str.ofString "wide"))))])),
  .ite (.p (.cmp .Eq (.loc 3) (.cst (.int 9)))) [.unp [5,6,7] (.item (.p (.lst [(.tup [(.cst (.str (Str.ofString "\"ab\""))),(.cst (.int 0)),(.cst (.str (Str.ofString "")))]),(.tup [(.cst (.str (Str.ofString "TRUE"))),(.cst (.int 0)),(.cst (.str (Str.ofString "")))]),(.tup [(.cst (.str (Str.ofString "NIL"))),(.cst (.int 0)),(.cst (.str (Str.ofString "")))])])) (.call (.glob (.glob A.law_pick)) [(.p (.loc 0)),(.p (.cst (.int 3)))]))] [.ite (.p (.cmp .Eq (.cmp .Lt (.loc 3) (.cst (.int 8))) (.cmp .NotEq (.loc 2) (.cst (.str (Str.ofString "char")))))) [.asg 8 (.bin .Sub (.call (.glob (.glob A.law_pick)) [(.p (.loc 0)),(.p (.cst (.int 12)))]) (.p (.cst (.int 2)))),.swp [5,6,7] (.p (.tup [(.bi .str [(.loc 8)]),(.loc 8),(.cst (.str (Str.ofString "number")))]))] [.asg 8 (.bin .Add (.p (.cst (.int 65))) (.call (.glob (.glob A.law_pick)) [(.p (.loc 0)),(.p (.cst (.int 6)))])),.asg 5 (.item (.p (.lst [(.bin .Add (.bin .Add (.cst (.str (Str.ofString "\""))) (.bi .chr [(.loc 8)])) (.cst (.str (Str.ofString "\"")))),(.bin .Add (.bin .Add (.cst (.str (Str.ofString "4"))) (.bi .str [(.bin .Sub (.loc 8) (.cst (.int 64)))])) (.cst (.str (Str.ofString "X"))))])) (.call (.glob (.glob A.law_pick)) [(.p (.loc 0)),(.p (.cst (.int 2)))])),.swp [6,7] (.p (.tup [(.loc 8),(.cst (.str (Str.ofString "char")))]))]],
  .augI (.p (.loc 1)) (.p (.cst (.str (Str.ofString "wide")))) .Add (.p (.loc 5)),
  .ite (.p (.orE (.cmp .Eq (.loc 7) (.cst (.str (Str.ofString "")))) (.cmp .NotEq (.loc 7) (.dget [((Str.ofString "integer"),(Str.ofString "number")),((Str.ofString "byte"),(Str.ofString "number")),((Str.ofString "char"),(Str.ofString "char"))] (.loc 2) (.cst (.str (Str.ofString "none"))))))) [.expr (.meth (.p (.item (.loc 1) (.cst (.str (Str.ofString "marks"))))) .aP [(.p (.tup [(.loc 4),(.cst (.str (Str.ofString "label_type")))]))]),.ret (.p (.tup [(.loc 4),(.cst .none)]))] [],
  .ret (.p (.tup [(.loc 4),(.loc 6)]))]
noncomputable def oU:List IS:=[
  .unp [4,5] (.call (.glob (.glob A.law_label)) [(.p (.loc 0)),(.p (.loc 1)),(.p (.loc 2))]),
  .asg 6 (.p (.loc 5)),
  .ite (.cmp .Eq (.call (.glob (.glob A.law_pick)) [(.p (.loc 0)),(.p (.cst (.int 3)))]) (.p (.cst (.int 2)))) [.augI (.p (.loc 1)) (.p (.cst (.str (Str.ofString "wide")))) .Add (.p (.cst (.str (Str.ofString " ..")))),.unp [7,6] (.call (.glob (.glob A.law_label)) [(.p (.loc 0)),(.p (.loc 1)),(.p (.loc 2))])] [],
  .ite (.p (.orE (.cmp .Is (.loc 5) (.cst .none)) (.cmp .Is (.loc 6) (.cst .none)))) [.ret (.lstM [])] [],
  .ite (.p (.cmp .Gt (.loc 5) (.loc 6))) [.expr (.meth (.p (.item (.loc 1) (.cst (.str (Str.ofString "marks"))))) .aP [(.p (.tup [(.loc 4),(.cst (.str (Str.ofString "label_range")))]))]),.ret (.lstM [])] [],
  .for1 8 (.of (.p (.loc 3))) [.ite (.cmp .NotEq (.comp [8] [1] true [(.p (.loc 5)),(.p (.bin .Add (.loc 6) (.cst (.int 1))))] (some (.andE (.cmp .LtE (.item (.loc 0) (.cst (.int 0))) (.loc 1)) (.cmp .LtE (.loc 1) (.item (.loc 0) (.cst (.int 1)))))) (.cst (.int 1))) (.p (.lst []))) [.expr (.meth (.p (.item (.loc 1) (.cst (.str (Str.ofString "marks"))))) .aP [(.p (.tup [(.loc 4),(.cst (.str (Str.ofString "label_twice")))]))]),.ret (.lstM [])] []],
  .expr (.meth (.p (.loc 3)) .aP [(.p (.tup [(.loc 5),(.loc 6)]))]),
  .ret (.lstM [(.p (.tup [(.loc 5),(.loc 6)]))])]
noncomputable def aEB:List IS:=[
  .asg 1 (.call (.glob (.glob A.law_pool)) [(.p (.loc 0))]),
  .unp [2,3] (.item (.p (.lst [(.tup [(.cst (.str (Str.ofString "i"))),(.cst (.str (Str.ofString "integer")))]),(.tup [(.cst (.str (Str.ofString "c"))),(.cst (.str (Str.ofString "char")))]),(.tup [(.cst (.str (Str.ofString "b"))),(.cst (.str (Str.ofString "byte")))]),(.tup [(.cst (.str (Str.ofString "t"))),(.cst (.str (Str.ofString "boolean")))])])) (.bi .min [(.p (.cst (.int 3))),(.call (.glob (.glob A.law_pick)) [(.p (.loc 1)),(.p (.cst (.int 7)))])])),
  .asg 4 (.dictM [((Str.ofString "wide"),(.p (.bin .Add (.bin .Add (.cst (.str (Str.ofString "CASE "))) (.loc 2)) (.cst (.str (Str.ofString " OF")))))),((Str.ofString "marks"),(.lstM []))]),
  .ite (.p (.cmp .Eq (.loc 3) (.cst (.str (Str.ofString "boolean"))))) [.expr (.meth (.p (.item (.loc 4) (.cst (.str (Str.ofString "marks"))))) .aP [(.p (.tup [(.cst (.int 5)),(.cst (.str (Str.ofString "case_type")))]))])] [],
  .asg 5 (.lstM []),
  .asg 6 (.lstM []),
  .for1 7 (.range (.call (.glob (.glob A.law_pick)) [(.p (.loc 1)),(.p (.cst (.int 6)))])) [.ite (.p (.cmp .Gt (.loc 7) (.cst (.int 0)))) [.augI (.p (.loc 4)) (.p (.cst (.str (Str.ofString "wide")))) .Add (.p (.cst (.str (Str.ofString " |"))))] [],.asg 8 (.call (.glob (.glob A.law_pick)) [(.p (.loc 1)),(.p (.cst (.int 5)))]),.asg 9 (.lstM []),.for1 10 (.range (.p (.loc 8))) [.ite (.p (.cmp .Gt (.loc 10) (.cst (.int 0)))) [.augI (.p (.loc 4)) (.p (.cst (.str (Str.ofString "wide")))) .Add (.p (.cst (.str (Str.ofString ","))))] [],.augN 9 .Add (.call (.glob (.glob A.law_range)) [(.p (.loc 1)),(.p (.loc 4)),(.p (.loc 3)),(.p (.loc 5))])],.ite (.p (.cmp .Gt (.loc 8) (.cst (.int 0)))) [.augI (.p (.loc 4)) (.p (.cst (.str (Str.ofString "wide")))) .Add (.p (.cst (.str (Str.ofString " :")))),.expr (.meth (.p (.loc 6)) .aP [(.p (.loc 9))])] []],
  .asg 11 (.cmp .Eq (.call (.glob (.glob A.law_pick)) [(.p (.loc 1)),(.p (.cst (.int 2)))]) (.p (.cst (.int 1)))),
  .asg 12 (.bin .Mult (.p (.cst (.str (Str.ofString " ")))) (.call (.glob (.glob A.law_pick)) [(.p (.loc 1)),(.p (.cst (.int 3)))])),
  .asg 13 (.p (.bin .Add (.bin .Add (.bin .Add (.loc 12) (.item (.loc 4) (.cst (.str (Str.ofString "wide"))))) (.ite (.loc 11) (.cst (.str (Str.ofString " ELSE"))) (.cst (.str (Str.ofString ""))))) (.cst (.str (Str.ofString " END"))))),
  .asg 14 (.call (.glob (.glob A.cTypes)) []),
  .asg 15 (.call (.glob (.glob A.cErrorList)) []),
  .asg 16 (.call (.glob (.glob A.cReader)) [(.p (.loc 13)),(.p (.loc 14)),(.p (.loc 15))]),
  .expr (.meth (.p (.attr (.loc 16) .fB)) .aBC [(.p (.cst (.str (Str.ofString ""))))]),
  .forT [17,18] (.of (.p (.lst [(.tup [(.cst (.str (Str.ofString "i"))),(.attr (.loc 14) .bP)]),(.tup [(.cst (.str (Str.ofString "c"))),(.attr (.loc 14) .cO)]),(.tup [(.cst (.str (Str.ofString "b"))),(.attr (.loc 14) .tL)]),(.tup [(.cst (.str (Str.ofString "t"))),(.attr (.loc 14) .cZ)])]))) [.expr (.meth (.p (.attr (.loc 16) .fB)) .cV [(.p (.loc 17)),(.p (.cst (.str (Str.ofString "var")))),(.p (.loc 18)),(.p (.cst (.int 0)))])],
  .asg 19 (.call (.glob (.glob A.case_statement)) [(.p (.loc 16)),(.p (.glob (.glob A.law_statements)))]),
  .ite (.orE (.cmp .NotEq (.p (.attr (.loc 15) .tH)) (.comp [12] [1,2] false [(.p (.item (.loc 4) (.cst (.str (Str.ofString "marks")))))] none (.tup [(.bin .Add (.loc 1) (.bi .len [(.loc 0)])),(.loc 2)]))) (.notE (.meth (.p (.loc 16)) .a_at [(.p (.cst (.str (Str.ofString "eof"))))]))) [.ret (.p (.cst (.bool false)))] [],
  .unp [20,21] (.p (.attr (.loc 19) .aX)),
  .ite (.p (.orE (.cmp .NotEq (.tup [(.attr (.loc 19) .a_op),(.attr (.loc 19) .aJ),(.loc 21)]) (.tup [(.cst (.str (Str.ofString "case"))),(.bi .len [(.loc 12)]),(.loc 11)])) (.cmp .NotEq (.bi .len [(.attr (.loc 19) .lG)]) (.bin .Add (.bin .Add (.cst (.int 1)) (.bi .len [(.loc 6)])) (.ite (.loc 11) (.cst (.int 1)) (.cst (.int 0))))))) [.ret (.p (.cst (.bool false)))] [],
  .ret (.andE (.cmp .Eq (.comp [] [0] false [(.p (.loc 20))] none (.bi .list [(.loc 0)])) (.p (.loc 6))) (.p (.cmp .Eq (.attr (.item (.attr (.loc 19) .lG) (.cst (.int 0))) .aJ) (.bin .Add (.cst (.int 5)) (.bi .len [(.loc 12)])))))]
noncomputable def iG:List IS:=[
  .attr (.p (.loc 0)) .a_op (.p (.loc 1)),
  .attr (.p (.loc 0)) .aJ (.p (.loc 2)),
  .attr (.p (.loc 0)) .bT (.p (.loc 3)),
  .attr (.p (.loc 0)) .lG (.p (.loc 4)),
  .attr (.p (.loc 0)) .aX (.p (.loc 5)),
  .attr (.p (.loc 0)) .aFN (.p (.cst (.bool false)))]
noncomputable def gH:List IS:=[
  .attr (.p (.loc 0)) .tH (.lstM []),
  .attr (.p (.loc 0)) .nJ .dictI]
noncomputable def gG:List IS:=[
  .ite (.p (.cmp .NotIn (.loc 1) (.attr (.loc 0) .nJ))) [.item (.p (.attr (.loc 0) .nJ)) (.p (.loc 1)) (.p (.loc 2)),.expr (.meth (.p (.attr (.loc 0) .tH)) .aP [(.p (.tup [(.loc 1),(.loc 2)]))])] []]
noncomputable def kX:List IS:=[
  .attr (.p (.loc 0)) .bN (.p (.loc 1)),
  .attr (.p (.loc 0)) .aX (.p (.loc 2)),
  .attr (.p (.loc 0)) .aJ (.p (.loc 3))]
noncomputable def iY:List IS:=[
  .attr (.p (.loc 0)) .bW (.p (.loc 1)),
  .attr (.p (.loc 0)) .aM (.p (.loc 2)),
  .attr (.p (.loc 0)) .aJ (.p (.cst (.int 0))),
  .attr (.p (.loc 0)) .uZ (.call (.glob (.glob A.keywords)) [])]
noncomputable def eR:List IS:=[
  .ret (.p (.sliceFT (.attr (.loc 0) .bW) (.bin .Add (.attr (.loc 0) .aJ) (.loc 1)) (.bin .Add (.bin .Add (.attr (.loc 0) .aJ) (.loc 1)) (.cst (.int 1)))))]
noncomputable def iX:List IS:=[
  .while (.p (.cst (.bool true))) [.expr (.meth (.p (.loc 0)) .dE []),.asg 1 (.p (.attr (.loc 0) .aJ)),.asg 2 (.meth (.p (.loc 0)) .cO []),.ite (.p (.cmp .Eq (.loc 2) (.cst (.str (Str.ofString ""))))) [.ret (.call (.glob (.glob A.cToken)) [(.p (.cst (.str (Str.ofString "eof")))),(.p (.cst (.str (Str.ofString "")))),(.p (.loc 1))])] [],.ite (.call (.glob (.glob A.is_letter_scanner)) [(.p (.loc 2))]) [.ret (.meth (.p (.loc 0)) .aBA [(.p (.loc 1))])] [],.ite (.call (.glob (.glob A.is_digit)) [(.p (.loc 2))]) [.ret (.meth (.p (.loc 0)) .nK [(.p (.loc 1))])] [],.ite (.p (.cmp .Eq (.loc 2) (.cst (.str (Str.ofString "\""))))) [.ret (.meth (.p (.loc 0)) .iO [(.p (.loc 1))])] [],.asg 3 (.meth (.p (.loc 0)) .pP []),.ite (.p (.cmp .NotEq (.loc 3) (.cst (.str (Str.ofString ""))))) [.attr (.p (.loc 0)) .aJ (.p (.bin .Add (.loc 1) (.bi .len [(.loc 3)]))),.ret (.call (.glob (.glob A.cToken)) [(.p (.loc 3)),(.p (.cst (.str (Str.ofString "")))),(.p (.loc 1))])] [],.expr (.meth (.p (.attr (.loc 0) .aM)) .bO [(.p (.loc 1)),(.p (.cst (.str (Str.ofString "bad_character"))))]),.attr (.p (.loc 0)) .aJ (.p (.bin .Add (.loc 1) (.cst (.int 1))))]]
noncomputable def eQ:List IS:=[
  .while (.p (.cst (.bool true))) [.asg 1 (.meth (.p (.loc 0)) .cO []),.ite (.andE (.p (.cmp .Eq (.loc 1) (.cst (.str (Str.ofString "("))))) (.cmp .Eq (.meth (.p (.loc 0)) .cO [(.p (.cst (.int 1)))]) (.p (.cst (.str (Str.ofString "*")))))) [.expr (.meth (.p (.loc 0)) .pQ [])] [.ite (.p (.andE (.cmp .NotEq (.loc 1) (.cst (.str (Str.ofString "")))) (.cmp .LtE (.bi .ord [(.loc 1)]) (.cst (.int 32))))) [.attr (.p (.loc 0)) .aJ (.p (.bin .Add (.attr (.loc 0) .aJ) (.cst (.int 1))))] [.ret0]]]]
noncomputable def iW:List IS:=[
  .asg 2 (.p (.loc 1)),
  .while (.orE (.call (.glob (.glob A.is_letter_scanner)) [(.p (.sliceFT (.attr (.loc 0) .bW) (.loc 2) (.bin .Add (.loc 2) (.cst (.int 1)))))]) (.call (.glob (.glob A.is_digit)) [(.p (.sliceFT (.attr (.loc 0) .bW) (.loc 2) (.bin .Add (.loc 2) (.cst (.int 1)))))])) [.asg 2 (.p (.bin .Add (.loc 2) (.cst (.int 1))))],
  .attr (.p (.loc 0)) .aJ (.p (.loc 2)),
  .asg 3 (.p (.sliceFT (.attr (.loc 0) .bW) (.loc 1) (.loc 2))),
  .ite (.p (.cmp .In (.loc 3) (.attr (.loc 0) .uZ))) [.ret (.call (.glob (.glob A.cToken)) [(.p (.loc 3)),(.p (.cst (.str (Str.ofString "")))),(.p (.loc 1))])] [],
  .ret (.call (.glob (.glob A.cToken)) [(.p (.cst (.str (Str.ofString "ident")))),(.p (.loc 3)),(.p (.loc 1))])]
noncomputable def fP:List IS:=[
  .asg 2 (.p (.loc 1)),
  .while (.call (.glob (.glob A.is_hex_digit)) [(.p (.sliceFT (.attr (.loc 0) .bW) (.loc 2) (.bin .Add (.loc 2) (.cst (.int 1)))))]) [.asg 2 (.p (.bin .Add (.loc 2) (.cst (.int 1))))],
  .asg 3 (.p (.sliceFT (.attr (.loc 0) .bW) (.loc 1) (.loc 2))),
  .asg 4 (.p (.sliceFT (.attr (.loc 0) .bW) (.loc 2) (.bin .Add (.loc 2) (.cst (.int 1))))),
  .ite (.p (.orE (.cmp .Eq (.loc 4) (.cst (.str (Str.ofString "H")))) (.cmp .Eq (.loc 4) (.cst (.str (Str.ofString "X")))))) [.attr (.p (.loc 0)) .aJ (.p (.bin .Add (.loc 2) (.cst (.int 1)))),.ite (.p (.cmp .Eq (.loc 4) (.cst (.str (Str.ofString "H"))))) [.ret (.meth (.p (.loc 0)) .iP [(.p (.loc 1)),(.p (.loc 3))])] [],.ret (.meth (.p (.loc 0)) .mA [(.p (.loc 1)),(.p (.loc 3))])] [],
  .asg 2 (.p (.loc 1)),
  .while (.call (.glob (.glob A.is_digit)) [(.p (.sliceFT (.attr (.loc 0) .bW) (.loc 2) (.bin .Add (.loc 2) (.cst (.int 1)))))]) [.asg 2 (.p (.bin .Add (.loc 2) (.cst (.int 1))))],
  .attr (.p (.loc 0)) .aJ (.p (.loc 2)),
  .ite (.andE (.cmp .Eq (.meth (.p (.loc 0)) .cO []) (.p (.cst (.str (Str.ofString "."))))) (.cmp .NotEq (.meth (.p (.loc 0)) .cO [(.p (.cst (.int 1)))]) (.p (.cst (.str (Str.ofString ".")))))) [.ret (.meth (.p (.loc 0)) .aFP [(.p (.loc 1))])] [],
  .asg 5 (.call (.glob (.glob A.digits_value)) [(.p (.sliceFT (.attr (.loc 0) .bW) (.loc 1) (.loc 2))),(.p (.cst (.int 10))),(.p (.glob (.int 2147483647)))]),
  .ret (.meth (.p (.loc 0)) .aAh [(.p (.loc 1)),(.p (.loc 5)),(.p (.glob (.int 2147483647)))])]
noncomputable def gW:List IS:=[
  .ite (.p (.cmp .Gt (.loc 2) (.loc 3))) [.expr (.meth (.p (.attr (.loc 0) .aM)) .bO [(.p (.loc 1)),(.p (.cst (.str (Str.ofString "number_too_large"))))]),.asg 2 (.p (.cst (.int 0)))] [],
  .ret (.call (.glob (.glob A.cToken)) [(.p (.cst (.str (Str.ofString "int")))),(.p (.loc 2)),(.p (.loc 1))])]
noncomputable def eH:List IS:=[
  .asg 3 (.call (.glob (.glob A.digits_value)) [(.p (.loc 2)),(.p (.cst (.int 16))),(.p (.cst (.int 255)))]),
  .ite (.p (.cmp .Gt (.loc 3) (.cst (.int 255)))) [.expr (.meth (.p (.attr (.loc 0) .aM)) .bO [(.p (.loc 1)),(.p (.cst (.str (Str.ofString "bad_char"))))]),.asg 3 (.p (.cst (.int 0)))] [],
  .ret (.call (.glob (.glob A.cToken)) [(.p (.cst (.str (Str.ofString "string")))),(.p (.bi .chr [(.loc 3)])),(.p (.loc 1))])]
noncomputable def gF:List IS:=[
  .asg 2 (.lstM []),
  .attr (.p (.loc 0)) .aJ (.p (.bin .Add (.loc 1) (.cst (.int 1)))),
  .while (.cmp .NotEq (.meth (.p (.loc 0)) .cO []) (.p (.cst (.str (Str.ofString "\""))))) [.asg 3 (.meth (.p (.loc 0)) .cO []),.ite (.p (.orE (.cmp .Eq (.loc 3) (.cst (.str (Str.ofString "")))) (.cmp .Eq (.loc 3) (.cst (.str (Str.ofString "\n")))))) [.expr (.meth (.p (.attr (.loc 0) .aM)) .bO [(.p (.loc 1)),(.p (.cst (.str (Str.ofString "unfinished_string"))))]),.ret (.call (.glob (.glob A.cToken)) [(.p (.cst (.str (Str.ofString "string")))),(.meth (.p (.cst (.str (Str.ofString "")))) .tK [(.p (.loc 2))]),(.p (.loc 1))])] [],.ite (.p (.cmp .Gt (.bi .ord [(.loc 3)]) (.cst (.int 255)))) [.expr (.meth (.p (.attr (.loc 0) .aM)) .bO [(.p (.attr (.loc 0) .aJ)),(.p (.cst (.str (Str.ofString "bad_character"))))])] [.expr (.meth (.p (.loc 2)) .aP [(.p (.loc 3))])],.attr (.p (.loc 0)) .aJ (.p (.bin .Add (.attr (.loc 0) .aJ) (.cst (.int 1))))],
  .attr (.p (.loc 0)) .aJ (.p (.bin .Add (.attr (.loc 0) .aJ) (.cst (.int 1)))),
  .ret (.call (.glob (.glob A.cToken)) [(.p (.cst (.str (Str.ofString "string")))),(.meth (.p (.cst (.str (Str.ofString "")))) .tK [(.p (.loc 2))]),(.p (.loc 1))])]
noncomputable def gE:List IS:=[
  .asg 1 (.bin .Add (.meth (.p (.loc 0)) .cO []) (.meth (.p (.loc 0)) .cO [(.p (.cst (.int 1)))])),
  .ite (.p (.cmp .In (.loc 1) (.tup [(.cst (.str (Str.ofString ":="))),(.cst (.str (Str.ofString "<="))),(.cst (.str (Str.ofString ">="))),(.cst (.str (Str.ofString "..")))]))) [.ret (.p (.loc 1))] [],
  .ite (.cmp .In (.meth (.p (.loc 0)) .cO []) (.p (.cst (.str (Str.ofString "+-*/~&.,;|([{^=#<>:)]}"))))) [.ret (.meth (.p (.loc 0)) .cO [])] [],
  .ret (.p (.cst (.str (Str.ofString ""))))]
noncomputable def mM:List IS:=[
  .attr (.p (.loc 0)) .kQ (.p (.loc 1)),
  .attr (.p (.loc 0)) .eL (.p (.loc 2)),
  .attr (.p (.loc 0)) .aFO (.p (.loc 3)),
  .attr (.p (.loc 0)) .aBD (.p (.cst .none)),
  .attr (.p (.loc 0)) .pR (.p (.cst (.int 0))),
  .attr (.p (.loc 0)) .vF (.lstM []),
  .attr (.p (.loc 0)) .bS (.p (.cst (.int 0))),
  .attr (.p (.loc 0)) .vA (.lstM []),
  .attr (.p (.loc 0)) .cI (.p (.cst (.str (Str.ofString "")))),
  .attr (.p (.loc 0)) .lZ (.p (.cst (.str (Str.ofString "")))),
  .attr (.p (.loc 0)) .vE (.lstM []),
  .attr (.p (.loc 0)) .aFQ (.p (.cst (.int 0)))]
noncomputable def oT:List IS:=[
  .attr (.p (.loc 0)) .lF (.p (.loc 1)),
  .attr (.p (.loc 0)) .bN (.p (.loc 2)),
  .attr (.p (.loc 0)) .bT (.p (.loc 3)),
  .attr (.p (.loc 0)) .aJ (.p (.loc 4)),
  .attr (.p (.loc 0)) .oO (.p (.cst (.bool false))),
  .attr (.p (.loc 0)) .oL (.p (.cst (.bool false))),
  .attr (.p (.loc 0)) .bS (.p (.cst (.int 0))),
  .attr (.p (.loc 0)) .cI (.p (.cst (.str (Str.ofString "")))),
  .attr (.p (.loc 0)) .aX (.p (.cst .none)),
  .attr (.p (.loc 0)) .yC (.p (.cst (.int 0))),
  .attr (.p (.loc 0)) .vC (.p (.cst (.int 0))),
  .attr (.p (.loc 0)) .kQ (.p (.cst (.int 0))),
  .attr (.p (.loc 0)) .rL (.p (.cst (.bool false))),
  .attr (.p (.loc 0)) .hN (.p (.cst .none))]
noncomputable def kW:List IS:=[
  .attr (.p (.loc 0)) .kD (.p (.cst (.int 0))),
  .attr (.p (.loc 0)) .vD .dictS,
  .attr (.p (.loc 0)) .cZ (.meth (.p (.loc 0)) .rY [(.p (.cst (.str (Str.ofString "boolean")))),(.p (.cst (.int 1)))]),
  .attr (.p (.loc 0)) .cO (.meth (.p (.loc 0)) .rY [(.p (.cst (.str (Str.ofString "char")))),(.p (.cst (.int 1)))]),
  .attr (.p (.loc 0)) .tL (.meth (.p (.loc 0)) .rY [(.p (.cst (.str (Str.ofString "byte")))),(.p (.cst (.int 1)))]),
  .attr (.p (.loc 0)) .bP (.meth (.p (.loc 0)) .rY [(.p (.cst (.str (Str.ofString "integer")))),(.p (.cst (.int 4)))]),
  .attr (.p (.loc 0)) .yD (.meth (.p (.loc 0)) .rY [(.p (.cst (.str (Str.ofString "set")))),(.p (.cst (.int 4)))]),
  .attr (.p (.loc 0)) .a_nil (.meth (.p (.loc 0)) .rY [(.p (.cst (.str (Str.ofString "nil")))),(.p (.cst (.int 4)))]),
  .attr (.p (.loc 0)) .tJ (.meth (.p (.loc 0)) .rY [(.p (.cst (.str (Str.ofString "none")))),(.p (.cst (.int 0)))])]
noncomputable def iF:List IS:=[
  .augA (.p (.loc 0)) .kD .Add (.p (.cst (.int 1))),
  .asg 5 (.call (.glob (.glob A.cType)) [(.p (.attr (.loc 0) .kD)),(.p (.loc 1)),(.p (.loc 2))]),
  .attr (.p (.loc 5)) .cI (.p (.loc 3)),
  .attr (.p (.loc 5)) .lZ (.p (.loc 4)),
  .ite (.p (.cmp .NotEq (.loc 4) (.cst (.str (Str.ofString ""))))) [.item (.p (.attr (.loc 0) .vD)) (.p (.tup [(.loc 3),(.loc 4)])) (.p (.loc 5))] [],
  .ret (.p (.loc 5))]
noncomputable def iV:List IS:=[
  .asg 2 (.meth (.p (.loc 0)) .rY [(.p (.cst (.str (Str.ofString "string")))),(.p (.loc 1))]),
  .attr (.p (.loc 2)) .pR (.p (.loc 1)),
  .attr (.p (.loc 2)) .aBD (.p (.attr (.loc 0) .cO)),
  .ret (.p (.loc 2))]
noncomputable def kZ:List IS:=[
  .attr (.p (.loc 0)) .bS (.p (.loc 1)),
  .attr (.p (.loc 0)) .lZ (.p (.loc 2)),
  .attr (.p (.loc 0)) .lY .dictS,
  .attr (.p (.loc 0)) .vB (.lstM []),
  .attr (.p (.loc 0)) .lX (.p (.cst (.int 0)))]
noncomputable def jO:List IS:=[
  .attr (.p (.loc 0)) .bD (.p (.loc 1)),
  .attr (.p (.loc 0)) .cI (.p (.loc 2)),
  .attr (.p (.loc 0)) .oK (.lstM [(.call (.glob (.glob A.cScope)) [(.p (.neg 1)),(.p (.cst (.str (Str.ofString ""))))])]),
  .attr (.p (.loc 0)) .bS (.p (.neg 1))]
noncomputable def jN:List IS:=[
  .asg 2 (.call (.glob (.glob A.cScope)) [(.p (.bin .Add (.attr (.loc 0) .bS) (.cst (.int 1)))),(.p (.loc 1))]),
  .expr (.meth (.p (.attr (.loc 0) .oK)) .aP [(.p (.loc 2))]),
  .attr (.p (.loc 0)) .bS (.p (.attr (.loc 2) .bS)),
  .ret (.p (.loc 2))]
noncomputable def kY:List IS:=[
  .asg 2 (.p (.item (.attr (.loc 0) .oK) (.neg 1))),
  .ite (.p (.cmp .In (.attr (.loc 1) .lF) (.attr (.loc 2) .lY))) [.ret (.p (.cst (.bool false)))] [],
  .item (.p (.attr (.loc 2) .lY)) (.p (.attr (.loc 1) .lF)) (.p (.loc 1)),
  .expr (.meth (.p (.attr (.loc 2) .vB)) .aP [(.p (.loc 1))]),
  .ite (.p (.orE (.cmp .Eq (.attr (.loc 1) .bN) (.cst (.str (Str.ofString "var")))) (.cmp .Eq (.attr (.loc 1) .bN) (.cst (.str (Str.ofString "par")))))) [.attr (.p (.loc 1)) .yC (.p (.attr (.loc 2) .lX)),.augA (.p (.loc 2)) .lX .Add (.p (.cst (.int 1)))] [],
  .ret (.p (.cst (.bool true)))]
noncomputable def gV:List IS:=[
  .asg 5 (.call (.glob (.glob A.cObj)) [(.p (.loc 1)),(.p (.loc 2)),(.p (.loc 3)),(.p (.loc 4))]),
  .attr (.p (.loc 5)) .bS (.p (.bi .max [(.attr (.loc 0) .bS),(.cst (.int 0))])),
  .ite (.p (.cmp .GtE (.attr (.loc 0) .bS) (.cst (.int 0)))) [.attr (.p (.loc 5)) .cI (.p (.attr (.loc 0) .cI))] [],
  .ite (.notE (.meth (.p (.loc 0)) .a_add [(.p (.loc 5))])) [.ret (.p (.cst .none))] [],
  .ret (.p (.loc 5))]
noncomputable def jP:List IS:=[
  .for1 2 (.rev (.p (.attr (.loc 0) .oK))) [.ite (.p (.cmp .In (.loc 1) (.attr (.loc 2) .lY))) [.ret (.p (.item (.attr (.loc 2) .lY) (.loc 1)))] []],
  .ret (.p (.cst .none))]
noncomputable def fQ:List IS:=[
  .attr (.p (.loc 0)) .kC (.call (.glob (.glob A.cScanner)) [(.p (.loc 1)),(.p (.loc 3))]),
  .attr (.p (.loc 0)) .bD (.p (.loc 2)),
  .attr (.p (.loc 0)) .aM (.p (.loc 3)),
  .attr (.p (.loc 0)) .oM (.p (.loc 4)),
  .attr (.p (.loc 0)) .fB (.call (.glob (.glob A.cScopes)) [(.p (.loc 2)),(.p (.cst (.str (Str.ofString ""))))]),
  .expr (.call (.glob (.glob A.fill)) [(.p (.attr (.loc 0) .fB))]),
  .attr (.p (.loc 0)) .cI (.p (.cst (.str (Str.ofString "")))),
  .attr (.p (.loc 0)) .aAi (.lstM []),
  .attr (.p (.loc 0)) .rK (.lstM []),
  .attr (.p (.loc 0)) .oN (.lstM []),
  .attr (.p (.loc 0)) .bS (.p (.cst (.int 0))),
  .attr (.p (.loc 0)) .cC (.meth (.p (.attr (.loc 0) .kC)) .aBB [])]
noncomputable def jQ:List IS:=[
  .asg 1 (.p (.attr (.loc 0) .cC)),
  .attr (.p (.loc 0)) .cC (.meth (.p (.attr (.loc 0) .kC)) .aBB []),
  .ret (.p (.loc 1))]
noncomputable def mN:List IS:=[
  .ret (.p (.cmp .Eq (.attr (.attr (.loc 0) .cC) .bN) (.loc 1)))]
noncomputable def jR:List IS:=[
  .ite (.p (.cmp .NotEq (.attr (.attr (.loc 0) .cC) .bN) (.loc 1))) [.ret (.p (.cst (.bool false)))] [],
  .expr (.meth (.p (.loc 0)) .fZ []),
  .ret (.p (.cst (.bool true)))]
noncomputable def gX:List IS:=[
  .ite (.meth (.p (.loc 0)) .dE [(.p (.loc 1))]) [.ret (.p (.cst (.bool true)))] [],
  .asg 2 (.p (.loc 1)),
  .ite (.p (.cmp .Eq (.loc 1) (.cst (.str (Str.ofString "ident"))))) [.asg 2 (.p (.cst (.str (Str.ofString "identifier"))))] [],
  .expr (.meth (.p (.loc 0)) .bO [(.p (.bin .Add (.cst (.str (Str.ofString "expected "))) (.loc 2)))]),
  .ret (.p (.cst (.bool false)))]
noncomputable def jT:List IS:=[
  .expr (.meth (.p (.attr (.loc 0) .aM)) .bO [(.p (.attr (.attr (.loc 0) .cC) .aJ)),(.p (.loc 1))])]
noncomputable def jS:List IS:=[
  .ite (.meth (.p (.loc 0)) .a_at [(.p (.cst (.str (Str.ofString "ident"))))]) [.ret (.meth (.p (.loc 0)) .fZ [])] [],
  .expr (.meth (.p (.loc 0)) .bO [(.p (.cst (.str (Str.ofString "expected identifier"))))]),
  .ret (.p (.cst .none))]
noncomputable def constV:Value→Option V
  | .none=>some .none
  | .int i _=>some (.int i)
  | .str s _=>some (.str s)
  | _=>none
noncomputable def qW:List Value→Option (List V)
  | []=>some []
  | v :: r=>match constV v,qW r with
    | some x,some l=>some (x :: l)
    | _,_=>none
set_option tactic.hygienic true in
theorem lU {T:CT}:∀ (l:List Value) (vs:List V),qW l = some vs→∀ (h:Heap) (bad:List Addr) (ρ:List (Addr × Addr)),RepL T h bad ρ vs l
  | [],vs,e,h,bad,ρ=>by cases e; exact bE
  | v :: r,vs,e,h,bad,ρ=>by
    unfold qW at e
    split at e
    · rename_i x l hx hl
      cases e
      refine bB ?_ (lU r l hl h bad ρ)
      cases v <;> first | (cases hx; done) | (cases hx; rfl) | (cases hx; exact ⟨_,rfl⟩)
    · cases e
set_option tactic.hygienic true in
theorem sZ {K:Frag} {fd:FuncData} {items:Array Value} (h:lT K fd = some items):∃ d o n,fd.defaults = .ref d∧K.lookup d = some o∧o.data = .seq items n:=by
  unfold lT at h
  split at h
  · rename_i d hd
    split at h
    · rename_i n _ hk
      cases h
      exact ⟨d,_,n,hd,hk,rfl⟩
    · cases h
  · cases h
theorem gJ {K:Frag} {a:Addr} {np k:Nat} {ir:List IS} {dargs:List V} (h:(fnAt K a).any (fun fd=>eO K fd && iD fd && cL fd && (aN fd).length == np && (aV fd).length - (aN fd).length == k) = true)
    (hd:((fnAt K a).bind fun fd=>lT K fd).bind (fun its=>qW its.toList) = some dargs) (hir:(fnAt K a).map (fun fd=>fV ⟨K,aV fd,fd.scope.names⟩ fuel (dG fd)) = some ir):FnOk K a np k dargs ir:=by
  refine ⟨fun T hZ n args mem post St hl hw=>?_⟩
  cases hf:fnAt K a with
  | none=>rw [hf] at h; cases h
  | some fd =>
    rw [hf] at h hir hd
    simp only [Option.any_some,Bool.and_eq_true,beq_iff_eq] at h
    obtain ⟨⟨⟨⟨h1,h2⟩,h3⟩,h5⟩,h6⟩:=h
    simp only [Option.map_some,Option.some.injEq] at hir
    simp only [Option.bind_some] at hd
    refine e1a2 (Option.bind_eq_some_iff.mp hd) fun items hi hc=>?_
    refine e3a3 (sZ hi) fun d o nn e1 e2 e3=>?_
    refine e0a4 (eY h3) fun s1 s2 s3 s4=>?_
    have hnd:=(fF h1).2.2.2.2.2.2.2.2.1
    have hdl:=aK _ _ (lU (T:=T) items.toList dargs hc hZ [] [])
    rw [Array.length_toList] at hdl
    refine yN (dargs:=dargs) (dvals:=items.toList) St hf h1 h2 (lU _ _ hc) (by rw [h5]; exact hl) (fun s vals X hv=>?_) (by rw [h6,hir]; exact hw)
    exact xV s1 s2 s3 s4 e1 (X d o e2) e3 (by rw [hv,hdl,hl,h5]) ((List.nodup_append.mp hnd).1)
theorem kJ {K:Frag} {a:Addr} {np k:Nat} {ir:List IS} (h:(fnAt K a).any (fun fd=>eO K fd && iD fd && cL fd && (aN fd).length == np && (aV fd).length - (aN fd).length == k && (lT K fd).any (fun its=>decide (its.size ≤ np))) = true)
    (hir:(fnAt K a).map (fun fd=>fV ⟨K,aV fd,fd.scope.names⟩ fuel (dG fd)) = some ir):FnOk K a np k [] ir:=by
  refine ⟨fun T hZ n args mem post St hl hw=>?_⟩
  cases hf:fnAt K a with
  | none=>rw [hf] at h; cases h
  | some fd =>
    rw [hf] at h hir
    simp only [Option.any_some,Bool.and_eq_true,beq_iff_eq] at h
    obtain ⟨⟨⟨⟨⟨h1,h2⟩,h3⟩,h5⟩,h6⟩,h7⟩:=h
    simp only [Option.map_some,Option.some.injEq] at hir
    cases hi:lT K fd with
    | none=>rw [hi] at h7; cases h7
    | some items =>
      rw [hi] at h7
      have h8:items.size ≤ np:=by simpa using h7
      refine e3a3 (sZ hi) fun d o nn e1 e2 e3=>?_
      refine e0a4 (eY h3) fun s1 s2 s3 s4=>?_
      have hnd:=(fF h1).2.2.2.2.2.2.2.2.1
      refine yN (dargs:=[]) (dvals:=[]) St hf h1 h2 (fun _ _ _=>bE) (by rw [h5]; exact hl) (fun s vals X hv=>?_) (by rw [h6,hir]; exact hw)
      rw [List.append_nil]
      exact aCG s1 s2 s3 s4 e1 (X d o e2) e3 (by rw [hv,h5,← hl]; rfl) (by rw [h5]; exact h8) ((List.nodup_append.mp hnd).1)
noncomputable def lL:List (Str × NameKind)→Option Str
  | []=>none
  | (x,.cell) :: r=>if r.all (fun p=>!(p.2 == .cell)) then some x else none
  | _ :: r=>lL r
theorem lE:∀ (l:List (Str × NameKind)) (k:Nat) (acc:List (Str × Addr)),l.all (fun p=>!(p.2 == .cell)) = true→cellsFrom k l acc = acc
  | [],_,_,_=>rfl
  | (x,kd) :: r,k,acc,h=>by
    simp only [List.all_cons,Bool.and_eq_true,Bool.not_eq_true'] at h
    unfold cellsFrom
    rw [h.1,if_neg Bool.false_ne_true]
    exact lE r k acc h.2
set_option tactic.hygienic true in
theorem sN:∀ (l:List (Str × NameKind)) (x:Str),lL l = some x→(∀ k,cellsFrom k l [] = [(x,k)])∧∀ y,l.lookup y = some .cell→y = x
  | [],_,h=>by cases h
  | (y,kd) :: r,x,h=>by
    by_cases hk:kd = .cell
    · subst hk
      unfold lL at h
      split at h
      · rename_i hall
        cases h
        refine ⟨fun k=>?_,fun z hz=>?_⟩
        · unfold cellsFrom
          rw [if_pos (by rfl)]
          exact lE r _ _ hall
        · rw [List.lookup_cons] at hz
          by_cases q:z = y
          · exact q
          · rw [show (z == y) = false by simpa using q] at hz
            have:=List.all_eq_true.mp hall (z,.cell) (mem_of_lookup hz)
            simp at this
      · cases h
    · have h':lL r = some x:=by
        unfold lL at h
        split at h
        · rename_i q; cases q
        · rename_i q; cases q; exact absurd rfl hk
        · rename_i q; cases q; exact h
      obtain ⟨a,b⟩:=sN r x h'
      refine ⟨fun k=>?_,fun z hz=>?_⟩
      · unfold cellsFrom
        rw [if_neg (by simpa using hk)]
        exact a k
      · rw [List.lookup_cons] at hz
        by_cases q:z = y
        · subst q
          simp only [beq_self_eq_true,Option.some.injEq] at hz
          exact absurd hz hk
        · rw [show (z == y) = false by simpa using q] at hz
          exact b z hz
theorem sX {K:Frag} {a:Addr} {np k:Nat} {ir:List IS} (h:(fnAt K a).any (fun fd=>eO K fd && (lL fd.scope.names).isSome && cL fd && fG fd && (aN fd).length == np && (aV fd).length - (aN fd).length == k) = true)
    (hir:(fnAt K a).map (fun fd=>fV ⟨K,aV fd,fd.scope.names⟩ fuel (dG fd)) = some ir):FnOk K a np k [] ir:=by
  refine ⟨fun T hZ n args mem post St hl hw=>?_⟩
  cases hf:fnAt K a with
  | none=>rw [hf] at h; cases h
  | some fd =>
    rw [hf] at h hir
    simp only [Option.any_some,Bool.and_eq_true,beq_iff_eq] at h
    obtain ⟨⟨⟨⟨⟨h1,h2⟩,h3⟩,h4⟩,h5⟩,h6⟩:=h
    simp only [Option.map_some,Option.some.injEq] at hir
    obtain ⟨x,hx⟩:=Option.isSome_iff_exists.mp h2
    obtain ⟨c1,c2⟩:=sN _ _ hx
    refine e0a4 (eY h3) fun s1 s2 s3 s4=>?_
    have hnd:=(fF h1).2.2.2.2.2.2.2.2.1
    have hl':args.length = np:=by simpa using hl
    refine aDy St hf h1 c1 c2 (by rw [h5]; exact hl') (fun vals hv=>?_) (by rw [h6,hir]; simpa using hw)
    exact tG s1 s2 s3 s4 (by simpa [fG] using h4) (by rw [hv,h5,hl']) ((List.nodup_append.mp hnd).1)
noncomputable def uG (K:Frag) (c:Cls):Bool:=(meths c).all fun p=>(findIn K (.ref (addrOf c)) p.1.name == some (some (.ref p.2))) && isFn K (.ref p.2) && keepIn K (.ref p.2) && !(lay c).contains p.1
theorem zE {K:Frag} {c:Cls} (h:uG K c = true) (m:At) (f:Addr) (e:bM c m = some f):findIn K (.ref (addrOf c)) m.name = some (some (.ref f))∧isFn K (.ref f) = true∧keepIn K (.ref f) = true∧(lay c).contains m = false :=
  lookup_all (P:=fun m f=>findIn K (.ref (addrOf c)) m.name = some (some (.ref f))∧isFn K (.ref f) = true∧keepIn K (.ref f) = true∧(lay c).contains m = false) (meths c) (fun p hp=>by
    have z:=List.all_eq_true.mp h p hp
    simp only [Bool.and_eq_true,beq_iff_eq,Bool.not_eq_true'] at z
    exact ⟨z.1.1.1,z.1.1.2,z.1.2,z.2⟩) e
theorem funs_of {K:Frag} (h:(fnTab.all fun a=>keepIn K (.ref a)) = true) (g:Value) (e:isFun g = true):keepIn K g = true:=by
  cases g with
  | ref a=>exact List.all_eq_true.mp h a (List.elem_iff.mp e)
  | _=>exact ff e
structure Facts (K:Frag):Prop where
  ok_const:FnOk K 50 3 0 [] aAN
  ok_is_integer:FnOk K 85 1 0 [] mP
  ok_is_const_checkops:FnOk K 337 1 0 [] eW
  ok_fits:FnOk K 267 1 0 [] aEC
  ok_checked:FnOk K 274 1 0 [] sU
  ok_fold_unary:FnOk K 281 2 0 [] mQ
  ok_unary:FnOk K 351 5 1 [] aAM
  ok_unary_node:FnOk K 358 5 2 [] mL
  ok_qualident:FnOk K 601 1 4 [] oS
  ok_object_node:FnOk K 608 3 0 [] kU
  ok_variable_node:FnOk K 615 2 1 [] iT
  ok_designator:FnOk K 622 2 3 [] mT
  ok_selectors:FnOk K 629 3 2 [] oR
  ok_expression:FnOk K 643 1 2 [] mR
  ok_simple_expression:FnOk K 657 1 2 [] eU
  ok_term:FnOk K 664 1 2 [] aEA
  ok_factor:FnOk K 671 1 3 [] wR
  ok_named_factor:FnOk K 678 1 2 [] fO
  ok_const_expression:FnOk K 727 1 1 [] fR
  ok_case_statement:FnOk K 741 2 3 [] gZ
  ok_is_type_subject:FnOk K 748 1 0 [] gI
  ok_else_block:FnOk K 755 3 1 [] mS
  ok_at_labels:FnOk K 762 1 0 [] oW
  ok_label_value:FnOk K 769 2 2 [] eA
  ok_label_range:FnOk K 776 3 4 [] lA
  ok_label_list:FnOk K 783 3 3 [] mO
  ok_value_cases:FnOk K 790 4 5 [] kT
  ok_keywords:FnOk K 881 0 0 [] qN
  ok_is_letter_scanner:FnOk K 888 1 0 [] eV
  ok_is_digit:FnOk K 895 1 0 [] qO
  ok_is_hex_digit:FnOk K 902 1 0 [] jU
  ok_digits_value:FnOk K 909 3 2 [] jV
  ok_std_functions:FnOk K 1191 0 0 [] iU
  ok_std_procedures:FnOk K 1198 0 0 [] gU
  ok_fill:FnOk K 1205 1 2 [] aED
  ok_law_pool:FnOk K 1283 1 6 [] qM
  ok_law_pick:FnOk K 1290 2 1 [] lQ
  ok_law_statements:FnOk K 1297 1 0 [] gY
  ok_law_label:FnOk K 1304 3 6 [] oV
  ok_law_range:FnOk K 1309 4 5 [] oU
  ok_law:FnOk K 1314 1 21 [] aEB
  ok_mNode_init_d:FnOk K 36 6 0 [.none] iG
  ok_mNode_init:FnOk K 36 6 0 [] iG
  ok_mErrorList_init:FnOk K 825 1 0 [] gH
  ok_mErrorList_mark:FnOk K 832 3 0 [] gG
  ok_mToken_init:FnOk K 867 4 0 [] kX
  ok_mScanner_init:FnOk K 923 3 0 [] iY
  ok_mScanner_char_d:FnOk K 931 2 0 [.int 0] eR
  ok_mScanner_char:FnOk K 931 2 0 [] eR
  ok_mScanner_take:FnOk K 938 1 3 [] iX
  ok_mScanner_skip:FnOk K 945 1 1 [] eQ
  ok_mScanner_word:FnOk K 959 2 2 [] iW
  ok_mScanner_numeral:FnOk K 966 2 4 [] fP
  ok_mScanner_whole:FnOk K 973 4 0 [] gW
  ok_mScanner_character:FnOk K 987 3 1 [] eH
  ok_mScanner_string:FnOk K 1008 2 2 [] gF
  ok_mScanner_symbol:FnOk K 1015 1 1 [] gE
  ok_mType_init:FnOk K 1036 4 0 [] mM
  ok_mObj_init:FnOk K 1057 5 0 [] oT
  ok_mTypes_init:FnOk K 1078 1 0 [] kW
  ok_mTypes_new_d:FnOk K 1086 5 1 [.str (Str.ofString ""),.str (Str.ofString "")] iF
  ok_mTypes_new:FnOk K 1086 5 1 [] iF
  ok_mTypes_string:FnOk K 1093 2 1 [] iV
  ok_mScope_init:FnOk K 1114 3 0 [] kZ
  ok_mScopes_init:FnOk K 1135 3 0 [] jO
  ok_mScopes_open:FnOk K 1142 2 1 [] jN
  ok_mScopes_add:FnOk K 1163 2 1 [] kY
  ok_mScopes_insert:FnOk K 1170 5 1 [] gV
  ok_mScopes_find:FnOk K 1177 2 1 [] jP
  ok_mReader_init_d:FnOk K 1220 5 0 [.none] fQ
  ok_mReader_init:FnOk K 1220 5 0 [] fQ
  ok_mReader_step:FnOk K 1227 1 1 [] jQ
  ok_mReader_at:FnOk K 1234 2 0 [] mN
  ok_mReader_skip:FnOk K 1241 2 0 [] jR
  ok_mReader_expect:FnOk K 1248 2 1 [] gX
  ok_mReader_mark:FnOk K 1255 2 0 [] jT
  ok_mReader_name:FnOk K 1262 1 0 [] jS
  mk_node:cF K .node 36 = true
  mk_token:cF K .token 867 = true
  mk_type:cF K .type 1036 = true
  mk_obj:cF K .obj 1057 = true
  mk_types:cF K .types 1078 = true
  mk_scope:cF K .scope 1114 = true
  mk_scopes:cF K .scopes 1135 = true
  mk_reader:cF K .reader 1220 = true
  mk_errors:cF K .errors 825 = true
  mk_scanner:cF K .scanner 923 = true
  fine:∀ c,lW K (addrOf c) (lay c) = true
  meth:∀ c,uG K c = true
  funs:(fnTab.all fun a=>keepIn K (.ref a)) = true
noncomputable def asL:List Addr:=[3,29,35,36,38,39,49,50,57,84,85,266,267,273,274,280,281,336,337,350,351,357,358,600,601,607,608,614,615,621,622,628,629,642,643,656,657,663,664,670,671,677,678,726,727,740,741,747,748,754,755,761,762,768,769,775,776,782,783,789,790,824,825,831,832,848,849,866,867,869,870,880,881,887,888,894,895,901,902,908,909,922,923,924,930,931,937,938,944,945,952,958,959,965,966,972,973,980,986,987,994,1001,1007,1008,1014,1015,1017,1018,1035,1036,1038,1039,1056,1057,1059,1060,1077,1078,1079,1085,1086,1092,1093,1095,1096,1113,1114,1116,1117,1134,1135,1141,1142,1156,1162,1163,1169,1170,1176,1177,1179,1180,1190,1191,1197,1198,1204,1205,1213,1219,1220,1226,1227,1233,1234,1240,1241,1247,1248,1254,1255,1261,1262,1271,1272,1282,1283,1289,1290,1296,1297,1303,1304,1308,1309,1313,1314]
noncomputable def qR (as:List Addr) (h:Heap):Frag:=as.filterMap fun a=>(h.get? a).map fun o=>(a,o)
theorem qQ (h:Heap):∀ as:List Addr,(qR as h).In h
  | [],a,o,e=>by cases e
  | b :: as,a,o,e=>by
    unfold qR at e
    rw [List.filterMap_cons] at e
    cases hb:h.get? b with
    | none=>rw [hb] at e; exact qQ h as a o e
    | some x =>
      rw [hb] at e
      simp only [Option.map_some] at e
      rw [List.lookup_cons] at e
      by_cases q:a = b
      · subst q; simp only [beq_self_eq_true,Option.some.injEq] at e; rw [hb,e]
      · rw [show (a == b) = false by simpa using q] at e
        exact qQ h as a o e
noncomputable def chkP (K:Frag) (x:Nat × Nat × Nat):Bool:=(fnAt K x.1).any (fun fd=>eO K fd && iD fd && cL fd && fG fd && (aN fd).length == x.2.1 && (aV fd).length - (aN fd).length == x.2.2)
noncomputable def chkD (K:Frag) (x:Nat × Nat × Nat):Bool:=(fnAt K x.1).any (fun fd=>eO K fd && iD fd && cL fd && (aN fd).length == x.2.1 && (aV fd).length - (aN fd).length == x.2.2)
noncomputable def chkG (K:Frag) (x:Nat × Nat × Nat):Bool:=(fnAt K x.1).any (fun fd=>eO K fd && iD fd && cL fd && (aN fd).length == x.2.1 && (aV fd).length - (aN fd).length == x.2.2 && (lT K fd).any (fun its=>decide (its.size ≤ x.2.1)))
noncomputable def chkC (K:Frag) (x:Nat × Nat × Nat):Bool:=(fnAt K x.1).any (fun fd=>eO K fd && (lL fd.scope.names).isSome && cL fd && fG fd && (aN fd).length == x.2.1 && (aV fd).length - (aN fd).length == x.2.2)
noncomputable def irOf (K:Frag) (a:Addr):Option (List IS):=(fnAt K a).map (fun fd=>fV ⟨K,aV fd,fd.scope.names⟩ fuel (dG fd))
noncomputable def dfOf (K:Frag) (a:Addr):Option (List V):=((fnAt K a).bind fun fd=>lT K fd).bind (fun its=>qW its.toList)
noncomputable def rowsP:List (Nat × Nat × Nat):=[(50,3,0),(85,1,0),(337,1,0),(267,1,0),(274,1,0),(281,2,0),(351,5,1),(358,5,2),(601,1,4),(608,3,0),(615,2,1),(622,2,3),(629,3,2),(643,1,2),(657,1,2),(664,1,2),(671,1,3),(678,1,2),(727,1,1),(741,2,3),(748,1,0),(755,3,1),(762,1,0),(769,2,2),(776,3,4),(783,3,3),(790,4,5),(881,0,0),(888,1,0),(895,1,0),(902,1,0),(909,3,2),(1191,0,0),(1198,0,0),(1205,1,2),(1283,1,6),(1290,2,1),(1297,1,0),(1304,3,6),(825,1,0),(832,3,0),(867,4,0),(923,3,0),(938,1,3),(945,1,1),(959,2,2),(966,2,4),(973,4,0),(987,3,1),(1008,2,2),(1015,1,1),(1036,4,0),(1057,5,0),(1078,1,0),(1093,2,1),(1114,3,0),(1135,3,0),(1142,2,1),(1163,2,1),(1170,5,1),(1177,2,1),(1227,1,1),(1234,2,0),(1241,2,0),(1248,2,1),(1255,2,0),(1262,1,0)]
noncomputable def vW:List (Nat × Nat × Nat):=[(36,6,0),(931,2,0),(1086,5,1),(1220,5,0)]
noncomputable def rowsG:List (Nat × Nat × Nat):=[(36,6,0),(931,2,0),(1086,5,1),(1220,5,0)]
noncomputable def rowsC:List (Nat × Nat × Nat):=[(1309,4,5),(1314,1,21)]
noncomputable def irAt:List Addr:=[1314,50,85,337,267,274,281,351,358,601,608,615,622,629,643,657,664,671,678,727,741,748,755,762,769,776,783,790,881,888,895,902,909,1191,1198,1205,1283,1290,1297,1304,1309,36,825,832,867,923,931,938,945,959,966,973,987,1008,1015,1036,1057,1078,1086,1093,1114,1135,1142,1163,1170,1177,1220,1227,1234,1241,1248,1255,1262]
noncomputable def hA:List (Option (List IS)):=[some aEB,some aAN,some mP,some eW,some aEC,some sU,some mQ,some aAM,some mL,some oS,some kU,some iT,some mT,some oR,some mR,some eU,some aEA,some wR,some fO,some fR,some gZ,some gI,some mS,some oW,some eA,some lA,some mO,some kT,some qN,some eV,some qO,some jU,some jV,some iU,some gU,some aED,some qM,some lQ,some gY,some oV,some oU,some iG,some gH,some gG,some kX,some iY,some eR,some iX,some eQ,some iW,some fP,some gW,some eH,some gF,some gE,some mM,some oT,some kW,some iF,some iV,some kZ,some jO,some jN,some kY,some gV,some jP,some fQ,some jQ,some mN,some jR,some gX,some jT,some jS]
noncomputable def mW:List (Option (List V)):=[some [.none],some [.int 0],some [.str (Str.ofString ""),.str (Str.ofString "")],some [.none]]
noncomputable def rowsM:List (Cls × Addr):=[(.node,36),(.token,867),(.type,1036),(.obj,1057),(.types,1078),(.scope,1114),(.scopes,1135),(.reader,1220),(.errors,825),(.scanner,923)]
noncomputable def aFC:List Cls:=[.node,.types,.type,.obj,.scope,.scopes,.reader,.errors,.token,.scanner]
noncomputable def tA (K:Frag):Bool:=(nsIn K mainGlobals "law" == some (some (.ref 1314))) && (rowsP.all (chkP K) && (vW.all (chkD K) && (rowsG.all (chkG K) && (rowsC.all (chkC K) && ((rowsM.all fun x=>cF K x.1 x.2) && ((aFC.all fun c=>lW K (addrOf c) (lay c)) && ((aFC.all fun c=>uG K c) && (fnTab.all fun a=>keepIn K (.ref a)))))))))
noncomputable def obsK (K:Frag):Bool × List (Option (List IS)) × List (Option (List V)):=(tA K,irAt.map (irOf K),(vW.map (·.1)).map (dfOf K))
theorem aFB (c:Cls):c ∈ aFC:=by cases c <;> decide
theorem law_of {K:Frag} (h:obsK K = (true,hA,mW)):nsIn K mainGlobals "law" = some (some (.ref 1314)):=by
  unfold obsK at h
  simp only [Prod.mk.injEq] at h
  obtain ⟨h1,_⟩:=h
  unfold tA at h1
  simp only [Bool.and_eq_true,beq_iff_eq] at h1
  exact h1.1
theorem ia {K:Frag} {a:Addr} {v:Option (List IS)} (k:Nat) (h2:irAt.map (irOf K) = hA) (ha:irAt[k]? = some a) (hv:hA[k]? = some v):irOf K a = v:=by
  have h:=congrArg (fun l=>l[k]?) h2
  simp only [List.getElem?_map,ha,hv] at h
  exact Option.some.inj h
theorem da {K:Frag} {a:Addr} {v:Option (List V)} (k:Nat) (h2:(vW.map (·.1)).map (dfOf K) = mW) (ha:(vW.map (·.1))[k]? = some a) (hv:mW[k]? = some v):dfOf K a = v:=by
  have h:=congrArg (fun l=>l[k]?) h2
  rw [List.getElem?_map,ha,hv] at h
  exact Option.some.inj h
theorem aDV {K:Frag} (h:obsK K = (true,hA,mW)):tA K = true∧irAt.map (irOf K) = hA∧(vW.map (·.1)).map (dfOf K) = mW:=⟨congrArg (·.1) h,congrArg (·.2.1) h,congrArg (·.2.2) h⟩
theorem facts_of {K:Frag} (h:obsK K = (true,hA,mW)):Facts K:=by
  refine e0a3 (aDV h) fun h1 h2 h3=>?_
  unfold tA at h1
  simp only [Bool.and_eq_true] at h1
  refine e0a9 h1 fun hL hP hD hG hC hM hF hT hU=>?_
  rw [List.all_eq_true] at hP hD hG hC hM hF hT
  exact {
    ok_const:=aB (hP (50,3,0) (by decide)) (ia 1 h2 rfl rfl)
    ok_is_integer:=aB (hP (85,1,0) (by decide)) (ia 2 h2 rfl rfl)
    ok_is_const_checkops:=aB (hP (337,1,0) (by decide)) (ia 3 h2 rfl rfl)
    ok_fits:=aB (hP (267,1,0) (by decide)) (ia 4 h2 rfl rfl)
    ok_checked:=aB (hP (274,1,0) (by decide)) (ia 5 h2 rfl rfl)
    ok_fold_unary:=aB (hP (281,2,0) (by decide)) (ia 6 h2 rfl rfl)
    ok_unary:=aB (hP (351,5,1) (by decide)) (ia 7 h2 rfl rfl)
    ok_unary_node:=aB (hP (358,5,2) (by decide)) (ia 8 h2 rfl rfl)
    ok_qualident:=aB (hP (601,1,4) (by decide)) (ia 9 h2 rfl rfl)
    ok_object_node:=aB (hP (608,3,0) (by decide)) (ia 10 h2 rfl rfl)
    ok_variable_node:=aB (hP (615,2,1) (by decide)) (ia 11 h2 rfl rfl)
    ok_designator:=aB (hP (622,2,3) (by decide)) (ia 12 h2 rfl rfl)
    ok_selectors:=aB (hP (629,3,2) (by decide)) (ia 13 h2 rfl rfl)
    ok_expression:=aB (hP (643,1,2) (by decide)) (ia 14 h2 rfl rfl)
    ok_simple_expression:=aB (hP (657,1,2) (by decide)) (ia 15 h2 rfl rfl)
    ok_term:=aB (hP (664,1,2) (by decide)) (ia 16 h2 rfl rfl)
    ok_factor:=aB (hP (671,1,3) (by decide)) (ia 17 h2 rfl rfl)
    ok_named_factor:=aB (hP (678,1,2) (by decide)) (ia 18 h2 rfl rfl)
    ok_const_expression:=aB (hP (727,1,1) (by decide)) (ia 19 h2 rfl rfl)
    ok_case_statement:=aB (hP (741,2,3) (by decide)) (ia 20 h2 rfl rfl)
    ok_is_type_subject:=aB (hP (748,1,0) (by decide)) (ia 21 h2 rfl rfl)
    ok_else_block:=aB (hP (755,3,1) (by decide)) (ia 22 h2 rfl rfl)
    ok_at_labels:=aB (hP (762,1,0) (by decide)) (ia 23 h2 rfl rfl)
    ok_label_value:=aB (hP (769,2,2) (by decide)) (ia 24 h2 rfl rfl)
    ok_label_range:=aB (hP (776,3,4) (by decide)) (ia 25 h2 rfl rfl)
    ok_label_list:=aB (hP (783,3,3) (by decide)) (ia 26 h2 rfl rfl)
    ok_value_cases:=aB (hP (790,4,5) (by decide)) (ia 27 h2 rfl rfl)
    ok_keywords:=aB (hP (881,0,0) (by decide)) (ia 28 h2 rfl rfl)
    ok_is_letter_scanner:=aB (hP (888,1,0) (by decide)) (ia 29 h2 rfl rfl)
    ok_is_digit:=aB (hP (895,1,0) (by decide)) (ia 30 h2 rfl rfl)
    ok_is_hex_digit:=aB (hP (902,1,0) (by decide)) (ia 31 h2 rfl rfl)
    ok_digits_value:=aB (hP (909,3,2) (by decide)) (ia 32 h2 rfl rfl)
    ok_std_functions:=aB (hP (1191,0,0) (by decide)) (ia 33 h2 rfl rfl)
    ok_std_procedures:=aB (hP (1198,0,0) (by decide)) (ia 34 h2 rfl rfl)
    ok_fill:=aB (hP (1205,1,2) (by decide)) (ia 35 h2 rfl rfl)
    ok_law_pool:=aB (hP (1283,1,6) (by decide)) (ia 36 h2 rfl rfl)
    ok_law_pick:=aB (hP (1290,2,1) (by decide)) (ia 37 h2 rfl rfl)
    ok_law_statements:=aB (hP (1297,1,0) (by decide)) (ia 38 h2 rfl rfl)
    ok_law_label:=aB (hP (1304,3,6) (by decide)) (ia 39 h2 rfl rfl)
    ok_law:=sX (hC (1314,1,21) (by decide)) (ia 0 h2 rfl rfl)
    ok_law_range:=sX (hC (1309,4,5) (by decide)) (ia 40 h2 rfl rfl)
    ok_mNode_init_d:=gJ (hD (36,6,0) (by decide)) (da 0 h3 rfl rfl) (ia 41 h2 rfl rfl)
    ok_mNode_init:=kJ (hG (36,6,0) (by decide)) (ia 41 h2 rfl rfl)
    ok_mErrorList_init:=aB (hP (825,1,0) (by decide)) (ia 42 h2 rfl rfl)
    ok_mErrorList_mark:=aB (hP (832,3,0) (by decide)) (ia 43 h2 rfl rfl)
    ok_mToken_init:=aB (hP (867,4,0) (by decide)) (ia 44 h2 rfl rfl)
    ok_mScanner_init:=aB (hP (923,3,0) (by decide)) (ia 45 h2 rfl rfl)
    ok_mScanner_char_d:=gJ (hD (931,2,0) (by decide)) (da 1 h3 rfl rfl) (ia 46 h2 rfl rfl)
    ok_mScanner_char:=kJ (hG (931,2,0) (by decide)) (ia 46 h2 rfl rfl)
    ok_mScanner_take:=aB (hP (938,1,3) (by decide)) (ia 47 h2 rfl rfl)
    ok_mScanner_skip:=aB (hP (945,1,1) (by decide)) (ia 48 h2 rfl rfl)
    ok_mScanner_word:=aB (hP (959,2,2) (by decide)) (ia 49 h2 rfl rfl)
    ok_mScanner_numeral:=aB (hP (966,2,4) (by decide)) (ia 50 h2 rfl rfl)
    ok_mScanner_whole:=aB (hP (973,4,0) (by decide)) (ia 51 h2 rfl rfl)
    ok_mScanner_character:=aB (hP (987,3,1) (by decide)) (ia 52 h2 rfl rfl)
    ok_mScanner_string:=aB (hP (1008,2,2) (by decide)) (ia 53 h2 rfl rfl)
    ok_mScanner_symbol:=aB (hP (1015,1,1) (by decide)) (ia 54 h2 rfl rfl)
    ok_mType_init:=aB (hP (1036,4,0) (by decide)) (ia 55 h2 rfl rfl)
    ok_mObj_init:=aB (hP (1057,5,0) (by decide)) (ia 56 h2 rfl rfl)
    ok_mTypes_init:=aB (hP (1078,1,0) (by decide)) (ia 57 h2 rfl rfl)
    ok_mTypes_new_d:=gJ (hD (1086,5,1) (by decide)) (da 2 h3 rfl rfl) (ia 58 h2 rfl rfl)
    ok_mTypes_new:=kJ (hG (1086,5,1) (by decide)) (ia 58 h2 rfl rfl)
    ok_mTypes_string:=aB (hP (1093,2,1) (by decide)) (ia 59 h2 rfl rfl)
    ok_mScope_init:=aB (hP (1114,3,0) (by decide)) (ia 60 h2 rfl rfl)
    ok_mScopes_init:=aB (hP (1135,3,0) (by decide)) (ia 61 h2 rfl rfl)
    ok_mScopes_open:=aB (hP (1142,2,1) (by decide)) (ia 62 h2 rfl rfl)
    ok_mScopes_add:=aB (hP (1163,2,1) (by decide)) (ia 63 h2 rfl rfl)
    ok_mScopes_insert:=aB (hP (1170,5,1) (by decide)) (ia 64 h2 rfl rfl)
    ok_mScopes_find:=aB (hP (1177,2,1) (by decide)) (ia 65 h2 rfl rfl)
    ok_mReader_init_d:=gJ (hD (1220,5,0) (by decide)) (da 3 h3 rfl rfl) (ia 66 h2 rfl rfl)
    ok_mReader_init:=kJ (hG (1220,5,0) (by decide)) (ia 66 h2 rfl rfl)
    ok_mReader_step:=aB (hP (1227,1,1) (by decide)) (ia 67 h2 rfl rfl)
    ok_mReader_at:=aB (hP (1234,2,0) (by decide)) (ia 68 h2 rfl rfl)
    ok_mReader_skip:=aB (hP (1241,2,0) (by decide)) (ia 69 h2 rfl rfl)
    ok_mReader_expect:=aB (hP (1248,2,1) (by decide)) (ia 70 h2 rfl rfl)
    ok_mReader_mark:=aB (hP (1255,2,0) (by decide)) (ia 71 h2 rfl rfl)
    ok_mReader_name:=aB (hP (1262,1,0) (by decide)) (ia 72 h2 rfl rfl)
    mk_node:=hM (.node,36) (by decide)
    mk_token:=hM (.token,867) (by decide)
    mk_type:=hM (.type,1036) (by decide)
    mk_obj:=hM (.obj,1057) (by decide)
    mk_types:=hM (.types,1078) (by decide)
    mk_scope:=hM (.scope,1114) (by decide)
    mk_scopes:=hM (.scopes,1135) (by decide)
    mk_reader:=hM (.reader,1220) (by decide)
    mk_errors:=hM (.errors,825) (by decide)
    mk_scanner:=hM (.scanner,923) (by decide)
    fine:=fun c=>hF c (aFB c)
    meth:=fun c=>hT c (aFB c)
    funs:=hU }
theorem abs_at {t:BT} {n:Nat} {l:Life} {a:Nat}:(absHeap t n l).get? a = if a < n then alive ((t.get a).getD default) else none:=by
  unfold Heap.get?
  rw [absHeap_at]
  by_cases h:a < n
  · rw [if_pos h,if_pos h]
    generalize (t.get a).getD default = o
    show (match some o with | some ⟨_,_,.freed,_⟩=>none | o=>o) = alive o
    obtain ⟨c,d,dt,sl⟩:=o
    cases dt <;> rfl
  · rw [if_neg h,if_neg h]
noncomputable def lS (s:SharedT):Frag:=asL.filterMap fun a=>(if a < s.n then alive ((s.tree.get a).getD default) else none).map fun o=>(a,o)
theorem fragT_eq (s:SharedT):qR asL s.abs.heap = lS s:=by
  unfold qR lS SharedT.abs
  simp only [abs_at]
set_option maxHeartbeats 0 in
theorem runs3 (w:World) (os:OsState):(ran w os).map (fun s=>tA (lS s)) = some true:=by
  kernel_rfl
set_option maxHeartbeats 0 in
theorem runs4 (w:World) (os:OsState):(ran w os).map (fun s=>(irAt.take 36).map (irOf (lS s))) = some (hA.take 36):=by
  kernel_rfl
set_option maxHeartbeats 0 in
theorem runs5 (w:World) (os:OsState):(ran w os).map (fun s=>((irAt.drop 36).map (irOf (lS s)),(vW.map (·.1)).map (dfOf (lS s)))) = some (hA.drop 36,mW):=by
  kernel_rfl
theorem yrs (w:World) (os:OsState):(ran w os).map (fun s=>obsK (qR asL s.abs.heap)) = some (true,hA,mW):=by
  obtain ⟨s,r,l⟩:=Option.map_eq_some_iff.mp (runs3 w os)
  have l4:=runs4 w os
  have l5:=runs5 w os
  rw [r] at l4 l5 ⊢
  have m4:(irAt.take 36).map (irOf (lS s)) = hA.take 36:=Option.some.inj l4
  have m5:((irAt.drop 36).map (irOf (lS s)),(vW.map (·.1)).map (dfOf (lS s))) = (hA.drop 36,mW):=Option.some.inj l5
  have m6:(irAt.drop 36).map (irOf (lS s)) = hA.drop 36:=congrArg Prod.fst m5
  have m7:(vW.map (·.1)).map (dfOf (lS s)) = mW:=congrArg Prod.snd m5
  have l6:irAt.map (irOf (lS s)) = hA:=by
    have q:(irAt.take 36).map (irOf (lS s)) ++ (irAt.drop 36).map (irOf (lS s)) = hA.take 36 ++ hA.drop 36:=by rw [m4,m6]
    rwa [← List.map_append,List.take_append_drop,List.take_append_drop] at q
  refine congrArg some (?_:obsK (qR asL s.abs.heap) = _)
  rw [fragT_eq]
  unfold obsK
  rw [l6,m7,show tA (lS s) = true from l]
theorem left0:LeftO pw qL aEh (fun _=>true) (fun s=>obsK (qR asL s.heap)) (fun _=>(true,hA,mW)) 20000 :=
  zJ (M:=10000) opens boot0 (by rfl) runs1 (by rw [Fast.te4187177175401517315]; exact runs2) yrs
@[simp] theorem fi_node_a_op:fidx .node .a_op = some 0:=rfl
@[simp] theorem aFg:fidx .node .aJ = some 1:=rfl
@[simp] theorem fi_node_a_type:fidx .node .bT = some 2:=rfl
@[simp] theorem fi_node_a_kids:fidx .node .lG = some 3:=rfl
@[simp] theorem aFf:fidx .node .aX = some 4:=rfl
@[simp] theorem fi_node_a_sure:fidx .node .aFN = some 5:=rfl
@[simp] theorem aFb:fidx .token .bN = some 0:=rfl
@[simp] theorem aCW:fidx .token .aX = some 1:=rfl
@[simp] theorem aCX:fidx .token .aJ = some 2:=rfl
@[simp] theorem aCR:fidx .type .kQ = some 0:=rfl
@[simp] theorem fi_type_a_form:fidx .type .eL = some 1:=rfl
@[simp] theorem fi_type_a_size:fidx .type .aFO = some 2:=rfl
@[simp] theorem fi_type_a_base:fidx .type .aBD = some 3:=rfl
@[simp] theorem aCT:fidx .type .pR = some 4:=rfl
@[simp] theorem aCV:fidx .type .vF = some 5:=rfl
@[simp] theorem aEZ:fidx .type .bS = some 6:=rfl
@[simp] theorem aCQ:fidx .type .vA = some 7:=rfl
@[simp] theorem aCS:fidx .type .cI = some 8:=rfl
@[simp] theorem aFa:fidx .type .lZ = some 9:=rfl
@[simp] theorem aCU:fidx .type .vE = some 10:=rfl
@[simp] theorem fi_type_a_exno:fidx .type .aFQ = some 11:=rfl
@[simp] theorem fi_obj_a_name:fidx .obj .lF = some 0:=rfl
@[simp] theorem fi_obj_a_kind:fidx .obj .bN = some 1:=rfl
@[simp] theorem fi_obj_a_type:fidx .obj .bT = some 2:=rfl
@[simp] theorem fi_obj_a_place:fidx .obj .aJ = some 3:=rfl
@[simp] theorem aCo:fidx .obj .oO = some 4:=rfl
@[simp] theorem aCm:fidx .obj .oL = some 5:=rfl
@[simp] theorem fi_obj_a_level:fidx .obj .bS = some 6:=rfl
@[simp] theorem aFe:fidx .obj .cI = some 7:=rfl
@[simp] theorem fi_obj_a_value:fidx .obj .aX = some 8:=rfl
@[simp] theorem fi_obj_a_slot:fidx .obj .yC = some 9:=rfl
@[simp] theorem aFc:fidx .obj .vC = some 10:=rfl
@[simp] theorem aFd:fidx .obj .kQ = some 11:=rfl
@[simp] theorem aDd:fidx .obj .rL = some 12:=rfl
@[simp] theorem aCn:fidx .obj .hN = some 13:=rfl
@[simp] theorem aBa:fidx .types .kD = some 0:=rfl
@[simp] theorem aCP:fidx .types .vD = some 1:=rfl
@[simp] theorem aBb:fidx .types .cZ = some 2:=rfl
@[simp] theorem aEX:fidx .types .cO = some 3:=rfl
@[simp] theorem aEY:fidx .types .tL = some 4:=rfl
@[simp] theorem aAZ:fidx .types .bP = some 5:=rfl
@[simp] theorem aEW:fidx .types .yD = some 6:=rfl
@[simp] theorem fi_types_a_nil:fidx .types .a_nil = some 7:=rfl
@[simp] theorem aEV:fidx .types .tJ = some 8:=rfl
@[simp] theorem aDb:fidx .scope .bS = some 0:=rfl
@[simp] theorem aDc:fidx .scope .lZ = some 1:=rfl
@[simp] theorem aDa:fidx .scope .lY = some 2:=rfl
@[simp] theorem aCZ:fidx .scope .vB = some 3:=rfl
@[simp] theorem aCY:fidx .scope .lX = some 4:=rfl
@[simp] theorem aCf:fidx .scopes .bD = some 0:=rfl
@[simp] theorem aBc:fidx .scopes .cI = some 1:=rfl
@[simp] theorem aCg:fidx .scopes .oK = some 2:=rfl
@[simp] theorem aCh:fidx .scopes .bS = some 3:=rfl
@[simp] theorem zU:fidx .reader .kC = some 0:=rfl
@[simp] theorem aCi:fidx .reader .bD = some 1:=rfl
@[simp] theorem aBh:fidx .reader .aM = some 2:=rfl
@[simp] theorem yI:fidx .reader .oM = some 3:=rfl
@[simp] theorem aBf:fidx .reader .fB = some 4:=rfl
@[simp] theorem aBg:fidx .reader .cI = some 5:=rfl
@[simp] theorem aCk:fidx .reader .aAi = some 6:=rfl
@[simp] theorem zV:fidx .reader .rK = some 7:=rfl
@[simp] theorem yJ:fidx .reader .oN = some 8:=rfl
@[simp] theorem aCl:fidx .reader .bS = some 9:=rfl
@[simp] theorem aCj:fidx .reader .cC = some 10:=rfl
@[simp] theorem aDe:fidx .errors .tH = some 0:=rfl
@[simp] theorem aBi:fidx .errors .nJ = some 1:=rfl
@[simp] theorem zS:fidx .scanner .bW = some 0:=rfl
@[simp] theorem zT:fidx .scanner .aM = some 1:=rfl
@[simp] theorem aBe:fidx .scanner .aJ = some 2:=rfl
@[simp] theorem aBd:fidx .scanner .uZ = some 3:=rfl
@[simp] theorem aCO:bM .errors .bO = some 832:=rfl
@[simp] theorem aBW:bM .scanner .cO = some 931:=rfl
@[simp] theorem aBT:bM .scanner .aBB = some 938:=rfl
@[simp] theorem aBU:bM .scanner .dE = some 945:=rfl
@[simp] theorem zC:bM .scanner .pQ = some 952:=rfl
@[simp] theorem aBS:bM .scanner .aBA = some 959:=rfl
@[simp] theorem yH:bM .scanner .nK = some 966:=rfl
@[simp] theorem aAG:bM .scanner .aAh = some 973:=rfl
@[simp] theorem sP:bM .scanner .iP = some 980:=rfl
@[simp] theorem vG:bM .scanner .mA = some 987:=rfl
@[simp] theorem aBV:bM .scanner .aFP = some 994:=rfl
@[simp] theorem sO:bM .scanner .nH = some 1001:=rfl
@[simp] theorem zB:bM .scanner .iO = some 1008:=rfl
@[simp] theorem zA:bM .scanner .pP = some 1015:=rfl
@[simp] theorem mo_types_a_new:bM .types .rY = some 1086:=rfl
@[simp] theorem aBR:bM .types .iO = some 1093:=rfl
@[simp] theorem aCI:bM .scopes .aBC = some 1142:=rfl
@[simp] theorem yZ:bM .scopes .yE = some 1156:=rfl
@[simp] theorem aEc:bM .scopes .a_add = some 1163:=rfl
@[simp] theorem aAF:bM .scopes .cV = some 1170:=rfl
@[simp] theorem aCJ:bM .scopes .nL = some 1177:=rfl
@[simp] theorem aCK:bM .reader .fZ = some 1227:=rfl
@[simp] theorem mo_reader_a_at:bM .reader .a_at = some 1234:=rfl
@[simp] theorem aCL:bM .reader .dE = some 1241:=rfl
@[simp] theorem aAH:bM .reader .fC = some 1248:=rfl
@[simp] theorem aCN:bM .reader .bO = some 1255:=rfl
@[simp] theorem aCM:bM .reader .lF = some 1262:=rfl
theorem char_inj (a b:Char) (h:a.toNat = b.toNat):a = b:=Char.ext (UInt32.toNat_inj.mp h)
theorem map_inj (a:List Char):∀ b:List Char,a.map Char.toNat = b.map Char.toNat→a = b:=by
  induction a with
  | nil=>exact fun b h=>(List.map_eq_nil_iff.mp h.symm).symm
  | cons x a ih =>
    intro b h
    cases b with
    | nil=>exact nomatch h
    | cons y b=>rw [char_inj x y (List.cons.inj h).1,ih b (List.cons.inj h).2]
@[simp] theorem jH (a b:String):Str.ofString a = Str.ofString b ↔ a = b:=by
  refine ⟨fun h=>?_,fun h=>by rw [h]⟩
  rw [Str.ofString_eq_toList,Str.ofString_eq_toList] at h
  have h2:=congrArg Array.toList (congrArg Str.cps h)
  exact String.toList_inj.mp (map_inj _ _ h2)
@[simp] theorem cE (a b:String):(Str.ofString a == Str.ofString b) = (a == b):=by
  by_cases h:a = b
  · subst h; simp
  · have h1:¬ Str.ofString a = Str.ofString b:=fun q=>h ((jH a b).mp q)
    rw [beq_eq_false_iff_ne.mpr h1,beq_eq_false_iff_ne.mpr h]
@[simp] theorem unpM_tup {l:Nat} {vs:List V} {q:List V→Prop}:unpM l (.tup vs) q = (vs.length = l∧q vs):=propext Iff.rfl
section
variable {T:CT} {K:Frag} {hZ:Heap} {n:Nat} {loc:Locs} {mem:Mem} {k:V→Mem→Prop} {kl:Locs→Mem→Prop} {kr:V→Mem→Prop} {kb:Locs→Mem→Prop}
@[simp] theorem e_p {e:PE}:wpE T K hZ n loc (.p e) mem k = aC (evP mem loc e) fun v=>k v mem:=propext Iff.rfl
@[simp] theorem e_call {f:Value} {args:List IE}:wpE T K hZ n loc (.call (.glob (.glob f)) args) mem k = (isFun f = true∧wpEs T K hZ n loc args mem fun vs m=>aA T K hZ n f vs m k):=propext Iff.rfl
@[simp] theorem e_bi {f:BI} {args:List IE}:wpE T K hZ n loc (.bi f args) mem k = wpEs T K hZ n loc args mem fun vs m=>aC (biV m f vs) fun x=>k x m:=propext Iff.rfl
@[simp] theorem aBl {o:IE} {a:At} {args:List IE}:wpE T K hZ n loc (.meth o a args) mem k = wpE T K hZ n loc o mem fun ov m1=>aC (mkOf m1 a ov) fun kd=>wpEs T K hZ n loc args m1 fun vs m2=>uF T K hZ n kd ov vs m2 k:=propext Iff.rfl
@[simp] theorem e_attr {e:IE} {a:At}:wpE T K hZ n loc (.attr e a) mem k = wpE T K hZ n loc e mem fun v m=>aC (getA m v a) fun x=>k x m:=propext Iff.rfl
@[simp] theorem e_item {e i:IE}:wpE T K hZ n loc (.item e i) mem k = wpE T K hZ n loc e mem fun v m=>wpE T K hZ n loc i m fun x m2=>aC (jA m2 v x) fun y=>k y m2:=propext Iff.rfl
@[simp] theorem e_bin {op:Operator} {a b:IE}:wpE T K hZ n loc (.bin op a b) mem k = wpE T K hZ n loc a mem fun v m=>wpE T K hZ n loc b m fun x m2=>aC (binV op v x) fun y=>k y m2:=propext Iff.rfl
@[simp] theorem e_cmp {op:CmpOp} {a b:IE}:wpE T K hZ n loc (.cmp op a b) mem k = wpE T K hZ n loc a mem fun v m=>wpE T K hZ n loc b m fun x m2=>aC (cmpV m2 op v x) fun y=>k (.bool y) m2:=propext Iff.rfl
@[simp] theorem e_and {a b:IE}:wpE T K hZ n loc (.andE a b) mem k = wpE T K hZ n loc a mem fun v m=>aC (truth v) fun t=>if t = true then wpE T K hZ n loc b m k else k v m:=propext Iff.rfl
@[simp] theorem e_or {a b:IE}:wpE T K hZ n loc (.orE a b) mem k = wpE T K hZ n loc a mem fun v m=>aC (truth v) fun t=>if t = true then k v m else wpE T K hZ n loc b m k:=propext Iff.rfl
@[simp] theorem e_not {a:IE}:wpE T K hZ n loc (.notE a) mem k = wpE T K hZ n loc a mem fun v m=>aC (truth v) fun t=>k (.bool !t) m:=propext Iff.rfl
@[simp] theorem e_tup {es:List IE}:wpE T K hZ n loc (.tup es) mem k = wpEs T K hZ n loc es mem fun vs m=>vs.length ≤ 1000∧k (.tup vs) m:=propext Iff.rfl
@[simp] theorem e_lst {es:List IE}:wpE T K hZ n loc (.lst es) mem k = wpEs T K hZ n loc es mem fun vs m=>vs.length ≤ 1000∧k (.lst vs) m:=propext Iff.rfl
@[simp] theorem e_lstM {es:List IE}:wpE T K hZ n loc (.lstM es) mem k = wpEs T K hZ n loc es mem fun vs m=>vs.length ≤ 1000∧k (.ref m.length) (m ++ [.lst vs]):=propext Iff.rfl
@[simp] theorem e_dictS:wpE T K hZ n loc .dictS mem k = k (.ref mem.length) (mem ++ [.sdict []]):=propext Iff.rfl
@[simp] theorem e_dictI:wpE T K hZ n loc .dictI mem k = k (.ref mem.length) (mem ++ [.idict []]):=propext Iff.rfl
@[simp] theorem e_dictM {es:List (Str × IE)}:wpE T K hZ n loc (.dictM es) mem k = wpD T K hZ n loc es mem fun kvs m=>k (.ref m.length) (m ++ [.sdict kvs]):=propext Iff.rfl
@[simp] theorem aBj {kk:List V→Mem→Prop}:wpEs T K hZ n loc [] mem kk = kk [] mem:=propext Iff.rfl
@[simp] theorem uL {e:IE} {es:List IE} {kk:List V→Mem→Prop}:wpEs T K hZ n loc (e :: es) mem kk = wpE T K hZ n loc e mem fun v m=>wpEs T K hZ n loc es m fun vs m2=>kk (v :: vs) m2:=propext Iff.rfl
@[simp] theorem ed_nil {kk:List (Str × V)→Mem→Prop}:wpD T K hZ n loc [] mem kk = kk [] mem:=propext Iff.rfl
@[simp] theorem aFh {x:Str} {e:IE} {es:List (Str × IE)} {kk:List (Str × V)→Mem→Prop}:wpD T K hZ n loc ((x,e) :: es) mem kk = wpE T K hZ n loc e mem fun v m=>wpD T K hZ n loc es m fun vs m2=>kk ((x,v) :: vs) m2:=propext Iff.rfl
@[simp] theorem m_fn {f:Addr} {ov:V} {vs:List V}:uF T K hZ n (.fn f) ov vs mem k = aA T K hZ n (.ref f) (ov :: vs) mem k:=propext Iff.rfl
theorem m_append {i:Nat} {x:V} {xs:List V} (h:mem[i]? = some (.lst xs)):uF T K hZ n .append (.ref i) [x] mem k = (xs.length ≤ 2 ^ 20∧k .none (mem.set i (.lst (xs ++ [x])))):=by
  show aC ((mem[i]?).bind lstO) (fun xs=>xs.length ≤ 2 ^ 20∧k .none (mem.set i (.lst (xs ++ [x])))) = _
  rw [h]; exact propext Iff.rfl
@[simp] theorem m_find {x y:Str}:uF T K hZ n .find (.str x) [.str y] mem k = k (.int (Txt.find x y)) mem:=propext Iff.rfl
@[simp] theorem kE {α : Type} {a:α} {q:α→Prop}:aC (some a) q = q a:=propext Iff.rfl
@[simp] theorem s_asg {i:Nat} {e:IE}:wpS T K hZ n loc (.asg i e) mem kl kr kb = wpE T K hZ n loc e mem fun v m=>kl (setL loc i v) m:=propext Iff.rfl
@[simp] theorem s_attr {o e:IE} {a:At}:wpS T K hZ n loc (.attr o a e) mem kl kr kb = wpE T K hZ n loc e mem fun v m=>wpE T K hZ n loc o m fun ov m2=>dY ov a v m2 fun m3=>kl loc m3:=propext Iff.rfl
@[simp] theorem s_item {o i e:IE}:wpS T K hZ n loc (.item o i e) mem kl kr kb = wpE T K hZ n loc e mem fun v m=>wpE T K hZ n loc o m fun ov m2=>wpE T K hZ n loc i m2 fun iv m3=>dA ov iv v m3 fun m4=>kl loc m4:=propext Iff.rfl
@[simp] theorem s_unp {is:List Nat} {e:IE}:wpS T K hZ n loc (.unp is e) mem kl kr kb = wpE T K hZ n loc e mem fun v m=>unpM is.length v fun vs=>kl (dI loc is vs) m:=propext Iff.rfl
@[simp] theorem s_swp {is:List Nat} {e:IE}:wpS T K hZ n loc (.swp is e) mem kl kr kb = wpE T K hZ n loc e mem fun v m=>unpM is.length v fun vs=>kl (dI loc is.reverse vs.reverse) m:=propext Iff.rfl
@[simp] theorem s_augN {i:Nat} {op:Operator} {e:IE}:wpS T K hZ n loc (.augN i op e) mem kl kr kb = aC (loc[i]?).join fun old=>wpE T K hZ n loc e mem fun v m=>iopM op old v m fun x m2=>kl (setL loc i x) m2:=propext Iff.rfl
@[simp] theorem s_augA {o e:IE} {a:At} {op:Operator}:wpS T K hZ n loc (.augA o a op e) mem kl kr kb = wpE T K hZ n loc o mem fun ov m=>aC (getA m ov a) fun old=>wpE T K hZ n loc e m fun v m2=>aC (iopV op old v) fun x=>dY ov a x m2 fun m3=>kl loc m3:=propext Iff.rfl
@[simp] theorem s_augI {o i e:IE} {op:Operator}:wpS T K hZ n loc (.augI o i op e) mem kl kr kb = wpE T K hZ n loc o mem fun ov m=>wpE T K hZ n loc i m fun iv m1=>aC (jA m1 ov iv) fun old=>wpE T K hZ n loc e m1 fun v m2=>aC (iopV op old v) fun x=>dA ov iv x m2 fun m3=>kl loc m3:=propext Iff.rfl
@[simp] theorem s_expr {e:IE}:wpS T K hZ n loc (.expr e) mem kl kr kb = wpE T K hZ n loc e mem fun _ m=>kl loc m:=propext Iff.rfl
@[simp] theorem s_ret {e:IE}:wpS T K hZ n loc (.ret e) mem kl kr kb = wpE T K hZ n loc e mem kr:=propext Iff.rfl
@[simp] theorem s_ret0:wpS T K hZ n loc .ret0 mem kl kr kb = kr .none mem:=propext Iff.rfl
@[simp] theorem s_pass:wpS T K hZ n loc .pass mem kl kr kb = kl loc mem:=propext Iff.rfl
@[simp] theorem s_brk:wpS T K hZ n loc .brk mem kl kr kb = kb loc mem:=propext Iff.rfl
@[simp] theorem s_ite {c:IE} {t f:List IS}:wpS T K hZ n loc (.ite c t f) mem kl kr kb = wpE T K hZ n loc c mem fun v m=>aC (truth v) fun b=>if b = true then wpSs T K hZ n loc t m kl kr kb else wpSs T K hZ n loc f m kl kr kb:=propext Iff.rfl
@[simp] theorem aDw:wpSs T K hZ n loc [] mem kl kr kb = kl loc mem:=propext Iff.rfl
theorem bX {st:IS} {r:List IS}:wpSs T K hZ n loc (st :: r) mem kl kr kb = wpS T K hZ n loc st mem (fun loc' m=>wpSs T K hZ n loc' r m kl kr kb) kr kb:=propext Iff.rfl
@[simp] theorem v_cst {v:V}:evP mem loc (.cst v) = some v:=Eq.trans rfl rfl
@[simp] theorem tR {i:Nat}:evP mem loc (.loc i) = (loc[i]?).join:=Eq.trans rfl rfl
@[simp] theorem v_glob {v:V}:evP mem loc (.glob v) = some v:=Eq.trans rfl rfl
@[simp] theorem getA_inst {c:Cls} {fs:List V} {a:At}:getA mem (.inst c fs) a = (fidx c a).bind fun i=>fs[i]?:=rfl
@[simp] theorem v_attr {e:PE} {a:At}:evP mem loc (.attr e a) = (evP mem loc e).bind fun v=>getA mem v a:=by kernel_rfl
@[simp] theorem v_item {e i:PE}:evP mem loc (.item e i) = (evP mem loc e).bind fun v=>(evP mem loc i).bind fun x=>jA mem v x:=by kernel_rfl
@[simp] theorem v_bin {op:Operator} {a b:PE}:evP mem loc (.bin op a b) = (evP mem loc a).bind fun v=>(evP mem loc b).bind fun x=>binV op v x:=by kernel_rfl
@[simp] theorem v_neg {i:Int}:evP mem loc (.neg i) = some (.int (-i)):=Eq.trans rfl rfl
@[simp] theorem v_cmp {op:CmpOp} {a b:PE}:evP mem loc (.cmp op a b) = (evP mem loc a).bind fun v=>(evP mem loc b).bind fun x=>(cmpV mem op v x).map .bool:=by kernel_rfl
noncomputable def tr2 (v:V) (t f:Option V):Option V:=(truth v).bind fun b=>if b = true then t else f
@[simp] theorem tr2_bool {b:Bool} {t f:Option V}:tr2 (.bool b) t f = if b = true then t else f:=rfl
@[simp] theorem v_and {a b:PE}:evP mem loc (.andE a b) = (evP mem loc a).bind fun v=>tr2 v (evP mem loc b) (some v):=by kernel_rfl
@[simp] theorem v_or {a b:PE}:evP mem loc (.orE a b) = (evP mem loc a).bind fun v=>tr2 v (some v) (evP mem loc b):=by kernel_rfl
@[simp] theorem v_not {a:PE}:evP mem loc (.notE a) = (evP mem loc a).bind fun v=>(truth v).map fun b=>.bool !b:=by kernel_rfl
@[simp] theorem v_ite {c a b:PE}:evP mem loc (.ite c a b) = (evP mem loc c).bind fun v=>tr2 v (evP mem loc a) (evP mem loc b):=by kernel_rfl
@[simp] theorem v_tup {es:List PE}:evP mem loc (.tup es) = (evPs mem loc es).map .tup:=Eq.trans rfl rfl
@[simp] theorem v_lst {es:List PE}:evP mem loc (.lst es) = (evPs mem loc es).map .lst:=Eq.trans rfl rfl
@[simp] theorem v_bi {f:BI} {es:List PE}:evP mem loc (.bi f es) = (evPs mem loc es).bind fun vs=>biV mem f vs:=by kernel_rfl
@[simp] theorem vs_nil:evPs mem loc [] = some []:=Eq.trans rfl rfl
@[simp] theorem aDf {e:PE} {es:List PE}:evPs mem loc (e :: es) = (evP mem loc e).bind fun v=>(evPs mem loc es).map (v :: ·):=by kernel_rfl
@[simp] theorem nM {b:Bool}:truth (.bool b) = some b:=rfl
end
section
variable {mem:Mem} {k:V→Mem→Prop} {km:Mem→Prop} {T:CT} {K:Frag} {hZ:Heap} {n:Nat}
@[simp] theorem fieldO_inst {c:Cls} {fs:List V} {a:At}:aEU (.inst c fs) a = (fidx c a).bind fun i=>fs[i]?:=rfl
@[simp] theorem ga_ref {i:Nat} {a:At}:getA mem (.ref i) a = (mem[i]?).bind fun o=>aEU o a:=rfl
@[simp] theorem mkO_inst {c:Cls} {fs:List V} {m:At}:mkO (.inst c fs) m = (bM c m).map .fn:=rfl
@[simp] theorem mkO_lst {xs:List V}:mkO (.lst xs) .aP = some .append:=rfl
@[simp] theorem mk_ref {i:Nat} {m:At}:mkOf mem m (.ref i) = (mem[i]?).bind fun o=>mkO o m:=rfl
@[simp] theorem mk_find {s:Str}:mkOf mem .nL (.str s) = some .find:=rfl
@[simp] theorem mk_join {s:Str}:mkOf mem .tK (.str s) = some .join:=rfl
noncomputable def appO:MO→V→(MO→Prop)→Prop
  | .lst xs,x,q=>xs.length ≤ 2 ^ 20∧q (.lst (xs ++ [x]))
  | _,_,_=>False
@[simp] theorem appO_lst {xs:List V} {x:V} {q:MO→Prop}:appO (.lst xs) x q = (xs.length ≤ 2 ^ 20∧q (.lst (xs ++ [x]))):=propext Iff.rfl
@[simp] theorem aDZ {i:Nat} {x:V}:uF T K hZ n .append (.ref i) [x] mem k = aC (mem[i]?) fun o=>appO o x fun o'=>k .none (mem.set i o'):=by
  show aC ((mem[i]?).bind lstO) (fun xs=>xs.length ≤ 2 ^ 20∧k .none (mem.set i (.lst (xs ++ [x])))) = _
  cases mem[i]? with
  | none=>rfl
  | some o=>cases o <;> rfl
@[simp] theorem putO_inst {c:Cls} {fs:List V} {a:At} {v:V} {q:MO→Prop}:putO (.inst c fs) a v q = aC (fidx c a) fun j=>j ≤ fs.length∧q (.inst c (if j < fs.length then fs.set j v else fs ++ [v])):=propext Iff.rfl
@[simp] theorem sa_ref {i:Nat} {a:At} {v:V}:dY (.ref i) a v mem km = aC (mem[i]?) fun o=>putO o a v fun o'=>km (mem.set i o'):=propext Iff.rfl
@[simp] theorem itemO_key {es:List (Str × V)} {x:Str}:itemO (.sdict es) (.str x) = look x es:=rfl
@[simp] theorem iv_ref {r:Nat} {i:V}:jA mem (.ref r) i = (mem[r]?).bind fun o=>itemO o i:=rfl
@[simp] theorem iv_tup {xs:List V} {i:Int}:jA mem (.tup xs) (.int i) = nthV xs i:=rfl
@[simp] theorem mK {xs:List V} {i:Int}:jA mem (.lst xs) (.int i) = nthV xs i:=rfl
@[simp] theorem itemO_lst {xs:List V} {i:Int}:itemO (.lst xs) (.int i) = nthV xs i:=rfl
theorem mJ {xs:List V} {j:Nat} (h:j < 2 ^ 63):nthV xs (j:Int) = xs[j]?:=by
  unfold nthV idxOf
  rw [if_pos (by lia),if_pos (by lia)]
  simp
@[simp] theorem wF {xs:List V}:nthV xs 0 = xs[0]?:=mJ (j:=0) (by decide)
@[simp] theorem aAD {xs:List V}:nthV xs 1 = xs[1]?:=mJ (j:=1) (by decide)
@[simp] theorem nthV_2 {xs:List V}:nthV xs 2 = xs[2]?:=mJ (j:=2) (by decide)
@[simp] theorem nthV_3 {xs:List V}:nthV xs 3 = xs[3]?:=mJ (j:=3) (by decide)
theorem nthV_m1 {xs:List V} {x:V}:nthV (xs ++ [x]) (-1) = some x:=by
  unfold nthV idxOf
  have h0:(xs ++ [x]).length = xs.length + 1:=by simp
  rw [if_pos (by decide),if_neg (by decide),h0,if_pos (by lia),Option.bind_some]
  have:(-1 + ((xs.length + 1:Nat):Int)).toNat = xs.length:=by lia
  rw [this]; simp
@[simp] theorem setO_lst {xs:List V} {n:Int} {v:V} {q:MO→Prop}:setO (.lst xs) (.int n) v q = (0 ≤ n∧n < xs.length∧n < 2 ^ 20∧q (.lst (xs.set n.toNat v))):=propext Iff.rfl
@[simp] theorem setO_idict {es:List (Int × V)} {n:Int} {v:V} {q:MO→Prop}:setO (.idict es) (.int n) v q = (es.length ≤ 1000∧q (.idict (putD n v es))):=propext Iff.rfl
@[simp] theorem setO_sdict {es:List (Str × V)} {n:Str} {v:V} {q:MO→Prop}:setO (.sdict es) (.str n) v q = (es.length ≤ 1000∧q (.sdict (putD n v es))):=propext Iff.rfl
@[simp] theorem si_ref {r:Nat} {i v:V}:dA (.ref r) i v mem km = aC (mem[r]?) fun o=>setO o i v fun o'=>km (mem.set r o'):=propext Iff.rfl
@[simp] theorem inO_s {es:List (Str × V)} {x:Str}:inO (.sdict es) (.str x) = some (look x es).isSome:=rfl
@[simp] theorem inO_i {es:List (Int × V)} {x:Int}:inO (.idict es) (.int x) = some (look x es).isSome:=rfl
@[simp] theorem q_eq_ss {a b:Str}:cmpV mem .Eq (.str a) (.str b) = some (a == b):=rfl
@[simp] theorem q_ne_ss {a b:Str}:cmpV mem .NotEq (.str a) (.str b) = some (!(a == b)):=rfl
@[simp] theorem q_eq_ii {a b:Int}:cmpV mem .Eq (.int a) (.int b) = some (a == b):=rfl
@[simp] theorem q_ne_ii {a b:Int}:cmpV mem .NotEq (.int a) (.int b) = some (!(a == b)):=rfl
@[simp] theorem q_eq_bb {a b:Bool}:cmpV mem .Eq (.bool a) (.bool b) = some (a == b):=rfl
@[simp] theorem q_ne_bb {a b:Bool}:cmpV mem .NotEq (.bool a) (.bool b) = some (!(a == b)):=rfl
@[simp] theorem q_lt {a b:Int}:cmpV mem .Lt (.int a) (.int b) = some (decide (a < b)):=rfl
@[simp] theorem q_le {a b:Int}:cmpV mem .LtE (.int a) (.int b) = some (decide (a ≤ b)):=rfl
@[simp] theorem q_gt {a b:Int}:cmpV mem .Gt (.int a) (.int b) = some (decide (b < a)):=rfl
@[simp] theorem q_ge {a b:Int}:cmpV mem .GtE (.int a) (.int b) = some (decide (b ≤ a)):=rfl
@[simp] theorem q_in_t {x:Str} {ys:List V}:cmpV mem .In (.str x) (.tup ys) = (strsOf ys).map fun l=>l.any (· == x):=rfl
@[simp] theorem q_nin_t {x:Str} {ys:List V}:cmpV mem .NotIn (.str x) (.tup ys) = ((strsOf ys).map fun l=>l.any (· == x)).map (!·):=rfl
@[simp] theorem q_in_r {x:V} {r:Nat}:cmpV mem .In x (.ref r) = (mem[r]?).bind fun o=>inO o x:=rfl
@[simp] theorem q_nin_r {x:V} {r:Nat}:cmpV mem .NotIn x (.ref r) = ((mem[r]?).bind fun o=>inO o x).map (!·):=rfl
@[simp] theorem so_nil:strsOf [] = some []:=rfl
@[simp] theorem aDx {s:Str} {r:List V}:strsOf (.str s :: r) = (strsOf r).map (s :: ·):=rfl
@[simp] theorem is_nn:cmpV mem .Is .none .none = some true:=rfl
@[simp] theorem is_sn {s:Str}:cmpV mem .Is (.str s) .none = some false:=rfl
@[simp] theorem is_in {i:Int}:cmpV mem .Is (.int i) .none = some false:=rfl
@[simp] theorem is_bn {b:Bool}:cmpV mem .Is (.bool b) .none = some false:=rfl
@[simp] theorem is_tn {xs:List V}:cmpV mem .Is (.tup xs) .none = some false:=rfl
@[simp] theorem is_on {c:Cls} {xs:List V}:cmpV mem .Is (.inst c xs) .none = some false:=rfl
@[simp] theorem is_rn {r:Nat}:cmpV mem .Is (.ref r) .none = some false:=rfl
@[simp] theorem isn_nn:cmpV mem .IsNot .none .none = some false:=rfl
@[simp] theorem isn_sn {s:Str}:cmpV mem .IsNot (.str s) .none = some true:=rfl
@[simp] theorem isn_in {i:Int}:cmpV mem .IsNot (.int i) .none = some true:=rfl
@[simp] theorem isn_bn {b:Bool}:cmpV mem .IsNot (.bool b) .none = some true:=rfl
@[simp] theorem isn_tn {xs:List V}:cmpV mem .IsNot (.tup xs) .none = some true:=rfl
@[simp] theorem isn_on {c:Cls} {xs:List V}:cmpV mem .IsNot (.inst c xs) .none = some true:=rfl
@[simp] theorem isn_rn {r:Nat}:cmpV mem .IsNot (.ref r) .none = some true:=rfl
@[simp] theorem bv_add {a b:Int}:binV .Add (.int a) (.int b) = some (.int (a + b)):=rfl
@[simp] theorem bv_sub {a b:Int}:binV .Sub (.int a) (.int b) = some (.int (a - b)):=rfl
theorem aFF {a b:Int} (h:-2 ^ 63 < b∧b < 2 ^ 63):binV .Mult (.int a) (.int b) = some (.int (a * b)):=if_pos h
theorem tF {a b:Int} (h:b ≠ 0):binV .Mod (.int a) (.int b) = some (.int (a.fmod b)):=if_neg h
theorem xU {x y:Str} (h:x.length + y.length ≤ 2 ^ 24):binV .Add (.str x) (.str y) = some (.str (x ++ y)):=if_pos h
@[simp] theorem bi_ord {c:Nat}:biV mem .ord [.str ⟨#[c]⟩] = some (.int c):=rfl
theorem kN {x:Str} (h:x.length ≤ 2 ^ 24):biV mem .len [.str x] = some (.int x.length):=if_pos h
noncomputable def lenO (o:MO):Option V:=(lstO o).bind fun xs=>aBY xs.length (2 ^ 20)
@[simp] theorem lenO_lst {xs:List V}:lenO (.lst xs) = if xs.length ≤ 2 ^ 20 then some (.int xs.length) else none:=rfl
@[simp] theorem aBv {r:Nat}:biV mem .len [.ref r] = (mem[r]?).bind lenO:=Option.bind_assoc ..
@[simp] theorem bi_abs {a:Int}:biV mem .abs [.int a] = some (.int (if a < 0 then -a else a)):=rfl
@[simp] theorem bi_int {a:Int}:biV mem .int [.int a] = some (.int a):=rfl
theorem bi_list {r:Nat} {xs:List V} (h:mem[r]? = some (.lst xs)) (hl:xs.length ≤ 1000):biV mem .list [.ref r] = some (.lst xs):=by
  show (((mem[r]?).bind lstO).bind fun xs=>if xs.length ≤ 1000 then some (V.lst xs) else none) = _
  rw [h]; exact if_pos hl
@[simp] theorem bi_max {a b:Int}:biV mem .max [.int a,.int b] = some (.int (if a < b then b else a)):=rfl
@[simp] theorem aBu {a b:Int}:biV mem .min [.int a,.int b] = some (.int (if b < a then b else a)):=rfl
@[simp] theorem setL_eq {loc:Locs} {i:Nat} {v:V}:setL loc i v = loc.set i (some v):=rfl
@[simp] theorem sm_nil {loc:Locs} {vs:List V}:dI loc [] vs = loc:=Eq.trans rfl rfl
@[simp] theorem sm_cons {loc:Locs} {i:Nat} {is:List Nat} {v:V} {vs:List V}:dI loc (i :: is) (v :: vs) = dI (loc.set i (some v)) is vs:=Eq.trans rfl rfl
end
section
variable {T:CT} {K:Frag} {hZ:Heap} {n:Nat} {loc:Locs} {mem:Mem} {k:V→Mem→Prop} {km:Mem→Prop} {kl:Locs→Mem→Prop} {kr:V→Mem→Prop} {kb:Locs→Mem→Prop} {r:List IS} {e o:PE} {v w:V}
theorem aO {α β : Type} {o:Option α} {a:α} {f:α→Option β} (h:o = some a):o.bind f = f a:=h ▸ rfl
theorem aDW {α β γ : Type} {a:Option α} {b:Option β} {x:α} {y:β} {f:α→β→Option γ} (ha:a = some x) (hb:b = some y):o2 a b f = f x y:=ha ▸ hb ▸ rfl
theorem os {α : Type} {o:Option α} {a:α} {q:α→Prop} (h:o = some a) (H:q a):aC o q:=h ▸ H
theorem is1P {a:PE} {x:V} (ha:evP mem loc a = some x):evPs mem loc [a] = some [x]:=aO ha
theorem xp (h:evP mem loc e = some v) (H:k v mem):wpE T K hZ n loc (.p e) mem k:=os h H
noncomputable def pOf:IE→Option PE
  | .p e=>some e
  | _=>none
theorem pOf_s {e:IE} {q:PE} {P:IE→Prop} (h:pOf e = some q) (H:P (.p q)):P e:=by
  cases e with
  | p e=>exact Option.some.inj h ▸ H
  | _=>exact nn h
noncomputable def evIs (mem:Mem) (loc:Locs):List IE→Option (List V)
  | []=>some []
  | e :: r=>(pOf e).bind fun e=>(evP mem loc e).bind fun v=>(evIs mem loc r).map (v :: ·)
theorem xs {es:List IE}:∀ {vs:List V} {kk:List V→Mem→Prop},evIs mem loc es = some vs→kk vs mem→wpEs T K hZ n loc es mem kk:=by
  induction es with
  | nil=>intro vs kk h H; cases h; exact H
  | cons e r ih=>exact fun h H=>aI h fun q hq h=>aI h fun v hv h=>bJ h fun l hl e'=>pOf_s (P:=fun e=>wpEs T K hZ n loc (e :: r) mem _) hq (xp hv (ih hl (e'.symm ▸ H)))
theorem xcall {f:Value} {args:List IE} {vs:List V} {P:V→Mem→Prop} (hf:isFun f = true) (h:evIs mem loc args = some vs) (c:aA T K hZ n f vs mem P) (H:∀ v m,P v m→k v m):wpE T K hZ n loc (.call (.glob (.glob f)) args) mem k:=⟨hf,xs h (c.mono H)⟩
theorem xmeth {a:At} {f:Addr} {args:List IE} {vs:List V} {P:V→Mem→Prop} (ho:evP mem loc o = some w) (hm:mkOf mem a w = some (.fn f)) (h:evIs mem loc args = some vs) (c:aA T K hZ n (.ref f) (w :: vs) mem P) (H:∀ v m,P v m→k v m):wpE T K hZ n loc (.meth (.p o) a args) mem k:=xp (T:=T) (K:=K) (hZ:=hZ) (n:=n) (k:=fun ov m1=>aC (mkOf m1 a ov) fun kd=>wpEs T K hZ n loc args m1 fun vs m2=>uF T K hZ n kd ov vs m2 k) ho (os hm (xs h (c.mono H)))
theorem jB {es:List IE} {vs:List V} (h:evIs mem loc es = some vs) (hl:vs.length ≤ 1000) (H:k (.ref mem.length) (mem ++ [.lst vs])):wpE T K hZ n loc (.lstM es) mem k:=xs (T:=T) (K:=K) (hZ:=hZ) (n:=n) (kk:=fun vs (m:Mem)=>vs.length ≤ 1000∧k (.ref m.length) (m ++ [MO.lst vs])) h ⟨hl,H⟩
theorem xdictS (H:k (.ref mem.length) (mem ++ [.sdict []])):wpE T K hZ n loc .dictS mem k:=H
theorem va {a:At} {i:Nat} {c:Cls} {fs:List V} (he:evP mem loc e = some (.ref i)) (h:mem[i]? = some (.inst c fs)) (hv:((fidx c a).bind fun j=>fs[j]?) = some v):evP mem loc (.attr e a) = some v:=by
  exact (aO he).trans ((aO h).trans hv)
theorem tasg {i:Nat} {e:IE} (H:wpE T K hZ n loc e mem fun v m=>wpSs T K hZ n (setL loc i v) r m kl kr kb):wpSs T K hZ n loc (.asg i e :: r) mem kl kr kb:=H
theorem texpr {e:IE} (H:wpE T K hZ n loc e mem fun _ m=>wpSs T K hZ n loc r m kl kr kb):wpSs T K hZ n loc (.expr e :: r) mem kl kr kb:=H
theorem tret {e:IE} (H:wpE T K hZ n loc e mem kr):wpSs T K hZ n loc (.ret e :: r) mem kl kr kb:=H
theorem tattr {o e:IE} {a:At} (H:wpE T K hZ n loc e mem fun v m=>wpE T K hZ n loc o m fun ov m2=>dY ov a v m2 fun m3=>wpSs T K hZ n loc r m3 kl kr kb):wpSs T K hZ n loc (.attr o a e :: r) mem kl kr kb:=H
noncomputable def putF (c:Cls) (fs:List V) (a:At) (v:V):Option (List V):=(fidx c a).bind fun j=>if j < fs.length then some (fs.set j v) else if j = fs.length then some (fs ++ [v]) else none
theorem pa {i:Nat} {c:Cls} {fs fs':List V} {a:At} (h:mem[i]? = some (.inst c fs)) (hf:putF c fs a v = some fs') (H:km (mem.set i (.inst c fs'))):dY (.ref i) a v mem km :=
  os (o:=mem[i]?) (q:=fun o=>putO o a v fun o'=>km (mem.set i o')) h (aI hf fun j hj hf=>os hj (aEr hf (fun q e=>⟨Nat.le_of_lt q,(show putV fs j v = fs' from (if_pos q).trans e) ▸ H⟩) fun q hf=>if_e hf fun r e=>⟨Nat.le_of_eq r,(show putV fs j v = fs' from (if_neg q).trans (Option.some.inj e)) ▸ H⟩))
theorem bR {m L:Mem} {o:MO}:(m ++ o :: L)[m.length]? = some o:=by rw [List.getElem?_append_right (Nat.le_refl _),Nat.sub_self]; rfl
theorem pM {m L:Mem} {o o':MO}:(m ++ o :: L).set m.length o' = m ++ o' :: L:=by rw [List.set_append_right _ _ (Nat.le_refl _),Nat.sub_self]; rfl
theorem pl {m L:Mem} {c:Cls} {fs fs':List V} {a:At} (hf:putF c fs a v = some fs') (H:km (m ++ .inst c fs' :: L)):dY (.ref m.length) a v (m ++ .inst c fs :: L) km:=pa bR hf (by rw [pM]; exact H)
theorem tself {m L:Mem} {c:Cls} {fs fs':List V} {a:At} (h0:evP (m ++ .inst c fs :: L) loc o = some (.ref m.length)) (h:evP (m ++ .inst c fs :: L) loc e = some v) (hf:putF c fs a v = some fs') (H:wpSs T K hZ n loc r (m ++ .inst c fs' :: L) kl kr kb) :
    wpSs T K hZ n loc (.attr (.p o) a (.p e) :: r) (m ++ .inst c fs :: L) kl kr kb:=tattr (xp h (xp h0 (pl hf H)))
theorem tselfL {m L:Mem} {c:Cls} {fs fs':List V} {a:At} (h0:loc[0]? = some (some (.ref m.length))) (hf:putF c fs a (.ref (m.length + (L.length + 1))) = some fs') (H:wpSs T K hZ n loc r (m ++ .inst c fs' :: (L ++ [.lst []])) kl kr kb) :
    wpSs T K hZ n loc (.attr (.p (.loc 0)) a (.lstM []) :: r) (m ++ .inst c fs :: L) kl kr kb:=by
  refine tattr (jB rfl (Nat.zero_le _) ?_)
  rw [show (m ++ MO.inst c fs :: L).length = m.length + (L.length + 1) by rw [List.length_append]; rfl,List.append_assoc]
  exact xp (by rw [tR,h0]; rfl) (pl hf H)
theorem brt {p q:Prop} (h:truth v = some true) (H:p):aC (truth v) fun b=>if b = true then p else q:=os h H
theorem brf {p q:Prop} (h:truth v = some false) (H:q):aC (truth v) fun b=>if b = true then p else q:=os h H
theorem brb {p q:Prop} {b:Bool} (h:truth v = some b) (H:b = true→p) (H':b = false→q):aC (truth v) fun b=>if b = true then p else q:=by cases b with | true=>exact brt h (H rfl) | false=>exact brf h (H' rfl)
theorem xand {a b:IE} (H:wpE T K hZ n loc a mem fun v m=>aC (truth v) fun t=>if t = true then wpE T K hZ n loc b m k else k v m):wpE T K hZ n loc (.andE a b) mem k:=H
theorem xor' {a b:IE} (H:wpE T K hZ n loc a mem fun v m=>aC (truth v) fun t=>if t = true then k v m else wpE T K hZ n loc b m k):wpE T K hZ n loc (.orE a b) mem k:=H
theorem xnot {a:IE} (H:wpE T K hZ n loc a mem fun v m=>aC (truth v) fun t=>k (.bool !t) m):wpE T K hZ n loc (.notE a) mem k:=H
theorem xcmp {op:CmpOp} {a b:IE} (H:wpE T K hZ n loc a mem fun v m=>wpE T K hZ n loc b m fun x m2=>aC (cmpV m2 op v x) fun y=>k (.bool y) m2):wpE T K hZ n loc (.cmp op a b) mem k:=H
theorem xbin {op:Operator} {a b:IE} (H:wpE T K hZ n loc a mem fun v m=>wpE T K hZ n loc b m fun x m2=>aC (binV op v x) fun y=>k y m2):wpE T K hZ n loc (.bin op a b) mem k:=H
theorem xattr {e:IE} {a:At} (H:wpE T K hZ n loc e mem fun v m=>aC (getA m v a) fun x=>k x m):wpE T K hZ n loc (.attr e a) mem k:=H
theorem xapp {e:PE} {i:Nat} {l:List V} (ho:evP mem loc o = some (.ref i)) (hi:mem[i]? = some (.lst l)) (he:evP mem loc e = some v) (hl:l.length ≤ 2 ^ 20) (H:k .none (mem.set i (.lst (l ++ [v])))):wpE T K hZ n loc (.meth (.p o) .aP [.p e]) mem k:=by
  rw [aBl]; refine xp ho (os (by rw [mk_ref,hi]; rfl) ?_); rw [uL]; refine xp he ?_; rw [aBj,aDZ,hi]; exact ⟨hl,H⟩
theorem tite {c:IE} {t f:List IS} (H:wpE T K hZ n loc c mem fun v m=>aC (truth v) fun b=>if b = true then wpSs T K hZ n loc t m (fun l m=>wpSs T K hZ n l r m kl kr kb) kr kb else wpSs T K hZ n loc f m (fun l m=>wpSs T K hZ n l r m kl kr kb) kr kb):wpSs T K hZ n loc (.ite c t f :: r) mem kl kr kb:=H
theorem tt {t f:List IS} (h:evP mem loc e = some (.bool true)) (H:wpSs T K hZ n loc t mem (fun l m=>wpSs T K hZ n l r m kl kr kb) kr kb):wpSs T K hZ n loc (.ite (.p e) t f :: r) mem kl kr kb:=tite (xp h (brt rfl H))
theorem tf {t f:List IS} (h:evP mem loc e = some (.bool false)) (H:wpSs T K hZ n loc f mem (fun l m=>wpSs T K hZ n l r m kl kr kb) kr kb):wpSs T K hZ n loc (.ite (.p e) t f :: r) mem kl kr kb:=tite (xp h (brf rfl H))
theorem tf0 {t:List IS} (h:evP mem loc e = some (.bool false)) (H:wpSs T K hZ n loc r mem kl kr kb):wpSs T K hZ n loc (.ite (.p e) t [] :: r) mem kl kr kb:=tf h H
theorem tnil (H:kl loc mem):wpSs T K hZ n loc [] mem kl kr kb:=H
theorem tasgp {i:Nat} (h:evP mem loc e = some v) (H:wpSs T K hZ n (setL loc i v) r mem kl kr kb):wpSs T K hZ n loc (.asg i (.p e) :: r) mem kl kr kb:=tasg (xp h H)
theorem tretp (h:evP mem loc e = some v) (H:kr v mem):wpSs T K hZ n loc (.ret (.p e) :: r) mem kl kr kb:=tret (xp h H)
theorem titem {o i e:IE} (H:wpE T K hZ n loc e mem fun v m=>wpE T K hZ n loc o m fun ov m2=>wpE T K hZ n loc i m2 fun iv m3=>dA ov iv v m3 fun m4=>wpSs T K hZ n loc r m4 kl kr kb):wpSs T K hZ n loc (.item o i e :: r) mem kl kr kb:=H
theorem pidict {i:Nat} {es:List (Int × V)} {x:Int} (h:mem[i]? = some (.idict es)) (hl:es.length ≤ 1000) (H:km (mem.set i (.idict (putD x v es)))):dA (.ref i) (.int x) v mem km:=os (o:=mem[i]?) (q:=fun o=>setO o (.int x) v fun o'=>km (mem.set i o')) h ⟨hl,H⟩
theorem psdict {i:Nat} {es:List (Str × V)} {x:Str} (h:mem[i]? = some (.sdict es)) (hl:es.length ≤ 1000) (H:km (mem.set i (.sdict (putD x v es)))):dA (.ref i) (.str x) v mem km:=os (o:=mem[i]?) (q:=fun o=>setO o (.str x) v fun o'=>km (mem.set i o')) h ⟨hl,H⟩
theorem vcmp {op:CmpOp} {a b:PE} {x y:V} {c:Bool} (ha:evP mem loc a = some x) (hb:evP mem loc b = some y) (h:cmpV mem op x y = some c):evP mem loc (.cmp op a b) = some (.bool c):=(aDW ha hb).trans (congrArg (Option.map V.bool) h)
theorem vbin {op:Operator} {a b:PE} {x y:V} (ha:evP mem loc a = some x) (hb:evP mem loc b = some y) (h:binV op x y = some v):evP mem loc (.bin op a b) = some v:=(aDW ha hb).trans h
theorem vitem {a b:PE} {x y:V} (ha:evP mem loc a = some x) (hb:evP mem loc b = some y) (h:jA mem x y = some v):evP mem loc (.item a b) = some v:=(aDW ha hb).trans h
theorem vbi1 {f:BI} {a:PE} {x:V} (ha:evP mem loc a = some x) (h:biV mem f [x] = some v):evP mem loc (.bi f [a]) = some v:=(aO (is1P ha)).trans h
theorem pS {a b:PE} {x:V} (ha:evP mem loc a = some x) (h:truth x = some false):evP mem loc (.andE a b) = some x:=(aO ha).trans (aO h)
theorem fJ {a b:PE} {x:V} (ha:evP mem loc a = some x) (h:truth x = some true) (hb:evP mem loc b = some v):evP mem loc (.andE a b) = some v:=(aO ha).trans ((aO h).trans hb)
theorem lI {a b:PE} {x:V} (ha:evP mem loc a = some x) (h:truth x = some false) (hb:evP mem loc b = some v):evP mem loc (.orE a b) = some v:=(aO ha).trans ((aO h).trans hb)
theorem yK {a b:PE} {x:V} (ha:evP mem loc a = some x) (h:truth x = some true):evP mem loc (.orE a b) = some x:=(aO ha).trans (aO h)
theorem cin {r:Nat} {x:V} {m:MO} {b:Bool} (h:mem[r]? = some m) (hb:inO m x = some b):cmpV mem .In x (.ref r) = some b:=(aO h).trans hb
theorem cnin {r:Nat} {x:V} {m:MO} {b:Bool} (h:mem[r]? = some m) (hb:inO m x = some b):cmpV mem .NotIn x (.ref r) = some (!b):=congrArg (Option.map (!·)) (show ((mem[r]?).bind fun o=>inO o x) = some b from (aO h).trans hb)
theorem mkm {i:Nat} {c:Cls} {fs:List V} {a:At} {f:Addr} (h:mem[i]? = some (.inst c fs)) (hf:bM c a = some f):mkOf mem a (.ref i) = some (.fn f):=(aO h).trans (congrArg (Option.map MK.fn) hf)
theorem vsl {a b c:PE} {x:V} {lo hi:Int} (ha:evP mem loc a = some x) (hb:evP mem loc b = some (.int lo)) (hc:evP mem loc c = some (.int hi)) (h:vR x lo hi = some v):evP mem loc (.sliceFT a b c) = some v:=(aO ha).trans ((aDW hb hc).trans h)
theorem tret0 (H:kr .none mem):wpSs T K hZ n loc (.ret0 :: r) mem kl kr kb:=H
theorem ceq {a b:Str} {c:Bool} (h:(a == b) = c):cmpV mem .Eq (.str a) (.str b) = some c:=congrArg some h
theorem cne {a b:Str} {c:Bool} (h:(a == b) = c):cmpV mem .NotEq (.str a) (.str b) = some (!c):=congrArg (fun x=>some (!x)) h
theorem is0:evIs mem loc [] = some []:=rfl
theorem is1 {a:PE} {x:V} (ha:evP mem loc a = some x):evIs mem loc [.p a] = some [x]:=aO ha
theorem is2 {a b:PE} {x y:V} (ha:evP mem loc a = some x) (hb:evP mem loc b = some y):evIs mem loc [.p a,.p b] = some [x,y]:=(aO ha).trans (congrArg (Option.map (x :: ·)) (is1 hb))
theorem isc {a:PE} {l:List IE} {x:V} {ls:List V} (ha:evP mem loc a = some x) (hl:evIs mem loc l = some ls):evIs mem loc (.p a :: l) = some (x :: ls):=(aO ha).trans (congrArg (Option.map (x :: ·)) hl)
theorem xfind {e:PE} {x y:Str} (ho:evP mem loc o = some (.str x)) (he:evP mem loc e = some (.str y)) (H:k (.int (Txt.find x y)) mem):wpE T K hZ n loc (.meth (.p o) .nL [.p e]) mem k:=by
  rw [aBl]; refine xp ho (os mk_find (xs (is1 he) ?_)); rw [m_find]; exact H
theorem xsp {es:List IE} {kk:List V→Mem→Prop} (he:evP mem loc e = some v) (H:wpEs T K hZ n loc es mem fun vs m=>kk (v :: vs) m):wpEs T K hZ n loc (.p e :: es) mem kk:=by rw [uL]; exact xp he H
theorem xse {e:IE} {es:List IE} {kk:List V→Mem→Prop} (H:wpE T K hZ n loc e mem fun v m=>wpEs T K hZ n loc es m fun vs m2=>kk (v :: vs) m2):wpEs T K hZ n loc (e :: es) mem kk:=by rw [uL]; exact H
theorem xcalle {f:Value} {args:List IE} (hf:isFun f = true) (H:wpEs T K hZ n loc args mem fun vs m=>aA T K hZ n f vs m k):wpE T K hZ n loc (.call (.glob (.glob f)) args) mem k:=by rw [e_call]; exact ⟨hf,H⟩
theorem xjoin {e:PE} {x:Str} {i:Nat} {l:List V} {ls:List Str} (ho:evP mem loc o = some (.str x)) (he:evP mem loc e = some (.ref i)) (hi:mem[i]? = some (.lst l)) (hl:strsOf l = some ls) (hj:JoinOk x ls = true) (H:k (.str (Txt.join x ls)) mem):wpE T K hZ n loc (.meth (.p o) .tK [.p e]) mem k:=by
  rw [aBl]; refine xp ho (os mk_join (xs (is1 he) ?_)); exact os (o:=dT mem i) (congrArg (·.bind lstO) hi) (os hl ⟨hj,H⟩)
end
section
variable {T:CT} {K:Frag} {hZ:Heap} {n:Nat} {loc:Locs} {mem:Mem} {kl:Locs→Mem→Prop} {kr:V→Mem→Prop} {kb:Locs→Mem→Prop} {r t e:List IS} {i:Nat} {f:Value} {g:Addr} {args:List IE} {vs:List V} {P:V→Mem→Prop} {a:At} {o:PE} {w:V}
theorem casg (hf:isFun f = true) (h:evIs mem loc args = some vs) (c:aA T K hZ n f vs mem P) (H:∀ v m,P v m→wpSs T K hZ n (setL loc i v) r m kl kr kb):wpSs T K hZ n loc (.asg i (.call (.glob (.glob f)) args) :: r) mem kl kr kb:=tasg (xcall hf h c H)
theorem cexpr (hf:isFun f = true) (h:evIs mem loc args = some vs) (c:aA T K hZ n f vs mem P) (H:∀ v m,P v m→wpSs T K hZ n loc r m kl kr kb):wpSs T K hZ n loc (.expr (.call (.glob (.glob f)) args) :: r) mem kl kr kb:=texpr (xcall hf h c H)
theorem cret (hf:isFun f = true) (h:evIs mem loc args = some vs) (c:aA T K hZ n f vs mem P) (H:∀ v m,P v m→kr v m):wpSs T K hZ n loc (.ret (.call (.glob (.glob f)) args) :: r) mem kl kr kb:=tret (xcall hf h c H)
theorem cite (hf:isFun f = true) (h:evIs mem loc args = some vs) (c:aA T K hZ n f vs mem P) (H:∀ v m,P v m→aC (truth v) fun b=>if b = true then wpSs T K hZ n loc t m (fun l m=>wpSs T K hZ n l r m kl kr kb) kr kb else wpSs T K hZ n loc e m (fun l m=>wpSs T K hZ n l r m kl kr kb) kr kb):wpSs T K hZ n loc (.ite (.call (.glob (.glob f)) args) t e :: r) mem kl kr kb:=tite (xcall hf h c H)
theorem masg (ho:evP mem loc o = some w) (hm:mkOf mem a w = some (.fn g)) (h:evIs mem loc args = some vs) (c:aA T K hZ n (.ref g) (w :: vs) mem P) (H:∀ v m,P v m→wpSs T K hZ n (setL loc i v) r m kl kr kb):wpSs T K hZ n loc (.asg i (.meth (.p o) a args) :: r) mem kl kr kb:=tasg (xmeth ho hm h c H)
theorem mexpr (ho:evP mem loc o = some w) (hm:mkOf mem a w = some (.fn g)) (h:evIs mem loc args = some vs) (c:aA T K hZ n (.ref g) (w :: vs) mem P) (H:∀ v m,P v m→wpSs T K hZ n loc r m kl kr kb):wpSs T K hZ n loc (.expr (.meth (.p o) a args) :: r) mem kl kr kb:=texpr (xmeth ho hm h c H)
theorem mret (ho:evP mem loc o = some w) (hm:mkOf mem a w = some (.fn g)) (h:evIs mem loc args = some vs) (c:aA T K hZ n (.ref g) (w :: vs) mem P) (H:∀ v m,P v m→kr v m):wpSs T K hZ n loc (.ret (.meth (.p o) a args) :: r) mem kl kr kb:=tret (xmeth ho hm h c H)
theorem mite (ho:evP mem loc o = some w) (hm:mkOf mem a w = some (.fn g)) (h:evIs mem loc args = some vs) (c:aA T K hZ n (.ref g) (w :: vs) mem P) (H:∀ v m,P v m→aC (truth v) fun b=>if b = true then wpSs T K hZ n loc t m (fun l m=>wpSs T K hZ n l r m kl kr kb) kr kb else wpSs T K hZ n loc e m (fun l m=>wpSs T K hZ n l r m kl kr kb) kr kb):wpSs T K hZ n loc (.ite (.meth (.p o) a args) t e :: r) mem kl kr kb:=tite (xmeth ho hm h c H)
end
section
variable {T:CT} {K:Frag} {hZ:Heap} {n:Nat} {mem:Mem}
theorem rU (F:Facts K) (St:Stat T K hZ) (k v p:V):aA T K hZ (n + 1) (.ref 867) [.ref mem.length,k,v,p] (mem ++ [.inst .token []]) (fun r m=>r = .none∧m = mem ++ [.inst .token [k,v,p]]):=by
  refine F.ok_mToken_init.sem T hZ n _ _ _ St rfl ?_
  exact tself rfl rfl rfl (tself rfl rfl rfl (tself rfl rfl rfl (aDw ▸ ⟨rfl,rfl⟩)))
theorem eK (F:Facts K) (St:Stat T K hZ) (k v p:V):aA T K hZ (n + 2) A.cToken [k,v,p] mem (fun r m=>r = .inst .token [k,v,p]∧m = mem) :=
  nS St F.mk_token (fun _ _ _ h=>h) (rU F St k v p)
end
section
variable {T:CT} {K:Frag} {hZ:Heap} {n:Nat} {mem:Mem}
theorem rX (F:Facts K) (St:Stat T K hZ) (a b c d:V):aA T K hZ (n + 1) (.ref 36) [.ref mem.length,a,b,c,d] (mem ++ [.inst .node []]) (fun r m=>r = .none∧m = mem ++ [.inst .node [a,b,c,d,.none,.bool false]]):=by
  refine F.ok_mNode_init_d.sem T hZ n _ _ _ St rfl ?_
  exact tself rfl rfl rfl (tself rfl rfl rfl (tself rfl rfl rfl (tself rfl rfl rfl (tself rfl rfl rfl (tself rfl rfl rfl (aDw ▸ ⟨rfl,rfl⟩))))))
theorem rW (F:Facts K) (St:Stat T K hZ) (a b c d e:V):aA T K hZ (n + 1) (.ref 36) [.ref mem.length,a,b,c,d,e] (mem ++ [.inst .node []]) (fun r m=>r = .none∧m = mem ++ [.inst .node [a,b,c,d,e,.bool false]]):=by
  refine F.ok_mNode_init.sem T hZ n _ _ _ St rfl ?_
  exact tself rfl rfl rfl (tself rfl rfl rfl (tself rfl rfl rfl (tself rfl rfl rfl (tself rfl rfl rfl (tself rfl rfl rfl (aDw ▸ ⟨rfl,rfl⟩))))))
theorem aFt (F:Facts K) (St:Stat T K hZ) (a b c d:V):aA T K hZ (n + 2) A.cNode [a,b,c,d] mem (fun r m=>r = .inst .node [a,b,c,d,.none,.bool false]∧m = mem) :=
  nS St F.mk_node (fun P p0 pb h=>show ∀ x ∈ [a,b,c,d] ++ [V.none,.bool false],P x from List.forall_mem_append.mpr ⟨h,List.forall_mem_cons.mpr ⟨p0,List.forall_mem_singleton.mpr (pb _)⟩⟩) (rX F St a b c d)
theorem rE (F:Facts K) (St:Stat T K hZ) (a b c d e:V):aA T K hZ (n + 2) A.cNode [a,b,c,d,e] mem (fun r m=>r = .inst .node [a,b,c,d,e,.bool false]∧m = mem) :=
  nS St F.mk_node (fun P p0 pb h=>show ∀ x ∈ [a,b,c,d,e] ++ [V.bool false],P x from List.forall_mem_append.mpr ⟨h,List.forall_mem_singleton.mpr (pb _)⟩) (rW F St a b c d e)
theorem jY (F:Facts K) (St:Stat T K hZ) (t v p:V):aA T K hZ (n + 3) A.const [t,v,p] mem (fun r m=>r = .inst .node [.str (Str.ofString "const"),p,t,.lst [],v,.bool false]∧m = mem):=by
  refine F.ok_const.sem T hZ (n + 2) _ _ _ St rfl ?_
  exact cret (by decide) rfl (rE F St _ _ _ _ _) fun _ _ h=>h
end
section
variable {T:CT} {K:Frag} {hZ:Heap} {n:Nat} {mem:Mem}
theorem con_mark (F:Facts K) (St:Stat T K hZ) {e r d:Nat} {rows:List V} {ps:List (Int × V)} {p:Int} {code:Str} (he:mem[e]? = some (.inst .errors [.ref r,.ref d])) (hr:mem[r]? = some (.lst rows)) (hd:mem[d]? = some (.idict ps))
    (hed:e ≠ d) (hrd:r ≠ d) (hn:look p ps = none) (h1:rows.length ≤ 1000) (h2:ps.length ≤ 1000) :
    aA T K hZ (n + 1) (.ref 832) [.ref e,.int p,.str code] mem (fun v m=>v = .none∧m = (mem.set d (.idict (putD p (.str code) ps))).set r (.lst (rows ++ [.tup [.int p,.str code]]))):=by
  refine F.ok_mErrorList_mark.sem T hZ n _ _ _ St rfl ?_
  have e2:(mem.set d (.idict (putD p (.str code) ps)))[e]? = some (.inst .errors [.ref r,.ref d]):=by rw [List.getElem?_set_ne (Ne.symm hed)]; exact he
  have e3:(mem.set d (.idict (putD p (.str code) ps)))[r]? = some (.lst rows):=by rw [List.getElem?_set_ne (Ne.symm hrd)]; exact hr
  refine tt (vcmp rfl (va rfl he rfl) (cnin hd (by rw [inO_i,hn]))) ?_
  refine titem (xp rfl (xp (va rfl he rfl) (xp rfl (pidict hd h2 ?_))))
  refine texpr (xapp (va rfl e2 rfl) e3 rfl (by lia) ?_)
  exact tnil (tnil ⟨rfl,rfl⟩)
end
noncomputable def From (x:Str) (p:Nat) (rest:List Nat):Prop:=x.cps.toList.drop p = rest∧x.length ≤ 2 ^ 24
noncomputable def chr1:List Nat→Str
  | []=>⟨#[]⟩
  | c :: _=>⟨#[c]⟩
theorem oY (a:Array Nat) (i j:Nat):(a.extract i j).toList = (a.toList.drop i).take (j - i):=by
  simp [Array.toList_extract,List.extract]
theorem aDu {x y:Str} (h:x.cps.toList = y.cps.toList):x = y:=by
  obtain ⟨a⟩:=x; obtain ⟨b⟩:=y
  simp only [Str.mk.injEq]
  exact Array.toList_inj.mp h
theorem From.one {x:Str} {p:Nat} {rest:List Nat} (h:From x p rest):(⟨x.cps.extract p (p + 1)⟩ : Str) = chr1 rest:=by
  refine aDu ?_
  rw [oY,h.1,Nat.add_sub_cancel_left]
  cases rest <;> rfl
theorem From.many {x:Str} {p:Nat} {w rest:List Nat} (h:From x p (w ++ rest)):(⟨x.cps.extract p (p + w.length)⟩ : Str) = ⟨w.toArray⟩:=by
  refine aDu ?_
  rw [oY,h.1,Nat.add_sub_cancel_left,List.take_left']
  · rfl
theorem From.on {x:Str} {p:Nat} {w rest:List Nat} (h:From x p (w ++ rest)):From x (p + w.length) rest:=by
  refine ⟨?_,h.2⟩
  rw [← List.drop_drop,h.1,List.drop_left']
  rfl
theorem From.next {x:Str} {p c:Nat} {rest:List Nat} (h:From x p (c :: rest)):From x (p + 1) rest:=From.on (w:=[c]) h
section
variable {T:CT} {K:Frag} {hZ:Heap} {n:Nat} {mem:Mem}
theorem qC {src:Str} {p:Nat} {rest:List Nat} (hf:From src p rest):vR (.str src) p (p + 1) = some (.str (chr1 rest)):=by
  show (if 0 ≤ (p:Int)∧0 ≤ ((p + 1:Nat):Int)∧src.length ≤ 2 ^ 24 then some (V.str ⟨src.cps.extract p (p + 1)⟩) else none) = _
  rw [if_pos ⟨Int.natCast_nonneg _,Int.natCast_nonneg _,hf.2⟩]
  exact congrArg (some ∘ V.str) hf.one
theorem tX {src:Str} {p e:Nat} {w rest:List Nat} (hf:From src p (w ++ rest)) (he:e = p + w.length):vR (.str src) p e = some (.str ⟨w.toArray⟩):=by
  subst he
  show (if 0 ≤ (p:Int)∧0 ≤ ((p + w.length:Nat):Int)∧src.length ≤ 2 ^ 24 then some (V.str ⟨src.cps.extract p (p + w.length)⟩) else none) = _
  rw [if_pos ⟨Int.natCast_nonneg _,Int.natCast_nonneg _,hf.2⟩]
  exact congrArg (some ∘ V.str) hf.many
theorem dL (F:Facts K) (St:Stat T K hZ) {sc p:Nat} {src:Str} {er w:V} {rest:List Nat} (hs:mem[sc]? = some (.inst .scanner [.str src,er,.int p,w])) (hf:From src p rest) :
    aA T K hZ (n + 1) (.ref 931) [.ref sc] mem (fun v m=>v = .str (chr1 rest)∧m = mem):=by
  refine F.ok_mScanner_char_d.sem T hZ n _ _ _ St rfl ?_
  have e:(⟨src.cps.extract p (p + 1)⟩ : Str) = chr1 rest:=hf.one
  have h2:=hf.2
  have h1:evP mem (loc0 [.ref sc,.int 0] 0) (.attr (.loc 0) .aJ) = some (.int p):=va rfl hs rfl
  exact tretp (vsl (va rfl hs rfl) (vbin h1 rfl rfl) (vbin (vbin h1 rfl rfl) rfl rfl) (by rw [Int.add_zero]; exact qC hf)) ⟨rfl,rfl⟩
end
noncomputable def isLet:List Nat→Bool
  | []=>false
  | c :: _=>(decide (97 ≤ c) && decide (c ≤ 122)) || (decide (65 ≤ c) && decide (c ≤ 90))
noncomputable def gT:List Nat→Bool
  | []=>false
  | c :: _=>decide (48 ≤ c) && decide (c ≤ 57)
noncomputable def isHex:List Nat→Bool
  | []=>false
  | c :: _=>(decide (48 ≤ c) && decide (c ≤ 57)) || (decide (65 ≤ c) && decide (c ≤ 70))
theorem wG (a b:Nat):([a]:List Nat) < [b] ↔ a < b:=by
  constructor
  · intro h
    cases h with
    | rel h=>exact h
    | cons h=>cases h
  · intro h
    exact List.Lex.rel h
theorem nlt {a b:Nat} {inst:Decidable (([a]:List Nat) < [b])}:(!@decide _ inst) = decide (b ≤ a):=by
  by_cases h:([a]:List Nat) < [b]
  · have:=(wG a b).mp h
    simp [h]; lia
  · have:¬ a < b:=fun q=>h ((wG a b).mpr q)
    simp [h]; lia
noncomputable def geC (a:Nat):List Nat→Bool
  | []=>false
  | c :: _=>decide (a ≤ c)
noncomputable def leC (a:Nat):List Nat→Bool
  | []=>true
  | c :: _=>decide (c ≤ a)
section
variable {T:CT} {K:Frag} {hZ:Heap} {n:Nat} {mem:Mem} {loc:Locs}
theorem le_chr {x:String} {a:Nat} (hs:Str.ofString x = ⟨#[a]⟩) (rest:List Nat):cmpV mem .LtE (.str (Str.ofString x)) (.str (chr1 rest)) = some (geC a rest):=by
  rw [hs]
  cases rest with
  | nil=>exact congrArg (fun b=>some (!b)) (decide_eq_true (List.nil_lt_cons a []))
  | cons c r=>exact congrArg some nlt
theorem chr_le {x:String} {a:Nat} (hs:Str.ofString x = ⟨#[a]⟩) (rest:List Nat):cmpV mem .LtE (.str (chr1 rest)) (.str (Str.ofString x)) = some (leC a rest):=by
  rw [hs]
  cases rest with
  | nil=>exact congrArg (fun b=>some (!b)) (decide_eq_false (List.not_lt_nil _))
  | cons c r=>exact congrArg some nlt
theorem band {a b:PE} {x y:Bool} (ha:evP mem loc a = some (.bool x)) (hb:evP mem loc b = some (.bool y)):evP mem loc (.andE a b) = some (.bool (x && y)):=by
  cases x with
  | true=>exact fJ ha rfl hb
  | false=>exact pS ha rfl
theorem bor {a b:PE} {x y:Bool} (ha:evP mem loc a = some (.bool x)) (hb:evP mem loc b = some (.bool y)):evP mem loc (.orE a b) = some (.bool (x || y)):=by
  cases x with
  | true=>exact yK ha rfl
  | false=>exact lI ha rfl hb
theorem bet {x y:String} {a b:Nat} (hx:Str.ofString x = ⟨#[a]⟩) (hy:Str.ofString y = ⟨#[b]⟩) {rest:List Nat} {i:Nat} (h:evP mem loc (.loc i) = some (.str (chr1 rest))):evP mem loc (.andE (.cmp .LtE (.cst (.str (Str.ofString x))) (.loc i)) (.cmp .LtE (.loc i) (.cst (.str (Str.ofString y))))) = some (.bool (geC a rest && leC b rest)) :=
  band (vcmp rfl h (le_chr hx rest)) (vcmp h rfl (chr_le hy rest))
theorem s_a:Str.ofString "a" = ⟨#[97]⟩:=by decide +kernel
theorem s_z:Str.ofString "z" = ⟨#[122]⟩:=by decide +kernel
theorem s_A:Str.ofString "A" = ⟨#[65]⟩:=by decide +kernel
theorem s_Z:Str.ofString "Z" = ⟨#[90]⟩:=by decide +kernel
theorem s_F:Str.ofString "F" = ⟨#[70]⟩:=by decide +kernel
theorem s_0:Str.ofString "0" = ⟨#[48]⟩:=by decide +kernel
theorem s_9:Str.ofString "9" = ⟨#[57]⟩:=by decide +kernel
theorem iK (F:Facts K) (St:Stat T K hZ) (rest:List Nat):aA T K hZ (n + 1) A.is_letter_scanner [.str (chr1 rest)] mem (fun v m=>v = .bool (isLet rest)∧m = mem):=by
  refine F.ok_is_letter_scanner.sem T hZ n _ _ _ St rfl ?_
  refine tretp (bor (bet s_a s_z rfl) (bet s_A s_Z rfl)) ⟨congrArg V.bool ?_,rfl⟩
  cases rest <;> rfl
theorem cQ (F:Facts K) (St:Stat T K hZ) (rest:List Nat):aA T K hZ (n + 1) A.is_digit [.str (chr1 rest)] mem (fun v m=>v = .bool (gT rest)∧m = mem):=by
  refine F.ok_is_digit.sem T hZ n _ _ _ St rfl ?_
  refine tretp (bet s_0 s_9 rfl) ⟨congrArg V.bool ?_,rfl⟩
  cases rest <;> rfl
theorem aCu (F:Facts K) (St:Stat T K hZ) (rest:List Nat):aA T K hZ (n + 2) A.is_hex_digit [.str (chr1 rest)] mem (fun v m=>v = .bool (isHex rest)∧m = mem):=by
  refine F.ok_is_hex_digit.sem T hZ (n + 1) _ _ _ St rfl ?_
  refine tret (xor' (xcall (by decide) (is1 rfl) (cQ F St rest) fun v m h=>?_))
  obtain ⟨rfl,rfl⟩:=h
  have e:isHex rest = (gT rest || (geC 65 rest && leC 70 rest)):=by cases rest <;> rfl
  rw [e]
  cases gT rest with
  | true=>exact brt rfl ⟨rfl,rfl⟩
  | false=>exact brf rfl (xp (bet s_A s_F rfl) ⟨rfl,rfl⟩)
end
section
variable {mem:Mem} {loc:Locs}
theorem b_add {a b:Int}:binV .Add (.int a) (.int b) = some (.int (a + b)):=rfl
theorem b_ord {c:Nat}:biV mem .ord [.str ⟨#[c]⟩] = some (.int c):=rfl
theorem chr1_nil:chr1 [] = ⟨#[]⟩:=rfl
theorem xP {c:Nat} {r:List Nat}:chr1 (c :: r) = ⟨#[c]⟩:=rfl
theorem gL {c d:Nat}:((⟨#[c]⟩ : Str) == ⟨#[d]⟩) = (c == d):=by
  by_cases h:c = d
  · subst h; simp only [beq_self_eq_true]
  · have h1:((⟨#[c]⟩ : Str) == ⟨#[d]⟩) = false:=by
      rw [beq_eq_false_iff_ne]
      intro q
      exact h (by simpa using q)
    rw [h1]
    exact (beq_eq_false_iff_ne.mpr h).symm
theorem mD {c:Nat}:((⟨#[c]⟩ : Str) == ⟨#[]⟩) = false:=by simp
theorem nil_str1 {c:Nat}:((⟨#[]⟩ : Str) == ⟨#[c]⟩) = false:=by simp
theorem nil_nil:((⟨#[]⟩ : Str) == ⟨#[]⟩) = true:=by simp
end
section
variable {T:CT} {K:Frag} {hZ:Heap} {n:Nat}
noncomputable def eE (T:CT) (K:Frag) (hZ:Heap) (n:Nat) (c:IE) (b:List IS) (post:V→Mem→Prop) (N:Nat) (loc:Locs) (mem:Mem) (kk:Locs→Mem→Prop):Prop :=
  sA (fun l m q=>wpE T K hZ n l c m fun v m=>aC (truth v) fun t=>q t m) (fun l m q qb=>wpSs T K hZ n l b m q post qb) N loc mem kk
theorem vI {c:IE} {b:List IS} {loc:Locs} {mem:Mem} {k:Locs→Mem→Prop} {kr:V→Mem→Prop} {kb:Locs→Mem→Prop}:wpS T K hZ n loc (.while c b) mem k kr kb = ∃ N,eE T K hZ n c b kr N loc mem k:=by dsimp only [wpS]; rfl
theorem twhile {c:IE} {b r:List IS} {loc:Locs} {mem:Mem} {k:Locs→Mem→Prop} {kr:V→Mem→Prop} {kb:Locs→Mem→Prop} (N:Nat) (H:eE T K hZ n c b kr N loc mem fun l m=>wpSs T K hZ n l r m k kr kb):wpSs T K hZ n loc (.while c b :: r) mem k kr kb:=by
  rw [bX,vI]; exact ⟨N,H⟩
theorem hS {b:List IS} {post:V→Mem→Prop} {N:Nat} {loc:Locs} {mem:Mem} {kk:Locs→Mem→Prop} (h:wpSs T K hZ n loc b mem (fun l m=>eE T K hZ n (.p (.cst (.bool true))) b post N l m kk) post kk):eE T K hZ n (.p (.cst (.bool true))) b post (N + 1) loc mem kk:=by
  dsimp only [eE,sA,wpE,evP,aC,truth]
  rw [if_pos rfl]
  exact h
noncomputable def pI:List IS:=[.asg 1 (.meth (.p (.loc 0)) .cO []),.ite (.andE (.p (.cmp .Eq (.loc 1) (.cst (.str (Str.ofString "("))))) (.cmp .Eq (.meth (.p (.loc 0)) .cO [(.p (.cst (.int 1)))]) (.p (.cst (.str (Str.ofString "*")))))) [.expr (.meth (.p (.loc 0)) .pQ [])] [.ite (.p (.andE (.cmp .NotEq (.loc 1) (.cst (.str (Str.ofString "")))) (.cmp .LtE (.bi .ord [(.loc 1)]) (.cst (.int 32))))) [.attr (.p (.loc 0)) .aJ (.p (.bin .Add (.attr (.loc 0) .aJ) (.cst (.int 1))))] [.ret0]]]
theorem skip_ir:eQ = [.while (.p (.cst (.bool true))) pI]:=rfl
theorem yO:Str.ofString "(" = ⟨#[40]⟩:=by decide +kernel
theorem jE:Str.ofString "" = ⟨#[]⟩:=by decide +kernel
noncomputable def mU:List Nat→Bool
  | []=>true
  | c :: _=>decide (32 < c) && !(c == 40)
noncomputable def scan (mem:Mem) (sc:Nat) (src:Str) (er:V) (p:Nat) (w:V):Mem:=mem.set sc (.inst .scanner [.str src,er,.int (p:Int),w])
theorem aDz {mem:Mem} {sc p:Nat} {src:Str} {er w:V} (hs:mem[sc]? = some (.inst .scanner [.str src,er,.int p,w])):scan mem sc src er p w = mem:=by
  obtain ⟨hl,e⟩:=List.getElem?_eq_some_iff.mp hs
  unfold scan
  rw [← e]; exact List.set_getElem_self hl
theorem scan_get {mem:Mem} {sc p q:Nat} {src:Str} {er w:V} (hs:mem[sc]? = some (.inst .scanner [.str src,er,.int p,w])):(scan mem sc src er q w)[sc]? = some (.inst .scanner [.str src,er,.int q,w]):=by
  unfold scan
  rw [List.getElem?_set_self (List.getElem?_eq_some_iff.mp hs).1]
theorem eF {mem:Mem} {sc p q:Nat} {src:Str} {er w:V}:scan (scan mem sc src er p w) sc src er q w = scan mem sc src er q w:=by
  unfold scan; rw [List.set_set]
theorem skip_end (F:Facts K) (St:Stat T K hZ) {sc p:Nat} {mem:Mem} {l1:Option V} {src:Str} {er w:V} {rest:List Nat} {post:V→Mem→Prop} {next kb:Locs→Mem→Prop} (hs:mem[sc]? = some (.inst .scanner [.str src,er,.int p,w])) (hf:From src p rest) (hok:mU rest = true) (hp:post .none mem) :
    wpSs T K hZ (n + 1) [some (.ref sc),l1] pI mem next post kb:=by
  refine masg rfl (mkm hs rfl) rfl (dL F St hs hf) ?_
  rintro v m ⟨rfl,rfl⟩
  cases rest with
  | nil=>exact tite (xand (xp (vcmp rfl rfl (ceq (yO ▸ nil_str1))) (brf rfl (brf rfl (tf (pS (vcmp rfl rfl (cne (jE ▸ nil_nil))) rfl) (tret0 hp))))))
  | cons c r =>
    obtain ⟨o1,o2⟩:=Bool.and_eq_true_iff.mp hok
    have hle:decide ((c:Int) ≤ 32) = false:=decide_eq_false (by have:=of_decide_eq_true o1; lia)
    exact tite (xand (xp (vcmp rfl rfl (ceq (yO ▸ gL.trans (bnot o2)))) (brf rfl (brf rfl (tf (fJ (vcmp rfl rfl (cne (jE ▸ mD))) rfl (vcmp (vbi1 rfl b_ord) rfl (congrArg some hle))) (tret0 hp))))))
theorem aBN (F:Facts K) (St:Stat T K hZ) {sc p:Nat} {mem:Mem} {l1:Option V} {src:Str} {er w:V} {rest:List Nat} {post:V→Mem→Prop} {next kb:Locs→Mem→Prop} (hs:mem[sc]? = some (.inst .scanner [.str src,er,.int p,w])) (hf:From src p (32 :: rest))
    (hp:∀ l1,next [some (.ref sc),l1] (scan mem sc src er (p + 1) w)):wpSs T K hZ (n + 1) [some (.ref sc),l1] pI mem next post kb:=by
  refine masg rfl (mkm hs rfl) rfl (dL F St hs hf) ?_
  rintro v m ⟨rfl,rfl⟩
  exact tite (xand (xp (vcmp rfl rfl (ceq (yO ▸ gL.trans rfl))) (brf rfl (brf rfl (tt (fJ (vcmp rfl rfl (cne (jE ▸ mD))) rfl (vcmp (vbi1 rfl b_ord) rfl rfl)) (tattr (xp (vbin (va rfl hs rfl) rfl b_add) (xp rfl (pa hs rfl (tnil (tnil (tnil (hp _)))))))))))))
theorem vS (F:Facts K) (St:Stat T K hZ) {sc:Nat} {src:Str} {er w:V} {rest:List Nat} {post:V→Mem→Prop} {kk:Locs→Mem→Prop} (hok:mU rest = true):∀ (k p:Nat) (mem:Mem) (l1:Option V),mem[sc]? = some (.inst .scanner [.str src,er,.int p,w])→From src p (List.replicate k 32 ++ rest) →
    (post .none (scan mem sc src er (p + k) w))→eE T K hZ (n + 1) (.p (.cst (.bool true))) pI post (k + 1) [some (.ref sc),l1] mem kk
  | 0,p,mem,l1,hs,hf,hp=>by
    rw [Nat.add_zero,aDz hs] at hp
    exact hS (skip_end F St hs (by simpa using hf) hok hp)
  | k + 1,p,mem,l1,hs,hf,hp=>by
    rw [List.replicate_succ,List.cons_append] at hf
    refine hS (aBN F St hs hf fun l2=>?_)
    refine vS F St hok k (p + 1) _ l2 (scan_get hs) hf.next ?_
    rw [eF,show p + 1 + k = p + (k + 1) by lia]
    exact hp
theorem con_skip (F:Facts K) (St:Stat T K hZ) {sc p k:Nat} {mem:Mem} {src:Str} {er w:V} {rest:List Nat} (hs:mem[sc]? = some (.inst .scanner [.str src,er,.int p,w])) (hf:From src p (List.replicate k 32 ++ rest)) (hok:mU rest = true) :
    aA T K hZ (n + 2) (.ref 945) [.ref sc] mem (fun v m=>v = .none∧m = scan mem sc src er (p + k) w):=by
  refine F.ok_mScanner_skip.sem T hZ (n + 1) _ _ _ St rfl ?_
  rw [skip_ir,wpSs,vI]
  exact ⟨k + 1,vS F St hok k p mem _ hs hf ⟨rfl,rfl⟩⟩
end
section
variable {T:CT} {K:Frag} {hZ:Heap} {n:Nat}
noncomputable def slc:V→V→V→Option V
  | v,.int a,.int b=>vR v a b
  | _,_,_=>none
@[simp] theorem v_slice {mem:Mem} {loc:Locs} {e lo hi:PE}:evP mem loc (.sliceFT e lo hi) = (evP mem loc e).bind fun v=>(evP mem loc lo).bind fun a=>(evP mem loc hi).bind fun b=>slc v a b:=by
  dsimp only [evP]
  cases evP mem loc e with
  | none=>rfl
  | some v =>
    cases evP mem loc lo with
    | none=>rfl
    | some a =>
      cases evP mem loc hi with
      | none=>cases a <;> rfl
      | some b=>cases a <;> cases b <;> rfl
theorem aS {c:IE} {b:List IS} {post:V→Mem→Prop} {N:Nat} {loc:Locs} {mem:Mem} {kk:Locs→Mem→Prop} (h:wpE T K hZ n loc c mem fun v m=>aC (truth v) fun t=>if t = true then wpSs T K hZ n loc b m (fun l m'=>eE T K hZ n c b post N l m' kk) post kk else kk loc m):eE T K hZ n c b post (N + 1) loc mem kk:=by
  unfold eE
  rw [sA]
  exact (show (wpE T K hZ n loc c mem fun v m=>aC (truth v) fun t=>_) from h)
noncomputable def alnum (c:Nat):Bool:=isLet [c] || gT [c]
theorem oD {c:Nat} {r:List Nat}:isLet (c :: r) = isLet [c]:=rfl
theorem oE {c:Nat} {r:List Nat}:gT (c :: r) = gT [c]:=rfl
noncomputable def lH:List Nat→Bool
  | []=>true
  | c :: _=>!alnum c
noncomputable def wcond:IE:=(.orE (.call (.glob (.glob A.is_letter_scanner)) [(.p (.sliceFT (.attr (.loc 0) .bW) (.loc 2) (.bin .Add (.loc 2) (.cst (.int 1)))))]) (.call (.glob (.glob A.is_digit)) [(.p (.sliceFT (.attr (.loc 0) .bW) (.loc 2) (.bin .Add (.loc 2) (.cst (.int 1)))))]))
noncomputable def wbody:List IS:=[.asg 2 (.p (.bin .Add (.loc 2) (.cst (.int 1))))]
theorem isLd:isFun A.is_letter_scanner = true:=by decide
theorem isDd:isFun A.is_digit = true:=by decide
theorem isHd:isFun A.is_hex_digit = true:=by decide
theorem sB (F:Facts K) (St:Stat T K hZ) {sc e:Nat} {mem:Mem} {l1 l3:Option V} {src:Str} {er pl w:V} {rest:List Nat} {k:V→Mem→Prop} (hs:mem[sc]? = some (.inst .scanner [.str src,er,pl,w])) (hf:From src e rest) (hk:k (.bool (isLet rest || gT rest)) mem) :
    wpE T K hZ (n + 1) [some (.ref sc),l1,some (.int e),l3] wcond mem k:=by
  have hv:=is1 (vsl (mem:=mem) (loc:=[some (.ref sc),l1,some (.int e),l3]) (a:=.attr (.loc 0) .bW) (b:=.loc 2) (c:=.bin .Add (.loc 2) (.cst (.int 1))) (va rfl hs rfl) rfl (vbin rfl rfl rfl) (qC hf))
  refine xor' (xcall isLd hv (iK F St rest) ?_)
  rintro v m ⟨rfl,rfl⟩
  refine brb rfl (fun h=>?_) fun h=>xcall isDd hv (cQ F St rest) ?_
  · rw [h] at hk ⊢; exact hk
  · rintro v m ⟨rfl,rfl⟩
    rw [h] at hk; exact hk
theorem vJ (F:Facts K) (St:Stat T K hZ) {sc:Nat} {l1 l3:Option V} {src:Str} {er pl w:V} {rest:List Nat} {post:V→Mem→Prop} {kk:Locs→Mem→Prop} {mem:Mem} (hs:mem[sc]? = some (.inst .scanner [.str src,er,pl,w])) (hr:lH rest = true) :
    ∀ (x:List Nat) (e:Nat),(x.all alnum) = true→From src e (x ++ rest)→kk [some (.ref sc),l1,some (.int ((e + x.length:Nat):Int)),l3] mem→eE T K hZ (n + 1) wcond wbody post (x.length + 1) [some (.ref sc),l1,some (.int (e:Int)),l3] mem kk
  | [],e,_,hf,hk=>by
    refine aS (sB F St hs hf ?_)
    have:(isLet rest || gT rest) = false:=by
      cases rest with
      | nil=>rfl
      | cons c r=>simpa [lH,alnum,oD (r:=r),oE (r:=r)] using hr
    simp only [List.nil_append,this,nM,kE,Bool.false_eq_true,if_false]
    simpa using hk
  | c :: x,e,ha,hf,hk=>by
    simp only [List.all_cons,Bool.and_eq_true] at ha
    refine aS (sB F St hs hf ?_)
    have:(isLet (c :: x ++ rest) || gT (c :: x ++ rest)) = true:=ha.1
    simp only [this,nM,kE,if_true]
    refine tasgp (vbin rfl rfl rfl) (tnil (vJ F St (l1:=l1) (l3:=l3) (post:=post) (kk:=kk) hs hr x (e + 1) ha.2 hf.next ?_))
    rw [Nat.add_assoc,Nat.add_comm 1]; exact hk
noncomputable def keyList:List String:=["ARRAY", "BEGIN", "BY", "CASE", "CONST", "DIV", "DO", "ELSE", "ELSIF", "END", "FOR", "IF", "IMPORT", "IN", "IS", "MOD", "MODULE", "NIL", "OF", "OR", "POINTER", "PROCEDURE", "RECORD", "REPEAT", "RETURN", "THEN", "TO", "TYPE", "UNTIL", "VAR", "WHILE"]
noncomputable def keyV:V:=.tup (keyList.map fun s=>.str (Str.ofString s))
theorem xD (F:Facts K) (St:Stat T K hZ) {mem:Mem}:aA T K hZ (n + 1) A.keywords [] mem (fun v m=>v = keyV∧m = mem):=by
  refine F.ok_keywords.sem T hZ n _ _ _ St rfl ?_
  exact tretp (v:=keyV) rfl ⟨rfl,rfl⟩
noncomputable def tkV (k:Str) (v:V) (p:Nat):V:=.inst .token [.str k,v,.int p]
noncomputable def tP (x:Str) (p:Nat):V:=if keyList.any (fun s=>Str.ofString s == x) then tkV x (.str (Str.ofString "")) p else tkV (Str.ofString "ident") (.str x) p
theorem wP:isFun A.cToken = true:=by decide
theorem nO:∀ (l:List String),strsOf (l.map fun s=>V.str (Str.ofString s)) = some (l.map Str.ofString)
  | []=>rfl
  | s :: l=>by rw [List.map_cons,aDx,nO l]; rfl
theorem con_word (F:Facts K) (St:Stat T K hZ) {sc p q:Nat} {mem:Mem} {src:Str} {er:V} {x rest:List Nat} (hs:mem[sc]? = some (.inst .scanner [.str src,er,.int p,keyV])) (hf:From src q (x ++ rest)) (hx:x.all alnum = true) (hr:lH rest = true) :
    aA T K hZ (n + 3) (.ref 959) [.ref sc,.int q] mem (fun v m=>v = tP ⟨x.toArray⟩ q∧m = scan mem sc src er (q + x.length) keyV):=by
  refine F.ok_mScanner_word.sem T hZ (n + 2) _ _ _ St rfl ?_
  have hs2:=scan_get (q:=q + x.length) hs
  have hb:cmpV (scan mem sc src er (q + x.length) keyV) .In (.str ⟨x.toArray⟩) keyV = some (keyList.any fun s=>Str.ofString s == ⟨x.toArray⟩):=by
    unfold keyV; rw [q_in_t,nO,Option.map_some,List.any_map]; rfl
  refine tasgp rfl (twhile _ (vJ F St hs hr x q hx hf ?_))
  refine tattr (xp rfl (xp rfl (pa hs rfl ?_)))
  refine tasgp (vsl (va rfl hs2 rfl) rfl rfl (tX hf rfl)) ?_
  refine tite (xp (vcmp rfl (va rfl hs2 rfl) hb) (brb rfl (fun h=>?_) fun h=>?_))
  · exact cret wP rfl (eK F St _ _ _) fun v m q=>⟨q.1.trans (if_pos h).symm,q.2⟩
  · exact tnil (cret wP rfl (eK F St _ _ _) fun v m q=>⟨q.1.trans (if_neg (by rw [h]; exact Bool.false_ne_true)).symm,q.2⟩)
end
section
variable {T:CT} {K:Frag} {hZ:Heap} {n:Nat}
noncomputable def forW (T:CT) (K:Frag) (hZ:Heap) (n:Nat) (i:Nat) (b:List IS) (post:V→Mem→Prop) (src:Src) (N j:Nat) (loc:Locs) (mem:Mem) (k:Locs→Mem→Prop):Prop :=
  forN src (put1 i) (fun l m q qb=>wpSs T K hZ n l b m q post qb) N j loc mem k
theorem oP {i:Nat} {e:Iter} {b:List IS} {loc:Locs} {mem:Mem} {kl:Locs→Mem→Prop} {kr:V→Mem→Prop} {kb:Locs→Mem→Prop}:wpS T K hZ n loc (.for1 i e b) mem kl kr kb = iterM T K hZ n loc mem e fun src m=>∃ N,forW T K hZ n i b kr src N 0 loc m kl:=by dsimp only [wpS]; rfl
theorem cB {i:Nat} {b:List IS} {post:V→Mem→Prop} {src:Src} {N j:Nat} {loc:Locs} {mem:Mem} {k:Locs→Mem→Prop} {x:V} (h:nextOf mem j src = some (some x)) (hb:wpSs T K hZ n (loc.set i (some x)) b mem (fun l m=>forW T K hZ n i b post src N (j + 1) l m k) post k):forW T K hZ n i b post src (N + 1) j loc mem k:=by
  unfold forW
  rw [forN,h]
  exact hb
theorem fA {i:Nat} {b:List IS} {post:V→Mem→Prop} {src:Src} {N j:Nat} {loc:Locs} {mem:Mem} {k:Locs→Mem→Prop} (h:nextOf mem j src = some none) (hb:k loc mem):forW T K hZ n i b post src (N + 1) j loc mem k:=by
  unfold forW
  rw [forN,h]
  exact hb
@[simp] theorem it_of {loc:Locs} {mem:Mem} {e:IE} {k:Src→Mem→Prop}:iterM T K hZ n loc mem (.of e) k = wpE T K hZ n loc e mem fun v m=>srcOf m v fun src=>k src m:=propext Iff.rfl
@[simp] theorem so_tup {mem:Mem} {xs:List V} {k:Src→Prop}:srcOf mem (.tup xs) k = k (.vals xs):=propext Iff.rfl
@[simp] theorem so_lst {mem:Mem} {xs:List V} {k:Src→Prop}:srcOf mem (.lst xs) k = k (.lst xs):=propext Iff.rfl
@[simp] theorem so_str {mem:Mem} {x:Str} {k:Src→Prop}:srcOf mem (.str x) k = k (.vals (x.cps.toList.map fun c=>.str ⟨#[c]⟩)):=propext Iff.rfl
@[simp] theorem nZ {mem:Mem} {xs:List V} {j:Nat}:nextOf mem j (.vals xs) = some xs[j]?:=rfl
@[simp] theorem nx_lst {mem:Mem} {xs:List V} {j:Nat}:nextOf mem j (.lst xs) = some xs[j]?:=rfl
section
variable {i:Nat} {b r:List IS} {loc:Locs} {mem:Mem} {e:PE} {kl:Locs→Mem→Prop} {kr:V→Mem→Prop} {kb:Locs→Mem→Prop}
theorem aAm {x:Str} (h:evP mem loc e = some (.str x)) (N:Nat) (H:forW T K hZ n i b kr (.vals (x.cps.toList.map fun c=>.str ⟨#[c]⟩)) N 0 loc mem fun l m=>wpSs T K hZ n l r m kl kr kb):wpSs T K hZ n loc (.for1 i (.of (.p e)) b :: r) mem kl kr kb:=by
  rw [bX,oP,it_of]; exact xp h ⟨N,H⟩
end
theorem find_dig:∀ d < 10,Txt.find (Str.ofString "0123456789ABCDEF") ⟨#[48 + d]⟩ = d:=by decide +kernel
noncomputable def dvBody:List IS:=[.asg 3 (.bin .Add (.p (.bin .Mult (.loc 3) (.loc 1))) (.meth (.p (.cst (.str (Str.ofString "0123456789ABCDEF")))) .nL [(.p (.loc 4))])),.ite (.p (.cmp .Gt (.loc 3) (.loc 2))) [.ret (.p (.bin .Add (.loc 2) (.cst (.int 1))))] []]
theorem zW {mem:Mem} {a:V} {acc base top:Int} {d:Nat} {post:V→Mem→Prop} {next kb:Locs→Mem→Prop} (hd:d < 10) (hb:-2 ^ 63 < base∧base < 2 ^ 63) (hle:¬ top < acc * base + d) (H:next [some a,some (.int base),some (.int top),some (.int (acc * base + d)),some (.str ⟨#[48 + d]⟩)] mem) :
    wpSs T K hZ n [some a,some (.int base),some (.int top),some (.int acc),some (.str ⟨#[48 + d]⟩)] dvBody mem next post kb :=
  tasg (xbin (xp (vbin rfl rfl (aFF hb)) (xfind rfl rfl (os (congrArg (fun z=>some (V.int (acc * base + z))) (find_dig d hd)) (tf0 (vcmp rfl rfl (congrArg some (decide_eq_false hle))) (tnil H))))))
theorem con_dv1 (F:Facts K) (St:Stat T K hZ) {mem:Mem} {d:Nat} (hd:d < 10):aA T K hZ (n + 1) A.digits_value [.str ⟨#[48 + d]⟩,.int 10,.int 2147483647] mem (fun v m=>v = .int d∧m = mem):=by
  refine F.ok_digits_value.sem T hZ n _ _ _ St rfl ?_
  refine tasgp rfl (aAm rfl 2 (cB rfl (zW hd (by decide) (by lia) (fA rfl (tretp rfl ⟨?_,rfl⟩)))))
  rw [Int.zero_mul,Int.zero_add]
theorem con_dv2 (F:Facts K) (St:Stat T K hZ) {mem:Mem} {d:Nat} (hd:d < 10):aA T K hZ (n + 1) A.digits_value [.str ⟨#[52,48 + d]⟩,.int 16,.int 255] mem (fun v m=>v = .int ((64 + d:Nat):Int)∧m = mem):=by
  refine F.ok_digits_value.sem T hZ n _ _ _ St rfl ?_
  exact tasgp rfl (aAm rfl 3 (cB rfl (zW (d:=4) (by decide) (by decide) (by decide) (cB rfl (zW hd (by decide) (by lia) (fA rfl (tretp rfl ⟨rfl,rfl⟩)))))))
theorem isDv:isFun A.digits_value = true:=by decide
theorem aFl (F:Facts K) (St:Stat T K hZ) {mem:Mem} {sc:Nat} {d:Nat} {q:Int} (hd:d < 10):aA T K hZ (n + 3) (.ref 973) [.ref sc,.int q,.int d,.int 2147483647] mem (fun v m=>v = .inst .token [.str (Str.ofString "int"),.int d,.int q]∧m = mem):=by
  refine F.ok_mScanner_whole.sem T hZ (n + 2) _ _ _ St rfl ?_
  have hlt:¬ (2147483647:Int) < (d:Int):=by lia
  exact tf0 (vcmp rfl rfl (congrArg some (decide_eq_false hlt))) (cret wP rfl (eK F St _ _ _) fun _ _ h=>h)
theorem bi_chr {mem:Mem} {c:Nat} (h:c ≤ 1114111):biV mem .chr [.int c] = some (.str ⟨#[c]⟩):=by
  show (if (0:Int) ≤ c∧(c:Int) ≤ 1114111 then some (V.str ⟨#[Int.toNat c]⟩) else none) = _
  rw [if_pos (by lia),Int.toNat_natCast]
theorem uS (F:Facts K) (St:Stat T K hZ) {mem:Mem} {sc:Nat} {d:Nat} {q:Int} (hd:d < 10):aA T K hZ (n + 3) (.ref 987) [.ref sc,.int q,.str ⟨#[52,48 + d]⟩] mem (fun v m=>v = .inst .token [.str (Str.ofString "string"),.str ⟨#[64 + d]⟩,.int q]∧m = mem):=by
  refine F.ok_mScanner_character.sem T hZ (n + 2) _ _ _ St rfl ?_
  refine casg isDv rfl (con_dv2 F St hd) ?_
  rintro v m ⟨rfl,rfl⟩
  have hlt:¬ (255:Int) < ((64 + d:Nat):Int):=by lia
  exact tf0 (vcmp rfl rfl (congrArg some (decide_eq_false hlt))) (cret wP (isc rfl (is2 (vbi1 rfl (bi_chr (by lia))) rfl)) (eK F St _ _ _) fun _ _ h=>h)
noncomputable def ncond (f:Value):IE:=(.call (.glob (.glob f)) [(.p (.sliceFT (.attr (.loc 0) .bW) (.loc 2) (.bin .Add (.loc 2) (.cst (.int 1)))))])
theorem aAP (F:Facts K) (St:Stat T K hZ) {sc e:Nat} {mem:Mem} {l1 l3 l4 l5:Option V} {src:Str} {er pl w:V} {rest:List Nat} {k:V→Mem→Prop} (hs:mem[sc]? = some (.inst .scanner [.str src,er,pl,w])) (hf:From src e rest) (hk:k (.bool (isHex rest)) mem) :
    wpE T K hZ (n + 2) [some (.ref sc),l1,some (.int e),l3,l4,l5] (ncond A.is_hex_digit) mem k:=by
  refine xcall isHd (is1 (vsl (va rfl hs rfl) rfl (vbin rfl rfl rfl) (qC hf))) (aCu F St rest) ?_
  rintro v m ⟨rfl,rfl⟩
  exact hk
theorem aBm (F:Facts K) (St:Stat T K hZ) {sc e:Nat} {mem:Mem} {l1 l3 l4 l5:Option V} {src:Str} {er pl w:V} {rest:List Nat} {k:V→Mem→Prop} (hs:mem[sc]? = some (.inst .scanner [.str src,er,pl,w])) (hf:From src e rest) (hk:k (.bool (gT rest)) mem) :
    wpE T K hZ (n + 1) [some (.ref sc),l1,some (.int e),l3,l4,l5] (ncond A.is_digit) mem k:=by
  refine xcall isDd (is1 (vsl (va rfl hs rfl) rfl (vbin rfl rfl rfl) (qC hf))) (cQ F St rest) ?_
  rintro v m ⟨rfl,rfl⟩
  exact hk
theorem uK (F:Facts K) (St:Stat T K hZ) {sc:Nat} {l1 l3 l4 l5:Option V} {src:Str} {er pl w:V} {rest:List Nat} {post:V→Mem→Prop} {kk:Locs→Mem→Prop} {mem:Mem} (hs:mem[sc]? = some (.inst .scanner [.str src,er,pl,w])) (hr:isHex rest = false) :
    ∀ (x:List Nat) (e:Nat),(x.all fun c=>isHex [c]) = true→From src e (x ++ rest)→kk [some (.ref sc),l1,some (.int ((e + x.length:Nat):Int)),l3,l4,l5] mem→eE T K hZ (n + 2) (ncond A.is_hex_digit) wbody post (x.length + 1) [some (.ref sc),l1,some (.int (e:Int)),l3,l4,l5] mem kk
  | [],e,_,hf,hk=>by
    refine aS (aAP F St hs hf ?_)
    simp only [List.nil_append,hr,nM,kE,Bool.false_eq_true,if_false]
    simpa using hk
  | c :: x,e,ha,hf,hk=>by
    simp only [List.all_cons,Bool.and_eq_true] at ha
    refine aS (aAP F St hs hf ?_)
    have:isHex (c :: x ++ rest) = true:=ha.1
    simp only [this,nM,kE,if_true]
    refine tasgp (vbin rfl rfl rfl) (tnil (uK F St (l1:=l1) (l3:=l3) (l4:=l4) (l5:=l5) (post:=post) (kk:=kk) hs hr x (e + 1) ha.2 hf.next ?_))
    rw [Nat.add_assoc,Nat.add_comm 1]; exact hk
theorem aBn (F:Facts K) (St:Stat T K hZ) {sc:Nat} {l1 l3 l4 l5:Option V} {src:Str} {er pl w:V} {rest:List Nat} {post:V→Mem→Prop} {kk:Locs→Mem→Prop} {mem:Mem} (hs:mem[sc]? = some (.inst .scanner [.str src,er,pl,w])) (hr:gT rest = false) :
    ∀ (x:List Nat) (e:Nat),(x.all fun c=>gT [c]) = true→From src e (x ++ rest)→kk [some (.ref sc),l1,some (.int ((e + x.length:Nat):Int)),l3,l4,l5] mem→eE T K hZ (n + 1) (ncond A.is_digit) wbody post (x.length + 1) [some (.ref sc),l1,some (.int (e:Int)),l3,l4,l5] mem kk
  | [],e,_,hf,hk=>by
    refine aS (aBm F St hs hf ?_)
    simp only [List.nil_append,hr,nM,kE,Bool.false_eq_true,if_false]
    simpa using hk
  | c :: x,e,ha,hf,hk=>by
    simp only [List.all_cons,Bool.and_eq_true] at ha
    refine aS (aBm F St hs hf ?_)
    have:gT (c :: x ++ rest) = true:=ha.1
    simp only [this,nM,kE,if_true]
    refine tasgp (vbin rfl rfl rfl) (tnil (aBn F St (l1:=l1) (l3:=l3) (l4:=l4) (l5:=l5) (post:=post) (kk:=kk) hs hr x (e + 1) ha.2 hf.next ?_))
    rw [Nat.add_assoc,Nat.add_comm 1]; exact hk
end
section
variable {T:CT} {K:Frag} {hZ:Heap} {n:Nat}
noncomputable def stop:List Nat→Bool
  | []=>true
  | c :: _=>c == 32 || c == 44
theorem fD {rest:List Nat} (h:stop rest = true):rest = [] ∨ (∃ r,rest = 32 :: r) ∨ ∃ r,rest = 44 :: r:=by
  cases rest with
  | nil=>exact .inl rfl
  | cons c r =>
    simp [stop] at h
    rcases h with rfl | rfl
    · exact .inr (.inl ⟨r,rfl⟩)
    · exact .inr (.inr ⟨r,rfl⟩)
theorem stop_hex {rest:List Nat} (h:stop rest = true):isHex rest = false:=by
  rcases fD h with rfl | ⟨r,rfl⟩ | ⟨r,rfl⟩ <;> rfl
theorem stop_dig {rest:List Nat} (h:stop rest = true):gT rest = false:=by
  rcases fD h with rfl | ⟨r,rfl⟩ | ⟨r,rfl⟩ <;> rfl
theorem aDv {rest:List Nat} (h:stop rest = true):lH rest = true:=by
  rcases fD h with rfl | ⟨r,rfl⟩ | ⟨r,rfl⟩ <;> rfl
theorem s_H:Str.ofString "H" = ⟨#[72]⟩:=by decide +kernel
theorem s_X:Str.ofString "X" = ⟨#[88]⟩:=by decide +kernel
theorem s_dot:Str.ofString "." = ⟨#[46]⟩:=by decide +kernel
theorem iN {rest:List Nat} {c:Nat} (h:rest = [] ∨ (∃ r,rest = 32 :: r) ∨ ∃ r,rest = 44 :: r) (h1:c ≠ 32) (h2:c ≠ 44):(chr1 rest == (⟨#[c]⟩ : Str)) = false:=by
  rcases h with rfl | ⟨r,rfl⟩ | ⟨r,rfl⟩
  · simp [chr1_nil]
  · simp [xP,gL]; lia
  · simp [xP,gL]; lia
theorem con_num (F:Facts K) (St:Stat T K hZ) {sc p q d:Nat} {mem:Mem} {src:Str} {er:V} {rest:List Nat} (hs:mem[sc]? = some (.inst .scanner [.str src,er,.int p,keyV])) (hd:d < 10) (hf:From src q ((48 + d) :: rest)) (hr:stop rest = true) :
    aA T K hZ (n + 4) (.ref 966) [.ref sc,.int q] mem (fun v m=>v = tkV (Str.ofString "int") (.int d) q∧m = scan mem sc src er (q + 1) keyV):=by
  refine F.ok_mScanner_numeral.sem T hZ (n + 3) _ _ _ St rfl ?_
  have hx:isHex [48 + d] = true:=by simp [isHex]; lia
  have hg:gT [48 + d] = true:=by simp [gT]; lia
  have c1:(chr1 rest == (⟨#[72]⟩ : Str)) = false:=iN (fD hr) (by decide) (by decide)
  have c2:(chr1 rest == (⟨#[88]⟩ : Str)) = false:=iN (fD hr) (by decide) (by decide)
  have c3:(chr1 rest == (⟨#[46]⟩ : Str)) = false:=iN (fD hr) (by decide) (by decide)
  have hs2:=scan_get (q:=q + 1) hs
  refine tasgp rfl (twhile 2 (uK F St hs (stop_hex hr) [48 + d] q (by rw [List.all_cons,hx]; rfl) hf ?_))
  refine tasgp (vsl (va rfl hs rfl) rfl rfl (tX (w:=[48 + d]) hf rfl)) ?_
  refine tasgp (vsl (va rfl hs rfl) rfl (vbin rfl rfl rfl) (qC (p:=q + 1) hf.next)) ?_
  refine tf0 (lI (vcmp rfl rfl (ceq (s_H ▸ c1))) rfl (vcmp rfl rfl (ceq (s_X ▸ c2)))) ?_
  refine tasgp rfl (twhile 2 (aBn F St hs (stop_dig hr) [48 + d] q (by rw [List.all_cons,hg]; rfl) hf ?_))
  refine tattr (xp rfl (xp rfl (pa hs rfl ?_)))
  refine tite (xand (xcmp (xmeth rfl (mkm hs2 rfl) rfl (dL F St (p:=q + 1) hs2 hf.next) ?_)))
  rintro v m ⟨rfl,rfl⟩
  refine xp rfl (os (ceq (s_dot ▸ c3)) (brf rfl (brf rfl (tnil ?_))))
  refine casg isDv (isc (vsl (va rfl hs2 rfl) rfl rfl (tX (w:=[48 + d]) hf rfl)) (is2 rfl rfl)) (con_dv1 F St hd) ?_
  rintro v m ⟨rfl,rfl⟩
  refine mret rfl (mkm hs2 rfl) rfl (aFl F St hd) ?_
  rintro v m ⟨rfl,rfl⟩
  exact ⟨rfl,rfl⟩
theorem con_hexc (F:Facts K) (St:Stat T K hZ) {sc p q d:Nat} {mem:Mem} {src:Str} {er:V} {rest:List Nat} (hs:mem[sc]? = some (.inst .scanner [.str src,er,.int p,keyV])) (hd:d < 10) (hf:From src q (52 :: (48 + d) :: 88 :: rest)) :
    aA T K hZ (n + 4) (.ref 966) [.ref sc,.int q] mem (fun v m=>v = tkV (Str.ofString "string") (.str ⟨#[64 + d]⟩) q∧m = scan mem sc src er (q + 3) keyV):=by
  refine F.ok_mScanner_numeral.sem T hZ (n + 3) _ _ _ St rfl ?_
  have hx:isHex [48 + d] = true:=by simp [isHex]; lia
  have hs2:=scan_get (q:=q + 3) hs
  refine tasgp rfl (twhile 3 (uK F St hs (rest:=88 :: rest) rfl [52,48 + d] q (by rw [List.all_cons,List.all_cons,hx]; rfl) hf ?_))
  refine tasgp (vsl (va rfl hs rfl) rfl rfl (tX (w:=[52,48 + d]) (rest:=88 :: rest) hf rfl)) ?_
  refine tasgp (vsl (va rfl hs rfl) rfl (vbin rfl rfl rfl) (qC (p:=q + 2) hf.next.next)) ?_
  refine tt (lI (vcmp rfl rfl (ceq (s_H ▸ gL))) rfl (vcmp rfl rfl (ceq (s_X ▸ gL)))) ?_
  refine tattr (xp (vbin rfl rfl rfl) (xp rfl (pa hs rfl ?_)))
  refine tf0 (vcmp rfl rfl (ceq (s_H ▸ gL))) ?_
  refine mret rfl (mkm hs2 rfl) rfl (uS F St hd) ?_
  rintro v m ⟨rfl,rfl⟩
  exact ⟨rfl,rfl⟩
end
section
variable {T:CT} {K:Frag} {hZ:Heap} {n:Nat}
theorem nT:Str.ofString "\"" = ⟨#[34]⟩:=by decide +kernel
theorem s_nl:Str.ofString "\n" = ⟨#[10]⟩:=by decide +kernel
noncomputable def strC (c:Nat):V:=.str ⟨#[c]⟩
noncomputable def inStr (c:Nat):Bool:=decide (c ≤ 255) && !(c == 34) && !(c == 10)
noncomputable def smem (mem:Mem) (sc:Nat) (src:Str) (er:V) (p:Nat) (acc:List V):Mem:=scan mem sc src er p keyV ++ [.lst acc]
section
variable {mem:Mem} {sc p q:Nat} {src:Str} {er:V} {acc:List V}
theorem sm_sc (hs:mem[sc]? = some (.inst .scanner [.str src,er,.int p,keyV])):(smem mem sc src er q acc)[sc]? = some (.inst .scanner [.str src,er,.int q,keyV]):=by
  have hl:=(List.getElem?_eq_some_iff.mp hs).1
  unfold smem
  rw [List.getElem?_append_left (by unfold scan; rw [List.length_set]; exact hl)]
  exact scan_get hs
theorem sm_l:(smem mem sc src er q acc)[mem.length]? = some (.lst acc):=by
  unfold smem
  have:(scan mem sc src er q keyV).length = mem.length:=by unfold scan; rw [List.length_set]
  rw [← this]; simp
theorem vQ (hs:mem[sc]? = some (.inst .scanner [.str src,er,.int p,keyV])) {q':Nat}:(smem mem sc src er q acc).set sc (.inst .scanner [.str src,er,.int q',keyV]) = smem mem sc src er q' acc:=by
  have hl:=(List.getElem?_eq_some_iff.mp hs).1
  unfold smem
  rw [List.set_append_left _ _ (by unfold scan; rw [List.length_set]; exact hl)]
  congr 1
  exact eF
theorem sm_set_l {acc':List V}:(smem mem sc src er q acc).set mem.length (.lst acc') = smem mem sc src er q acc':=by
  unfold smem
  have:(scan mem sc src er q keyV).length = mem.length:=by unfold scan; rw [List.length_set]
  rw [← this]; simp
end
noncomputable def scond:IE:=(.cmp .NotEq (.meth (.p (.loc 0)) .cO []) (.p (.cst (.str (Str.ofString "\"")))))
noncomputable def sbody:List IS:=[.asg 3 (.meth (.p (.loc 0)) .cO []),.ite (.p (.orE (.cmp .Eq (.loc 3) (.cst (.str (Str.ofString "")))) (.cmp .Eq (.loc 3) (.cst (.str (Str.ofString "\n")))))) [.expr (.meth (.p (.attr (.loc 0) .aM)) .bO [(.p (.loc 1)),(.p (.cst (.str (Str.ofString "unfinished_string"))))]),.ret (.call (.glob (.glob A.cToken)) [(.p (.cst (.str (Str.ofString "string")))),(.meth (.p (.cst (.str (Str.ofString "")))) .tK [(.p (.loc 2))]),(.p (.loc 1))])] [],.ite (.p (.cmp .Gt (.bi .ord [(.loc 3)]) (.cst (.int 255)))) [.expr (.meth (.p (.attr (.loc 0) .aM)) .bO [(.p (.attr (.loc 0) .aJ)),(.p (.cst (.str (Str.ofString "bad_character"))))])] [.expr (.meth (.p (.loc 2)) .aP [(.p (.loc 3))])],.attr (.p (.loc 0)) .aJ (.p (.bin .Add (.attr (.loc 0) .aJ) (.cst (.int 1))))]
theorem pY (F:Facts K) (St:Stat T K hZ) {sc:Nat} {mem:Mem} {l1:Option V} {src:Str} {er:V} {p:Nat} {rest:List Nat} {post:V→Mem→Prop} {kk:Locs→Mem→Prop} (hs:mem[sc]? = some (.inst .scanner [.str src,er,.int p,keyV])) :
    ∀ (x:List Nat) (acc:List V) (l3:Option V) (q:Nat),(x.all inStr) = true→acc.length + x.length ≤ 1000→From src q (x ++ 34 :: rest)→(∀ l3,kk [some (.ref sc),l1,some (.ref mem.length),l3] (smem mem sc src er (q + x.length) (acc ++ x.map strC)))→eE T K hZ (n + 1) scond sbody post (x.length + 1) [some (.ref sc),l1,some (.ref mem.length),l3] (smem mem sc src er q acc) kk
  | [],acc,l3,q,_,_,hf,hk=>by
    have h1:=sm_sc (acc:=acc) (q:=q) hs
    refine aS (xcmp (xmeth rfl (mkm h1 rfl) rfl (dL F St h1 hf) ?_))
    rintro v m ⟨rfl,rfl⟩
    have:=hk l3
    rw [List.map_nil,List.append_nil] at this
    exact xp rfl (os (cne (c:=true) (by rw [nT]; exact beq_self_eq_true _)) (brf rfl this))
  | c :: x,acc,l3,q,ha,hl,hf,hk=>by
    obtain ⟨hc,hx⟩:=Bool.and_eq_true_iff.mp ha
    obtain ⟨hc,c10⟩:=Bool.and_eq_true_iff.mp hc
    obtain ⟨c255,c34⟩:=Bool.and_eq_true_iff.mp hc
    have h1:=sm_sc (acc:=acc) (q:=q) hs
    have h3:=sm_sc (acc:=acc ++ [strC c]) (q:=q) hs
    have hle:¬ (255:Int) < (c:Int):=by have:=of_decide_eq_true c255; lia
    rw [List.length_cons] at hl
    refine aS (xcmp (xmeth rfl (mkm h1 rfl) rfl (dL F St h1 hf) ?_))
    rintro v m ⟨rfl,rfl⟩
    refine xp rfl (os (cne (nT ▸ gL.trans (bnot c34))) (brt rfl ?_))
    refine masg rfl (mkm h1 rfl) rfl (dL F St h1 hf) ?_
    rintro v m ⟨rfl,rfl⟩
    refine tf0 (lI (vcmp rfl rfl (ceq (jE ▸ mD))) rfl (vcmp rfl rfl (ceq (s_nl ▸ gL.trans (bnot c10))))) ?_
    refine tf (vcmp (vbi1 rfl b_ord) rfl (congrArg some (decide_eq_false hle))) ?_
    refine texpr (xapp rfl sm_l rfl (Nat.le_trans (Nat.le_trans (Nat.le_add_right _ _) hl) (by decide)) (tnil ?_))
    rw [sm_set_l]
    refine tattr (xp (vbin (v:=.int ((q + 1:Nat):Int)) (va rfl h3 rfl) rfl rfl) (xp rfl (pa (fs':=[.str src,er,.int ((q + 1:Nat):Int),keyV]) h3 rfl (tnil ?_))))
    rw [vQ hs]
    refine pY F St hs x _ _ (q + 1) hx (by rw [List.length_append,List.length_singleton]; lia) hf.next fun l3=>?_
    rw [Nat.add_assoc,Nat.add_comm 1,List.append_assoc]; exact hk l3
theorem pX:∀ x:List Nat,strsOf (x.map strC) = some (x.map fun c=>⟨#[c]⟩)
  | []=>rfl
  | c :: x=>by rw [List.map_cons,strC,aDx,pX x]; rfl
theorem aCs (F:Facts K) (St:Stat T K hZ) {sc p q:Nat} {mem:Mem} {src:Str} {er:V} {x rest:List Nat} {y:Str} (hs:mem[sc]? = some (.inst .scanner [.str src,er,.int p,keyV])) (hf:From src q (34 :: x ++ 34 :: rest)) (hx:x.all inStr = true) (hl:x.length ≤ 1000)
    (hj:JoinOk (Str.ofString "") (x.map fun c=>⟨#[c]⟩) = true∧Txt.join (Str.ofString "") (x.map fun c=>⟨#[c]⟩) = y) :
    aA T K hZ (n + 3) (.ref 1008) [.ref sc,.int q] mem (fun v m=>v = tkV (Str.ofString "string") (.str y) q∧∃ j,m = scan mem sc src er (q + x.length + 2) keyV ++ j):=by
  refine F.ok_mScanner_string.sem T hZ (n + 2) _ _ _ St rfl ?_
  have hlt:=(List.getElem?_eq_some_iff.mp hs).1
  have h0:(mem ++ [MO.lst []])[sc]? = some (.inst .scanner [.str src,er,.int p,keyV]):=by rw [List.getElem?_append_left hlt]; exact hs
  refine tasg (jB rfl (Nat.zero_le _) (tattr (xp (vbin (v:=.int ((q + 1:Nat):Int)) rfl rfl rfl) (xp rfl (pa (fs':=[.str src,er,.int ((q + 1:Nat):Int),keyV]) h0 rfl ?_)))))
  rw [List.set_append_left _ _ hlt]
  refine twhile (x.length + 1) (pY F St hs x [] _ (q + 1) hx (by rw [List.length_nil,Nat.zero_add]; exact hl) hf.next fun l3=>?_)
  have h1:=sm_sc (acc:=x.map strC) (q:=q + 1 + x.length) hs
  refine tattr (xp (vbin (v:=.int ((q + 1 + x.length + 1:Nat):Int)) (va rfl h1 rfl) rfl rfl) (xp rfl (pa (fs':=[.str src,er,.int ((q + 1 + x.length + 1:Nat):Int),keyV]) h1 rfl ?_)))
  rw [vQ hs]
  refine tret (xcalle wP (xsp rfl (xse (xjoin rfl rfl sm_l (pX x) hj.1 (xs (is1 rfl) ?_)))))
  rw [hj.2]
  refine (eK F St _ _ _).mono ?_
  rintro v m ⟨rfl,rfl⟩
  refine ⟨rfl,[.lst (x.map strC)],?_⟩
  rw [smem,show q + 1 + x.length + 1 = q + x.length + 2 by lia]; rfl
end
section
variable {T:CT} {K:Frag} {hZ:Heap} {n:Nat}
theorem s_asgn:Str.ofString ":=" = ⟨#[58,61]⟩:=by decide +kernel
theorem s_le:Str.ofString "<=" = ⟨#[60,61]⟩:=by decide +kernel
theorem s_ge:Str.ofString ">=" = ⟨#[62,61]⟩:=by decide +kernel
theorem aAr:Str.ofString ".." = ⟨#[46,46]⟩:=by decide +kernel
noncomputable def symS:Str:=Str.ofString "+-*/~&.,;|([{^=#<>:)]}"
theorem sym_in:∀ c ∈ [44,58,124,45],(!(Builtin.Str.occurrences symS ⟨#[c]⟩ 0 symS.length 1).isEmpty) = true:=by decide +kernel
theorem tU {a b c d:Nat}:((⟨#[a,b]⟩ : Str) == ⟨#[c,d]⟩) = (a == c && b == d):=by
  by_cases h:a = c∧b = d
  · obtain ⟨rfl,rfl⟩:=h; simp
  · have h1:((⟨#[a,b]⟩ : Str) == ⟨#[c,d]⟩) = false:=by
      rw [beq_eq_false_iff_ne]; intro q; apply h; simpa using q
    rw [h1]; symm
    simp only [Bool.and_eq_false_iff,beq_eq_false_iff_ne]
    by_cases h2:a = c
    · exact .inr fun q=>h ⟨h2,q⟩
    · exact .inl h2
theorem xG (F:Facts K) (St:Stat T K hZ) {mem:Mem} {sc p:Nat} {src:Str} {er w:V} {c:Nat} {rest:List Nat} (hs:mem[sc]? = some (.inst .scanner [.str src,er,.int p,w])) (hf:From src p (c :: rest)) :
    aA T K hZ (n + 1) (.ref 931) [.ref sc,.int 1] mem (fun v m=>v = .str (chr1 rest)∧m = mem):=by
  refine F.ok_mScanner_char.sem T hZ n _ _ _ St rfl ?_
  have h1:evP mem (loc0 [.ref sc,.int 1] 0) (.attr (.loc 0) .aJ) = some (.int p):=va rfl hs rfl
  exact tretp (vsl (va rfl hs rfl) (vbin h1 rfl rfl) (vbin (vbin h1 rfl rfl) rfl rfl) (qC (p:=p + 1) hf.next)) ⟨rfl,rfl⟩
noncomputable def ops2:List V:=[.str (Str.ofString ":="),.str (Str.ofString "<="),.str (Str.ofString ">="),.str (Str.ofString "..")]
theorem aDU {a b:Nat} {r:Bool} {mem:Mem} (h:(58 == a && 61 == b || (60 == a && 61 == b || (62 == a && 61 == b || (46 == a && 46 == b || false)))) = r):cmpV mem .In (.str ⟨#[a,b]⟩) (.tup ops2) = some r:=by
  rw [ops2,s_asgn,s_le,s_ge,aAr,← h,← tU,← tU,← tU,← tU]; rfl
theorem con_sym (F:Facts K) (St:Stat T K hZ) {mem:Mem} {sc p:Nat} {src:Str} {er w:V} {c d:Nat} {rest:List Nat} (hs:mem[sc]? = some (.inst .scanner [.str src,er,.int p,w])) (hf:From src p (c :: d :: rest)) (hc:c ∈ [44,58,124,45]) (hd:d ≠ 61) :
    aA T K hZ (n + 2) (.ref 1015) [.ref sc] mem (fun v m=>v = .str ⟨#[c]⟩∧m = mem):=by
  refine F.ok_mScanner_symbol.sem T hZ (n + 1) _ _ _ St rfl ?_
  have h46:c ≠ 46:=by intro q; subst q; simp at hc
  refine tasg (xbin (xmeth rfl (mkm hs rfl) rfl (dL F St hs hf) ?_))
  rintro v m ⟨rfl,rfl⟩
  refine xmeth rfl (mkm hs rfl) rfl (xG F St hs hf) ?_
  rintro v m ⟨rfl,rfl⟩
  refine os (xU (show 1 + 1 ≤ 2 ^ 24 by decide)) (tf0 (vcmp rfl rfl (aDU (a:=c) (b:=d) (r:=false) ?_)) ?_)
  · have e1:(61 == d) = false:=beq_eq_false_iff_ne.mpr (Ne.symm hd)
    have e2:(46 == c) = false:=beq_eq_false_iff_ne.mpr (Ne.symm h46)
    rw [e1,e2,Bool.and_false,Bool.and_false,Bool.and_false]; rfl
  refine tite (xcmp (xmeth rfl (mkm hs rfl) rfl (dL F St hs hf) ?_))
  rintro v m ⟨rfl,rfl⟩
  exact xp rfl (os (congrArg some (sym_in c hc)) (brt rfl (mret rfl (mkm hs rfl) rfl (dL F St hs hf) fun _ _ h=>h)))
theorem con_dots (F:Facts K) (St:Stat T K hZ) {mem:Mem} {sc p:Nat} {src:Str} {er w:V} {rest:List Nat} (hs:mem[sc]? = some (.inst .scanner [.str src,er,.int p,w])) (hf:From src p (46 :: 46 :: rest)) :
    aA T K hZ (n + 2) (.ref 1015) [.ref sc] mem (fun v m=>v = .str (Str.ofString "..")∧m = mem):=by
  refine F.ok_mScanner_symbol.sem T hZ (n + 1) _ _ _ St rfl ?_
  refine tasg (xbin (xmeth rfl (mkm hs rfl) rfl (dL F St hs hf) ?_))
  rintro v m ⟨rfl,rfl⟩
  refine xmeth rfl (mkm hs rfl) rfl (xG F St hs hf) ?_
  rintro v m ⟨rfl,rfl⟩
  exact os (xU (show 1 + 1 ≤ 2 ^ 24 by decide)) (tt (vcmp rfl rfl (aDU (a:=46) (b:=46) (r:=true) rfl)) (tretp rfl ⟨congrArg V.str aAr.symm,rfl⟩))
end
section
variable {T:CT} {K:Frag} {hZ:Heap} {n:Nat}
noncomputable def iA:List IS:=[.ite (.p (.cmp .Eq (.loc 2) (.cst (.str (Str.ofString ""))))) [.ret (.call (.glob (.glob A.cToken)) [(.p (.cst (.str (Str.ofString "eof")))),(.p (.cst (.str (Str.ofString "")))),(.p (.loc 1))])] [],.ite (.call (.glob (.glob A.is_letter_scanner)) [(.p (.loc 2))]) [.ret (.meth (.p (.loc 0)) .aBA [(.p (.loc 1))])] [],.ite (.call (.glob (.glob A.is_digit)) [(.p (.loc 2))]) [.ret (.meth (.p (.loc 0)) .nK [(.p (.loc 1))])] [],.ite (.p (.cmp .Eq (.loc 2) (.cst (.str (Str.ofString "\""))))) [.ret (.meth (.p (.loc 0)) .iO [(.p (.loc 1))])] [],.asg 3 (.meth (.p (.loc 0)) .pP []),.ite (.p (.cmp .NotEq (.loc 3) (.cst (.str (Str.ofString ""))))) [.attr (.p (.loc 0)) .aJ (.p (.bin .Add (.loc 1) (.bi .len [(.loc 3)]))),.ret (.call (.glob (.glob A.cToken)) [(.p (.loc 3)),(.p (.cst (.str (Str.ofString "")))),(.p (.loc 1))])] [],.expr (.meth (.p (.attr (.loc 0) .aM)) .bO [(.p (.loc 1)),(.p (.cst (.str (Str.ofString "bad_character"))))]),.attr (.p (.loc 0)) .aJ (.p (.bin .Add (.loc 1) (.cst (.int 1))))]
theorem dR (F:Facts K) (St:Stat T K hZ) {sc p k:Nat} {mem:Mem} {src:Str} {er:V} {rest:List Nat} {post:V→Mem→Prop} (hs:mem[sc]? = some (.inst .scanner [.str src,er,.int p,keyV])) (hf:From src p (List.replicate k 32 ++ rest)) (hok:mU rest = true)
    (hw:∀ nx kb,wpSs T K hZ (n + 4) [some (.ref sc),some (.int ((p + k:Nat):Int)),some (.str (chr1 rest)),none] iA (scan mem sc src er (p + k) keyV) nx post kb) :
    aA T K hZ (n + 5) (.ref 938) [.ref sc] mem post:=by
  have hs2:=scan_get (q:=p + k) hs
  have hf2:From src (p + k) rest:=by
    have:=hf.on
    rwa [List.length_replicate] at this
  refine F.ok_mScanner_take.sem T hZ (n + 4) _ _ _ St rfl ?_
  refine twhile 1 (hS (mexpr rfl (mkm hs rfl) rfl (con_skip F St hs hf hok) ?_))
  rintro v m ⟨rfl,rfl⟩
  refine tasgp (va rfl hs2 rfl) (masg rfl (mkm hs2 rfl) rfl (dL F St hs2 hf2) ?_)
  rintro v m ⟨rfl,rfl⟩
  exact hw _ _
section
variable {M:Mem} {l0 l1 l3:Option V} {c:Nat} {r:List Nat} {post:V→Mem→Prop} {nx kb:Locs→Mem→Prop}
theorem tk1 (H:wpSs T K hZ (n + 1) [l0,l1,some (.str (chr1 (c :: r))),l3] (iA.drop 1) M nx post kb):wpSs T K hZ (n + 1) [l0,l1,some (.str (chr1 (c :: r))),l3] iA M nx post kb :=
  tf0 (vcmp rfl rfl (ceq (jE ▸ mD))) H
theorem tk2 (F:Facts K) (St:Stat T K hZ) (hc:isLet [c] = false) (H:wpSs T K hZ (n + 1) [l0,l1,some (.str (chr1 (c :: r))),l3] (iA.drop 2) M nx post kb):wpSs T K hZ (n + 1) [l0,l1,some (.str (chr1 (c :: r))),l3] iA M nx post kb:=by
  refine tk1 (cite isLd (is1 rfl) (iK F St (c :: r)) ?_)
  rintro v m ⟨rfl,rfl⟩
  exact brf (congrArg some (oD.trans hc)) (tnil H)
theorem tk3 (F:Facts K) (St:Stat T K hZ) (hc:isLet [c] = false) (hd:gT [c] = false) (h34:(c == 34) = false) (H:wpSs T K hZ (n + 1) [l0,l1,some (.str (chr1 (c :: r))),l3] (iA.drop 4) M nx post kb):wpSs T K hZ (n + 1) [l0,l1,some (.str (chr1 (c :: r))),l3] iA M nx post kb:=by
  refine tk2 F St hc (cite isDd (is1 rfl) (cQ F St (c :: r)) ?_)
  rintro v m ⟨rfl,rfl⟩
  exact brf (congrArg some (oE.trans hd)) (tnil (tf0 (vcmp rfl rfl (ceq (nT ▸ gL.trans h34))) H))
end
theorem take_eof (F:Facts K) (St:Stat T K hZ) {sc p k:Nat} {mem:Mem} {src:Str} {er:V} (hs:mem[sc]? = some (.inst .scanner [.str src,er,.int p,keyV])) (hf:From src p (List.replicate k 32 ++ [])) :
    aA T K hZ (n + 5) (.ref 938) [.ref sc] mem (fun v m=>v = tkV (Str.ofString "eof") (.str (Str.ofString "")) (p + k)∧∃ j,m = scan mem sc src er (p + k) keyV ++ j):=by
  refine dR F St hs hf rfl fun nx kb=>tt (vcmp rfl rfl (ceq (c:=true) (by rw [jE]; exact beq_self_eq_true _))) (cret wP rfl (eK F St _ _ _) ?_)
  rintro v m ⟨rfl,rfl⟩
  exact ⟨rfl,[],(List.append_nil _).symm⟩
theorem vN (F:Facts K) (St:Stat T K hZ) {sc p k c:Nat} {mem:Mem} {src:Str} {er:V} {x rest:List Nat} (hs:mem[sc]? = some (.inst .scanner [.str src,er,.int p,keyV])) (hf:From src p (List.replicate k 32 ++ ((c :: x) ++ rest))) (hc:isLet [c] = true) (hx:x.all alnum = true) (hr:lH rest = true) :
    aA T K hZ (n + 5) (.ref 938) [.ref sc] mem (fun v m=>v = tP ⟨(c :: x).toArray⟩ (p + k)∧∃ j,m = scan mem sc src er (p + k + (x.length + 1)) keyV ++ j):=by
  have hok:mU (c :: x ++ rest) = true:=by
    simp [isLet] at hc
    simp [mU]; lia
  have hs2:=scan_get (q:=p + k) hs
  have hf2:From src (p + k) ((c :: x) ++ rest):=by
    have:=hf.on
    rwa [List.length_replicate] at this
  have ha:(c :: x).all alnum = true:=by rw [List.all_cons,hx,alnum,hc]; rfl
  refine dR F St hs hf hok fun nx kb=>tk1 (cite isLd (is1 rfl) (iK F St (c :: (x ++ rest))) ?_)
  rintro v m ⟨rfl,rfl⟩
  refine brt (congrArg some (oD.trans hc)) (mret rfl (mkm hs2 rfl) rfl (con_word (n:=n + 1) F St hs2 hf2 ha hr) ?_)
  rintro v m ⟨rfl,rfl⟩
  exact ⟨rfl,[],by rw [eF,List.append_nil]; rfl⟩
theorem take_num (F:Facts K) (St:Stat T K hZ) {sc p k d:Nat} {mem:Mem} {src:Str} {er:V} {rest:List Nat} (hs:mem[sc]? = some (.inst .scanner [.str src,er,.int p,keyV])) (hf:From src p (List.replicate k 32 ++ ((48 + d) :: rest))) (hd:d < 10) (hr:stop rest = true) :
    aA T K hZ (n + 5) (.ref 938) [.ref sc] mem (fun v m=>v = tkV (Str.ofString "int") (.int d) (p + k)∧∃ j,m = scan mem sc src er (p + k + 1) keyV ++ j):=by
  have hok:mU ((48 + d) :: rest) = true:=by simp [mU]; lia
  have hs2:=scan_get (q:=p + k) hs
  have hf2:From src (p + k) ((48 + d) :: rest):=by
    have:=hf.on
    rwa [List.length_replicate] at this
  have hl:isLet [48 + d] = false:=by simp [isLet]; lia
  have hg:gT [48 + d] = true:=by simp [gT]; lia
  refine dR F St hs hf hok fun nx kb=>tk2 F St hl (cite isDd (is1 rfl) (cQ F St ((48 + d) :: rest)) ?_)
  rintro v m ⟨rfl,rfl⟩
  refine brt (congrArg some (oE.trans hg)) (mret rfl (mkm hs2 rfl) rfl (con_num (n:=n) F St hs2 hd hf2 hr) ?_)
  rintro v m ⟨rfl,rfl⟩
  exact ⟨rfl,[],by rw [eF,List.append_nil]⟩
theorem aDq (F:Facts K) (St:Stat T K hZ) {sc p k d:Nat} {mem:Mem} {src:Str} {er:V} {rest:List Nat} (hs:mem[sc]? = some (.inst .scanner [.str src,er,.int p,keyV])) (hf:From src p (List.replicate k 32 ++ (52 :: (48 + d) :: 88 :: rest))) (hd:d < 10) :
    aA T K hZ (n + 5) (.ref 938) [.ref sc] mem (fun v m=>v = tkV (Str.ofString "string") (.str ⟨#[64 + d]⟩) (p + k)∧∃ j,m = scan mem sc src er (p + k + 3) keyV ++ j):=by
  have hs2:=scan_get (q:=p + k) hs
  have hf2:From src (p + k) (52 :: (48 + d) :: 88 :: rest):=by
    have:=hf.on
    rwa [List.length_replicate] at this
  refine dR F St hs hf rfl fun nx kb=>tk2 F St rfl (cite isDd (is1 rfl) (cQ F St (52 :: (48 + d) :: 88 :: rest)) ?_)
  rintro v m ⟨rfl,rfl⟩
  refine brt rfl (mret rfl (mkm hs2 rfl) rfl (con_hexc (n:=n) F St hs2 hd hf2) ?_)
  rintro v m ⟨rfl,rfl⟩
  exact ⟨rfl,[],by rw [eF,List.append_nil]⟩
theorem aAp (F:Facts K) (St:Stat T K hZ) {sc p k:Nat} {mem:Mem} {src:Str} {er:V} {x rest:List Nat} {y:Str} (hs:mem[sc]? = some (.inst .scanner [.str src,er,.int p,keyV])) (hf:From src p (List.replicate k 32 ++ (34 :: x ++ 34 :: rest))) (hx:x.all inStr = true) (hl:x.length ≤ 1000)
    (hj:JoinOk (Str.ofString "") (x.map fun c=>⟨#[c]⟩) = true∧Txt.join (Str.ofString "") (x.map fun c=>⟨#[c]⟩) = y) :
    aA T K hZ (n + 5) (.ref 938) [.ref sc] mem (fun v m=>v = tkV (Str.ofString "string") (.str y) (p + k)∧∃ j,m = scan mem sc src er (p + k + (x.length + 2)) keyV ++ j):=by
  have hs2:=scan_get (q:=p + k) hs
  have hf2:From src (p + k) (34 :: x ++ 34 :: rest):=by
    have:=hf.on
    rwa [List.length_replicate] at this
  refine dR F St hs hf rfl fun nx kb=>tk2 F St rfl (cite isDd (is1 rfl) (cQ F St (34 :: (x ++ 34 :: rest))) ?_)
  rintro v m ⟨rfl,rfl⟩
  refine brf rfl (tnil (tt (vcmp rfl rfl (ceq (c:=true) (by rw [nT]; exact beq_self_eq_true _))) (mret rfl (mkm hs2 rfl) rfl (aCs (n:=n + 1) F St hs2 hf2 hx hl hj) ?_)))
  rintro v m ⟨rfl,j,rfl⟩
  exact ⟨rfl,j,by rw [eF]; rfl⟩
theorem take_sym (F:Facts K) (St:Stat T K hZ) {sc p k c d:Nat} {mem:Mem} {src:Str} {er:V} {rest:List Nat} (hs:mem[sc]? = some (.inst .scanner [.str src,er,.int p,keyV])) (hf:From src p (List.replicate k 32 ++ (c :: d :: rest))) (hc:c ∈ [44,58,124,45]) (hd:d ≠ 61) :
    aA T K hZ (n + 5) (.ref 938) [.ref sc] mem (fun v m=>v = tkV ⟨#[c]⟩ (.str (Str.ofString "")) (p + k)∧∃ j,m = scan mem sc src er (p + k + 1) keyV ++ j):=by
  have h4:c = 44 ∨ c = 58 ∨ c = 124 ∨ c = 45:=by simpa using hc
  have hok:mU (c :: d :: rest) = true:=by rcases h4 with rfl | rfl | rfl | rfl <;> rfl
  have hl:isLet [c] = false:=by rcases h4 with rfl | rfl | rfl | rfl <;> rfl
  have hg:gT [c] = false:=by rcases h4 with rfl | rfl | rfl | rfl <;> rfl
  have h34:(c == 34) = false:=by rcases h4 with rfl | rfl | rfl | rfl <;> rfl
  have hs2:=scan_get (q:=p + k) hs
  have hf2:From src (p + k) (c :: d :: rest):=by
    have:=hf.on
    rwa [List.length_replicate] at this
  refine dR F St hs hf hok fun nx kb=>tk3 F St hl hg h34 (masg rfl (mkm hs2 rfl) rfl (con_sym F St hs2 hf2 hc hd) ?_)
  rintro v m ⟨rfl,rfl⟩
  refine tt (vcmp rfl rfl (cne (jE ▸ mD))) (tattr (xp (vbin (v:=.int ((p + k + 1:Nat):Int)) rfl (vbi1 rfl (kN (show 1 ≤ 2 ^ 24 by decide))) rfl) (xp rfl (pa hs2 rfl (cret wP rfl (eK F St _ _ _) ?_)))))
  rintro v m ⟨rfl,rfl⟩
  exact ⟨rfl,[],by rw [List.append_nil]; exact eF⟩
theorem aDr (F:Facts K) (St:Stat T K hZ) {sc p k:Nat} {mem:Mem} {src:Str} {er:V} {rest:List Nat} (hs:mem[sc]? = some (.inst .scanner [.str src,er,.int p,keyV])) (hf:From src p (List.replicate k 32 ++ (46 :: 46 :: rest))) :
    aA T K hZ (n + 5) (.ref 938) [.ref sc] mem (fun v m=>v = tkV (Str.ofString "..") (.str (Str.ofString "")) (p + k)∧∃ j,m = scan mem sc src er (p + k + 2) keyV ++ j):=by
  have hs2:=scan_get (q:=p + k) hs
  have hf2:From src (p + k) (46 :: 46 :: rest):=by
    have:=hf.on
    rwa [List.length_replicate] at this
  refine dR F St hs hf rfl fun nx kb=>tk3 F St rfl rfl rfl (masg rfl (mkm hs2 rfl) rfl (con_dots F St hs2 hf2) ?_)
  rintro v m ⟨rfl,rfl⟩
  refine tt (vcmp rfl rfl (cne (c:=false) (by rw [aAr,jE]; rfl))) (tattr (xp (vbin (v:=.int ((p + k + 2:Nat):Int)) rfl (vbi1 rfl (by rw [aAr]; exact kN (show 2 ≤ 2 ^ 24 by decide))) rfl) (xp rfl (pa hs2 rfl (cret wP rfl (eK F St _ _ _) ?_)))))
  rintro v m ⟨rfl,rfl⟩
  exact ⟨rfl,[],by rw [List.append_nil]; exact eF⟩
end
structure Tk where
  kind:Str
  val:V
  pos:Nat
section
variable {mem:Mem} {loc:Locs}
theorem vai {e:PE} {a:At} {v:V} {c:Cls} {fs:List V} (he:evP mem loc e = some (.inst c fs)) (hv:((fidx c a).bind fun j=>fs[j]?) = some v):evP mem loc (.attr e a) = some v:=(aO he).trans hv
theorem btrue {a b:String} (h:a = b):(a == b) = true:=by rw [h]; exact beq_self_eq_true b
theorem bfalse {a b:String} (h:a ≠ b):(a == b) = false:=beq_eq_false_iff_ne.mpr h
theorem cneF {a b:Str} (h:(a == b) = false):cmpV mem .NotEq (.str a) (.str b) = some true:=cne h
theorem cneT {a b:Str} (h:(a == b) = true):cmpV mem .NotEq (.str a) (.str b) = some false:=cne h
theorem oql {a b:String} {c:Bool} (h:(a == b) = c):(Str.ofString a == Str.ofString b) = c:=(cE ..).trans h
theorem keq {a:Str} {x y:String} {c:Bool} (h:a = Str.ofString x) (hc:(x == y) = c):(a == Str.ofString y) = c:=by rw [h]; exact (cE ..).trans hc
theorem vnot {e:PE} {v:V} {b:Bool} (he:evP mem loc e = some v) (h:truth v = some b):evP mem loc (.notE e) = some (.bool !b):=(aO he).trans (congrArg (Option.map fun b=>V.bool !b) h)
end
theorem cinD {mem:Mem} {r:Nat} {x:Str} {es:List (Str × V)} {b:Bool} (h:mem[r]? = some (.sdict es)) (hl:(look x es).isSome = b):cmpV mem .In (.str x) (.ref r) = some b:=cin h (congrArg some hl)
theorem isS {α : Type} {o:Option α} {a:α} (h:o = some a):o.isSome = true:=by rw [h]; rfl
theorem isN {α : Type} {o:Option α} (h:o = none):o.isSome = false:=by rw [h]; rfl
theorem itD {mem:Mem} {r:Nat} {x:Str} {es:List (Str × V)} {v:V} (h:mem[r]? = some (.sdict es)) (hl:look x es = some v):jA mem (.ref r) (.str x) = some v:=(aO h).trans hl
theorem nin0 {k:Nat}:k ∉ ([]:List Nat):=List.not_mem_nil
theorem ninc {k a:Nat} {l:List Nat} (h:k ≠ a) (hl:k ∉ l):k ∉ a :: l:=fun q=>(List.mem_cons.mp q).elim h hl
theorem nin1 {k a:Nat} (h:k ≠ a):k ∉ [a]:=ninc h nin0
theorem nin2 {k a b:Nat} (h:k ≠ a) (h2:k ≠ b):k ∉ [a,b]:=ninc h (nin1 h2)
theorem nin3 {k a b c:Nat} (h:k ≠ a) (h2:k ≠ b) (h3:k ≠ c):k ∉ [a,b,c]:=ninc h (nin2 h2 h3)
theorem cU {m i j:Nat} (h:i ≠ j):m + i ≠ m + j:=fun q=>h (Nat.add_left_cancel q)
theorem dO {m i:Nat}:m + (i + 1) ≠ m:=Nat.ne_of_gt (Nat.lt_add_of_pos_right (Nat.succ_pos i))
theorem gO {k m i:Nat} (h:k < m):k ≠ m + i:=Nat.ne_of_lt (Nat.lt_of_lt_of_le h (Nat.le_add_right m i))
theorem cA {m:Mem} {k:Nat} {o:MO} (h:m[k]? = some o):k < m.length:=(List.getElem?_eq_some_iff.mp h).1
section
variable {mem:Mem} {loc:Locs} {e:PE} {es:List PE} {v:V} {vs:List V}
theorem bZ (h:evP mem loc e = some v) (hs:evPs mem loc es = some vs):evPs mem loc (e :: es) = some (v :: vs):=(aO h).trans (congrArg (Option.map (v :: ·)) hs)
theorem vlst (h:evPs mem loc es = some vs):evP mem loc (.lst es) = some (.lst vs):=congrArg (Option.map V.lst) h
theorem vtup (h:evPs mem loc es = some vs):evP mem loc (.tup es) = some (.tup vs):=congrArg (Option.map V.tup) h
end
theorem aEf {α β : Type} {f:α→β} {l pre rest:List α} {x:α} (e:l = pre ++ x :: rest):(l.map f)[pre.length]? = some (f x):=by rw [e,List.map_append,List.getElem?_append_right (Nat.le_of_eq (List.length_map ..)),List.length_map,Nat.sub_self]; rfl
theorem zF {α β : Type} {f:α→β} {l:List α}:(l.map f)[l.length]? = none:=List.getElem?_eq_none (Nat.le_of_eq (List.length_map ..))
theorem aA.gen {T:CT} {K:Frag} {hZ:Heap} {n:Nat} {f:Value} {args:List V} {mem:Mem} {P:V→Mem→Prop} (h:∀ Q:V→Mem→Prop,(∀ v m,P v m→Q v m)→aA T K hZ n f args mem Q):aA T K hZ n f args mem P:=h P fun _ _ x=>x
theorem trt {b:Bool} (h:b = true):truth (.bool b) = some true:=congrArg some h
theorem trf {b:Bool} (h:b = false):truth (.bool b) = some false:=congrArg some h
section
variable {T:CT} {K:Frag} {hZ:Heap} {n:Nat} {loc:Locs} {mem:Mem} {kl:Locs→Mem→Prop} {kr:V→Mem→Prop} {kb:Locs→Mem→Prop} {r:List IS} {e o:PE} {a:At} {i:Nat} {c:Cls} {fs fs':List V} {v x y:V}
theorem ga_at (h:mem[i]? = some (.inst c fs)) (hv:((fidx c a).bind fun j=>fs[j]?) = some v):getA mem (.ref i) a = some v:=(aO h).trans hv
theorem taugA {op:Operator} (ho:evP mem loc o = some (.ref i)) (h:mem[i]? = some (.inst c fs)) (hv:((fidx c a).bind fun j=>fs[j]?) = some v) (he:evP mem loc e = some x) (hb:iopV op v x = some y) (hf:putF c fs a y = some fs') (H:wpSs T K hZ n loc r (mem.set i (.inst c fs')) kl kr kb):wpSs T K hZ n loc (.augA (.p o) a op (.p e) :: r) mem kl kr kb:=by
  rw [bX,s_augA]; exact xp ho (os (ga_at h hv) (xp he (os hb (pa h hf H))))
theorem tunp {is:List Nat} {e:IE} (H:wpE T K hZ n loc e mem fun v m=>unpM is.length v fun vs=>wpSs T K hZ n (dI loc is vs) r m kl kr kb):wpSs T K hZ n loc (.unp is e :: r) mem kl kr kb:=H
theorem tswp {is:List Nat} {e:IE} (H:wpE T K hZ n loc e mem fun v m=>unpM is.length v fun vs=>wpSs T K hZ n (dI loc is.reverse vs.reverse) r m kl kr kb):wpSs T K hZ n loc (.swp is e :: r) mem kl kr kb:=H
theorem itL {xs:List V} {i:Nat} {j:Int} (h:mem[i]? = some (.lst xs)) (hx:nthV xs j = some v):jA mem (.ref i) (.int j) = some v:=(aO h).trans hx
theorem iE {m L:Mem} {o:MO}:(m ++ o :: L).length = m.length + (L.length + 1):=List.length_append
theorem nG {m L j:Mem} {o:MO}:(m ++ o :: L) ++ j = m ++ o :: (L ++ j):=List.append_assoc ..
theorem tselfD {m L:Mem} (h0:loc[0]? = some (some (.ref m.length))) (hf:putF c fs a (.ref (m.length + (L.length + 1))) = some fs') (H:wpSs T K hZ n loc r (m ++ .inst c fs' :: (L ++ [.sdict []])) kl kr kb) :
    wpSs T K hZ n loc (.attr (.p (.loc 0)) a .dictS :: r) (m ++ .inst c fs :: L) kl kr kb:=by
  refine tattr (xdictS ?_)
  rw [iE,nG]
  exact xp (by rw [tR,h0]; rfl) (pl hf H)
theorem tselfI {m L:Mem} (h0:loc[0]? = some (some (.ref m.length))) (hf:putF c fs a (.ref (m.length + (L.length + 1))) = some fs') (H:wpSs T K hZ n loc r (m ++ .inst c fs' :: (L ++ [.idict []])) kl kr kb) :
    wpSs T K hZ n loc (.attr (.p (.loc 0)) a .dictI :: r) (m ++ .inst c fs :: L) kl kr kb:=by
  refine tattr ?_
  rw [e_dictI,iE,nG]
  exact xp (by rw [tR,h0]; rfl) (pl hf H)
theorem aBI {op:Operator} {ob ib:PE} {ov iv old:V} {e:IE} (ho:evP mem loc ob = some ov) (hi:evP mem loc ib = some iv) (hv:jA mem ov iv = some old) (H:wpE T K hZ n loc e mem fun v m2=>aC (iopV op old v) fun x=>dA ov iv x m2 fun m3=>wpSs T K hZ n loc r m3 kl kr kb):wpSs T K hZ n loc (.augI (.p ob) (.p ib) op e :: r) mem kl kr kb:=xp (T:=T) (K:=K) (hZ:=hZ) (n:=n) (k:=fun ov m=>wpE T K hZ n loc (.p ib) m fun iv m1=>aC (jA m1 ov iv) fun old=>wpE T K hZ n loc e m1 fun v m2=>aC (iopV op old v) fun x=>dA ov iv x m2 fun m3=>wpSs T K hZ n loc r m3 kl kr kb) ho (xp hi (os hv H))
theorem xitem {k:V→Mem→Prop} {ob ib:IE} (H:wpE T K hZ n loc ob mem fun v m=>wpE T K hZ n loc ib m fun x m2=>aC (jA m2 v x) fun y=>k y m2):wpE T K hZ n loc (.item ob ib) mem k:=H
theorem taugN {op:Operator} {e:IE} {q:Nat} {old:V} (h:(loc[q]?).join = some old) (H:wpE T K hZ n loc e mem fun v m=>iopM op old v m fun x m2=>wpSs T K hZ n (setL loc q x) r m2 kl kr kb):wpSs T K hZ n loc (.augN q op e :: r) mem kl kr kb:=os h H
theorem iopM_add {i j:Nat} {xs ys:List V} {k:V→Mem→Prop} (h1:mem[i]? = some (.lst xs)) (h2:mem[j]? = some (.lst ys)) (hl:xs.length + ys.length ≤ 2 ^ 20) (H:k (.ref i) (mem.set i (.lst (xs ++ ys)))):iopM .Add (.ref i) (.ref j) mem k:=by
  exact os (o:=dT mem i) (q:=fun xs=>aC (dT mem j) fun ys=>xs.length + ys.length ≤ 2 ^ 20∧k (.ref i) (mem.set i (.lst (xs ++ ys)))) (aO h1) (os (o:=dT mem j) (aO h2) ⟨hl,H⟩)
theorem tput (ho:evP mem loc o = some (.ref i)) (h:mem[i]? = some (.inst c fs)) (he:evP mem loc e = some v) (hf:putF c fs a v = some fs') (H:wpSs T K hZ n loc r (mem.set i (.inst c fs')) kl kr kb):wpSs T K hZ n loc (.attr (.p o) a (.p e) :: r) mem kl kr kb:=tattr (xp he (xp ho (pa h hf H)))
theorem hY {m j:Mem} {k:Nat} {o:MO} (h:m[k]? = some o):(m ++ j)[k]? = some o:=by rw [List.getElem?_append_left (List.getElem?_eq_some_iff.mp h).1]; exact h
theorem aY {m:Mem} {k l:Nat} {o p:MO} (h:m[k]? = some o) (q:l ≠ k):(m.set l p)[k]? = some o:=by rw [List.getElem?_set_ne q]; exact h
theorem eI {m:Mem} {k:Nat} {o p:MO} (h:m[k]? = some o):(m.set k p)[k]? = some p:=List.getElem?_set_self (List.getElem?_eq_some_iff.mp h).1
end
noncomputable def folk (t:Tk):Prop:=t.kind = Str.ofString "," ∨ t.kind = Str.ofString ".." ∨ t.kind = Str.ofString ":" ∨ t.kind = Str.ofString "OF"
theorem zQ {t:Tk} (h:folk t) {s:String} (h1:s ≠ ",") (h2:s ≠ "..") (h3:s ≠ ":") (h4:s ≠ "OF"):(t.kind == Str.ofString s) = false:=by
  rcases h with h | h | h | h <;> (rw [h,cE,beq_eq_false_iff_ne]; exact Ne.symm ‹_›)
theorem pO {t:Tk} (h:folk t) (l:List String) (hl:∀ s ∈ l,s ≠ ","∧s ≠ ".."∧s ≠ ":"∧s ≠ "OF"):(l.map Str.ofString).any (· == t.kind) = false:=by
  rw [List.any_eq_false]
  intro x hx
  refine e1a2 (List.mem_map.mp hx) fun s hs e0q=>?_
  subst e0q
  refine e0a4 (hl s hs) fun a b c d=>?_
  have:=zQ h a b c d
  intro q
  rw [eq_of_beq q] at this
  exact absurd (beq_self_eq_true t.kind) (by rw [this]; exact Bool.false_ne_true)
theorem cinT {mem:Mem} {x:Str} {l:List String} {b:Bool} (h:(l.map Str.ofString).any (· == x) = b):cmpV mem .In (.str x) (.tup (l.map fun s=>V.str (Str.ofString s))) = some b:=by
  show (strsOf _).map _ = _
  rw [nO]; exact congrArg some h
theorem aFM {l:List String} {x:String} {b:Bool} (h:l.any (· == x) = b):(l.map Str.ofString).any (· == Str.ofString x) = b:=by
  rw [List.any_map,← h]; exact congrArg l.any (funext fun s=>cE s x)
theorem any_at {l:List String} {k:Str} {x:String} {b:Bool} (hk:k = Str.ofString x) (h:l.any (· == x) = b):(l.map Str.ofString).any (· == k) = b:=by rw [hk]; exact aFM h
theorem cninT {mem:Mem} {x:Str} {l:List String} {b:Bool} (h:(l.map Str.ofString).any (· == x) = b):cmpV mem .NotIn (.str x) (.tup (l.map fun s=>V.str (Str.ofString s))) = some (!b):=congrArg (Option.map (!·)) (cinT (mem:=mem) h)
section
variable {T:CT} {K:Frag} {hZ:Heap} {n:Nat} {loc:Locs} {mem:Mem} {k:V→Mem→Prop} {o:PE} {i:Nat} {l:List V}
theorem xappE {e:IE} (ho:evP mem loc o = some (.ref i)) (hi:mem[i]? = some (.lst l)) (H:wpE T K hZ n loc e mem fun v m=>uF T K hZ n .append (.ref i) [v] m k):wpE T K hZ n loc (.meth (.p o) .aP [e]) mem k:=by
  rw [aBl]; refine xp ho (os (by rw [mk_ref,hi]; rfl) ?_); rw [uL]; simp only [aBj]; exact H
theorem mapp {v:V} (h:mem[i]? = some (.lst l)) (hl:l.length ≤ 2 ^ 20) (H:k .none (mem.set i (.lst (l ++ [v])))):uF T K hZ n .append (.ref i) [v] mem k:=by rw [m_append h]; exact ⟨hl,H⟩
end
local macro_rules
  | `(tactic| walk_at "bd")=>`(tactic| first | exact btrue rfl | exact bfalse (by decide))
  | `(tactic| walk_at "sq")=>`(tactic| first
    | assumption
    | ((with_reducible apply oql); walk_at "bd")
    | (apply keq; assumption; walk_at "bd")
    | exact zQ (by assumption) (by decide) (by decide) (by decide) (by decide))
  | `(tactic| walk_at "cm")=>`(tactic| first
    | ((with_reducible apply ceq); walk_at "sq") | ((with_reducible apply cneF); walk_at "sq") | ((with_reducible apply cneT); walk_at "sq") | ((with_reducible apply cne); walk_at "sq")
    | exact rfl
    | ((with_reducible apply cinD); assumption; first | exact isS (by assumption) | exact isN (by assumption)))
  | `(tactic| walk_at "tr")=>`(tactic| first | exact rfl | decide)
  | `(tactic| walk_at "ev")=>`(tactic| first
    | ((with_reducible apply vcmp); walk_at "ev"; walk_at "ev"; walk_at "cm")
    | ((with_reducible apply pS); walk_at "ev"; walk_at "tr")
    | ((with_reducible apply fJ); walk_at "ev"; walk_at "tr"; walk_at "ev")
    | ((with_reducible apply yK); walk_at "ev"; walk_at "tr")
    | ((with_reducible apply lI); walk_at "ev"; walk_at "tr"; walk_at "ev")
    | ((with_reducible apply vnot); walk_at "ev"; walk_at "tr")
    | exact rfl
    | ((with_reducible apply va); walk_at "ev"; assumption; first | exact rfl | assumption)
    | ((with_reducible apply vai); walk_at "ev"; first | exact rfl | assumption)
    | ((with_reducible apply vbin); walk_at "ev"; walk_at "ev"; exact rfl)
    | ((with_reducible apply vitem); walk_at "ev"; walk_at "ev"; first | exact rfl | exact itD (by assumption) (by assumption)))
  | `(tactic| walk_at "evs")=>`(tactic| first
    | exact is0 | ((with_reducible apply is1); walk_at "ev") | ((with_reducible apply is2); walk_at "ev"; walk_at "ev") | ((with_reducible apply isc); walk_at "ev"; walk_at "evs"))
  | `(tactic| walk_at "st")=>`(tactic| first
    | (apply tf0; walk_at "ev"; skip)
    | (apply tt; walk_at "ev"; skip)
    | (apply tf; walk_at "ev"; skip)
    | (apply tasgp; walk_at "ev"; skip)
    | (apply tretp; walk_at "ev"; skip)
    | apply tret0
    | apply tnil)
  | `(tactic| walk_at "sf")=>`(tactic| first | refine tself rfl rfl rfl ?_ | refine tselfL rfl rfl ?_ | refine tselfD rfl rfl ?_ | refine tselfI rfl rfl ?_)
  | `(tactic| walk_at "dl")=>`(tactic| dsimp only [setL,dI,loc0,List.cons_append,List.nil_append,List.append_nil,List.map,List.replicate_succ,List.replicate_zero,List.set_cons_succ,List.set_cons_zero])
noncomputable def Tk.v (t:Tk):V:=tkV t.kind t.val t.pos
noncomputable def Takes (src:Str) (p:Nat) (t:V) (p':Nat):Prop:=∀ (T:CT) (K:Frag) (hZ:Heap) (n:Nat) (mem:Mem) (sc:Nat) (er:V),Facts K→Stat T K hZ→mem[sc]? = some (.inst .scanner [.str src,er,.int p,keyV]) →
  aA T K hZ (n + 5) (.ref 938) [.ref sc] mem (fun v m=>v = t∧∃ j,m = scan mem sc src er p' keyV ++ j)
inductive Toks (src:Str):Nat→List Tk→Prop
  | nil {p:Nat}:Toks src p []
  | cons {p p':Nat} {t:Tk} {ts:List Tk}:Takes src p t.v p'→Toks src p' ts→Toks src p (t :: ts)
structure Pl where
  (rd sc ty er rw pl sp stk s0 s1 n0 n1 bo ch bt it ni:Nat)
  src:Str
  (es0 es1:List (Str × V))
  (kn ma no r5 r6 r7 r8 r9 c0 c1 c3 a0 a1 a3 a4 b0 b1 b3 b4:V)
  st:Nat→Option MO
noncomputable def eX (st:Nat→Option MO) (k:Nat) (f:String):Prop:=∃ fs,st k = some (.inst .type fs)∧fs[1]? = some (.str (Str.ofString f))
noncomputable def pG (st:Nat→Option MO) (k:Nat) (kind:String) (ty:Nat) (val:V):Prop:=∃ fs,st k = some (.inst .obj fs)∧fs[1]? = some (.str (Str.ofString kind))∧fs[2]? = some (.ref ty)∧fs[8]? = some val∧fs[13]? = some .none
structure PlOk (E:Pl):Prop where
  d_rd:E.st E.rd = none
  d_sc:E.st E.sc = none
  d_ty:E.st E.ty = none
  d_rw:E.st E.rw = none
  d_pl:E.st E.pl = none
  n1:E.rd ≠ E.sc
  n2:E.rd ≠ E.ty
  n3:E.rd ≠ E.rw
  n4:E.rd ≠ E.pl
  n5:E.sc ≠ E.ty
  n6:E.sc ≠ E.rw
  n7:E.sc ≠ E.pl
  n8:E.ty ≠ E.rw
  n9:E.ty ≠ E.pl
  n10:E.rw ≠ E.pl
  er:E.st E.er = some (.inst .errors [.ref E.rw,.ref E.pl])
  sp:E.st E.sp = some (.inst .scopes [E.c0,E.c1,.ref E.stk,E.c3])
  stk:E.st E.stk = some (.lst [.ref E.s0,.ref E.s1])
  s0:E.st E.s0 = some (.inst .scope [E.a0,E.a1,.ref E.n0,E.a3,E.a4])
  s1:E.st E.s1 = some (.inst .scope [E.b0,E.b1,.ref E.n1,E.b3,E.b4])
  n0d:E.st E.n0 = some (.sdict E.es0)
  n1d:E.st E.n1 = some (.sdict E.es1)
  bo:eX E.st E.bo "boolean"
  ch:eX E.st E.ch "char"
  bt:eX E.st E.bt "byte"
  it:eX E.st E.it "integer"
  ni:eX E.st E.ni "nil"
  oi:∃ k,look (Str.ofString "i") E.es1 = some (.ref k)∧pG E.st k "var" E.it .none
  oc:∃ k,look (Str.ofString "c") E.es1 = some (.ref k)∧pG E.st k "var" E.ch .none
  ob:∃ k,look (Str.ofString "b") E.es1 = some (.ref k)∧pG E.st k "var" E.bt .none
  ot:∃ k,look (Str.ofString "t") E.es1 = some (.ref k)∧pG E.st k "var" E.bo .none
  ou:look (Str.ofString "TRUE") E.es1 = none∧∃ k,look (Str.ofString "TRUE") E.es0 = some (.ref k)∧pG E.st k "const" E.bo (.int 1)
noncomputable def rdO (E:Pl) (tok:V):MO:=.inst .reader [.ref E.sc,.ref E.ty,.ref E.er,.none,.ref E.sp,E.r5,E.r6,E.r7,E.r8,E.r9,tok]
noncomputable def tyO (E:Pl) (c:Int):MO:=.inst .types [.int c,E.kn,.ref E.bo,.ref E.ch,.ref E.bt,.ref E.it,E.ma,.ref E.ni,E.no]
noncomputable def scO (E:Pl) (p:Nat):MO:=.inst .scanner [.str E.src,.ref E.er,.int p,keyV]
noncomputable def rowV (r:Int × Str):V:=.tup [.int r.1,.str r.2]
structure RS (E:Pl) (m:Mem) (tok:V) (p:Nat) (rows:List (Int × Str)):Prop where
  sc:m[E.sc]? = some (scO E p)
  rd:m[E.rd]? = some (rdO E tok)
  ty:∃ c,m[E.ty]? = some (tyO E c)
  rw:m[E.rw]? = some (.lst (rows.map rowV))
  pl:∃ ps,m[E.pl]? = some (.idict ps)∧(∀ q,q ∉ rows.map (·.1)→look q ps = none)∧ps.length ≤ rows.length
  st:∀ k o,E.st k = some o→m[k]? = some o
structure Keeps (E:Pl) (m m':Mem):Prop where
  len:m.length ≤ m'.length
  keep:∀ k o,m[k]? = some o→k ≠ E.rd→k ≠ E.sc→k ≠ E.ty→k ≠ E.rw→k ≠ E.pl→m'[k]? = some o
theorem Keeps.refl (E:Pl) (m:Mem):Keeps E m m:=⟨Nat.le_refl _,fun _ _ h _ _ _ _ _=>h⟩
theorem Keeps.trans {E:Pl} {m1 m2 m3:Mem} (x:Keeps E m1 m2) (y:Keeps E m2 m3):Keeps E m1 m3 :=
  ⟨Nat.le_trans x.len y.len,fun k o h a b c d e=>y.keep k o (x.keep k o h a b c d e) a b c d e⟩
theorem Keeps.push (E:Pl) (m j:Mem):Keeps E m (m ++ j):=⟨by rw [List.length_append]; exact Nat.le_add_right _ _,fun k o h _ _ _ _ _=>hY h⟩
theorem Keeps.set {E:Pl} {m:Mem} {i:Nat} {o:MO} (hi:i = E.rd ∨ i = E.sc ∨ i = E.ty ∨ i = E.rw ∨ i = E.pl):Keeps E m (m.set i o) :=
  ⟨Nat.le_of_eq List.length_set.symm,fun k x h a b c d e=>aY h (by rcases hi with rfl | rfl | rfl | rfl | rfl <;> exact Ne.symm ‹_›)⟩
theorem RS.push {E:Pl} {m j:Mem} {tok:V} {p:Nat} {rows:List (Int × Str)} (R:RS E m tok p rows):RS E (m ++ j) tok p rows:=by
  obtain ⟨c,hc⟩:=R.ty
  refine e1a2 R.pl fun ps h1 h2=>?_
  exact ⟨hY R.sc,hY R.rd,⟨c,hY hc⟩,hY R.rw,⟨ps,hY h1,h2⟩,fun k o h=>hY (R.st k o h)⟩
theorem qB {E:Pl} {i k:Nat} {o:MO} (h:E.st k = some o) (hi:E.st i = none):i ≠ k:=by
  intro q; subst q; rw [h] at hi; cases hi
theorem RS.scanned {E:Pl} {m:Mem} {tok:V} {p q:Nat} {rows:List (Int × Str)} (O:PlOk E) (R:RS E m tok p rows):RS E (m.set E.sc (scO E q)) tok q rows:=by
  obtain ⟨c,hc⟩:=R.ty
  refine e1a2 R.pl fun ps h1 h2=>?_
  exact ⟨eI R.sc,aY R.rd (Ne.symm O.n1),⟨c,aY hc O.n5⟩,aY R.rw O.n6,⟨ps,aY h1 O.n7,h2⟩,fun k o h=>aY (R.st k o h) (qB h O.d_sc)⟩
theorem RS.token {E:Pl} {m:Mem} {tok tok':V} {p:Nat} {rows:List (Int × Str)} (O:PlOk E) (R:RS E m tok p rows):RS E (m.set E.rd (rdO E tok')) tok' p rows:=by
  obtain ⟨c,hc⟩:=R.ty
  refine e1a2 R.pl fun ps h1 h2=>?_
  exact ⟨aY R.sc O.n1,eI R.rd,⟨c,aY hc O.n2⟩,aY R.rw O.n3,⟨ps,aY h1 O.n4,h2⟩,fun k o h=>aY (R.st k o h) (qB h O.d_rd)⟩
theorem RS.typed {E:Pl} {m:Mem} {tok:V} {p:Nat} {rows:List (Int × Str)} {c:Int} (O:PlOk E) (R:RS E m tok p rows):RS E (m.set E.ty (tyO E c)) tok p rows:=by
  obtain ⟨c',hc⟩:=R.ty
  refine e1a2 R.pl fun ps h1 h2=>?_
  exact ⟨aY R.sc (Ne.symm O.n5),aY R.rd (Ne.symm O.n2),⟨c,eI hc⟩,aY R.rw O.n8,⟨ps,aY h1 O.n9,h2⟩,fun k o h=>aY (R.st k o h) (qB h O.d_ty)⟩
theorem RS.keep {E:Pl} {m m':Mem} {k:Nat} {o:MO} (O:PlOk E) (h:Keeps E m m') (hk:E.st k = some o) (hm:m[k]? = some o):m'[k]? = some o :=
  h.keep k o hm (qB hk O.d_rd).symm (qB hk O.d_sc).symm (qB hk O.d_ty).symm (qB hk O.d_rw).symm (qB hk O.d_pl).symm
noncomputable def RT (E:Pl) (m:Mem) (ts:List Tk) (rows:List (Int × Str)):Prop:=∃ p t ts',ts = t :: ts'∧RS E m t.v p rows∧Toks E.src p ts'
theorem RT.rs {E:Pl} {m:Mem} {t:Tk} {ts:List Tk} {rows:List (Int × Str)} (h:RT E m (t :: ts) rows):∃ p,RS E m t.v p rows∧Toks E.src p ts:=by
  refine e3a2 h fun p t' ts' e r=>?_
  cases e
  exact ⟨p,r⟩
theorem RT.hrd {E:Pl} {m:Mem} {t:Tk} {ts:List Tk} {rows:List (Int × Str)} (h:RT E m (t :: ts) rows):m[E.rd]? = some (rdO E t.v):=by
  refine e1a2 h.rs fun p r _=>?_
  exact r.rd
theorem RT.at {E:Pl} {m:Mem} {ts:List Tk} {rows:List (Int × Str)} {k:Nat} {o:MO} (h:RT E m ts rows) (hk:E.st k = some o):m[k]? = some o:=by
  refine e3a3 h fun p t ts' e r _=>?_
  exact r.st _ _ hk
section
variable {T:CT} {K:Frag} {hZ:Heap} {n:Nat} {E:Pl} {m:Mem} {t t2:Tk} {ts:List Tk} {rows:List (Int × Str)}
set_option tactic.hygienic true in
theorem iI (F:Facts K) (St:Stat T K hZ) (O:PlOk E) (R:RT E m (t :: t2 :: ts) rows):aA T K hZ (n + 6) (.ref 1227) [.ref E.rd] m (fun v m'=>v = t.v∧RT E m' (t2 :: ts) rows∧Keeps E m m'):=by
  refine e1a2 R.rs fun p R hts=>?_
  cases hts with
  | cons hT hts =>
  rename_i p'
  refine F.ok_mReader_step.sem T hZ (n + 5) _ _ _ St rfl ?_
  have hrd:m[E.rd]? = _:=R.rd
  have hsc:m[E.sc]? = _:=R.sc
  walk_at "st"
  refine tattr (xmeth (by walk_at "ev") (mkm hsc rfl) is0 (hT T K hZ n m E.sc (.ref E.er) F St hsc) ?_)
  rintro v m' ⟨rfl,j,rfl⟩
  have R2:RS E (scan m E.sc E.src (.ref E.er) p' keyV ++ j) t.v p' rows:=(R.scanned O).push
  refine xp rfl (pa R2.rd rfl (tretp rfl ⟨rfl,⟨p',t2,ts,rfl,R2.token O (tok':=t2.v),hts⟩,?_⟩))
  exact ((Keeps.set (.inr (.inl rfl))).trans (Keeps.push E _ j)).trans (Keeps.set (.inl rfl))
theorem aBq (F:Facts K) (St:Stat T K hZ) (R:RT E m (t :: ts) rows) {k:Str}:aA T K hZ (n + 1) (.ref 1234) [.ref E.rd,.str k] m (fun v m'=>v = .bool (t.kind == k)∧m' = m):=by
  refine e1a2 R.rs fun p R hts=>?_
  refine F.ok_mReader_at.sem T hZ n _ _ _ St rfl ?_
  have hrd:m[E.rd]? = _:=R.rd
  walk_at "st"
  exact ⟨rfl,rfl⟩
theorem dC (F:Facts K) (St:Stat T K hZ) (R:RT E m (t :: ts) rows) {k:Str} (hk:(t.kind == k) = false):aA T K hZ (n + 1) (.ref 1241) [.ref E.rd,.str k] m (fun v m'=>v = .bool false∧m' = m):=by
  refine e1a2 R.rs fun p R hts=>?_
  refine F.ok_mReader_skip.sem T hZ n _ _ _ St rfl ?_
  have hrd:m[E.rd]? = _:=R.rd
  walk_at "st"
  walk_at "st"
  exact ⟨rfl,rfl⟩
theorem eJ (F:Facts K) (St:Stat T K hZ) (O:PlOk E) (R:RT E m (t :: t2 :: ts) rows) {k:Str} (hk:t.kind = k):aA T K hZ (n + 7) (.ref 1241) [.ref E.rd,.str k] m (fun v m'=>v = .bool true∧RT E m' (t2 :: ts) rows∧Keeps E m m'):=by
  have R0:=R
  refine e1a2 R.rs fun p R hts=>?_
  refine F.ok_mReader_skip.sem T hZ (n + 6) _ _ _ St rfl ?_
  have hrd:m[E.rd]? = _:=R.rd
  have hb:(t.kind == k) = true:=by rw [hk]; exact beq_self_eq_true k
  walk_at "st"
  refine mexpr rfl (mkm hrd rfl) is0 (iI F St O R0) ?_
  intro v m' hq
  refine e0a3 hq fun e0q h1 h2=>?_
  subst e0q
  exact tretp rfl ⟨rfl,h1,h2⟩
theorem kK (F:Facts K) (St:Stat T K hZ) (O:PlOk E) (R:RT E m (t :: t2 :: ts) rows) {k:Str} (hk:t.kind = k):aA T K hZ (n + 8) (.ref 1248) [.ref E.rd,.str k] m (fun v m'=>RT E m' (t2 :: ts) rows∧Keeps E m m'):=by
  have R0:=R
  refine e1a2 R.rs fun p R hts=>?_
  refine F.ok_mReader_expect.sem T hZ (n + 7) _ _ _ St rfl ?_
  have hrd:m[E.rd]? = _:=R.rd
  refine mite rfl (mkm hrd rfl) (by walk_at "evs") (eJ F St O R0 hk) ?_
  rintro v m' ⟨rfl,h⟩
  exact brt rfl (tretp rfl h)
theorem con_name (F:Facts K) (St:Stat T K hZ) (O:PlOk E) (R:RT E m (t :: t2 :: ts) rows) (hk:t.kind = Str.ofString "ident"):aA T K hZ (n + 7) (.ref 1262) [.ref E.rd] m (fun v m'=>v = t.v∧RT E m' (t2 :: ts) rows∧Keeps E m m'):=by
  have R0:=R
  refine e1a2 R.rs fun p R hts=>?_
  refine F.ok_mReader_name.sem T hZ (n + 6) _ _ _ St rfl ?_
  have hrd:m[E.rd]? = _:=R.rd
  refine mite rfl (mkm hrd rfl) (by walk_at "evs") (aBq F St R0) ?_
  rintro v m' ⟨rfl,rfl⟩
  exact brt (trt (by rw [hk]; exact beq_self_eq_true _)) (mret rfl (mkm hrd rfl) is0 (iI F St O R0) fun _ _ h=>h)
end
section
variable {T:CT} {K:Frag} {hZ:Heap} {n:Nat} {mem L:Mem}
@[simp] theorem aFL:(mem ++ L)[mem.length]? = L[0]?:=by rw [List.getElem?_append_right (Nat.le_refl _),Nat.sub_self]
@[simp] theorem cM {k:Nat}:(mem ++ L)[mem.length + k]? = L[k]?:=by rw [List.getElem?_append_right (Nat.le_add_right _ _),Nat.add_sub_cancel_left]
@[simp] theorem ap_set0 {o:MO}:(mem ++ L).set mem.length o = mem ++ L.set 0 o:=by rw [List.set_append_right _ _ (Nat.le_refl _),Nat.sub_self]
@[simp] theorem ap_setk {k:Nat} {o:MO}:(mem ++ L).set (mem.length + k) o = mem ++ L.set k o:=by rw [List.set_append_right _ _ (Nat.le_add_right _ _),Nat.add_sub_cancel_left]
noncomputable def typeFs (b:Nat) (num form size base len mo la:V):List V:=[num,form,size,base,len,.ref (b + 1),.int 0,.ref (b + 2),mo,la,.ref (b + 3),.int 0]
noncomputable def pT (b:Nat) (num form size base len mo la:V):Mem:=[.inst .type (typeFs b num form size base len mo la),.lst [],.lst [],.lst []]
theorem uT (F:Facts K) (St:Stat T K hZ) (a b c:V):aA T K hZ (n + 1) (.ref 1036) [.ref mem.length,a,b,c] (mem ++ [.inst .type []]) (fun v m=>v = .none∧m = mem ++ pT mem.length a b c .none (.int 0) (.str (Str.ofString "")) (.str (Str.ofString ""))):=by
  refine F.ok_mType_init.sem T hZ n _ _ _ St rfl ?_
  repeat walk_at "sf"
  exact tnil ⟨rfl,rfl⟩
theorem con_Type (F:Facts K) (St:Stat T K hZ) (a b c:V):aA T K hZ (n + 2) A.cType [a,b,c] mem (fun v m=>v = .ref mem.length∧m = mem ++ pT mem.length a b c .none (.int 0) (.str (Str.ofString "")) (.str (Str.ofString ""))) :=
  gB St F.mk_type (uT F St a b c)
theorem isType:isFun A.cType = true:=by decide
theorem aFo (F:Facts K) (St:Stat T K hZ) {ty:Nat} {c:Int} {fs:List V} {form:Str} {size:V} (h:mem[ty]? = some (.inst .types (.int c :: fs))):aA T K hZ (n + 3) (.ref 1086) [.ref ty,.str form,size] mem (fun v m=>v = .ref mem.length∧m = mem.set ty (.inst .types (.int (c + 1) :: fs)) ++ pT mem.length (.int (c + 1)) (.str form) size .none (.int 0) (.str (Str.ofString "")) (.str (Str.ofString ""))):=by
  refine F.ok_mTypes_new_d.sem T hZ (n + 2) _ _ _ St rfl ?_
  refine taugA (fs':=.int (c + 1) :: fs) rfl h rfl rfl rfl rfl ?_
  generalize hM:mem.set ty (.inst .types (.int (c + 1) :: fs)) = M
  have hMl:M.length = mem.length:=by rw [← hM]; exact List.length_set
  have hMt:M[ty]? = some (.inst .types (.int (c + 1) :: fs)):=by rw [← hM]; exact eI h
  rw [← hMl]
  refine casg isType (by walk_at "evs") (con_Type F St _ _ _) ?_
  rintro v m ⟨rfl,rfl⟩
  repeat walk_at "sf"
  walk_at "st"
  exact tretp rfl ⟨rfl,rfl⟩
theorem zX (F:Facts K) (St:Stat T K hZ) {E:Pl} (O:PlOk E) {tok:V} {p:Nat} {rows:List (Int × Str)} {l:Int} (R:RS E mem tok p rows):aA T K hZ (n + 4) (.ref 1093) [.ref E.ty,.int l] mem (fun v m=>∃ k,v = .ref k∧(∃ fs,m[k]? = some (.inst .type fs)∧fs[1]? = some (.str (Str.ofString "string")))∧RS E m tok p rows∧Keeps E mem m):=by
  obtain ⟨c,hc⟩:=R.ty
  refine F.ok_mTypes_string.sem T hZ (n + 3) _ _ _ St rfl ?_
  have hc':mem[E.ty]? = some (.inst .types (.int c :: [E.kn,.ref E.bo,.ref E.ch,.ref E.bt,.ref E.it,E.ma,.ref E.ni,E.no])):=hc
  refine masg rfl (mkm hc rfl) (by walk_at "evs") (aFo F St hc') ?_
  rintro v m ⟨rfl,rfl⟩
  have R2:=R.typed O (c:=c + 1)
  have K2:Keeps E mem (mem.set E.ty (tyO E (c + 1))):=Keeps.set (.inr (.inr (.inl rfl)))
  change wpSs _ _ _ _ _ _ (mem.set E.ty (tyO E (c + 1)) ++ _) _ _ _
  generalize hM:mem.set E.ty (tyO E (c + 1)) = M at R2 K2 ⊢
  have hMl:M.length = mem.length:=by rw [← hM]; exact List.length_set
  rw [← hMl]
  obtain ⟨c2,hc2⟩:=R2.ty
  refine tself rfl rfl rfl (tself rfl (va rfl (hY hc2) rfl) rfl (tretp rfl ?_))
  exact ⟨_,rfl,⟨_,bR,rfl⟩,R2.push,K2.trans (Keeps.push E _ _)⟩
set_option tactic.hygienic true in
theorem kS {p:Int}:∀ {es:List (Int × V)},look p es = none→es.any (fun kv=>decide (kv.1 = p)) = false
  | [],_=>rfl
  | (q,v) :: r,h=>by
    dsimp only [look] at h
    split at h
    · cases h
    · rename_i hq
      simp only [List.any_cons,hq,decide_false,Bool.false_or]
      exact kS h
set_option tactic.hygienic true in
theorem wK {p:Int}:∀ {es:List (Int × V)} {r:List (Int × V)},look p es = none→look p (es ++ r) = look p r
  | [],r,_=>rfl
  | (q,v) :: es,r,h=>by
    dsimp only [look] at h
    split at h
    · cases h
    · rename_i hq
      simp only [List.cons_append,look,hq,if_false]
      exact wK h
theorem aFn (F:Facts K) (St:Stat T K hZ) {E:Pl} (O:PlOk E) {tok:V} {p:Nat} {rows:List (Int × Str)} {q:Int} {code:Str} (R:RS E mem tok p rows) (hq:q ∉ rows.map (·.1)) (hl:rows.length ≤ 1000) :
    aA T K hZ (n + 1) (.ref 832) [.ref E.er,.int q,.str code] mem (fun v m=>RS E m tok p (rows ++ [(q,code)])∧Keeps E mem m):=by
  obtain ⟨ps,h1,h2,h3⟩:=R.pl
  have hn:=h2 q hq
  have e1:E.er ≠ E.pl:=(qB O.er O.d_pl).symm
  refine (con_mark F St (R.st _ _ O.er) R.rw h1 e1 O.n10 hn (by simpa using hl) (by lia)).mono ?_
  rintro v m ⟨rfl,rfl⟩
  obtain ⟨c,hc⟩:=R.ty
  refine ⟨⟨aY (aY R.sc (Ne.symm O.n7)) (Ne.symm O.n6),aY (aY R.rd (Ne.symm O.n4)) (Ne.symm O.n3),⟨c,aY (aY hc (Ne.symm O.n9)) (Ne.symm O.n8)⟩,?_,⟨ps ++ [(q,.str code)],?_,?_,?_⟩,fun k o h=>aY (aY (R.st k o h) (qB h O.d_pl)) (qB h O.d_rw)⟩,(Keeps.set (.inr (.inr (.inr (.inr rfl))))).trans (Keeps.set (.inr (.inr (.inr (.inl rfl)))))⟩
  · rw [List.map_append]; exact eI (aY R.rw (Ne.symm O.n10))
  · have e:putD q (.str code) ps = ps ++ [(q,.str code)]:=by unfold putD; rw [if_neg (by rw [kS hn]; exact Bool.false_ne_true)]
    rw [← e]; exact aY (eI h1) O.n10
  · intro x hx
    rw [List.map_append] at hx
    rw [wK (h2 x fun h=>hx (List.mem_append_left _ h))]
    exact if_neg fun (h:q = x)=>hx (List.mem_append_right _ (List.mem_singleton.mpr h.symm))
  · rw [List.length_append,List.length_append]; exact Nat.succ_le_succ h3
theorem qY (F:Facts K) (St:Stat T K hZ) {E:Pl} (O:PlOk E) {ts:List Tk} {rows:List (Int × Str)} {q:Int} {code:Str} (R:RT E mem ts rows) (hq:q ∉ rows.map (·.1)) (hl:rows.length ≤ 1000) :
    aA T K hZ (n + 1) (.ref 832) [.ref E.er,.int q,.str code] mem (fun v m=>RT E m ts (rows ++ [(q,code)])∧Keeps E mem m):=by
  obtain ⟨p,t,ts',rfl,R,h⟩:=R
  refine (aFn F St O R hq hl).mono ?_
  rintro v m ⟨h1,h2⟩
  exact ⟨⟨p,t,ts',rfl,h1,h⟩,h2⟩
noncomputable def revM (m:Mem) (v:V) (k:Src→Mem→Prop):Prop:=aC (refOf v) fun r=>aC (dT m r) fun ys=>k (.rev r ys.length) m
@[simp] theorem it_rev {loc:Locs} {e:IE} {k:Src→Mem→Prop}:iterM T K hZ n loc mem (.rev e) k = wpE T K hZ n loc e mem fun v m=>revM m v k:=propext Iff.rfl
end
section
variable {T:CT} {K:Frag} {hZ:Heap} {n:Nat} {mem:Mem} {E:Pl}
theorem rev_at {m:Mem} {r:Nat} {ys:List V} {k:Src→Mem→Prop} (h:m[r]? = some (.lst ys)) (H:k (.rev r ys.length) m):revM m (.ref r) k:=os (o:=dT m r) (q:=fun ys=>k (.rev r ys.length) m) (aO h) H
theorem uE {m:Mem} {k n j:Nat} {ys:List V} {y:V} (h:m[k]? = some (.lst ys)) (hj:j < n) (hy:ys[n - 1 - j]? = some y):nextOf m j (.rev k n) = some (some y) :=
  (aO (show dT m k = some ys from aO h)).trans ((if_pos hj).trans (congrArg (Option.map some) hy))
structure Sc (E:Pl) (m:Mem):Prop where
  sp:m[E.sp]? = some (.inst .scopes [E.c0,E.c1,.ref E.stk,E.c3])
  stk:m[E.stk]? = some (.lst [.ref E.s0,.ref E.s1])
  s0:m[E.s0]? = some (.inst .scope [E.a0,E.a1,.ref E.n0,E.a3,E.a4])
  s1:m[E.s1]? = some (.inst .scope [E.b0,E.b1,.ref E.n1,E.b3,E.b4])
  n0d:m[E.n0]? = some (.sdict E.es0)
  n1d:m[E.n1]? = some (.sdict E.es1)
theorem RS.scopes {tok:V} {p:Nat} {rows:List (Int × Str)} (O:PlOk E) (R:RS E mem tok p rows):Sc E mem :=
  ⟨R.st _ _ O.sp,R.st _ _ O.stk,R.st _ _ O.s0,R.st _ _ O.s1,R.st _ _ O.n0d,R.st _ _ O.n1d⟩
theorem aAn {loc:Locs} {i r:Nat} {ys:List V} {e:PE} {b rr:List IS} {kl:Locs→Mem→Prop} {kr:V→Mem→Prop} {kb:Locs→Mem→Prop} (h:evP mem loc e = some (.ref r)) (hr:mem[r]? = some (.lst ys)) (N:Nat) (H:forW T K hZ n i b kr (.rev r ys.length) N 0 loc mem fun l m=>wpSs T K hZ n l rr m kl kr kb):wpSs T K hZ n loc (.for1 i (.rev (.p e)) b :: rr) mem kl kr kb:=by
  rw [bX,oP,it_rev]; exact xp h (rev_at hr ⟨N,H⟩)
theorem aFq (F:Facts K) (St:Stat T K hZ) (S:Sc E mem) {x:Str} {v:V} (h:look x E.es1 = some v):aA T K hZ (n + 1) (.ref 1177) [.ref E.sp,.str x] mem (fun v' m=>v' = v∧m = mem):=by
  refine F.ok_mScopes_find.sem T hZ n _ _ _ St rfl ?_
  obtain ⟨h1,h2,h3,h4,h5,h6⟩:=S
  refine aAn (by walk_at "ev") h2 1 (cB (uE h2 (show _ < 2 by decide) (y:=.ref E.s1) rfl) ?_)
  walk_at "st"
  walk_at "st"
  exact ⟨rfl,rfl⟩
theorem aFr (F:Facts K) (St:Stat T K hZ) (S:Sc E mem) {x:Str} {v:V} (h:look x E.es1 = none) (h0:look x E.es0 = some v):aA T K hZ (n + 1) (.ref 1177) [.ref E.sp,.str x] mem (fun v' m=>v' = v∧m = mem):=by
  refine F.ok_mScopes_find.sem T hZ n _ _ _ St rfl ?_
  obtain ⟨h1,h2,h3,h4,h5,h6⟩:=S
  refine aAn (by walk_at "ev") h2 2 (cB (uE h2 (show _ < 2 by decide) (y:=.ref E.s1) rfl) ?_)
  walk_at "st"
  refine tnil (cB (uE h2 (show _ < 2 by decide) (y:=.ref E.s0) rfl) ?_)
  walk_at "st"
  walk_at "st"
  exact ⟨rfl,rfl⟩
noncomputable def Finds (E:Pl) (x:Str) (k:Nat):Prop:=look x E.es1 = some (.ref k) ∨ (look x E.es1 = none∧look x E.es0 = some (.ref k))
theorem con_find (F:Facts K) (St:Stat T K hZ) (S:Sc E mem) {x:Str} {k:Nat} (h:Finds E x k):aA T K hZ (n + 1) (.ref 1177) [.ref E.sp,.str x] mem (fun v' m=>v' = .ref k∧m = mem):=by
  rcases h with h | ⟨h,h0⟩
  · exact aFq F St S h
  · exact aFr F St S h h0
theorem RT.any {ts:List Tk} {rows:List (Int × Str)} (h:RT E mem ts rows):∃ t p,RS E mem t p rows:=by
  refine e3a3 h fun p t ts' e r _=>?_
  exact ⟨_,p,r⟩
theorem uP (F:Facts K) (St:Stat T K hZ) (O:PlOk E) {t t2:Tk} {ts:List Tk} {rows:List (Int × Str)} {x:Str} {k:Nat} {fs:List V} {kd:String} (R:RT E mem (t :: t2 :: ts) rows) (h1:t.kind = Str.ofString "ident") (h2:t.val = .str x) (hf:Finds E x k) (ho:E.st k = some (.inst .obj fs)) (hk:fs[1]? = some (.str (Str.ofString kd))) (hkd:kd ≠ "module") :
    aA T K hZ (n + 8) (.ref 601) [.ref E.rd] mem (fun v m=>v = .ref k∧RT E m (t2 :: ts) rows∧Keeps E mem m):=by
  refine F.ok_qualident.sem T hZ (n + 7) _ _ _ St rfl ?_
  have hrd:=R.hrd
  refine masg rfl (mkm hrd rfl) is0 (con_name F St O R h1) ?_
  intro v m hq
  refine e0a3 hq fun e0q R2 K2=>?_
  subst e0q
  refine e1a2 R2.rs fun p2 R3 _=>?_
  have hrd:m[E.rd]? = _:=R3.rd
  have hsp:=R3.st _ _ O.sp
  walk_at "st"
  refine masg (by walk_at "ev") (mkm hsp rfl) (is1 (vai rfl (congrArg some h2))) (con_find F St (R3.scopes O) hf) ?_
  rintro v m' ⟨rfl,rfl⟩
  have hob:=R3.st _ _ ho
  have hb:(Str.ofString kd == Str.ofString "module") = false:=oql (bfalse hkd)
  repeat walk_at "st"
  exact ⟨rfl,R2,K2⟩
theorem isNode:isFun A.cNode = true:=by decide
theorem isConst:isFun A.const = true:=by decide
theorem isVarN:isFun A.variable_node = true:=by decide
theorem isQual:isFun A.qualident = true:=by decide
theorem isObjN:isFun A.object_node = true:=by decide
theorem isSel:isFun A.selectors = true:=by decide
noncomputable def bA (op:String) (place:Int) (ty:V) (kids value:V):V:=.inst .node [.str (Str.ofString op),.int place,ty,kids,value,.bool false]
theorem oH (F:Facts K) (St:Stat T K hZ) {k:Nat} {fs:List V} {ty:Nat} {p:Int} (ho:mem[k]? = some (.inst .obj fs)) (h2:fs[2]? = some (.ref ty)) (h13:fs[13]? = some .none) :
    aA T K hZ (n + 3) (.ref 615) [.ref k,.int p] mem (fun v m=>v = bA "var" p (.ref ty) (.lst []) (.ref k)∧m = mem):=by
  refine F.ok_variable_node.sem T hZ (n + 2) _ _ _ St rfl ?_
  repeat walk_at "st"
  exact cret isNode (by walk_at "evs") (rE F St _ _ _ _ _) fun _ _ h=>h
theorem rO (F:Facts K) (St:Stat T K hZ) {r:Nat} {k:Nat} {fs:List V} {ty:Nat} {p:Int} (ho:mem[k]? = some (.inst .obj fs)) (h1:fs[1]? = some (.str (Str.ofString "var"))) (h2:fs[2]? = some (.ref ty)) (h13:fs[13]? = some .none) :
    aA T K hZ (n + 4) (.ref 608) [.ref r,.ref k,.int p] mem (fun v m=>v = bA "var" p (.ref ty) (.lst []) (.ref k)∧m = mem):=by
  refine F.ok_object_node.sem T hZ (n + 3) _ _ _ St rfl ?_
  repeat walk_at "st"
  exact cret isVarN (by walk_at "evs") (oH F St ho h2 h13) fun _ _ h=>h
theorem pE (F:Facts K) (St:Stat T K hZ) {r:Nat} {k:Nat} {fs:List V} {ty:Nat} {val:V} {p:Int} (ho:mem[k]? = some (.inst .obj fs)) (h1:fs[1]? = some (.str (Str.ofString "const"))) (h2:fs[2]? = some (.ref ty)) (h8:fs[8]? = some val) :
    aA T K hZ (n + 4) (.ref 608) [.ref r,.ref k,.int p] mem (fun v m=>v = bA "const" p (.ref ty) (.lst []) val∧m = mem):=by
  refine F.ok_object_node.sem T hZ (n + 3) _ _ _ St rfl ?_
  repeat walk_at "st"
  exact cret isConst (by walk_at "evs") (jY F St _ _ _) fun _ _ h=>h
theorem mX (F:Facts K) (St:Stat T K hZ) {t:Tk} {ts:List Tk} {rows:List (Int × Str)} {node f:V} (R:RT E mem (t :: ts) rows) (h:folk t):aA T K hZ (n + 2) (.ref 629) [.ref E.rd,node,f] mem (fun v m=>v = node∧m = mem):=by
  refine F.ok_selectors.sem T hZ (n + 1) _ _ _ St rfl ?_
  have hrd:=R.hrd
  refine twhile 1 (hS ?_)
  walk_at "st"
  refine mite rfl (mkm hrd rfl) (by walk_at "evs") (dC F St R (by walk_at "sq")) ?_
  rintro v m ⟨rfl,rfl⟩
  refine brf rfl (mite rfl (mkm hrd rfl) (by walk_at "evs") (dC F St R (by walk_at "sq")) ?_)
  rintro v m ⟨rfl,rfl⟩
  refine brf rfl (mite rfl (mkm hrd rfl) (by walk_at "evs") (dC F St R (by walk_at "sq")) ?_)
  rintro v m ⟨rfl,rfl⟩
  refine brf rfl (tite (xand (xmeth rfl (mkm hrd rfl) (by walk_at "evs") (aBq F St R) ?_)))
  rintro v m ⟨rfl,rfl⟩
  have e:truth (.bool (t.kind == Str.ofString "(")) = some false:=trf (by walk_at "sq")
  exact brf e (brf e (tretp rfl ⟨rfl,rfl⟩))
theorem rS (F:Facts K) (St:Stat T K hZ) (O:PlOk E) {t t2:Tk} {ts:List Tk} {rows:List (Int × Str)} {x:Str} {k ty:Nat} {val:V} {f:V} {kd:String} (R:RT E mem (t :: t2 :: ts) rows) (h1:t.kind = Str.ofString "ident") (h2:t.val = .str x) (hf:Finds E x k) (ho:pG E.st k kd ty val) (hk:kd = "var" ∨ kd = "const") (h:folk t2) :
    aA T K hZ (n + 9) (.ref 622) [.ref E.rd,f] mem (fun v m=>v = (if kd = "var" then bA "var" t.pos (.ref ty) (.lst []) (.ref k) else bA "const" t.pos (.ref ty) (.lst []) val)∧RT E m (t2 :: ts) rows∧Keeps E mem m):=by
  refine F.ok_designator.sem T hZ (n + 8) _ _ _ St rfl ?_
  refine e1a5 ho fun fs e0 e1 e2 e8 e13=>?_
  have hrd:=R.hrd
  walk_at "st"
  refine casg isQual (by walk_at "evs") (uP F St O R h1 h2 hf e0 e1 (by rcases hk with rfl | rfl <;> decide)) ?_
  intro v m hq
  refine e0a3 hq fun e0q R2 K2=>?_
  subst e0q
  refine e1a2 R2.rs fun p2 R3 _=>?_
  have hob:=R3.st _ _ e0
  walk_at "st"
  rcases hk with rfl | rfl
  · refine casg isObjN (by walk_at "evs") (rO F St hob e1 e2 e13) ?_
    rintro v m ⟨rfl,rfl⟩
    refine tnil (cret isSel (by walk_at "evs") (mX F St R2 h) ?_)
    rintro v m ⟨rfl,rfl⟩
    exact ⟨rfl,R2,K2⟩
  · refine casg isObjN (by walk_at "evs") (pE F St hob e1 e2 e8) ?_
    rintro v m ⟨rfl,rfl⟩
    refine tnil (cret isSel (by walk_at "evs") (mX F St R2 h) ?_)
    rintro v m ⟨rfl,rfl⟩
    exact ⟨rfl,R2,K2⟩
end
section
variable {T:CT} {K:Frag} {hZ:Heap} {n:Nat} {mem:Mem} {E:Pl} {t t2:Tk} {ts:List Tk} {rows:List (Int × Str)}
noncomputable def yF (m:Mem) (k:Nat) (f:String):Prop:=∃ fs,m[k]? = some (.inst .type fs)∧fs[1]? = some (.str (Str.ofString f))
theorem RT.form {k:Nat} {f:String} (R:RT E mem ts rows) (h:eX E.st k f):yF mem k f:=by
  refine e2a1 R.any fun _ p R=>?_
  refine e1a2 h fun fs h1 h2=>?_
  exact ⟨fs,R.st _ _ h1,h2⟩
theorem isDes:isFun A.designator = true:=by decide
theorem isNamed:isFun A.named_factor = true:=by decide
theorem isFac:isFun A.factor = true:=by decide
theorem isTerm:isFun A.term = true:=by decide
theorem isSimple:isFun A.simple_expression = true:=by decide
theorem isExpr:isFun A.expression = true:=by decide
theorem isUnary:isFun A.unary = true:=by decide
theorem isUnaryN:isFun A.unary_node = true:=by decide
theorem isInt:isFun A.is_integer = true:=by decide
theorem isIsC:isFun A.is_const_checkops = true:=by decide
theorem isFoldU:isFun A.fold_unary = true:=by decide
theorem aEz:isFun A.checked = true:=by decide
theorem isFits:isFun A.fits = true:=by decide
theorem aFp (F:Facts K) (St:Stat T K hZ) (O:PlOk E) {x:Str} {k ty:Nat} {val:V} {kd:String} (R:RT E mem (t :: t2 :: ts) rows) (h1:t.kind = Str.ofString "ident") (h2:t.val = .str x) (hf:Finds E x k) (ho:pG E.st k kd ty val) (hk:kd = "var" ∨ kd = "const") (h:folk t2) :
    aA T K hZ (n + 10) (.ref 678) [.ref E.rd] mem (fun v m=>v = (if kd = "var" then bA "var" t.pos (.ref ty) (.lst []) (.ref k) else bA "const" t.pos (.ref ty) (.lst []) val)∧RT E m (t2 :: ts) rows∧Keeps E mem m):=by
  refine F.ok_named_factor.sem T hZ (n + 9) _ _ _ St rfl ?_
  refine casg isDes (by walk_at "evs") (rS F St O R h1 h2 hf ho hk h) ?_
  intro v m hq
  refine e0a3 hq fun e0q R2 K2=>?_
  subst e0q
  have hrd:=R2.hrd
  have hat:∀ (o q:Str) (p:Int) (a b c:V),(o == Str.ofString "type") = false→(o == Str.ofString "std") = false→wpSs T K hZ (n + 9) [some (.ref E.rd),some (.inst .node [.str o,.int p,a,b,c,.bool false]),none] (fO.drop 1) m (fun _ _=>False) (fun v m'=>v = .inst .node [.str o,.int p,a,b,c,.bool false]∧RT E m' (t2 :: ts) rows∧Keeps E mem m') (fun _ _=>False):=by
    intro o q p a b c e1 e2
    walk_at "st"
    walk_at "st"
    refine tite (xand (xmeth rfl (mkm hrd rfl) (by walk_at "evs") (aBq F St R2) ?_))
    rintro v m' ⟨rfl,rfl⟩
    have e3:truth (.bool (t2.kind == Str.ofString "(")) = some false:=by rw [zQ h (by decide) (by decide) (by decide) (by decide)]; rfl
    exact brf e3 (brf e3 (tnil (tretp rfl ⟨rfl,R2,K2⟩)))
  rcases hk with rfl | rfl
  · exact hat _ (Str.ofString "var") _ _ _ _ (keq rfl (bfalse (by decide))) (keq rfl (bfalse (by decide)))
  · exact hat _ (Str.ofString "var") _ _ _ _ (keq rfl (bfalse (by decide))) (keq rfl (bfalse (by decide)))
theorem jX (F:Facts K) (St:Stat T K hZ) (O:PlOk E) {x:Str} {k ty:Nat} {val:V} {kd:String} (R:RT E mem (t :: t2 :: ts) rows) (h1:t.kind = Str.ofString "ident") (h2:t.val = .str x) (hf:Finds E x k) (ho:pG E.st k kd ty val) (hk:kd = "var" ∨ kd = "const") (h:folk t2) :
    aA T K hZ (n + 11) (.ref 671) [.ref E.rd] mem (fun v m=>v = (if kd = "var" then bA "var" t.pos (.ref ty) (.lst []) (.ref k) else bA "const" t.pos (.ref ty) (.lst []) val)∧RT E m (t2 :: ts) rows∧Keeps E mem m):=by
  refine F.ok_factor.sem T hZ (n + 10) _ _ _ St rfl ?_
  have hrd:=R.hrd
  repeat walk_at "st"
  exact cret isNamed (by walk_at "evs") (aFp F St O R h1 h2 hf ho hk h) fun _ _ h=>h
theorem lC (F:Facts K) (St:Stat T K hZ) (O:PlOk E) (R:RT E mem (t :: t2 :: ts) rows) (h1:t.kind = Str.ofString "int") :
    aA T K hZ (n + 7) (.ref 671) [.ref E.rd] mem (fun v m=>v = bA "const" t.pos (.ref E.it) (.lst []) t.val∧RT E m (t2 :: ts) rows∧Keeps E mem m):=by
  refine F.ok_factor.sem T hZ (n + 6) _ _ _ St rfl ?_
  have hrd:=R.hrd
  repeat walk_at "st"
  refine mexpr rfl (mkm hrd rfl) (by walk_at "evs") (iI F St O R) ?_
  intro v m hq
  refine e0a3 hq fun e0q R2 K2=>?_
  subst e0q
  refine e1a2 R2.rs fun p2 R3 _=>?_
  have hrd:m[E.rd]? = _:=R3.rd
  obtain ⟨c,hty⟩:=R3.ty
  refine cret isConst (by walk_at "evs") (jY F St _ _ _) ?_
  rintro v m ⟨rfl,rfl⟩
  exact ⟨rfl,R2,K2⟩
theorem rR (F:Facts K) (St:Stat T K hZ) (O:PlOk E) (R:RT E mem (t :: t2 :: ts) rows) (h1:t.kind = Str.ofString "NIL") :
    aA T K hZ (n + 7) (.ref 671) [.ref E.rd] mem (fun v m=>v = bA "const" t.pos (.ref E.ni) (.lst []) .none∧RT E m (t2 :: ts) rows∧Keeps E mem m):=by
  refine F.ok_factor.sem T hZ (n + 6) _ _ _ St rfl ?_
  have hrd:=R.hrd
  repeat walk_at "st"
  refine mexpr rfl (mkm hrd rfl) (by walk_at "evs") (iI F St O R) ?_
  intro v m hq
  refine e0a3 hq fun e0q R2 K2=>?_
  subst e0q
  refine e1a2 R2.rs fun p2 R3 _=>?_
  have hrd:m[E.rd]? = _:=R3.rd
  obtain ⟨c,hty⟩:=R3.ty
  refine cret isConst (by walk_at "evs") (jY F St _ _ _) ?_
  rintro v m ⟨rfl,rfl⟩
  exact ⟨rfl,R2,K2⟩
theorem gP (F:Facts K) (St:Stat T K hZ) (O:PlOk E) {s:Str} (R:RT E mem (t :: t2 :: ts) rows) (h1:t.kind = Str.ofString "string") (h2:t.val = .str s) (hl:s.length ≤ 2 ^ 24) :
    aA T K hZ (n + 7) (.ref 671) [.ref E.rd] mem (fun v m=>∃ k,v = bA "const" t.pos (.ref k) (.lst []) (.str s)∧yF m k "string"∧RT E m (t2 :: ts) rows∧Keeps E mem m):=by
  refine F.ok_factor.sem T hZ (n + 6) _ _ _ St rfl ?_
  have hrd:=R.hrd
  repeat walk_at "st"
  refine mexpr rfl (mkm hrd rfl) (by walk_at "evs") (iI F St O R) ?_
  intro v m hq
  refine e0a3 hq fun e0q R2 K2=>?_
  subst e0q
  refine e1a2 R2.rs fun p2 R3 hts=>?_
  have hrd:m[E.rd]? = _:=R3.rd
  obtain ⟨c,hty⟩:=R3.ty
  refine tret (xcalle isConst (xse (xmeth (by walk_at "ev") (mkm hty rfl) (is1 (vbin (vbi1 (vai rfl (congrArg some h2)) (kN hl)) rfl rfl)) (zX F St O R3) ?_)))
  intro v m hq
  refine e1a4 hq fun k e0q hk R4 K4=>?_
  subst e0q
  refine xs (isc (vai rfl (congrArg some h2)) (by walk_at "evs")) ((jY F St _ _ _).mono ?_)
  rintro v m ⟨rfl,rfl⟩
  exact ⟨k,rfl,hk,⟨p2,_,_,rfl,R4,hts⟩,K2.trans K4⟩
end
section
variable {T:CT} {K:Frag} {hZ:Heap} {n:Nat} {mem:Mem} {E:Pl} {t t2:Tk} {ts:List Tk} {rows:List (Int × Str)}
noncomputable def Ends (E:Pl) (m:Mem):Prop:=∃ t2 ts rows,RT E m (t2 :: ts) rows∧folk t2
theorem aBp (F:Facts K) (St:Stat T K hZ) {Q:V→Mem→Prop} (H:aA T K hZ n A.factor [.ref E.rd] mem Q) (hQ:∀ v m,Q v m→Ends E m):aA T K hZ (n + 1) (.ref 664) [.ref E.rd] mem Q:=by
  refine F.ok_term.sem T hZ n _ _ _ St rfl ?_
  refine casg isFac (by walk_at "evs") H ?_
  intro v m hv
  refine e3a2 (hQ v m hv) fun t2 ts rows R hf=>?_
  have hrd:=R.hrd
  exact twhile 1 (aS (xp (vcmp (by walk_at "ev") rfl (cinT (l:=["*", "/", "DIV", "MOD", "&"]) (pO hf _ (by decide)))) (brf rfl (tretp rfl hv))))
theorem aCt (F:Facts K) (St:Stat T K hZ) {Q:V→Mem→Prop} (R:RT E mem (t :: ts) rows) (h1:t.kind ≠ Str.ofString "+") (h2:t.kind ≠ Str.ofString "-") (H:aA T K hZ n A.factor [.ref E.rd] mem Q) (hQ:∀ v m,Q v m→Ends E m):aA T K hZ (n + 2) (.ref 657) [.ref E.rd] mem Q:=by
  refine F.ok_simple_expression.sem T hZ (n + 1) _ _ _ St rfl ?_
  refine e1a2 R.rs fun p R1 _=>?_
  have hrd:mem[E.rd]? = _:=R1.rd
  have e1:=beq_eq_false_iff_ne.mpr h1
  have e2:=beq_eq_false_iff_ne.mpr h2
  walk_at "st"
  walk_at "st"
  refine casg isTerm (by walk_at "evs") (aBp F St H hQ) ?_
  intro v m hv
  refine e3a2 (hQ v m hv) fun t2 ts rows R hf=>?_
  have hrd:=R.hrd
  exact tnil (twhile 1 (aS (xp (vcmp (by walk_at "ev") rfl (cinT (l:=["+", "-", "OR"]) (pO hf _ (by decide)))) (brf rfl (tretp rfl hv)))))
theorem lD (F:Facts K) (St:Stat T K hZ) {Q:V→Mem→Prop} (H:aA T K hZ n A.simple_expression [.ref E.rd] mem Q) (hQ:∀ v m,Q v m→Ends E m):aA T K hZ (n + 1) (.ref 643) [.ref E.rd] mem Q:=by
  refine F.ok_expression.sem T hZ n _ _ _ St rfl ?_
  refine casg isSimple (by walk_at "evs") H ?_
  intro v m hv
  refine e3a2 (hQ v m hv) fun t2 ts rows R hf=>?_
  have hrd:=R.hrd
  walk_at "st"
  walk_at "st"
  exact tf0 (vcmp (by walk_at "ev") rfl (cinT (l:=["=", "#", "<", "<=", ">", ">=", "IN"]) (pO hf _ (by decide)))) (tretp rfl hv)
theorem eC (F:Facts K) (St:Stat T K hZ) {k:Nat} {f:String} (h:yF mem k f):aA T K hZ (n + 1) (.ref 85) [.ref k] mem (fun v m=>v = .bool (f == "integer" || f == "byte")∧m = mem):=by
  refine e1a2 h fun fs h1 h2=>?_
  refine F.ok_is_integer.sem T hZ n _ _ _ St rfl ?_
  cases e1:(f == "integer") with
  | true=>exact tretp (yK (vcmp (va rfl h1 h2) rfl (ceq (oql e1))) rfl) ⟨rfl,rfl⟩
  | false=>exact tretp (lI (vcmp (va rfl h1 h2) rfl (ceq (oql e1))) rfl (vcmp (va rfl h1 h2) rfl (ceq (cE ..)))) ⟨rfl,rfl⟩
theorem con_fits (F:Facts K) (St:Stat T K hZ) {x:Int} (h1:-2147483648 ≤ x) (h2:x ≤ 2147483647):aA T K hZ (n + 1) (.ref 267) [.int x] mem (fun v m=>v = .bool true∧m = mem):=by
  refine F.ok_fits.sem T hZ n _ _ _ St rfl ?_
  exact tretp (fJ (vcmp rfl rfl (congrArg some (decide_eq_true h1))) rfl (vcmp rfl rfl (congrArg some (decide_eq_true h2)))) ⟨rfl,rfl⟩
theorem zZ (F:Facts K) (St:Stat T K hZ) {x:Int} (h1:-2147483648 ≤ x) (h2:x ≤ 2147483647):aA T K hZ (n + 2) (.ref 274) [.int x] mem (fun v m=>v = .tup [.int x,.str (Str.ofString "")]∧m = mem):=by
  refine F.ok_checked.sem T hZ (n + 1) _ _ _ St rfl ?_
  refine cite isFits (by walk_at "evs") (con_fits F St h1 h2) ?_
  rintro v m ⟨rfl,rfl⟩
  exact brt rfl (tretp rfl ⟨rfl,rfl⟩)
theorem xF (F:Facts K) (St:Stat T K hZ) {x:Int} (h1:-2147483648 ≤ -x) (h2:-x ≤ 2147483647):aA T K hZ (n + 3) (.ref 281) [.str (Str.ofString "neg"),.int x] mem (fun v m=>v = .tup [.int (-x),.str (Str.ofString "")]∧m = mem):=by
  refine F.ok_fold_unary.sem T hZ (n + 2) _ _ _ St rfl ?_
  walk_at "st"
  exact cret aEz (is1 (vbin rfl rfl (congrArg (fun z=>some (V.int z)) (Int.zero_sub x)))) (zZ F St h1 h2) fun _ _ h=>h
theorem xE (F:Facts K) (St:Stat T K hZ) {p:Int} {a b c:V}:aA T K hZ (n + 1) (.ref 337) [bA "const" p a b c] mem (fun v m=>v = .bool true∧m = mem):=by
  refine F.ok_is_const_checkops.sem T hZ n _ _ _ St rfl ?_
  exact tretp (vcmp rfl rfl (ceq (oql (btrue rfl)))) ⟨rfl,rfl⟩
theorem rN (F:Facts K) (St:Stat T K hZ) {e ty p p2 x:Int} {er tv b c:V} (h1:-2147483648 ≤ -x) (h2:-x ≤ 2147483647):aA T K hZ (n + 4) (.ref 358) [er,.str (Str.ofString "neg"),tv,bA "const" p2 b c (.int x),.int p] mem (fun v m=>v = bA "const" p tv (.lst []) (.int (-x))∧m = mem):=by
  refine F.ok_unary_node.sem T hZ (n + 3) _ _ _ St rfl ?_
  refine tite (xnot (xcall isIsC (by walk_at "evs") (xE F St) ?_))
  rintro v m ⟨rfl,rfl⟩
  refine os rfl (brf rfl (tnil (tunp (xcall isFoldU (by walk_at "evs") (xF F St h1 h2) ?_))))
  rintro v m ⟨rfl,rfl⟩
  refine ⟨rfl,?_⟩
  walk_at "st"
  exact cret isConst (by walk_at "evs") (jY F St _ _ _) fun _ _ h=>h
theorem aFm (F:Facts K) (St:Stat T K hZ) (O:PlOk E) (R:RT E mem ts rows) {p p2 x:Int} {er c:V} (h1:-2147483648 ≤ -x) (h2:-x ≤ 2147483647):aA T K hZ (n + 5) (.ref 351) [.ref E.ty,er,.str (Str.ofString "-"),bA "const" p2 (.ref E.it) c (.int x),.int p] mem (fun v m=>v = bA "const" p (.ref E.it) (.lst []) (.int (-x))∧m = mem):=by
  refine F.ok_unary.sem T hZ (n + 4) _ _ _ St rfl ?_
  refine e2a1 R.any fun _ p0 R1=>?_
  have hF:=R.form O.it
  refine e1a2 (id hF) fun fs e1 e2=>?_
  obtain ⟨c',hty⟩:=R1.ty
  walk_at "st"
  walk_at "st"
  walk_at "st"
  refine tite (xnot (xcall isInt (by walk_at "evs") (eC F St hF) ?_))
  rintro v m ⟨rfl,rfl⟩
  refine os rfl (brf rfl (tnil ?_))
  walk_at "st"
  exact cret isUnaryN (by walk_at "evs") (rN F St (e:=0) (ty:=0) h1 h2) fun _ _ h=>h
theorem pD (F:Facts K) (St:Stat T K hZ) (O:PlOk E) {t1:Tk} {x:Int} (R:RT E mem (t :: t1 :: t2 :: ts) rows) (hk:t.kind = Str.ofString "-") (hk1:t1.kind = Str.ofString "int") (hv1:t1.val = .int x) (h1:-2147483648 ≤ -x) (h2:-x ≤ 2147483647) (hf:folk t2) :
    aA T K hZ (n + 9) (.ref 657) [.ref E.rd] mem (fun v m=>v = bA "const" t.pos (.ref E.it) (.lst []) (.int (-x))∧RT E m (t2 :: ts) rows∧Keeps E mem m):=by
  refine F.ok_simple_expression.sem T hZ (n + 8) _ _ _ St rfl ?_
  have hrd:=R.hrd
  have e1:(t.kind == Str.ofString "+") = false:=keq hk (bfalse (by decide))
  have e2:(t.kind == Str.ofString "-") = true:=keq hk (btrue rfl)
  walk_at "st"
  walk_at "st"
  refine mexpr rfl (mkm hrd rfl) is0 (iI F St O R) ?_
  intro v m hq
  refine e0a3 hq fun e0q R2 K2=>?_
  subst e0q
  have hrd:=R2.hrd
  have hT:=aBp F St (lC (n:=n) F St O R2 hk1) (fun v m h=>⟨_,_,_,h.2.1,hf⟩)
  refine tasg (xcalle isUnary (xsp (by walk_at "ev") (xsp (by walk_at "ev") (xsp (vai rfl (congrArg (fun z=>some (V.str z)) hk)) (xse (xcall isTerm (by walk_at "evs") hT ?_))))))
  intro v m hq
  refine e0a3 hq fun e0q R4 K4=>?_
  subst e0q
  rw [hv1]
  refine xsp (by walk_at "ev") (xs is0 ((aFm F St O R4 h1 h2).mono ?_))
  rintro v m ⟨rfl,rfl⟩
  have hrd:=R4.hrd
  exact tnil (twhile 1 (aS (xp (vcmp (by walk_at "ev") rfl (cinT (l:=["+", "-", "OR"]) (pO hf _ (by decide)))) (brf rfl (tretp rfl ⟨rfl,R4,K2.trans K4⟩)))))
theorem uR (F:Facts K) (St:Stat T K hZ) {Q:V→Mem→Prop} (H:aA T K hZ n A.expression [.ref E.rd] mem Q) (hQ:∀ v m,Q v m→∃ p a b c,v = bA "const" p a b c):aA T K hZ (n + 1) (.ref 727) [.ref E.rd] mem Q:=by
  refine F.ok_const_expression.sem T hZ n _ _ _ St rfl ?_
  refine casg isExpr (by walk_at "evs") H ?_
  intro v m hv
  refine e4a1 (hQ v m hv) fun p a b c e0q=>?_
  subst e0q
  exact tt (vcmp rfl rfl (ceq (oql (btrue rfl)))) (tretp rfl hv)
end
inductive Lab where
  | num (d:Nat)
  | neg (d:Nat)
  | chq (d:Nat)
  | chx (d:Nat)
  | ab | tru | nil
inductive Form where
  | int | char | byte | bool
  deriving DecidableEq
noncomputable def Form.name:Form→String
  | .int => "integer"
  | .char => "char"
  | .byte => "byte"
  | .bool => "boolean"
noncomputable def Lab.ok:Lab→Bool
  | .num d=>decide (d < 10)
  | .neg d=>decide (d < 10)
  | .chq d=>decide (d < 26)
  | .chx d=>decide (d < 10)
  | _=>true
noncomputable def Lab.chars:Lab→List Nat
  | .num d=>[48 + d]
  | .neg d=>[45,48 + d]
  | .chq d=>[34,64 + d,34]
  | .chx d=>[52,48 + d,88]
  | .ab=>[34,97,98,34]
  | .tru=>[84,82,85,69]
  | .nil=>[78,73,76]
noncomputable def Lab.toks (p:Nat):Lab→List Tk
  | .num d=>[⟨Str.ofString "int",.int d,p⟩]
  | .neg d=>[⟨Str.ofString "-",.str (Str.ofString ""),p⟩,⟨Str.ofString "int",.int d,p + 1⟩]
  | .chq d=>[⟨Str.ofString "string",.str ⟨#[64 + d]⟩,p⟩]
  | .chx d=>[⟨Str.ofString "string",.str ⟨#[64 + d]⟩,p⟩]
  | .ab=>[⟨Str.ofString "string",.str ⟨#[97,98]⟩,p⟩]
  | .tru=>[⟨Str.ofString "ident",.str (Str.ofString "TRUE"),p⟩]
  | .nil=>[⟨Str.ofString "NIL",.str (Str.ofString ""),p⟩]
noncomputable def Lab.v:Lab→V
  | .num d=>.int d
  | .neg d=>.int (-d)
  | .chq d=>.str ⟨#[64 + d]⟩
  | .chx d=>.str ⟨#[64 + d]⟩
  | .ab=>.str ⟨#[97,98]⟩
  | .tru=>.int 1
  | .nil=>.none
noncomputable def Lab.form:Lab→String
  | .num _ => "integer"
  | .neg _ => "integer"
  | .chq _ => "string"
  | .chx _ => "string"
  | .ab => "string"
  | .tru => "boolean"
  | .nil => "nil"
noncomputable def Lab.val:Form→Lab→Option Int
  | .int,.num d=>some d
  | .int,.neg d=>some (-d)
  | .byte,.num d=>some d
  | .byte,.neg d=>some (-d)
  | .char,.chq d=>some ((64 + d:Nat):Int)
  | .char,.chx d=>some ((64 + d:Nat):Int)
  | _,_=>none
noncomputable def optV:Option Int→V
  | some i=>.int i
  | none=>.none
noncomputable def lmarks (f:Form) (l:Lab) (p:Nat):List (Int × Str):=if l.val f = none then [((p:Int),Str.ofString "label_type")] else []
section
variable {T:CT} {K:Frag} {hZ:Heap} {n:Nat} {mem:Mem} {E:Pl} {t t2:Tk} {ts:List Tk} {rows:List (Int × Str)}
theorem fT (F:Facts K) (St:Stat T K hZ) {Q:V→Mem→Prop} (R:RT E mem (t :: ts) rows) (h1:t.kind ≠ Str.ofString "+") (h2:t.kind ≠ Str.ofString "-") (H:aA T K hZ n A.factor [.ref E.rd] mem Q) (hQ:∀ v m,Q v m→Ends E m):aA T K hZ (n + 3) (.ref 643) [.ref E.rd] mem Q :=
  lD F St (aCt F St R h1 h2 H hQ) hQ
theorem rP (F:Facts K) (St:Stat T K hZ) (O:PlOk E) {l:Lab} {p:Nat} (hl:l.ok = true) (R:RT E mem (l.toks p ++ t2 :: ts) rows) (hf:folk t2) :
    aA T K hZ (n + 15) (.ref 727) [.ref E.rd] mem (fun v m=>∃ k,v = bA "const" p (.ref k) (.lst []) l.v∧yF m k l.form∧RT E m (t2 :: ts) rows∧Keeps E mem m):=by
  refine uR F St ?_ (fun v m ⟨k,h,_⟩=>⟨_,_,_,_,h⟩)
  cases l with
  | num d =>
    refine (fT F St R (by simp) (by simp) (lC (n:=n + 4) F St O R rfl) (fun v m h=>⟨_,_,_,h.2.1,hf⟩)).mono ?_
    intro v m hq
    refine e0a3 hq fun e0q R2 K2=>?_
    subst e0q
    exact ⟨_,rfl,R2.form O.it,R2,K2⟩
  | neg d =>
    simp [Lab.ok] at hl
    refine (lD F St (pD (n:=n + 4) F St O R rfl rfl rfl (by lia) (by lia) hf) (fun v m h=>⟨_,_,_,h.2.1,hf⟩)).mono ?_
    intro v m hq
    refine e0a3 hq fun e0q R2 K2=>?_
    subst e0q
    exact ⟨_,rfl,R2.form O.it,R2,K2⟩
  | chq d =>
    refine (fT F St R (by simp) (by simp) (gP (n:=n + 4) F St O R rfl rfl (by simp [Str.length])) (fun v m ⟨_,_,_,h,_⟩=>⟨_,_,_,h,hf⟩)).mono ?_
    intro v m hq
    refine e1a4 hq fun k e0q hk R2 K2=>?_
    subst e0q
    exact ⟨k,rfl,hk,R2,K2⟩
  | chx d =>
    refine (fT F St R (by simp) (by simp) (gP (n:=n + 4) F St O R rfl rfl (by simp [Str.length])) (fun v m ⟨_,_,_,h,_⟩=>⟨_,_,_,h,hf⟩)).mono ?_
    intro v m hq
    refine e1a4 hq fun k e0q hk R2 K2=>?_
    subst e0q
    exact ⟨k,rfl,hk,R2,K2⟩
  | ab =>
    refine (fT F St R (by simp) (by simp) (gP (n:=n + 4) F St O R rfl rfl (by simp [Str.length])) (fun v m ⟨_,_,_,h,_⟩=>⟨_,_,_,h,hf⟩)).mono ?_
    intro v m hq
    refine e1a4 hq fun k e0q hk R2 K2=>?_
    subst e0q
    exact ⟨k,rfl,hk,R2,K2⟩
  | tru =>
    obtain ⟨o1,k,o2,o3⟩:=O.ou
    refine (fT F St R (by simp) (by simp) (jX (n:=n) F St O R rfl rfl (.inr ⟨o1,o2⟩) o3 (.inr rfl) hf) (fun v m h=>⟨_,_,_,h.2.1,hf⟩)).mono ?_
    intro v m hq
    refine e0a3 hq fun e0q R2 K2=>?_
    subst e0q
    exact ⟨_,by simp [Lab.v],R2.form O.bo,R2,K2⟩
  | nil =>
    refine (fT F St R (by simp) (by simp) (rR (n:=n + 4) F St O R rfl) (fun v m h=>⟨_,_,_,h.2.1,hf⟩)).mono ?_
    intro v m hq
    refine e0a3 hq fun e0q R2 K2=>?_
    subst e0q
    exact ⟨_,rfl,R2.form O.ni,R2,K2⟩
theorem isConstE:isFun A.const_expression = true:=by decide
theorem len1 {m:Mem} {c:Nat}:biV m .len [.str ⟨#[c]⟩] = some (.int 1):=by rw [kN (by simp [Str.length])]; simp [Str.length]
theorem len2 {m:Mem} {c d:Nat}:biV m .len [.str ⟨#[c,d]⟩] = some (.int 2):=by rw [kN (by simp [Str.length])]; simp [Str.length]
theorem aEQ {f:Form} (h:(f.name == "integer" || f.name == "byte") = true):(f.name == "char") = false:=by cases f <;> first | rfl | exact absurd (show false = true from h) Bool.false_ne_true
theorem wZ {f:Form} (h:(f.name == "integer" || f.name == "byte") = false):f = .bool ∨ f = .char:=by cases f <;> first | exact .inl rfl | exact .inr rfl | exact absurd (show true = false from h) Bool.noConfusion
theorem lab_bad {f:Form} {l:Lab} (h:(f.name == "integer" || f.name == "byte") = true) (hl:(l.form == "integer" || l.form == "byte") = false):l.val f = none:=by
  have h:f = .int ∨ f = .byte:=by cases f <;> first | exact .inl rfl | exact .inr rfl | exact absurd (show false = true from h) Bool.false_ne_true
  rcases h with rfl | rfl <;> cases l <;> first | rfl | exact absurd (show true = false from hl) Bool.noConfusion
theorem lab_good {f:Form} {l:Lab} (h:(f.name == "integer" || f.name == "byte") = true) (hl:(l.form == "integer" || l.form == "byte") = true):∃ i,l.v = .int i∧l.val f = some i:=by
  have h:f = .int ∨ f = .byte:=by cases f <;> first | exact .inl rfl | exact .inr rfl | exact absurd (show false = true from h) Bool.false_ne_true
  rcases h with rfl | rfl <;> cases l <;> first | exact ⟨_,rfl,rfl⟩ | exact absurd (show false = true from hl) Bool.false_ne_true
theorem lab_char (l:Lab):(∃ c,l.v = .str ⟨#[c]⟩∧l.form = "string"∧l.val .char = some (c:Int)) ∨ (∃ c d,l.v = .str ⟨#[c,d]⟩∧l.form = "string"∧l.val .char = none) ∨ ((l.form == "string") = false∧(l.form == "char") = false∧l.val .char = none):=by
  cases l <;> first | exact .inl ⟨_,rfl,rfl,rfl⟩ | exact .inr (.inl ⟨_,_,rfl,rfl,rfl⟩) | exact .inr (.inr ⟨rfl,rfl,rfl⟩)
theorem fU (F:Facts K) (St:Stat T K hZ) (O:PlOk E) {f:Form} {l:Lab} {p:Nat} {sp:Int} {ks ov:V} {tk:Nat} (hl:l.ok = true) (R:RT E mem (l.toks p ++ t2 :: ts) rows) (hf:folk t2) (hs:eX E.st tk f.name)
    (hq:(p:Int) ∉ rows.map (·.1)) (hr:rows.length ≤ 1000) :
    aA T K hZ (n + 16) (.ref 769) [.ref E.rd,bA "var" sp (.ref tk) ks ov] mem (fun v m=>v = optV (l.val f)∧RT E m (t2 :: ts) (rows ++ lmarks f l p)∧Keeps E mem m):=by
  refine F.ok_label_value.sem T hZ (n + 15) _ _ _ St rfl ?_
  obtain ⟨t0,ts0,e0,rfl⟩ : ∃ t0 ts0,l.toks p ++ t2 :: ts = t0 :: ts0∧t0.pos = p:=by cases l <;> exact ⟨_,_,rfl,rfl⟩
  have R0:=R
  rw [e0] at R0
  have hrd:=R0.hrd
  walk_at "st"
  refine casg isConstE (by walk_at "evs") (rP F St O hl R hf) ?_
  rintro v m ⟨k,rfl,hk,R2,K2⟩
  obtain ⟨_,p2,R3⟩:=R2.any
  have hsf:=R2.form hs
  have hgood:∀ i,l.val f = some i→V.int i = optV (l.val f)∧RT E m (t2 :: ts) (rows ++ lmarks f l t0.pos)∧Keeps E mem m:=fun i h=>by
    unfold lmarks; rw [h,if_neg (by intro q; cases q),List.append_nil]; exact ⟨rfl,R2,K2⟩
  have hbad:∀ L:Locs,L[0]? = some (some (.ref E.rd))→L[2]? = some (some (.int t0.pos))→l.val f = none→wpSs T K hZ (n + 15) L (eA.drop 5) m (fun _ _=>False) (fun v m'=>v = optV (l.val f)∧RT E m' (t2 :: ts) (rows ++ lmarks f l t0.pos)∧Keeps E mem m') (fun _ _=>False):=fun L l0 l2 h=>by
    have hrd:m[E.rd]? = _:=R3.rd
    have her:=R3.st _ _ O.er
    have v0:evP m L (.loc 0) = some (.ref E.rd):=by rw [tR,l0]; rfl
    have v2:evP m L (.loc 2) = some (.int t0.pos):=by rw [tR,l2]; rfl
    refine mexpr (va v0 hrd rfl) (mkm her rfl) (is2 v2 rfl) (qY F St O R2 hq hr) ?_
    rintro v m' ⟨R4,K4⟩
    unfold lmarks
    rw [h,if_pos rfl]
    exact tretp rfl ⟨rfl,R4,K2.trans K4⟩
  have hnode:∀ L:Locs,L[3]? = some (some (bA "const" t0.pos (.ref k) (.lst []) l.v))→evP m L (.attr (.attr (.loc 3) .bT) .eL) = some (.str (Str.ofString l.form)):=fun L l3=>by
    refine e1a2 hk fun fk k1 k2=>?_
    exact va (vai (by rw [tR,l3]; rfl) rfl) k1 k2
  have hsub:∀ L:Locs,L[1]? = some (some (bA "var" sp (.ref tk) ks ov))→evP m L (.attr (.attr (.loc 1) .bT) .eL) = some (.str (Str.ofString f.name)):=fun L l1=>by
    refine e1a2 hsf fun fs s1 s2=>?_
    exact va (vai (by rw [tR,l1]; rfl) rfl) s1 s2
  have hno:∀ L:Locs,L[0]? = some (some (.ref E.rd))→L[1]? = some (some (bA "var" sp (.ref tk) ks ov))→L[2]? = some (some (.int t0.pos))→(f.name == "char") = false→l.val f = none→wpSs T K hZ (n + 15) L (eA.drop 3) m (fun _ _=>False) (fun v m'=>v = optV (l.val f)∧RT E m' (t2 :: ts) (rows ++ lmarks f l t0.pos)∧Keeps E mem m') (fun _ _=>False):=fun L l0 l1 l2 hc hv =>
    tf0 (pS (vcmp (hsub L l1) rfl (ceq (oql hc))) rfl) (tf0 (pS (vcmp (hsub L l1) rfl (ceq (oql hc))) rfl) (hbad L l0 l2 hv))
  refine tite (xand (xcall isInt (is1 (vai rfl rfl)) (eC F St hsf) ?_))
  rintro v m' ⟨rfl,rfl⟩
  cases hi:(f.name == "integer" || f.name == "byte") with
  | true =>
    refine brt rfl (xcall isInt (is1 (vai rfl rfl)) (eC (n:=n + 14) F St hk) ?_)
    rintro v m ⟨rfl,rfl⟩
    refine brb rfl (fun h=>?_) (fun h=>tnil (hno _ rfl rfl rfl (aEQ hi) (lab_bad hi h)))
    refine e1a2 (lab_good hi h) fun i h1 h2=>?_
    exact tretp (vai rfl (congrArg some h1)) (hgood i h2)
  | false =>
    refine brf rfl (brf rfl (tnil ?_))
    rcases wZ hi with rfl | rfl
    · exact hno _ rfl rfl rfl rfl (by cases l <;> rfl)
    · have s1:=fun L l1=>vcmp (op:=.Eq) (hsub L l1) (rfl:evP _ L (.cst (.str (Str.ofString "char"))) = _) (ceq (oql (btrue rfl)))
      rcases lab_char l with ⟨c,h1,h2,h3⟩ | ⟨c,d,h1,h2,h3⟩ | ⟨h1,h2,h3⟩
      · refine tf0 (fJ (s1 _ rfl) rfl (vcmp (hnode _ rfl) rfl (ceq (by rw [h2]; exact oql (bfalse (by decide)))))) ?_
        refine tt (fJ (s1 _ rfl) rfl (fJ (vcmp (hnode _ rfl) rfl (ceq (by rw [h2]; exact oql (btrue rfl)))) rfl (vcmp (vbi1 (vai rfl (congrArg some h1)) len1) rfl rfl))) ?_
        exact tretp (vbi1 (vai rfl (congrArg some h1)) rfl) (hgood c h3)
      · refine tf0 (fJ (s1 _ rfl) rfl (vcmp (hnode _ rfl) rfl (ceq (by rw [h2]; exact oql (bfalse (by decide)))))) ?_
        exact tf0 (fJ (s1 _ rfl) rfl (fJ (vcmp (hnode _ rfl) rfl (ceq (by rw [h2]; exact oql (btrue rfl)))) rfl (vcmp (vbi1 (vai rfl (congrArg some h1)) len2) rfl rfl))) (hbad _ rfl rfl h3)
      · refine tf0 (fJ (s1 _ rfl) rfl (vcmp (hnode _ rfl) rfl (ceq (oql h2)))) ?_
        exact tf0 (fJ (s1 _ rfl) rfl (pS (vcmp (hnode _ rfl) rfl (ceq (oql h1))) rfl)) (hbad _ rfl rfl h3)
end
structure Rng where
  k:Nat
  lo:Lab
  hi:Option (Nat × Lab)
noncomputable def Rng.chars (r:Rng):List Nat:=List.replicate r.k 32 ++ (r.lo.chars ++ match r.hi with | none=>[] | some (k2,l2)=>32 :: 46 :: 46 :: (List.replicate k2 32 ++ l2.chars))
noncomputable def Rng.len (r:Rng):Nat:=r.k + (r.lo.chars.length + match r.hi with | none=>0 | some (k2,l2)=>3 + (k2 + l2.chars.length))
theorem Rng.len_eq (r:Rng):r.chars.length = r.len:=by
  obtain ⟨k,lo,hi⟩:=r
  cases hi with
  | none=>simp [Rng.chars,Rng.len]
  | some h=>simp [Rng.chars,Rng.len]; lia
noncomputable def sTk (s:String) (p:Nat):Tk:=⟨Str.ofString s,.str (Str.ofString ""),p⟩
noncomputable def Rng.toks (p:Nat) (r:Rng):List Tk:=r.lo.toks (p + r.k) ++ match r.hi with | none=>[] | some (k2,l2)=>sTk ".." (p + r.k + r.lo.chars.length + 1) :: l2.toks (p + r.k + r.lo.chars.length + 3 + k2)
noncomputable def Rng.ok (r:Rng):Bool:=r.lo.ok && match r.hi with | none=>true | some (_,l2)=>l2.ok
noncomputable def bI (x:Int × Int):V:=.tup [.int x.1,.int x.2]
noncomputable def optP:Option (Int × Int)→V
  | some x=>bI x
  | none=>.none
noncomputable def meets (a b:Int) (one:Int × Int):Bool:=decide (a ≤ one.2) && decide (one.1 ≤ b)
noncomputable def bL (taken:List (Int × Int)) (s:Nat):Option Int→Option Int→List (Int × Str) × Option (Int × Int)
  | some a,some b=>if b < a then ([((s:Int),Str.ofString "label_range")],none) else if taken.any (meets a b) then ([((s:Int),Str.ofString "label_twice")],none) else ([],some (a,b))
  | _,_=>([],none)
noncomputable def Rng.sem (f:Form) (taken:List (Int × Int)) (p:Nat) (r:Rng):List (Int × Str) × Option (Int × Int) :=
  let hv:=match r.hi with | none=>r.lo.val f | some (_,l2)=>l2.val f
  let hm:=match r.hi with | none=>[] | some (k2,l2)=>lmarks f l2 (p + r.k + r.lo.chars.length + 3 + k2)
  let z:=bL taken (p + r.k) (r.lo.val f) hv
  (lmarks f r.lo (p + r.k) ++ hm ++ z.1,z.2)
section
variable {T:CT} {K:Frag} {hZ:Heap} {n:Nat} {mem:Mem} {E:Pl} {t t2:Tk} {ts:List Tk} {rows:List (Int × Str)}
@[simp] theorem so_ref {m:Mem} {r:Nat} {xs:List V} {k:Src→Prop} (h:m[r]? = some (.lst xs)):srcOf m (.ref r) k = k (.ref r):=by
  show aC (dT m r) (fun _=>k (.ref r)) = _
  rw [show dT m r = some xs from aO h]; exact propext Iff.rfl
theorem pL {m:Mem} {k j:Nat} {ys:List V} (h:m[k]? = some (.lst ys)):nextOf m j (.ref k) = some ys[j]?:=congrArg (Option.map fun ys=>ys[j]?) (show dT m k = some ys from aO h)
noncomputable def rbody:List IS:=[.ite (.p (.andE (.cmp .LtE (.loc 4) (.item (.loc 6) (.cst (.int 1)))) (.cmp .LtE (.item (.loc 6) (.cst (.int 0))) (.loc 5)))) [.expr (.meth (.p (.attr (.loc 0) .aM)) .bO [(.p (.loc 3)),(.p (.cst (.str (Str.ofString "label_twice"))))]),.ret (.p (.cst .none))] []]
theorem aAo {loc:Locs} {i q:Nat} {ys:List V} {e:PE} {b rr:List IS} {kl:Locs→Mem→Prop} {kr:V→Mem→Prop} {kb:Locs→Mem→Prop} (h:evP mem loc e = some (.ref q)) (hr:mem[q]? = some (.lst ys)) (N:Nat) (H:forW T K hZ n i b kr (.ref q) N 0 loc mem fun l m=>wpSs T K hZ n l rr m kl kr kb):wpSs T K hZ n loc (.for1 i (.of (.p e)) b :: rr) mem kl kr kb:=by
  rw [bX,oP,it_of]; exact xp h (by rw [so_ref hr]; exact ⟨N,H⟩)
theorem sK {l0 l1 l2 l3:Option V} {a b:Int} {tkn:Nat} {post:V→Mem→Prop} {kk:Locs→Mem→Prop} {taken:List (Int × Int)} (ht:mem[tkn]? = some (.lst (taken.map bI)))
    (hkk:taken.any (meets a b) = false→∀ l6,kk [l0,l1,l2,l3,some (.int a),some (.int b),l6] mem)
    (hret:taken.any (meets a b) = true→∀ l6 nx,wpSs T K hZ n [l0,l1,l2,l3,some (.int a),some (.int b),l6] [.expr (.meth (.p (.attr (.loc 0) .aM)) .bO [(.p (.loc 3)),(.p (.cst (.str (Str.ofString "label_twice"))))]),.ret (.p (.cst .none))] mem nx post kk) :
    ∀ (rest pre:List (Int × Int)) (l6:Option V),taken = pre ++ rest→pre.any (meets a b) = false→forW T K hZ n 6 rbody post (.ref tkn) (rest.length + 1) pre.length [l0,l1,l2,l3,some (.int a),some (.int b),l6] mem kk
  | [],pre,l6,e,hp=>by
    rw [List.append_nil] at e
    subst e
    exact fA ((pL ht).trans (congrArg some zF)) (hkk hp l6)
  | x :: rest,pre,l6,e,hp=>by
    refine cB (x:=bI x) ((pL ht).trans (congrArg some (aEf e))) ?_
    have on:meets a b x = false→forW T K hZ n 6 rbody post (.ref tkn) (rest.length + 1) (pre.length + 1) [l0,l1,l2,l3,some (.int a),some (.int b),some (bI x)] mem kk:=fun hm=>by
      have z:=sK ht hkk hret rest (pre ++ [x]) (some (bI x)) (by rw [e,List.append_assoc]; rfl) (by rw [List.any_append,hp,List.any_cons,hm]; rfl)
      rw [List.length_append] at z
      exact z
    by_cases h1:a ≤ x.2
    · have c1:evP mem [l0,l1,l2,l3,some (.int a),some (.int b),some (bI x)] (.cmp .LtE (.loc 4) (.item (.loc 6) (.cst (.int 1)))) = some (.bool true):=vcmp rfl (vitem rfl rfl rfl) (congrArg some (decide_eq_true h1))
      by_cases h2:x.1 ≤ b
      · exact tt (fJ c1 rfl (vcmp (vitem rfl rfl rfl) rfl (congrArg some (decide_eq_true h2)))) (hret (by rw [e,List.any_append,List.any_cons,show meets a b x = true by unfold meets; rw [decide_eq_true h1,decide_eq_true h2]; rfl,Bool.true_or,Bool.or_true]) _ _)
      · exact tf0 (fJ c1 rfl (vcmp (vitem rfl rfl rfl) rfl (congrArg some (decide_eq_false h2)))) (tnil (on (by unfold meets; rw [decide_eq_false h2,Bool.and_false])))
    · exact tf0 (pS (vcmp rfl (vitem rfl rfl rfl) (congrArg some (decide_eq_false h1))) rfl) (tnil (on (by unfold meets; rw [decide_eq_false h1,Bool.false_and])))
theorem aEy:isFun A.label_value = true:=by decide
noncomputable def rtail:List IS:=[.ite (.p (.orE (.cmp .Is (.loc 4) (.cst .none)) (.cmp .Is (.loc 5) (.cst .none)))) [.ret (.p (.cst .none))] [],.ite (.p (.cmp .Gt (.loc 4) (.loc 5))) [.expr (.meth (.p (.attr (.loc 0) .aM)) .bO [(.p (.loc 3)),(.p (.cst (.str (Str.ofString "label_range"))))]),.ret (.p (.cst .none))] [],.for1 6 (.of (.p (.loc 2))) rbody,.ret (.p (.tup [(.loc 4),(.loc 5)]))]
theorem sJ (F:Facts K) (St:Stat T K hZ) (O:PlOk E) {taken:List (Int × Int)} {s tkn:Nat} {subj:V} {lo hi:Option Int} (R:RT E mem (t2 :: ts) rows) (ht:mem[tkn]? = some (.lst (taken.map bI)))
    (hq:lo ≠ none→hi ≠ none→(s:Int) ∉ rows.map (·.1)) (hr:rows.length ≤ 1000) {nx:Locs→Mem→Prop} {kb:Locs→Mem→Prop} {post:V→Mem→Prop}
    (hp:∀ m',RT E m' (t2 :: ts) (rows ++ (bL taken s lo hi).1)→Keeps E mem m'→post (optP (bL taken s lo hi).2) m') :
    wpSs T K hZ (n + 1) [some (.ref E.rd),some subj,some (.ref tkn),some (.int s),some (optV lo),some (optV hi),none] rtail mem nx post kb:=by
  refine e2a1 R.any fun _ p R1=>?_
  have hrd:mem[E.rd]? = _:=R1.rd
  have her:=R1.st _ _ O.er
  have mk:∀ (code:String) (l4 l5 l6:Option V) (nx kb:Locs→Mem→Prop),(s:Int) ∉ rows.map (·.1)→(∀ m',RT E m' (t2 :: ts) (rows ++ [((s:Int),Str.ofString code)])→Keeps E mem m'→post .none m')→wpSs T K hZ (n + 1) [some (.ref E.rd),some subj,some (.ref tkn),some (.int s),l4,l5,l6] [.expr (.meth (.p (.attr (.loc 0) .aM)) .bO [(.p (.loc 3)),(.p (.cst (.str (Str.ofString code))))]),.ret (.p (.cst .none))] mem nx post kb:=by
    intro code l4 l5 l6 nx kb hq hp
    refine mexpr (va rfl hrd rfl) (mkm her rfl) (is2 rfl rfl) (qY F St O R hq hr) ?_
    rintro v m' ⟨R4,K4⟩
    exact tretp rfl (hp m' R4 K4)
  cases lo with
  | none=>exact tt (yK (vcmp rfl rfl rfl) rfl) (tretp rfl (hp mem (by rw [show (bL taken s none hi).1 = [] from rfl,List.append_nil]; exact R) (Keeps.refl E mem)))
  | some a =>
    cases hi with
    | none=>exact tt (lI (vcmp rfl rfl rfl) rfl (vcmp rfl rfl rfl)) (tretp rfl (hp mem (by rw [show (bL taken s (some a) none).1 = [] from rfl,List.append_nil]; exact R) (Keeps.refl E mem)))
    | some b =>
      have hq:=hq (fun q=>nomatch q) (fun q=>nomatch q)
      refine tf0 (lI (vcmp rfl rfl rfl) rfl (vcmp rfl rfl rfl)) ?_
      by_cases hlt:b < a
      · have e:bL taken s (some a) (some b) = _:=if_pos hlt
        rw [e] at hp
        exact tt (vcmp rfl rfl (congrArg some (decide_eq_true hlt))) (mk "label_range" _ _ _ _ _ hq hp)
      · have e:bL taken s (some a) (some b) = _:=if_neg hlt
        rw [e] at hp
        refine tf0 (vcmp rfl rfl (congrArg some (decide_eq_false hlt))) (aAo rfl ht (taken.length + 1) (sK (n:=n + 1) ht ?_ ?_ taken [] none rfl rfl))
        · intro h l6
          rw [if_neg (by rw [h]; exact Bool.false_ne_true)] at hp
          exact tretp rfl (hp mem (by rw [List.append_nil]; exact R) (Keeps.refl E mem))
        · intro h l6 nx
          rw [if_pos h] at hp
          exact mk "label_twice" _ _ _ _ _ hq hp
end
section
variable {T:CT} {K:Frag} {hZ:Heap} {n:Nat} {mem:Mem} {E:Pl} {t t2:Tk} {ts:List Tk} {rows:List (Int × Str)}
theorem Lab.toks_pos (p:Nat) (l:Lab):∃ t0 ts0,l.toks p = t0 :: ts0∧t0.pos = p:=by cases l <;> exact ⟨_,_,rfl,rfl⟩
noncomputable def Ahead (rows:List (Int × Str)) (p:Nat):Prop:=∀ r ∈ rows,r.1 < (p:Int)
theorem Ahead.not {rows:List (Int × Str)} {p q:Nat} (h:Ahead rows p) (hq:p ≤ q):(q:Int) ∉ rows.map (·.1):=by
  intro hm
  refine e1a2 (List.mem_map.mp hm) fun r hr e=>?_
  have:=h r hr
  lia
theorem gD {f:Form} {l:Lab} {p q:Nat} (h:p < q):Ahead (lmarks f l p) q:=by
  intro r hr
  unfold lmarks at hr
  split at hr
  · simp at hr; subst hr; simp; lia
  · cases hr
theorem dD {f:Form} {l:Lab} {p:Nat}:(lmarks f l p).length ≤ 1:=by unfold lmarks; split <;> simp
theorem Ahead.app {a b:List (Int × Str)} {p:Nat} (x:Ahead a p) (y:Ahead b p):Ahead (a ++ b) p:=fun r hr=>(List.mem_append.mp hr).elim (x r) (y r)
theorem Ahead.up {a:List (Int × Str)} {p q:Nat} (x:Ahead a p) (h:p ≤ q):Ahead a q:=fun r hr=>by have:=x r hr; lia
theorem mI {taken:List (Int × Int)} {s q:Nat} {a b:Option Int} (h:s < q):Ahead (bL taken s a b).1 q:=by
  intro r hr
  unfold bL at hr
  split at hr
  · split at hr
    · simp at hr; subst hr; simp; lia
    · split at hr
      · simp at hr; subst hr; simp; lia
      · cases hr
  · cases hr
theorem lO {f:Form} {l:Lab} {p:Nat} (h:l.val f ≠ none):lmarks f l p = []:=by unfold lmarks; rw [if_neg h]
theorem lP (l:Lab):0 < l.chars.length:=by cases l <;> simp [Lab.chars]
theorem qZ (F:Facts K) (St:Stat T K hZ) (O:PlOk E) {f:Form} {r:Rng} {p tkn tk:Nat} {sp:Int} {ks ov:V} {taken:List (Int × Int)} (ho:r.ok = true) (R:RT E mem (r.toks p ++ t2 :: ts) rows) (h2:t2.kind = Str.ofString "," ∨ t2.kind = Str.ofString ":")
    (hs:eX E.st tk f.name) (ht:mem[tkn]? = some (.lst (taken.map bI))) (hf:tkn ≠ E.rd∧tkn ≠ E.sc∧tkn ≠ E.ty∧tkn ≠ E.rw∧tkn ≠ E.pl) (ha:Ahead rows p) (hl:rows.length + 2 ≤ 1000) :
    aA T K hZ (n + 17) (.ref 776) [.ref E.rd,bA "var" sp (.ref tk) ks ov,.ref tkn] mem (fun v m=>v = optP (r.sem f taken p).2∧RT E m (t2 :: ts) (rows ++ (r.sem f taken p).1)∧Keeps E mem m):=by
  refine aA.gen fun Q hQ=>?_
  obtain ⟨k,lo,hi⟩:=r
  refine e2a2 (lo.toks_pos (p + k)) fun t0 ts0 e0 e1=>?_
  have hrd:mem[E.rd]? = some (rdO E t0.v):=by
    have R0:=R
    rw [show Rng.toks p ⟨k,lo,hi⟩ ++ t2 :: ts = t0 :: (ts0 ++ _ ++ t2 :: ts) by unfold Rng.toks; rw [e0]; rfl] at R0
    refine e1a2 R0.rs fun p1 R1 _=>?_
    exact R1.rd
  have hr1:rows.length ≤ 1000:=Nat.le_of_add_right_le hl
  have hf2:folk t2:=by rcases h2 with h2 | h2; exact .inl h2; exact .inr (.inr (.inl h2))
  refine F.ok_label_range.sem T hZ (n + 16) _ _ _ St rfl ?_
  refine tasgp (vai (va rfl hrd rfl) (congrArg (fun q:Nat=>some (V.int q)) e1)) ?_
  cases hi with
  | none =>
    have R:RT E mem (lo.toks (p + k) ++ t2 :: ts) rows:=by rw [show Rng.toks p ⟨k,lo,none⟩ = lo.toks (p + k) from List.append_nil _] at R; exact R
    have ho:lo.ok = true:=by rw [show Rng.ok ⟨k,lo,none⟩ = (lo.ok && true) from rfl,Bool.and_true] at ho; exact ho
    refine casg aEy (by walk_at "evs") (fU (n:=n) F St O ho R hf2 hs (ha.not (Nat.le_add_right _ _)) hr1) ?_
    intro v m hq
    refine e0a3 hq fun e0q R2 K2=>?_
    subst e0q
    refine e1a2 R2.rs fun p2 R3 _=>?_
    have hrd:m[E.rd]? = _:=R3.rd
    walk_at "st"
    refine mite rfl (mkm hrd rfl) (by walk_at "evs") (dC F St R2 (by rcases h2 with h2 | h2 <;> exact keq h2 (bfalse (by decide)))) ?_
    rintro v m ⟨rfl,rfl⟩
    refine brf rfl (tnil ?_)
    walk_at "dl"
    refine sJ (n:=n + 15) F St O (s:=p + k) (tkn:=tkn) (taken:=taken) (lo:=lo.val f) (hi:=lo.val f) R2 (K2.keep _ _ ht hf.1 hf.2.1 hf.2.2.1 hf.2.2.2.1 hf.2.2.2.2) ?_ ?_ ?_
    · intro h _
      rw [lO h,List.append_nil]
      exact ha.not (Nat.le_add_right _ _)
    · rw [List.length_append]
      exact Nat.le_trans (Nat.add_le_add_left dD _) (Nat.le_trans (Nat.le_succ _) hl)
    · intro m' R' K'
      refine hQ _ _ ⟨rfl,?_,K2.trans K'⟩
      rw [List.append_assoc] at R'
      show RT E m' _ (rows ++ (lmarks f lo (p + k) ++ [] ++ _))
      rw [List.append_nil]; exact R'
  | some h =>
    obtain ⟨k2,l2⟩:=h
    have R:RT E mem (lo.toks (p + k) ++ sTk ".." (p + k + lo.chars.length + 1) :: (l2.toks (p + k + lo.chars.length + 3 + k2) ++ t2 :: ts)) rows:=by
      unfold Rng.toks at R; rw [List.append_assoc] at R; exact R
    have ho:lo.ok = true∧l2.ok = true:=Bool.and_eq_true_iff.mp ho
    refine casg aEy (by walk_at "evs") (fU (n:=n) F St O ho.1 R (.inr (.inl rfl)) hs (ha.not (Nat.le_add_right _ _)) hr1) ?_
    intro v m hq
    refine e0a3 hq fun e0q R2 K2=>?_
    subst e0q
    have hrd:=R2.hrd
    walk_at "st"
    refine e2a2 (l2.toks_pos (p + k + lo.chars.length + 3 + k2)) fun t3 ts3 e3 e4=>?_
    rw [e3,List.cons_append] at R2
    refine mite rfl (mkm hrd rfl) (by walk_at "evs") (eJ (n:=n + 9) F St O R2 rfl) ?_
    intro v m2 hq
    refine e0a3 hq fun e0q R4 K4=>?_
    subst e0q
    rw [← List.cons_append,← e3] at R4
    have hlp:=lP lo
    have hm1:=dD (f:=f) (l:=lo) (p:=p + k)
    refine brt rfl (casg aEy (by walk_at "evs") (fU (n:=n) F St O ho.2 R4 hf2 hs (Ahead.not (p:=p + k + 1) ((ha.up (by lia)).app (gD (by lia))) (by lia)) (by rw [List.length_append]; lia)) ?_)
    intro v m3 hq
    refine e0a3 hq fun e0q R5 K5=>?_
    subst e0q
    have K35:=(K2.trans K4).trans K5
    refine tnil ?_
    walk_at "dl"
    refine sJ (n:=n + 15) F St O (s:=p + k) (tkn:=tkn) (taken:=taken) (lo:=lo.val f) (hi:=l2.val f) R5 (K35.keep _ _ ht hf.1 hf.2.1 hf.2.2.1 hf.2.2.2.1 hf.2.2.2.2) ?_ ?_ ?_
    · intro h h'
      rw [lO h,lO h',List.append_nil,List.append_nil]
      exact ha.not (Nat.le_add_right _ _)
    · rw [List.length_append,List.length_append]
      exact Nat.le_trans (Nat.add_le_add (Nat.add_le_add_left dD _) dD) hl
    · intro m' R' K'
      refine hQ _ _ ⟨rfl,?_,K35.trans K'⟩
      rw [List.append_assoc,List.append_assoc,← List.append_assoc (lmarks f lo (p + k))] at R'
      exact R'
end
noncomputable def bU:Nat→List Rng→List Tk
  | _,[]=>[]
  | p,[r]=>r.toks p
  | p,r :: r2 :: rs=>r.toks p ++ sTk "," (p + r.len) :: bU (p + r.len + 1) (r2 :: rs)
noncomputable def bK:List Rng→Nat
  | []=>0
  | [r]=>r.len
  | r :: r2 :: rs=>r.len + (1 + bK (r2 :: rs))
noncomputable def aH (f:Form):List (Int × Int)→Nat→List Rng→List (Int × Str) × List (Int × Int)
  | _,_,[]=>([],[])
  | taken,p,r :: rs=>((r.sem f taken p).1 ++ (aH f (taken ++ (r.sem f taken p).2.toList) (p + r.len + 1) rs).1,(r.sem f taken p).2.toList ++ (aH f (taken ++ (r.sem f taken p).2.toList) (p + r.len + 1) rs).2)
theorem yW {taken:List (Int × Int)} {s:Nat} {a b:Option Int}:(bL taken s a b).1.length ≤ 1:=by
  unfold bL
  split
  · split
    · exact Nat.le_refl 1
    · split
      · exact Nat.le_refl 1
      · exact Nat.zero_le 1
  · exact Nat.zero_le 1
theorem Rng.sem_len {f:Form} {taken:List (Int × Int)} {p:Nat} {r:Rng}:(r.sem f taken p).1.length ≤ 3:=by
  obtain ⟨k,lo,hi⟩:=r
  unfold Rng.sem
  rw [List.length_append,List.length_append]
  show _ ≤ 1 + 1 + 1
  refine Nat.add_le_add (Nat.add_le_add dD ?_) yW
  cases hi with
  | none=>exact Nat.zero_le 1
  | some h=>exact dD
theorem Rng.sem_ahead {f:Form} {taken:List (Int × Int)} {p:Nat} {r:Rng}:Ahead (r.sem f taken p).1 (p + r.len):=by
  obtain ⟨k,lo,hi⟩:=r
  have h0:=lP lo
  cases hi with
  | none =>
    simp only [Rng.sem,Rng.len,List.append_nil]
    exact (gD (by lia)).app (mI (by lia))
  | some h =>
    have h1:=lP h.2
    simp only [Rng.sem,Rng.len]
    exact ((gD (by lia)).app (gD (by lia))).app (mI (by lia))
structure KX (E:Pl) (X:List Nat) (m m':Mem):Prop where
  len:m.length ≤ m'.length
  keep:∀ k o,m[k]? = some o→k ≠ E.rd→k ≠ E.sc→k ≠ E.ty→k ≠ E.rw→k ≠ E.pl→k ∉ X→m'[k]? = some o
theorem KX.refl (E:Pl) (X:List Nat) (m:Mem):KX E X m m:=⟨Nat.le_refl _,fun _ _ h _ _ _ _ _ _=>h⟩
theorem Keeps.kx {E:Pl} {X:List Nat} {m m':Mem} (h:Keeps E m m'):KX E X m m':=⟨h.len,fun k o a b c d e f _=>h.keep k o a b c d e f⟩
theorem KX.trans {E:Pl} {X:List Nat} {a b c:Mem} (x:KX E X a b) (y:KX E X b c):KX E X a c:=⟨Nat.le_trans x.len y.len,fun k o h1 h2 h3 h4 h5 h6 h7=>y.keep k o (x.keep k o h1 h2 h3 h4 h5 h6 h7) h2 h3 h4 h5 h6 h7⟩
theorem KX.more {E:Pl} {X Y:List Nat} {a b:Mem} (x:KX E X a b) (h:∀ i ∈ X,i ∈ Y):KX E Y a b:=⟨x.len,fun k o h1 h2 h3 h4 h5 h6 h7=>x.keep k o h1 h2 h3 h4 h5 h6 fun q=>h7 (h k q)⟩
theorem KX.set {E:Pl} {X:List Nat} {m:Mem} {i:Nat} {o:MO} (hi:i ∈ X):KX E X m (m.set i o):=⟨Nat.le_of_eq List.length_set.symm,fun k x h _ _ _ _ _ hk=>aY h fun q=>hk (q ▸ hi)⟩
structure Free (E:Pl) (i:Nat):Prop where
  st:E.st i = none
  a:i ≠ E.rd
  b:i ≠ E.sc
  c:i ≠ E.ty
  d:i ≠ E.rw
  e:i ≠ E.pl
theorem Keeps.at {E:Pl} {m m':Mem} {i:Nat} {o:MO} (h:Keeps E m m') (f:Free E i) (hm:m[i]? = some o):m'[i]? = some o:=h.keep i o hm f.a f.b f.c f.d f.e
theorem RS.free {E:Pl} {m:Mem} {tok:V} {p:Nat} {rows:List (Int × Str)} (R:RS E m tok p rows) {i:Nat} (h:m.length ≤ i):Free E i:=by
  have lt:∀ {k:Nat} {o:MO},m[k]? = some o→i ≠ k:=fun hk q=>Nat.lt_irrefl _ (Nat.lt_of_lt_of_le (cA hk) (q ▸ h))
  obtain ⟨c,hc⟩:=R.ty
  refine e1a2 R.pl fun ps hp _=>?_
  refine ⟨?_,lt R.rd,lt R.sc,lt hc,lt R.rw,lt hp⟩
  cases hs:E.st i with
  | none=>rfl
  | some o=>exact absurd rfl (lt (R.st i o hs))
theorem RS.setF {E:Pl} {m:Mem} {tok:V} {p:Nat} {rows:List (Int × Str)} (R:RS E m tok p rows) {i:Nat} {o:MO} (f:Free E i):RS E (m.set i o) tok p rows:=by
  obtain ⟨c,hc⟩:=R.ty
  refine e1a2 R.pl fun ps hp h2=>?_
  have ne:∀ {k:Nat} {x:MO},i ≠ k→m[k]? = some x→(m.set i o)[k]? = some x:=fun h e=>aY e h
  exact ⟨ne f.b R.sc,ne f.a R.rd,⟨c,ne f.c hc⟩,ne f.d R.rw,⟨ps,ne f.e hp,h2⟩,fun k x h=>ne (fun q=>by subst q; rw [f.st] at h; cases h) (R.st k x h)⟩
theorem RT.setF {E:Pl} {m:Mem} {ts:List Tk} {rows:List (Int × Str)} (R:RT E m ts rows) {i:Nat} {o:MO} (f:Free E i):RT E (m.set i o) ts rows:=by
  refine e3a3 R fun p t ts' e R1 h=>?_
  exact ⟨p,t,ts',e,R1.setF f,h⟩
theorem RT.free {E:Pl} {m:Mem} {ts:List Tk} {rows:List (Int × Str)} (R:RT E m ts rows) {i:Nat} (h:m.length ≤ i):Free E i:=by
  refine e2a1 R.any fun _ p R1=>?_
  exact R1.free h
theorem RT.push {E:Pl} {m j:Mem} {ts:List Tk} {rows:List (Int × Str)} (R:RT E m ts rows):RT E (m ++ j) ts rows:=by
  refine e3a3 R fun p t ts' e R1 h=>?_
  exact ⟨p,t,ts',e,R1.push,h⟩
section
variable {T:CT} {K:Frag} {hZ:Heap} {n:Nat} {mem:Mem} {E:Pl} {t t2:Tk} {ts:List Tk} {rows:List (Int × Str)}
noncomputable def lbody:List IS:=[.asg 5 (.call (.glob (.glob A.label_range)) [(.p (.loc 0)),(.p (.loc 1)),(.p (.loc 2))]),.ite (.p (.cmp .IsNot (.loc 5) (.cst .none))) [.expr (.meth (.p (.loc 3)) .aP [(.p (.loc 5))]),.expr (.meth (.p (.loc 2)) .aP [(.p (.loc 5))])] [],.asg 4 (.meth (.p (.loc 0)) .dE [(.p (.cst (.str (Str.ofString ","))))])]
theorem isLabR:isFun A.label_range = true:=by decide
theorem wL (F:Facts K) (St:Stat T K hZ) (O:PlOk E) {f:Form} {r:Rng} {p tkn fnd tk:Nat} {sp:Int} {ks ov:V} {taken acc:List (Int × Int)} {l4 l5:Option V} {post:V→Mem→Prop} {nx kb:Locs→Mem→Prop} (ho:r.ok = true) (R:RT E mem (r.toks p ++ t2 :: ts) rows) (h2:t2.kind = Str.ofString "," ∨ t2.kind = Str.ofString ":")
    (hs:eX E.st tk f.name) (ht:mem[tkn]? = some (.lst (taken.map bI))) (hc:mem[fnd]? = some (.lst (acc.map bI))) (ft:Free E tkn) (ff:Free E fnd) (hne:fnd ≠ tkn) (ha:Ahead rows p) (hl:rows.length + 2 ≤ 1000) (hlt:taken.length ≤ 1000) (hla:acc.length ≤ 1000)
    (hk:∀ m',RT E m' (t2 :: ts) (rows ++ (r.sem f taken p).1)→m'[tkn]? = some (.lst ((taken ++ (r.sem f taken p).2.toList).map bI))→m'[fnd]? = some (.lst ((acc ++ (r.sem f taken p).2.toList).map bI))→KX E [tkn,fnd] mem m'→∀ l5,
      wpSs T K hZ (n + 17) [some (.ref E.rd),some (bA "var" sp (.ref tk) ks ov),some (.ref tkn),some (.ref fnd),l4,l5] [.asg 4 (.meth (.p (.loc 0)) .dE [(.p (.cst (.str (Str.ofString ","))))])] m' nx post kb) :
    wpSs T K hZ (n + 17) [some (.ref E.rd),some (bA "var" sp (.ref tk) ks ov),some (.ref tkn),some (.ref fnd),l4,l5] lbody mem nx post kb:=by
  refine casg isLabR (by walk_at "evs") (qZ F St O ho R h2 hs ht ⟨ft.a,ft.b,ft.c,ft.d,ft.e⟩ ha hl) ?_
  intro v m hq
  refine e0a3 hq fun e0q R2 K2=>?_
  subst e0q
  have ht2:=K2.at ft ht
  have hc2:=K2.at ff hc
  cases hz:(r.sem f taken p).2 with
  | none =>
    rw [hz,show (none:Option (Int × Int)).toList = [] from rfl,List.append_nil,List.append_nil] at hk
    exact tf0 (vcmp rfl rfl rfl) (hk m R2 ht2 hc2 K2.kx _)
  | some z =>
    rw [hz,show (some z).toList = [z] from rfl,List.map_append,List.map_append] at hk
    have e1:=aY (p:=.lst (acc.map bI ++ [bI z])) ht2 hne
    refine tt (vcmp rfl rfl rfl) (texpr (xapp rfl hc2 rfl (by rw [List.length_map]; exact Nat.le_trans hla (by decide)) (texpr (xapp rfl e1 rfl (by rw [List.length_map]; exact Nat.le_trans hlt (by decide)) (tnil ?_)))))
    exact hk _ ((R2.setF ff).setF ft) (eI e1) (aY (eI hc2) (Ne.symm hne)) ((K2.kx.trans (KX.set (.tail _ (.head _)))).trans (KX.set (.head _))) _
theorem wM (F:Facts K) (St:Stat T K hZ) (O:PlOk E) {f:Form} {tkn fnd tk:Nat} {sp:Int} {ks ov:V} {post:V→Mem→Prop} {kk:Locs→Mem→Prop} (h2:t2.kind = Str.ofString ":")
    (hs:eX E.st tk f.name) (ft:Free E tkn) (ff:Free E fnd) (hne:fnd ≠ tkn) :
    ∀ (rs:List Rng) (r:Rng) (taken acc:List (Int × Int)) (p:Nat) (rows:List (Int × Str)) (mem:Mem) (l5:Option V),(∀ x ∈ r :: rs,x.ok = true)→RT E mem (bU p (r :: rs) ++ t2 :: ts) rows→mem[tkn]? = some (.lst (taken.map bI))→mem[fnd]? = some (.lst (acc.map bI))→Ahead rows p→rows.length + 3 * (rs.length + 1) ≤ 1000→taken.length + (rs.length + 1) ≤ 1000→acc.length + (rs.length + 1) ≤ 1000 →
    (∀ m' l5,RT E m' (t2 :: ts) (rows ++ (aH f taken p (r :: rs)).1)→m'[tkn]? = some (.lst ((taken ++ (aH f taken p (r :: rs)).2).map bI))→m'[fnd]? = some (.lst ((acc ++ (aH f taken p (r :: rs)).2).map bI))→KX E [tkn,fnd] mem m'→kk [some (.ref E.rd),some (bA "var" sp (.ref tk) ks ov),some (.ref tkn),some (.ref fnd),some (.bool false),l5] m') →
    eE T K hZ (n + 17) (.p (.loc 4)) lbody post (rs.length + 2) [some (.ref E.rd),some (bA "var" sp (.ref tk) ks ov),some (.ref tkn),some (.ref fnd),some (.bool true),l5] mem kk
  | [],r,taken,acc,p,rows,mem,l5,hok,R,ht,hc,ha,hl,hlt,hla,hk=>by
    refine aS (xp rfl (brt rfl ?_))
    refine wL F St O (hok r (.head _)) R (.inr h2) hs ht hc ft ff hne ha (Nat.le_of_succ_le hl) (Nat.le_of_succ_le hlt) (Nat.le_of_succ_le hla) fun m' R2 t2' c2' K2 l5=>?_
    refine e1a2 R2.rs fun p2 R3 _=>?_
    have hrd:m'[E.rd]? = _:=R3.rd
    refine masg rfl (mkm hrd rfl) (by walk_at "evs") (dC F St R2 (keq h2 (bfalse (by decide)))) ?_
    rintro v m ⟨rfl,rfl⟩
    refine tnil (aS (xp rfl (brf rfl ?_)))
    rw [show aH f taken p [r] = ((r.sem f taken p).1 ++ [],(r.sem f taken p).2.toList ++ []) from rfl,List.append_nil,List.append_nil] at hk
    exact hk m _ R2 t2' c2' K2
  | r2 :: rs,r,taken,acc,p,rows,mem,l5,hok,R,ht,hc,ha,hl,hlt,hla,hk=>by
    refine aS (xp rfl (brt rfl ?_))
    simp only [List.length_cons] at hl hlt hla
    have R':RT E mem (r.toks p ++ sTk "," (p + r.len) :: (bU (p + r.len + 1) (r2 :: rs) ++ t2 :: ts)) rows:=by rw [bU,List.append_assoc] at R; exact R
    refine wL F St O (hok r (.head _)) R' (.inl rfl) hs ht hc ft ff hne ha (by lia) (by lia) (by lia) fun m' R2 t2' c2' K2 l5=>?_
    have hrd:=R2.hrd
    obtain ⟨t3,ts3,e3⟩ : ∃ t3 ts3,bU (p + r.len + 1) (r2 :: rs) ++ t2 :: ts = t3 :: ts3:=by
      cases h:bU (p + r.len + 1) (r2 :: rs) ++ t2 :: ts with
      | nil=>exact absurd (List.append_eq_nil_iff.mp h).2 (fun q=>nomatch q)
      | cons a b=>exact ⟨a,b,rfl⟩
    rw [e3] at R2
    refine masg rfl (mkm hrd rfl) (by walk_at "evs") (eJ (n:=n + 10) F St O R2 rfl) ?_
    intro v m hq
    refine e0a3 hq fun e0q R4 K4=>?_
    subst e0q
    rw [← e3] at R4
    have hz:=Rng.sem_len (f:=f) (taken:=taken) (p:=p) (r:=r)
    have hz2:(r.sem f taken p).2.toList.length ≤ 1:=by cases (r.sem f taken p).2; exact Nat.zero_le 1; exact Nat.le_refl 1
    refine tnil (wM F St O h2 hs ft ff hne rs r2 _ _ (p + r.len + 1) _ m _ (fun x hx=>hok x (List.mem_cons_of_mem _ hx)) R4 (K4.at ft t2') (K4.at ff c2') ((ha.up (Nat.le_add_right_of_le (Nat.le_add_right _ _))).app (Rng.sem_ahead.up (Nat.le_succ _))) (by rw [List.length_append]; lia) (by rw [List.length_append]; lia) (by rw [List.length_append]; lia) ?_)
    intro m5 l5 R5 t5 c5 K5
    rw [aH,← List.append_assoc,← List.append_assoc,← List.append_assoc] at hk
    exact hk m5 l5 R5 t5 c5 ((K2.trans K4.kx).trans K5)
theorem rQ (F:Facts K) (St:Stat T K hZ) (O:PlOk E) {f:Form} {r:Rng} {rs:List Rng} {p tkn tk:Nat} {sp:Int} {ks ov:V} {taken:List (Int × Int)} (h2:t2.kind = Str.ofString ":") (hs:eX E.st tk f.name) (ft:Free E tkn)
    (hok:∀ x ∈ r :: rs,x.ok = true) (R:RT E mem (bU p (r :: rs) ++ t2 :: ts) rows) (ht:mem[tkn]? = some (.lst (taken.map bI))) (ha:Ahead rows p) (hl:rows.length + 3 * (rs.length + 1) ≤ 1000) (hlt:taken.length + (rs.length + 1) ≤ 1000) :
    aA T K hZ (n + 18) (.ref 783) [.ref E.rd,bA "var" sp (.ref tk) ks ov,.ref tkn] mem (fun v m=>v = .ref mem.length∧RT E m (t2 :: ts) (rows ++ (aH f taken p (r :: rs)).1)∧m[tkn]? = some (.lst ((taken ++ (aH f taken p (r :: rs)).2).map bI))∧m[mem.length]? = some (.lst ((aH f taken p (r :: rs)).2.map bI))∧KX E [tkn] mem m):=by
  refine aA.gen fun Q hQ=>?_
  refine F.ok_label_list.sem T hZ (n + 17) _ _ _ St rfl ?_
  have ff:=R.free (i:=mem.length) (Nat.le_refl _)
  refine tasg (jB rfl (Nat.zero_le _) ?_)
  walk_at "st"
  walk_at "dl"
  refine twhile (rs.length + 2) (wM (n:=n) F St O h2 hs ft ff (Nat.ne_of_gt (cA ht)) rs r taken [] p rows (mem ++ [MO.lst []]) none hok R.push (hY ht) bR ha hl hlt (by rw [List.length_nil,Nat.zero_add]; exact Nat.le_trans (Nat.le_add_left _ _) hlt) ?_)
  intro m' l5 R' t' c' K'
  exact tretp rfl (hQ _ _ ⟨rfl,R',t',c',⟨Nat.le_trans (Keeps.push E mem _).len K'.len,fun k o h a b c d e g=>K'.keep k o (hY h) a b c d e (ninc (fun q=>g (q ▸ .head _)) (nin1 (Nat.ne_of_lt (cA h))))⟩⟩)
end
noncomputable def kL (p:Nat) (c:List Rng):List Tk:=if c = [] then [] else bU p c ++ [sTk ":" (p + bK c + 1)]
noncomputable def aW (c:List Rng):Nat:=if c = [] then 0 else bK c + 2
theorem uO {α : Type} {r:α} {rs:List α}:¬ r :: rs = []:=fun q=>nomatch q
theorem nF {p:Nat} {r:Rng} {rs:List Rng}:kL p (r :: rs) = bU p (r :: rs) ++ [sTk ":" (p + bK (r :: rs) + 1)]:=if_neg uO
theorem xT {r:Rng} {rs:List Rng}:aW (r :: rs) = bK (r :: rs) + 2:=if_neg uO
noncomputable def bC:Nat→List (List Rng)→List Tk
  | _,[]=>[]
  | p,[c]=>kL p c
  | p,c :: c2 :: cs=>kL p c ++ sTk "|" (p + aW c + 1) :: bC (p + aW c + 2) (c2 :: cs)
noncomputable def bV:List (List Rng)→Nat
  | []=>0
  | [c]=>aW c
  | c :: c2 :: cs=>aW c + (2 + bV (c2 :: cs))
noncomputable def aF (f:Form):List (Int × Int)→Nat→List (List Rng)→List (Int × Str) × List (List (Int × Int))
  | _,_,[]=>([],[])
  | taken,p,c :: cs=>((aH f taken p c).1 ++ (aF f (taken ++ (aH f taken p c).2) (p + aW c + 2) cs).1,(if c = [] then [] else [(aH f taken p c).2]) ++ (aF f (taken ++ (aH f taken p c).2) (p + aW c + 2) cs).2)
noncomputable def tot:List (List Rng)→Nat
  | []=>0
  | c :: cs=>c.length + tot cs
theorem mE {f:Form}:∀ (rs:List Rng) (r:Rng) (taken:List (Int × Int)) (p:Nat),Ahead (aH f taken p (r :: rs)).1 (p + bK (r :: rs))
  | [],r,taken,p=>by simp only [aH,List.append_nil,bK]; exact Rng.sem_ahead
  | r2 :: rs,r,taken,p=>by
    rw [aH,bK]
    refine (Rng.sem_ahead.up (by lia)).app ((mE rs r2 _ (p + r.len + 1)).up ?_)
    lia
theorem iB {f:Form}:∀ (rs:List Rng) (taken:List (Int × Int)) (p:Nat),(aH f taken p rs).1.length ≤ 3 * rs.length∧(aH f taken p rs).2.length ≤ rs.length
  | [],taken,p=>⟨Nat.le_refl 0,Nat.le_refl 0⟩
  | r :: rs,taken,p=>by
    rw [aH,List.length_append,List.length_append,List.length_cons]
    obtain ⟨h1,h2⟩:=iB (f:=f) rs (taken ++ (r.sem f taken p).2.toList) (p + r.len + 1)
    have h4:(r.sem f taken p).2.toList.length ≤ 1:=by cases (r.sem f taken p).2; exact Nat.zero_le 1; exact Nat.le_refl 1
    refine ⟨?_,?_⟩
    · rw [Nat.mul_add,Nat.add_comm (3 * rs.length)]; exact Nat.add_le_add Rng.sem_len h1
    · rw [Nat.add_comm rs.length]; exact Nat.add_le_add h4 h2
section
variable {T:CT} {K:Frag} {hZ:Heap} {n:Nat} {mem:Mem} {E:Pl} {t t2:Tk} {ts:List Tk} {rows:List (Int × Str)}
noncomputable def callV (fv:V) (q:Value→Prop):Prop:=match fv with
  | .glob g=>q g
  | _=>False
@[simp] theorem callV_glob {g:Value} {q:Value→Prop}:callV (.glob g) q = q g:=propext Iff.rfl
@[simp] theorem e_callL {i:Nat} {args:List IE} {loc:Locs} {k:V→Mem→Prop}:wpE T K hZ n loc (.call (.loc i) args) mem k = aC (loc[i]?).join fun fv=>callV fv fun g=>isFun g = true∧wpEs T K hZ n loc args mem fun vs m=>aA T K hZ n g vs m k:=by
  dsimp only [wpE,evP]
  refine congrArg _ (funext fun fv=>?_)
  cases fv <;> rfl
theorem iL (F:Facts K) (St:Stat T K hZ) (R:RT E mem (t :: ts) rows):aA T K hZ (n + 1) (.ref 762) [.ref E.rd] mem (fun v m=>v = .bool (!(["|", "ELSE", "END", "eof"].map Str.ofString).any (· == t.kind))∧m = mem):=by
  refine F.ok_at_labels.sem T hZ n _ _ _ St rfl ?_
  have hrd:=R.hrd
  exact tretp (vcmp (by walk_at "ev") rfl (cninT (l:=["|", "ELSE", "END", "eof"]) rfl)) ⟨rfl,rfl⟩
theorem xcallL {i:Nat} {g:Value} {args:List IE} {loc:Locs} {vs:List V} {k P:V→Mem→Prop} (h:(loc[i]?).join = some (.glob g)) (hf:isFun g = true) (he:evIs mem loc args = some vs) (c:aA T K hZ n g vs mem P) (H:∀ v m,P v m→k v m):wpE T K hZ n loc (.call (.loc i) args) mem k:=by
  rw [e_callL,h]; exact ⟨hf,xs he (c.mono H)⟩
theorem lB (F:Facts K) (St:Stat T K hZ) (R:RT E mem (t :: ts) rows):aA T K hZ (n + 3) (.ref 1297) [.ref E.rd] mem (fun v m=>v = bA "block" t.pos .none (.lst []) .none∧m = mem):=by
  refine F.ok_law_statements.sem T hZ (n + 2) _ _ _ St rfl ?_
  have hrd:=R.hrd
  exact cret isNode (isc rfl (isc (vai (va rfl hrd rfl) rfl) (is2 rfl rfl))) (aFt F St _ _ _ _) fun _ _ h=>h
inductive dF (E:Pl) (b:Nat) (m:Mem):List V→List (List (Int × Int))→Prop
  | nil:dF E b m [] []
  | cons {i:Nat} {l:List (Int × Int)} {vs:List V} {ls:List (List (Int × Int))}:m[i]? = some (.lst (l.map bI))→Free E i→b + 3 ≤ i→dF E b m vs ls→dF E b m (.ref i :: vs) (l :: ls)
theorem dF.keep {b:Nat} {m m':Mem} (k:KX E [b,b + 1,b + 2] m m'):∀ {vs:List V} {ls:List (List (Int × Int))},dF E b m vs ls→dF E b m' vs ls
  | _,_,.nil=>.nil
  | _,_,.cons h f g r=>.cons (k.keep _ _ h f.a f.b f.c f.d f.e (nin3 (Nat.ne_of_gt (Nat.lt_of_lt_of_le (Nat.lt_add_of_pos_right (by decide)) g)) (Nat.ne_of_gt (Nat.lt_of_lt_of_le (Nat.add_lt_add_left (by decide) _) g)) (Nat.ne_of_gt (Nat.lt_of_lt_of_le (Nat.add_lt_add_left (by decide) _) g)))) f g (dF.keep k r)
theorem dF.app {b:Nat} {m:Mem} {vs':List V} {ls':List (List (Int × Int))} (y:dF E b m vs' ls'):∀ {vs:List V} {ls:List (List (Int × Int))},dF E b m vs ls→dF E b m (vs ++ vs') (ls ++ ls')
  | _,_,.nil=>y
  | _,_,.cons h f g r=>.cons h f g (dF.app y r)
theorem dF.len {b:Nat} {m:Mem}:∀ {vs:List V} {ls:List (List (Int × Int))},dF E b m vs ls→vs.length = ls.length
  | _,_,.nil=>rfl
  | _,_,.cons _ _ _ r=>congrArg Nat.succ (dF.len r)
noncomputable def vbody:List IS:=[.ite (.call (.glob (.glob A.at_labels)) [(.p (.loc 0))]) [.expr (.meth (.p (.loc 5)) .aP [(.call (.glob (.glob A.label_list)) [(.p (.loc 0)),(.p (.loc 2)),(.p (.loc 6))])]),.expr (.meth (.p (.loc 0)) .fC [(.p (.cst (.str (Str.ofString ":"))))]),.expr (.meth (.p (.loc 4)) .aP [(.call (.loc 1) [(.p (.loc 0))])])] [],.asg 7 (.meth (.p (.loc 0)) .dE [(.p (.cst (.str (Str.ofString "|"))))])]
theorem isAtL:isFun A.at_labels = true:=by decide
theorem isLabL:isFun A.label_list = true:=by decide
theorem isStm:isFun A.law_statements = true:=by decide
theorem isElse:isFun A.else_block = true:=by decide
theorem isVal:isFun A.value_cases = true:=by decide
theorem aBO (p:Nat) (r:Rng) (rs:List Rng):∃ t0 ts0,bU p (r :: rs) = t0 :: ts0∧(["|", "ELSE", "END", "eof"].map Str.ofString).any (· == t0.kind) = false:=by
  have key:∃ t0 ts0,r.toks p = t0 :: ts0∧(["|", "ELSE", "END", "eof"].map Str.ofString).any (· == t0.kind) = false:=by
    obtain ⟨k,lo,hi⟩:=r
    cases lo <;> exact ⟨_,_,rfl,aFM (by decide)⟩
  refine e2a2 key fun t0 ts0 e h=>?_
  cases rs with
  | nil=>exact ⟨t0,ts0,e,h⟩
  | cons r2 rs=>exact ⟨t0,_,by rw [bU,e]; rfl,h⟩
structure VI (E:Pl) (b:Nat) (m:Mem) (kids refs:List V) (taken:List (Int × Int)) (labs:List (List (Int × Int))):Prop where
  k:m[b]? = some (.lst kids)
  l:m[b + 1]? = some (.lst refs)
  t:m[b + 2]? = some (.lst (taken.map bI))
  a:dF E b m refs labs
theorem KX.vi {b:Nat} {m m':Mem} {kids refs:List V} {taken:List (Int × Int)} {labs:List (List (Int × Int))} (k:Keeps E m m') (f1:Free E b) (f2:Free E (b + 1)) (f3:Free E (b + 2)) (v:VI E b m kids refs taken labs):VI E b m' kids refs taken labs :=
  ⟨k.at f1 v.k,k.at f2 v.l,k.at f3 v.t,v.a.keep k.kx⟩
theorem xQ (F:Facts K) (St:Stat T K hZ) (O:PlOk E) {f:Form} {b tk p:Nat} {sp:Int} {ks ov l3:V} {l7 l8:Option V} {post:V→Mem→Prop} {nx kb:Locs→Mem→Prop} {r:Rng} {rs:List Rng} {kids refs:List V} {taken:List (Int × Int)} {labs:List (List (Int × Int))}
    (hs:eX E.st tk f.name) (f1:Free E b) (f2:Free E (b + 1)) (f3:Free E (b + 2)) (hok:∀ x ∈ r :: rs,x.ok = true) (R:RT E mem (bU p (r :: rs) ++ sTk ":" (p + bK (r :: rs) + 1) :: t2 :: ts) rows) (I:VI E b mem kids refs taken labs)
    (ha:Ahead rows p) (hl:rows.length + 3 * (rs.length + 1) ≤ 1000) (hlt:taken.length + (rs.length + 1) ≤ 1000) (hlr:refs.length ≤ 1000) (hlk:kids.length ≤ 1000)
    (hk:∀ m' blk i,RT E m' (t2 :: ts) (rows ++ (aH f taken p (r :: rs)).1)→VI E b m' (kids ++ [blk]) (refs ++ [.ref i]) (taken ++ (aH f taken p (r :: rs)).2) (labs ++ [(aH f taken p (r :: rs)).2])→KX E [b,b + 1,b + 2] mem m' →
      wpSs T K hZ (n + 19) [some (.ref E.rd),some (.glob A.law_statements),some (bA "var" sp (.ref tk) ks ov),some l3,some (.ref b),some (.ref (b + 1)),some (.ref (b + 2)),l7,l8] [.asg 7 (.meth (.p (.loc 0)) .dE [(.p (.cst (.str (Str.ofString "|"))))])] m' nx post kb) :
    wpSs T K hZ (n + 19) [some (.ref E.rd),some (.glob A.law_statements),some (bA "var" sp (.ref tk) ks ov),some l3,some (.ref b),some (.ref (b + 1)),some (.ref (b + 2)),l7,l8] vbody mem nx post kb:=by
  refine e2a2 (aBO p r rs) fun t0 ts0 e0 e1=>?_
  have R0:=R
  rw [e0,List.cons_append] at R0
  refine cite isAtL (by walk_at "evs") (iL (n:=n + 18) F St R0) ?_
  rintro v m ⟨rfl,rfl⟩
  rw [e1]
  have hlen:b + 3 ≤ m.length:=cA I.t
  refine brt rfl (texpr (xappE rfl I.l (xcall isLabL (by walk_at "evs") (rQ (n:=n + 1) F St O rfl hs f3 hok R I.t ha hl hlt) ?_)))
  intro v m2 hq
  refine e0a5 hq fun e0q R2 t2' c2' K2=>?_
  subst e0q
  have fi:=R.free (i:=m.length) (Nat.le_refl _)
  have k2:=K2.keep _ _ I.k f1.a f1.b f1.c f1.d f1.e (nin1 dO.symm)
  have l2:=K2.keep _ _ I.l f2.a f2.b f2.c f2.d f2.e (nin1 (cU (by decide)))
  refine mapp l2 (Nat.le_trans hlr (by decide)) ?_
  have R3:=R2.setF (o:=.lst (refs ++ [.ref m.length])) f2
  have KK:KX E [b,b + 1,b + 2] m (m2.set (b + 1) (.lst (refs ++ [.ref m.length]))):=(K2.more fun i hi=>.tail _ (.tail _ hi)).trans (KX.set (.tail _ (.head _)))
  have I3:VI E b (m2.set (b + 1) (.lst (refs ++ [.ref m.length]))) kids (refs ++ [.ref m.length]) (taken ++ (aH f taken p (r :: rs)).2) (labs ++ [(aH f taken p (r :: rs)).2]):=⟨aY k2 dO,eI l2,aY t2' (cU (by decide)),dF.app (.cons (aY c2' (Nat.ne_of_lt (Nat.lt_of_lt_of_le (Nat.add_lt_add_left (by decide) b) hlen))) fi hlen .nil) (I.a.keep KK)⟩
  generalize m2.set (b + 1) (.lst (refs ++ [.ref m.length])) = m3 at R3 KK I3 ⊢
  clear k2 l2 K2 R2 t2' c2'
  have hrd:=R3.hrd
  refine mexpr rfl (mkm hrd rfl) (by walk_at "evs") (kK (n:=n + 11) F St O R3 rfl) ?_
  rintro v m4 ⟨R5,K5⟩
  have I5:=KX.vi K5 f1 f2 f3 I3
  refine texpr (xappE rfl I5.k (xcallL rfl isStm (by walk_at "evs") (lB (n:=n + 16) F St R5) ?_))
  rintro v m5 ⟨rfl,rfl⟩
  refine mapp I5.k (Nat.le_trans hlk (by decide)) (tnil ?_)
  have K6:KX E [b,b + 1,b + 2] m5 (m5.set b (.lst (kids ++ [bA "block" t2.pos .none (.lst []) .none]))):=KX.set (.head _)
  exact hk _ (bA "block" t2.pos .none (.lst []) .none) m.length (R5.setF f1) ⟨eI I5.k,aY I5.l dO.symm,aY I5.t dO.symm,I5.a.keep K6⟩ ((KK.trans K5.kx).trans K6)
end
section
variable {T:CT} {K:Frag} {hZ:Heap} {n:Nat} {mem:Mem} {E:Pl} {t t2:Tk} {ts:List Tk} {rows:List (Int × Str)}
theorem rH (p:Nat) (c:List Rng) (cs:List (List Rng)):∃ t0 ts0,bC p (c :: cs) ++ t2 :: ts = t0 :: ts0:=by
  cases h:bC p (c :: cs) ++ t2 :: ts with
  | nil=>exact absurd (List.append_eq_nil_iff.mp h).2 (fun q=>nomatch q)
  | cons a b=>exact ⟨a,b,rfl⟩
theorem sC (F:Facts K) (St:Stat T K hZ) (O:PlOk E) {f:Form} {b tk:Nat} {sp:Int} {ks ov l3:V} {post:V→Mem→Prop} {kk:Locs→Mem→Prop}
    (hs:eX E.st tk f.name) (f1:Free E b) (f2:Free E (b + 1)) (f3:Free E (b + 2)) (h2:t2.kind = Str.ofString "ELSE" ∨ t2.kind = Str.ofString "END") :
    ∀ (cs:List (List Rng)) (c:List Rng) (taken:List (Int × Int)) (refs kids:List V) (labs:List (List (Int × Int))) (p:Nat) (rows:List (Int × Str)) (mem:Mem) (l8:Option V),(∀ c' ∈ c :: cs,∀ x ∈ c',x.ok = true)→RT E mem (bC p (c :: cs) ++ t2 :: ts) rows→VI E b mem kids refs taken labs →
    Ahead rows p→rows.length + 3 * tot (c :: cs) ≤ 1000→taken.length + tot (c :: cs) ≤ 1000→refs.length + cs.length ≤ 1000→kids.length + cs.length ≤ 1000 →
    (∀ m' ks' rf tk',RT E m' (t2 :: ts) (rows ++ (aF f taken p (c :: cs)).1)→VI E b m' (kids ++ ks') (refs ++ rf) tk' (labs ++ (aF f taken p (c :: cs)).2)→ks'.length = (aF f taken p (c :: cs)).2.length→KX E [b,b + 1,b + 2] mem m' →
      kk [some (.ref E.rd),some (.glob A.law_statements),some (bA "var" sp (.ref tk) ks ov),some l3,some (.ref b),some (.ref (b + 1)),some (.ref (b + 2)),some (.bool false),l8] m') →
    eE T K hZ (n + 19) (.p (.loc 7)) vbody post (cs.length + 2) [some (.ref E.rd),some (.glob A.law_statements),some (bA "var" sp (.ref tk) ks ov),some l3,some (.ref b),some (.ref (b + 1)),some (.ref (b + 2)),some (.bool true),l8] mem kk
  | [],c,taken,refs,kids,labs,p,rows,mem,l8,hok,R,I,ha,hl,hlt,hlr,hlk,hk=>by
    refine aS (xp rfl (brt rfl ?_))
    have last:∀ (m':Mem) (rows':List (Int × Str)) (l7:Option V),RT E m' (t2 :: ts) rows'→kk [some (.ref E.rd),some (.glob A.law_statements),some (bA "var" sp (.ref tk) ks ov),some l3,some (.ref b),some (.ref (b + 1)),some (.ref (b + 2)),some (.bool false),l8] m' →
        wpSs T K hZ (n + 19) [some (.ref E.rd),some (.glob A.law_statements),some (bA "var" sp (.ref tk) ks ov),some l3,some (.ref b),some (.ref (b + 1)),some (.ref (b + 2)),l7,l8] [.asg 7 (.meth (.p (.loc 0)) .dE [(.p (.cst (.str (Str.ofString "|"))))])] m' (fun l m=>eE T K hZ (n + 19) (.p (.loc 7)) vbody post 1 l m kk) post kk:=by
      intro m' rows' l7 R' hk'
      refine e1a2 R'.rs fun p2 R3 _=>?_
      have hrd:m'[E.rd]? = _:=R3.rd
      refine masg rfl (mkm hrd rfl) (by walk_at "evs") (dC F St R' (by rcases h2 with h2 | h2 <;> exact keq h2 (bfalse (by decide)))) ?_
      rintro v m ⟨rfl,rfl⟩
      exact tnil (aS (xp rfl (brf rfl hk')))
    cases c with
    | nil =>
      have R':RT E mem (t2 :: ts) rows:=R
      refine cite isAtL (by walk_at "evs") (iL (n:=n + 18) F St R') ?_
      rintro v m ⟨rfl,rfl⟩
      have e:(["|", "ELSE", "END", "eof"].map Str.ofString).any (· == t2.kind) = true:=by rcases h2 with h2 | h2 <;> exact any_at h2 (by decide)
      rw [e]
      have q:aF f taken p [[]] = ([],[]):=rfl
      have hk0:=hk m [] [] taken
      rw [q,List.append_nil,List.append_nil,List.append_nil,List.append_nil] at hk0
      exact brf rfl (tnil (last m rows _ R' (hk0 R' I rfl (KX.refl E _ m))))
    | cons r rs =>
      have R':RT E mem (bU p (r :: rs) ++ sTk ":" (p + bK (r :: rs) + 1) :: t2 :: ts) rows:=by
        rw [show bC p [r :: rs] = kL p (r :: rs) from rfl,nF,List.append_assoc] at R; exact R
      refine xQ F St O hs f1 f2 f3 (hok _ (.head _)) R' I ha hl hlt hlr hlk fun m' blk i R2 I2 K2=>?_
      have q:aF f taken p [r :: rs] = ((aH f taken p (r :: rs)).1 ++ [],(if r :: rs = [] then [] else [(aH f taken p (r :: rs)).2]) ++ []):=rfl
      have hk0:=hk m' [blk] [.ref i] (taken ++ (aH f taken p (r :: rs)).2)
      rw [q,List.append_nil,List.append_nil,if_neg uO] at hk0
      exact last m' _ _ R2 (hk0 R2 I2 rfl K2)
  | c2 :: cs,c,taken,refs,kids,labs,p,rows,mem,l8,hok,R,I,ha,hl,hlt,hlr,hlk,hk=>by
    refine aS (xp rfl (brt rfl ?_))
    simp only [tot] at hl hlt
    simp only [List.length_cons] at hlr hlk
    refine e2a1 (rH (t2:=t2) (ts:=ts) (p + aW c + 2) c2 cs) fun t3 ts3 e3=>?_
    have on:∀ (m':Mem) (ks' rf:List V) (l7:Option V),RT E m' (sTk "|" (p + aW c + 1) :: (bC (p + aW c + 2) (c2 :: cs) ++ t2 :: ts)) (rows ++ (aH f taken p c).1)→VI E b m' (kids ++ ks') (refs ++ rf) (taken ++ (aH f taken p c).2) (labs ++ if c = [] then [] else [(aH f taken p c).2])→ks'.length = (if c = [] then 0 else 1)→rf.length = (if c = [] then 0 else 1)→KX E [b,b + 1,b + 2] mem m' →
        wpSs T K hZ (n + 19) [some (.ref E.rd),some (.glob A.law_statements),some (bA "var" sp (.ref tk) ks ov),some l3,some (.ref b),some (.ref (b + 1)),some (.ref (b + 2)),l7,l8] [.asg 7 (.meth (.p (.loc 0)) .dE [(.p (.cst (.str (Str.ofString "|"))))])] m' (fun l m=>eE T K hZ (n + 19) (.p (.loc 7)) vbody post (cs.length + 2) l m kk) post kk:=by
      intro m' ks' rf l7 R' I' hks hrf K'
      have hrd:=R'.hrd
      rw [e3] at R'
      refine masg rfl (mkm hrd rfl) (by walk_at "evs") (eJ (n:=n + 12) F St O R' rfl) ?_
      intro v m hq
      refine e0a3 hq fun e0q R4 K4=>?_
      subst e0q
      rw [← e3] at R4
      have hlen:=iB (f:=f) c taken p
      have hks2:ks'.length ≤ 1:=by rw [hks]; split; exact Nat.zero_le 1; exact Nat.le_refl 1
      have hrf2:rf.length ≤ 1:=by rw [hrf]; split; exact Nat.zero_le 1; exact Nat.le_refl 1
      have hah:Ahead (aH f taken p c).1 (p + aW c + 2):=by
        cases c with
        | nil=>exact fun r hr=>nomatch hr
        | cons r rs=>exact (mE rs r taken p).up (by rw [xT]; lia)
      refine tnil (sC F St O hs f1 f2 f3 h2 cs c2 _ _ _ _ (p + aW c + 2) _ m _ (fun x hx=>hok x (List.mem_cons_of_mem _ hx)) R4 (KX.vi K4 f1 f2 f3 I') ((ha.up (by lia)).app hah) (by simp only [tot,List.length_append]; lia) (by simp only [tot,List.length_append]; lia) (by rw [List.length_append]; lia) (by rw [List.length_append]; lia) ?_)
      intro m5 ks5 rf5 tk5 R5 I5 hk5 K5
      refine hk m5 (ks' ++ ks5) (rf ++ rf5) tk5 ?_ ?_ ?_ ((K'.trans K4.kx).trans K5)
      · rw [aF,← List.append_assoc]; exact R5
      · rw [aF,← List.append_assoc,← List.append_assoc,← List.append_assoc]; exact I5
      · rw [aF,List.length_append,List.length_append,hks,hk5]; split <;> rfl
    cases c with
    | nil =>
      have R':RT E mem (sTk "|" (p + aW [] + 1) :: (bC (p + aW [] + 2) (c2 :: cs) ++ t2 :: ts)) rows:=R
      refine cite isAtL (by walk_at "evs") (iL (n:=n + 18) F St R') ?_
      rintro v m ⟨rfl,rfl⟩
      have e:(["|", "ELSE", "END", "eof"].map Str.ofString).any (· == (sTk "|" (p + aW [] + 1)).kind) = true:=aFM (by decide)
      rw [e]
      have on0:=on m [] [] (some (.bool true))
      rw [show aH f taken p [] = ([],[]) from rfl,if_pos rfl,List.append_nil,List.append_nil,List.append_nil,List.append_nil,List.append_nil] at on0
      exact brf rfl (tnil (on0 R' I rfl rfl (KX.refl E _ m)))
    | cons r rs =>
      have R':RT E mem (bU p (r :: rs) ++ sTk ":" (p + bK (r :: rs) + 1) :: sTk "|" (p + aW (r :: rs) + 1) :: (bC (p + aW (r :: rs) + 2) (c2 :: cs) ++ t2 :: ts)) rows:=by
        rw [bC,nF,List.append_assoc,List.append_assoc] at R; exact R
      simp only [List.length_cons] at hl hlt
      refine xQ F St O hs f1 f2 f3 (hok _ (.head _)) R' I ha (by lia) (by lia) (Nat.le_of_add_right_le hlr) (Nat.le_of_add_right_le hlk) fun m' blk i R2 I2 K2=>?_
      refine on m' [blk] [.ref i] _ R2 ?_ rfl rfl K2
      rw [if_neg uO]; exact I2
noncomputable def iH (oth:Bool) (q1 q2 q3:Nat):List Tk:=(if oth then [sTk "ELSE" q1] else []) ++ [sTk "END" q2,sTk "eof" q3]
theorem con_else (F:Facts K) (St:Stat T K hZ) (O:PlOk E) {oth:Bool} {q1 q2 q3 b:Nat} {kids:List V} (R:RT E mem (iH oth q1 q2 q3) rows) (hb:mem[b]? = some (.lst kids)) (f1:Free E b) (hl:kids.length ≤ 1000) :
    aA T K hZ (n + 9) (.ref 755) [.ref E.rd,.glob A.law_statements,.ref b] mem (fun v m=>v = .bool oth∧RT E m [sTk "eof" q3] rows∧(∃ ks,m[b]? = some (.lst (kids ++ ks))∧ks.length = if oth then 1 else 0)∧KX E [b] mem m):=by
  refine F.ok_else_block.sem T hZ (n + 8) _ _ _ St rfl ?_
  cases oth with
  | false =>
    have R':RT E mem [sTk "END" q2,sTk "eof" q3] rows:=R
    refine e1a2 R'.rs fun p2 R3 _=>?_
    have hrd:mem[E.rd]? = _:=R3.rd
    refine masg rfl (mkm hrd rfl) (by walk_at "evs") (dC F St R' (oql (bfalse (by decide)))) ?_
    rintro v m ⟨rfl,rfl⟩
    walk_at "st"
    refine mexpr rfl (mkm hrd rfl) (by walk_at "evs") (kK F St O R' rfl) ?_
    rintro v m2 ⟨R4,K4⟩
    exact tretp rfl ⟨rfl,R4,⟨[],by rw [List.append_nil]; exact K4.at f1 hb,rfl⟩,K4.kx⟩
  | true =>
    have R':RT E mem [sTk "ELSE" q1,sTk "END" q2,sTk "eof" q3] rows:=R
    have hrd:=R'.hrd
    refine masg rfl (mkm hrd rfl) (by walk_at "evs") (eJ (n:=n + 1) F St O R' rfl) ?_
    intro v m hq
    refine e0a3 hq fun e0q R4 K4=>?_
    subst e0q
    have hb4:=K4.at f1 hb
    walk_at "st"
    refine texpr (xappE rfl hb4 (xcallL rfl isStm (by walk_at "evs") (lB (n:=n + 5) F St R4) ?_))
    rintro v m2 ⟨rfl,rfl⟩
    refine mapp hb4 (Nat.le_trans hl (by decide)) (tnil ?_)
    have R5:=R4.setF (o:=.lst (kids ++ [bA "block" (sTk "END" q2).pos .none (.lst []) .none])) f1
    have K5:KX E [b] m2 (m2.set b (.lst (kids ++ [bA "block" (sTk "END" q2).pos .none (.lst []) .none]))):=KX.set (.head _)
    have b5:=eI (p:=.lst (kids ++ [bA "block" (sTk "END" q2).pos .none (.lst []) .none])) hb4
    generalize m2.set b (.lst (kids ++ [bA "block" (sTk "END" q2).pos .none (.lst []) .none])) = m5 at R5 K5 b5 ⊢
    have hrd:=R5.hrd
    refine mexpr rfl (mkm hrd rfl) (by walk_at "evs") (kK F St O R5 rfl) ?_
    rintro v m7 ⟨R7,K7⟩
    exact tretp rfl ⟨rfl,R7,⟨_,K7.at f1 b5,rfl⟩,(K4.kx.trans K5).trans K7.kx⟩
end
section
variable {T:CT} {K:Frag} {hZ:Heap} {n:Nat} {mem:Mem} {E:Pl} {t t2:Tk} {ts:List Tk} {rows:List (Int × Str)}
theorem mV (oth:Bool) (q1 q2 q3:Nat):∃ t2 ts,iH oth q1 q2 q3 = t2 :: ts∧(t2.kind = Str.ofString "ELSE" ∨ t2.kind = Str.ofString "END"):=by
  cases oth
  · exact ⟨_,_,rfl,.inr rfl⟩
  · exact ⟨_,_,rfl,.inl rfl⟩
structure Given (E:Pl) (m:Mem) (v subj:V) (place:Nat) (labs:List (List (Int × Int))) (oth:Bool) (b0:Nat):Prop where
  out:∃ b ks refs,b0 ≤ b∧v = bA "case" place .none (.ref b) (.tup [.ref (b + 1),.bool oth])∧m[b]? = some (.lst (subj :: ks))∧ks.length = labs.length + (if oth then 1 else 0)∧m[b + 1]? = some (.lst refs)∧dF E b m refs labs∧Free E b∧Free E (b + 1)
theorem qX (F:Facts K) (St:Stat T K hZ) (O:PlOk E) {f:Form} {tk p place:Nat} {sp:Int} {ks ov:V} {c:List Rng} {cs:List (List Rng)} {oth:Bool} {q1 q2 q3:Nat} (hs:eX E.st tk f.name) (hok:∀ c' ∈ c :: cs,∀ x ∈ c',x.ok = true)
    (R:RT E mem (bC p (c :: cs) ++ iH oth q1 q2 q3) rows) (ha:Ahead rows p) (hl:rows.length + 3 * tot (c :: cs) ≤ 1000) (hc:cs.length ≤ 500) :
    aA T K hZ (n + 20) (.ref 790) [.ref E.rd,.glob A.law_statements,bA "var" sp (.ref tk) ks ov,.int place] mem (fun v m=>Given E m v (bA "var" sp (.ref tk) ks ov) place (aF f [] p (c :: cs)).2 oth mem.length∧RT E m [sTk "eof" q3] (rows ++ (aF f [] p (c :: cs)).1)∧Keeps E mem m):=by
  refine aA.gen fun Q hQ=>?_
  refine F.ok_value_cases.sem T hZ (n + 19) _ _ _ St rfl ?_
  refine e2a2 (mV oth q1 q2 q3) fun t2 ts e2 h2=>?_
  have f1:=R.free (i:=mem.length) (Nat.le_refl _)
  have f2:=R.free (i:=mem.length + 1) (Nat.le_succ _)
  have f3:=R.free (i:=mem.length + 2) (Nat.le_add_right _ _)
  refine tasg (jB rfl (Nat.le_of_ble_eq_true rfl) (tasg (jB rfl (Nat.zero_le _) ?_)))
  rw [iE,nG]
  refine tasg (jB rfl (Nat.zero_le _) ?_)
  rw [iE,nG]
  walk_at "st"
  walk_at "dl"
  have R':=R
  rw [e2] at R'
  have le1:cs.length + 1 ≤ 1000:=Nat.le_trans (Nat.succ_le_succ hc) (by decide)
  refine twhile (cs.length + 2) (sC (n:=n) (b:=mem.length) F St O hs f1 f2 f3 h2 cs c [] [] [bA "var" sp (.ref tk) ks ov] [] p rows _ none hok R'.push ⟨bR,cM,cM,.nil⟩ ha hl (by rw [List.length_nil,Nat.zero_add]; exact Nat.le_trans (Nat.le_trans (Nat.le_mul_of_pos_left _ (by decide)) (Nat.le_add_left _ _)) hl) (by rw [List.length_nil,Nat.zero_add]; exact Nat.le_of_succ_le le1) (by rw [Nat.add_comm]; exact le1) ?_)
  intro m' ks' rf tk' R2 I2 hk2 K2
  rw [← e2] at R2
  have hcl:(aF f [] p (c :: cs)).2.length ≤ cs.length + 1:=by
    have:∀ (l:List (List Rng)) (tk:List (Int × Int)) (q:Nat),(aF f tk q l).2.length ≤ l.length:=by
      intro l
      induction l with
      | nil=>intro tk q; exact Nat.le_refl 0
      | cons x l ih =>
        intro tk q
        rw [aF,List.length_append,List.length_cons,Nat.add_comm l.length]
        refine Nat.add_le_add ?_ (ih _ _)
        by_cases hx:x = []
        · rw [if_pos hx]; exact Nat.zero_le 1
        · rw [if_neg hx]; exact Nat.le_refl 1
    exact this (c :: cs) [] p
  refine casg isElse (by walk_at "evs") (con_else (n:=n + 10) F St O R2 I2.k f1 (by rw [List.length_append,hk2,List.length_cons,List.length_nil,Nat.zero_add,Nat.add_comm]; exact Nat.le_trans (Nat.succ_le_succ hcl) (Nat.le_trans (Nat.add_le_add_right hc 2) (by decide)))) ?_
  rintro v m3 ⟨rfl,R3,⟨ks3,k3,hk3⟩,K3⟩
  refine cret isNode (isc rfl (isc rfl (isc rfl (is2 rfl rfl)))) (rE F St _ _ _ _ _) ?_
  rintro v m4 ⟨rfl,rfl⟩
  have K23:KX E [mem.length,mem.length + 1,mem.length + 2] m' m4:=K3.more fun i hi=>List.mem_singleton.mp hi ▸ .head _
  refine hQ _ _ ⟨⟨mem.length,ks' ++ ks3,rf,Nat.le_refl _,rfl,k3,by rw [List.length_append,hk2,hk3],K3.keep _ _ I2.l f2.a f2.b f2.c f2.d f2.e (nin1 dO),I2.a.keep K23,f1,f2⟩,R3,?_⟩
  exact ⟨Nat.le_trans (Keeps.push E mem _).len (K2.trans K23).len,fun k o h a b c d e=>(K2.trans K23).keep k o (hY h) a b c d e (nin3 (Nat.ne_of_lt (cA h)) (gO (cA h)) (gO (cA h)))⟩
theorem zY (F:Facts K) (St:Stat T K hZ) {f:Form} {tk:Nat} {sp:Int} {ks ov:V} (h:yF mem tk f.name):aA T K hZ (n + 1) (.ref 748) [bA "var" sp (.ref tk) ks ov] mem (fun v m=>v = .bool false∧m = mem):=by
  refine e1a2 h fun fs h1 h2=>?_
  refine F.ok_is_type_subject.sem T hZ n _ _ _ St rfl ?_
  have hr:(f.name == "record") = false:=by cases f <;> rfl
  have hp:(f.name == "pointer") = false:=by cases f <;> rfl
  exact tf0 (vcmp rfl rfl (cneT (oql (btrue rfl)))) (tf0 (vcmp (va (vai rfl rfl) h1 h2) rfl (ceq (oql hr))) (tretp (vcmp (va (vai rfl rfl) h1 h2) rfl (ceq (oql hp))) ⟨rfl,rfl⟩))
noncomputable def Form.var:Form→String
  | .int => "i"
  | .char => "c"
  | .byte => "b"
  | .bool => "t"
noncomputable def aT (f:Form) (p:Nat):List (Int × Str):=if f = .bool then [((p:Int),Str.ofString "case_type")] else []
theorem pW {f:Form} {p q:Nat} (h:p < q):Ahead (aT f p) q:=by
  intro r hr
  unfold aT at hr
  split at hr
  · simp at hr; subst hr; simp; lia
  · cases hr
theorem isIsT:isFun A.is_type_subject = true:=by decide
theorem con_case (F:Facts K) (St:Stat T K hZ) (O:PlOk E) {f:Form} {p0 p1 p2 p:Nat} {c:List Rng} {cs:List (List Rng)} {oth:Bool} {q1 q2 q3:Nat} (hok:∀ c' ∈ c :: cs,∀ x ∈ c',x.ok = true) (h1:p1 < p) (hl:3 * tot (c :: cs) ≤ 900) (hc:cs.length ≤ 500)
    (R:RT E mem (sTk "CASE" p0 :: ⟨Str.ofString "ident",.str (Str.ofString f.var),p1⟩ :: sTk "OF" p2 :: (bC p (c :: cs) ++ iH oth q1 q2 q3)) []) :
    aA T K hZ (n + 21) (.ref 741) [.ref E.rd,.glob A.law_statements] mem (fun v m=>(∃ tyv kv,Given E m v (bA "var" p1 tyv (.lst []) kv) p0 (aF f [] p (c :: cs)).2 oth mem.length)∧RT E m [sTk "eof" q3] (aT f p1 ++ (aF f [] p (c :: cs)).1)∧Keeps E mem m):=by
  refine aA.gen fun Q hQ=>?_
  refine F.ok_case_statement.sem T hZ (n + 20) _ _ _ St rfl ?_
  refine e1a2 R.rs fun p' R1 _=>?_
  have hrd:mem[E.rd]? = _:=R1.rd
  refine tasg (xattr (xmeth rfl (mkm hrd rfl) is0 (iI (n:=n + 14) F St O R) ?_))
  intro v m1 hq
  refine e0a3 hq fun e0q R2 K2=>?_
  subst e0q
  obtain ⟨ty,ko,hty,hfind,hobj⟩ : ∃ ty ko,eX E.st ty f.name∧Finds E (Str.ofString f.var) ko∧pG E.st ko "var" ty .none:=by
    cases f with
    | int=>obtain ⟨k,a,b⟩:=O.oi; exact ⟨_,k,O.it,.inl a,b⟩
    | char=>obtain ⟨k,a,b⟩:=O.oc; exact ⟨_,k,O.ch,.inl a,b⟩
    | byte=>obtain ⟨k,a,b⟩:=O.ob; exact ⟨_,k,O.bt,.inl a,b⟩
    | bool=>obtain ⟨k,a,b⟩:=O.ot; exact ⟨_,k,O.bo,.inl a,b⟩
  have ni1:Str.ofString "ident" ≠ Str.ofString "+" := ne_of_beq_false (oql (bfalse (by decide)))
  have ni2:Str.ofString "ident" ≠ Str.ofString "-" := ne_of_beq_false (oql (bfalse (by decide)))
  have hE:=fT (T:=T) (K:=K) (hZ:=hZ) F St R2 ni1 ni2 (jX (n:=n + 6) F St O R2 rfl rfl hfind hobj (.inl rfl) (.inr (.inr (.inr rfl)))) (fun v m h=>⟨_,_,_,h.2.1,.inr (.inr (.inr rfl))⟩)
  refine os rfl (casg isExpr (by walk_at "evs") hE ?_)
  intro v m3 hq
  refine e0a3 hq fun hv R3 K3=>?_
  rw [if_pos rfl] at hv
  subst hv
  have hrd:=R3.hrd
  obtain ⟨t5,ts5,e5⟩ : ∃ t5 ts5,bC p (c :: cs) ++ iH oth q1 q2 q3 = t5 :: ts5:=by
    refine e2a2 (mV oth q1 q2 q3) fun t2 ts e2 _=>?_
    rw [e2]; exact rH _ _ _
  rw [e5] at R3
  refine mexpr rfl (mkm hrd rfl) (by walk_at "evs") (kK (n:=n + 12) F St O R3 rfl) ?_
  rintro v m5 ⟨R5,K5⟩
  rw [← e5] at R5
  have hf5:=R5.form hty
  have K25:=(K2.trans K3).trans K5
  walk_at "st"
  walk_at "st"
  walk_at "dl"
  refine cite isIsT (by walk_at "evs") (zY (n:=n + 19) (ks:=.lst []) (ov:=.ref ko) F St hf5) ?_
  rintro v m6 ⟨rfl,rfl⟩
  refine brf rfl (tnil (tite (xand (xnot (xcall isInt (is1 (vai rfl rfl)) (eC (n:=n + 19) F St hf5) ?_)))))
  rintro v m7 ⟨rfl,rfl⟩
  have fin:∀ (m8:Mem) (rows:List (Int × Str)),rows = aT f p1→RT E m8 (bC p (c :: cs) ++ iH oth q1 q2 q3) rows→Keeps E mem m8 →
      aA T K hZ (n + 20) (.ref 790) [.ref E.rd,.glob A.law_statements,bA "var" p1 (.ref ty) (.lst []) (.ref ko),.int p0] m8 (fun v m=>(∃ tyv kv,Given E m v (bA "var" p1 tyv (.lst []) kv) p0 (aF f [] p (c :: cs)).2 oth mem.length)∧RT E m [sTk "eof" q3] (aT f p1 ++ (aF f [] p (c :: cs)).1)∧Keeps E mem m):=by
    intro m8 rows hrows R8 K8
    subst hrows
    have hsl:(aT f p1).length ≤ 1:=by unfold aT; split; exact Nat.le_refl 1; exact Nat.zero_le 1
    refine (qX (n:=n) F St O hty hok R8 (pW h1) (Nat.le_trans (Nat.add_le_add hsl hl) (by decide)) hc).mono ?_
    rintro v m9 ⟨⟨b,ks,refs,hb,g⟩,R9,K9⟩
    exact ⟨⟨_,_,⟨b,ks,refs,Nat.le_trans K8.len hb,g⟩⟩,R9,K8.trans K9⟩
  refine e1a2 hf5 fun fs g1 g2=>?_
  cases hi:(f.name == "integer" || f.name == "byte") with
  | true =>
    have hb:f ≠ .bool:=fun q=>by subst q; exact absurd (show false = true from hi) Bool.false_ne_true
    exact os rfl (brf rfl (brf rfl (tnil (cret isVal (isc rfl (isc rfl (is2 rfl rfl))) (fin m7 [] (by unfold aT; rw [if_neg hb]) R5 K25) hQ))))
  | false =>
    refine os rfl (brt rfl ?_)
    rcases wZ hi with rfl | rfl
    · refine e2a1 R5.any fun _ p8 R8=>?_
      have hrd:m7[E.rd]? = _:=R8.rd
      have her:=R8.st _ _ O.er
      refine xp (vcmp (va (vai rfl rfl) g1 g2) rfl (cneF (oql (bfalse (by decide))))) (brt rfl (mexpr (va rfl hrd rfl) (mkm her rfl) (is2 (vai rfl rfl) rfl) (qY (n:=n + 19) F St O R5 (fun q=>nomatch q) (Nat.zero_le _)) ?_))
      rintro v m9 ⟨R9,K9⟩
      exact tnil (cret isVal (isc rfl (isc rfl (is2 rfl rfl))) (fin m9 _ rfl R9 (K25.trans K9)) hQ)
    · exact xp (vcmp (va (vai rfl rfl) g1 g2) rfl (cneT (oql (btrue rfl)))) (brf rfl (tnil (cret isVal (isc rfl (isc rfl (is2 rfl rfl))) (fin m7 [] rfl R5 K25) hQ)))
end
noncomputable def aZ:List Rng→List Nat
  | []=>[]
  | [r]=>r.chars
  | r :: r2 :: rs=>r.chars ++ 44 :: aZ (r2 :: rs)
noncomputable def aU (c:List Rng):List Nat:=if c = [] then [] else aZ c ++ [32,58]
noncomputable def aE:List (List Rng)→List Nat
  | []=>[]
  | [c]=>aU c
  | c :: c2 :: cs=>aU c ++ 32 :: 124 :: aE (c2 :: cs)
noncomputable def cN (oth:Bool):List Nat:=(if oth then [32,69,76,83,69] else []) ++ [32,69,78,68]
theorem fE:∀ c:List Rng,(aZ c).length = bK c
  | []=>rfl
  | [r]=>r.len_eq
  | r :: r2 :: rs=>by simp [aZ,bK,r.len_eq,fE (r2 :: rs)]; lia
theorem oJ (c:List Rng):(aU c).length = aW c:=by
  unfold aU aW
  split
  · rfl
  · simp [fE]
theorem dU:∀ c:List (List Rng),(aE c).length = bV c
  | []=>rfl
  | [c]=>oJ c
  | c :: c2 :: cs=>by simp [aE,bV,oJ,dU (c2 :: cs)]; lia
section
variable {src:Str} {p k q:Nat} {ts:List Tk} {rest:List Nat}
theorem cP (h:From src p (List.replicate k 32 ++ rest)):From src (p + k) rest:=by
  have:=h.on
  rwa [List.length_replicate] at this
theorem vM (h:From src p (List.replicate k 32)):Takes src p (sTk "eof" (p + k)).v (p + k):=by
  intro T K hZ n mem sc er F St hs
  exact take_eof F St hs (by simpa using h)
theorem vL {d:Nat} (hd:d < 10) (hr:stop rest = true) (h:From src p (List.replicate k 32 ++ ((48 + d) :: rest))):Takes src p (tkV (Str.ofString "int") (.int d) (p + k)) (p + k + 1):=by
  intro T K hZ n mem sc er F St hs
  exact take_num F St hs h hd hr
theorem aBJ {d:Nat} (hd:d < 10) (h:From src p (List.replicate k 32 ++ (52 :: (48 + d) :: 88 :: rest))):Takes src p (tkV (Str.ofString "string") (.str ⟨#[64 + d]⟩) (p + k)) (p + k + 3):=by
  intro T K hZ n mem sc er F St hs
  exact aDq F St hs h hd
theorem join_one:∀ c < 200,JoinOk (Str.ofString "") [⟨#[c]⟩] = true∧Txt.join (Str.ofString "") [⟨#[c]⟩] = ⟨#[c]⟩:=by decide +kernel
theorem join_ab:JoinOk (Str.ofString "") [⟨#[97]⟩,⟨#[98]⟩] = true∧Txt.join (Str.ofString "") [⟨#[97]⟩,⟨#[98]⟩] = ⟨#[97,98]⟩:=by decide +kernel
theorem aDp {d:Nat} (hd:d < 26) (h:From src p (List.replicate k 32 ++ (34 :: (64 + d) :: 34 :: rest))):Takes src p (tkV (Str.ofString "string") (.str ⟨#[64 + d]⟩) (p + k)) (p + k + 3):=by
  intro T K hZ n mem sc er F St hs
  exact aAp (x:=[64 + d]) F St hs h (by simp [inStr]; lia) (by simp) (join_one (64 + d) (by lia))
theorem takes_ab (h:From src p (List.replicate k 32 ++ (34 :: 97 :: 98 :: 34 :: rest))):Takes src p (tkV (Str.ofString "string") (.str ⟨#[97,98]⟩) (p + k)) (p + k + 4):=by
  intro T K hZ n mem sc er F St hs
  exact aAp (x:=[97,98]) F St hs h rfl (by simp) join_ab
theorem mC {c d:Nat} {s:String} (hs:Str.ofString s = ⟨#[c]⟩) (hc:c ∈ [44,58,124,45]) (hd:d ≠ 61) (h:From src p (List.replicate k 32 ++ (c :: d :: rest))):Takes src p (sTk s (p + k)).v (p + k + 1):=by
  intro T K hZ n mem sc er F St hsc
  have:=take_sym (n:=n) F St hsc h hc hd
  simpa [Tk.v,sTk,hs] using this
theorem aBK (h:From src p (List.replicate k 32 ++ (46 :: 46 :: rest))):Takes src p (sTk ".." (p + k)).v (p + k + 2):=by
  intro T K hZ n mem sc er F St hsc
  exact aDr F St hsc h
theorem gQ {s:String} {c:Nat} {x:List Nat} (hw:Str.ofString s = ⟨(c :: x).toArray⟩) (hk:keyList.any (fun y=>Str.ofString y == Str.ofString s) = true) (hc:isLet [c] = true) (hx:x.all alnum = true) (hr:lH rest = true) (h:From src p (List.replicate k 32 ++ ((c :: x) ++ rest))) :
    Takes src p (sTk s (p + k)).v (p + k + (x.length + 1)):=by
  intro T K hZ n mem sc er F St hsc
  have:=vN (n:=n) F St hsc h hc hx hr
  rw [← hw] at this
  unfold tP at this
  rw [if_pos hk] at this
  exact this
theorem pV {s:String} {c:Nat} {x:List Nat} (hw:Str.ofString s = ⟨(c :: x).toArray⟩) (hk:keyList.any (fun y=>Str.ofString y == Str.ofString s) = false) (hc:isLet [c] = true) (hx:x.all alnum = true) (hr:lH rest = true) (h:From src p (List.replicate k 32 ++ ((c :: x) ++ rest))) :
    Takes src p (tkV (Str.ofString "ident") (.str (Str.ofString s)) (p + k)) (p + k + (x.length + 1)):=by
  intro T K hZ n mem sc er F St hsc
  have:=vN (n:=n) F St hsc h hc hx hr
  rw [← hw] at this
  unfold tP at this
  rw [if_neg (by rw [hk]; simp)] at this
  exact this
theorem s_TRUE:Str.ofString "TRUE" = ⟨#[84,82,85,69]⟩:=by decide +kernel
theorem s_NIL:Str.ofString "NIL" = ⟨#[78,73,76]⟩:=by decide +kernel
theorem s_CASE:Str.ofString "CASE" = ⟨#[67,65,83,69]⟩:=by decide +kernel
theorem s_OF:Str.ofString "OF" = ⟨#[79,70]⟩:=by decide +kernel
theorem s_ELSE:Str.ofString "ELSE" = ⟨#[69,76,83,69]⟩:=by decide +kernel
theorem s_END:Str.ofString "END" = ⟨#[69,78,68]⟩:=by decide +kernel
theorem s_comma:Str.ofString "," = ⟨#[44]⟩:=by decide +kernel
theorem s_colon:Str.ofString ":" = ⟨#[58]⟩:=by decide +kernel
theorem s_bar:Str.ofString "|" = ⟨#[124]⟩:=by decide +kernel
theorem s_minus:Str.ofString "-" = ⟨#[45]⟩:=by decide +kernel
theorem oF (h:From src p (32 :: rest)):From src p (List.replicate 1 32 ++ rest):=h
theorem uH {l:Lab} (hl:l.ok = true) (hr:stop rest = true) (h:From src p (List.replicate k 32 ++ (l.chars ++ rest))) (ht:From src (p + k + l.chars.length) rest→Toks src (p + k + l.chars.length) ts):Toks src p (l.toks (p + k) ++ ts):=by
  have hw:=aDv hr
  have h1:From src (p + k + l.chars.length) rest:=(cP h).on
  have ht:=ht h1
  cases l with
  | num d =>
    simp [Lab.ok] at hl
    exact .cons (vL hl hr h) ht
  | neg d =>
    simp [Lab.ok] at hl
    refine .cons (mC (c:=45) (d:=48 + d) s_minus (by simp) (by lia) h) (.cons (vL (k:=0) hl hr ?_) ht)
    exact (cP h).next
  | chq d =>
    simp [Lab.ok] at hl
    exact .cons (aDp hl h) ht
  | chx d =>
    simp [Lab.ok] at hl
    exact .cons (aBJ hl h) ht
  | ab=>exact .cons (takes_ab h) ht
  | tru=>exact .cons (pV (c:=84) (x:=[82,85,69]) s_TRUE (by simp [keyList]) rfl rfl hw h) ht
  | nil=>exact .cons (gQ (c:=78) (x:=[73,76]) s_NIL (by simp [keyList]) rfl rfl hw h) ht
theorem aAv {r:Rng} (ho:r.ok = true) (hr:stop rest = true) (h:From src p (r.chars ++ rest)) (ht:From src (p + r.len) rest→Toks src (p + r.len) ts):Toks src p (r.toks p ++ ts):=by
  obtain ⟨k,lo,hi⟩:=r
  cases hi with
  | none =>
    simp only [Rng.ok,Bool.and_true] at ho
    simp only [Rng.chars,Rng.len,Rng.toks,List.append_nil,List.append_assoc,Nat.add_zero] at h ht ⊢
    refine uH ho hr h ?_
    rw [Nat.add_assoc]
    exact ht
  | some x =>
    obtain ⟨k2,l2⟩:=x
    simp only [Rng.ok,Bool.and_eq_true] at ho
    simp only [Rng.chars,Rng.len,Rng.toks,List.append_assoc,List.cons_append] at h ht ⊢
    refine uH ho.1 rfl h fun h1=>?_
    have h2:=oF h1
    refine .cons (aBK h2) ?_
    have h3:From src (p + k + lo.chars.length + 3) (List.replicate k2 32 ++ (l2.chars ++ rest)):=(cP h2).next.next
    refine uH ho.2 hr h3 ?_
    rw [show p + k + lo.chars.length + 3 + k2 + l2.chars.length = p + (k + (lo.chars.length + (3 + (k2 + l2.chars.length)))) by lia]
    exact ht
theorem eN (r:Rng) (rs:List Rng) (hk:0 < r.k):∃ x,aZ (r :: rs) = 32 :: x:=by
  obtain ⟨k,lo,hi⟩:=r
  obtain ⟨k',rfl⟩ : ∃ k',k = k' + 1:=⟨k - 1,by simp at hk; lia⟩
  cases rs with
  | nil=>exact ⟨_,by simp only [aZ,Rng.chars,List.replicate_succ,List.cons_append]; rfl⟩
  | cons r2 rs=>exact ⟨_,by simp only [aZ,Rng.chars,List.replicate_succ,List.cons_append]; rfl⟩
theorem vY:∀ (rs:List Rng) (r:Rng) (p:Nat),(∀ x ∈ r :: rs,x.ok = true∧0 < x.k)→stop rest = true→From src p (aZ (r :: rs) ++ rest)→(From src (p + bK (r :: rs)) rest→Toks src (p + bK (r :: rs)) ts)→Toks src p (bU p (r :: rs) ++ ts)
  | [],r,p,ho,hr,h,ht=>aAv (ho r (by simp)).1 hr h ht
  | r2 :: rs,r,p,ho,hr,h,ht=>by
    simp only [aZ,bU,List.append_assoc,List.cons_append] at h ⊢
    refine aAv (ho r (by simp)).1 rfl h fun h1=>?_
    obtain ⟨x,hx⟩:=eN r2 rs (ho r2 (by simp)).2
    refine .cons (mC (k:=0) (c:=44) (d:=32) (rest:=x ++ rest) s_comma (by simp) (by simp) (by rw [hx] at h1; exact h1)) ?_
    refine vY rs r2 (p + r.len + 1) (fun y hy=>ho y (List.mem_cons_of_mem _ hy)) hr h1.next ?_
    rw [show p + r.len + 1 + bK (r2 :: rs) = p + bK (r :: r2 :: rs) by simp only [bK]; lia]
    exact ht
theorem xR {c:List Rng} (ho:∀ x ∈ c,x.ok = true∧0 < x.k) (h:From src p (aU c ++ 32 :: rest)) (ht:From src (p + aW c) (32 :: rest)→Toks src (p + aW c) ts):Toks src p (kL p c ++ ts):=by
  cases c with
  | nil=>exact ht h
  | cons r rs =>
    simp only [aU,kL,aW,List.append_assoc,reduceCtorEq,if_false] at h ht ⊢
    refine vY rs r p ho rfl h fun h1=>?_
    have h2:=oF h1
    refine .cons (mC (c:=58) (d:=32) s_colon (by simp) (by simp) h2) ?_
    exact ht (by have:=(cP h2).next; exact this)
theorem tB:∀ (cs:List (List Rng)) (c:List Rng) (p:Nat),(∀ c' ∈ c :: cs,∀ x ∈ c',x.ok = true∧0 < x.k)→From src p (aE (c :: cs) ++ 32 :: rest)→(From src (p + bV (c :: cs)) (32 :: rest)→Toks src (p + bV (c :: cs)) ts)→Toks src p (bC p (c :: cs) ++ ts)
  | [],c,p,ho,h,ht=>xR (ho c (by simp)) h ht
  | c2 :: cs,c,p,ho,h,ht=>by
    simp only [aE,bC,List.append_assoc,List.cons_append] at h ⊢
    refine xR (ho c (by simp)) h fun h1=>?_
    have h2:=oF h1
    have hn:∃ x,aE (c2 :: cs) ++ 32 :: rest = 32 :: x:=by
      have hc:∃ x,aU c2 ++ [32] = 32 :: x:=by
        cases c2 with
        | nil=>exact ⟨[],rfl⟩
        | cons r rs =>
          obtain ⟨x,hx⟩:=eN r rs (ho (r :: rs) (by simp) r (by simp)).2
          exact ⟨_,by simp only [aU,reduceCtorEq,if_false,hx,List.cons_append]; rfl⟩
      obtain ⟨x,hx⟩:=hc
      cases cs with
      | nil=>exact ⟨x ++ rest,by simp only [aE]; rw [show aU c2 ++ 32 :: rest = (aU c2 ++ [32]) ++ rest by simp,hx]; rfl⟩
      | cons c3 cs=>exact ⟨x ++ (124 :: (aE (c3 :: cs) ++ 32 :: rest)),by simp only [aE]; rw [show aU c2 ++ 32 :: 124 :: aE (c3 :: cs) ++ 32 :: rest = (aU c2 ++ [32]) ++ (124 :: (aE (c3 :: cs) ++ 32 :: rest)) by simp,hx]; rfl⟩
    obtain ⟨x,hx⟩:=hn
    rw [hx] at h2
    refine .cons (mC (c:=124) (d:=32) s_bar (by simp) (by simp) h2) ?_
    have h3:From src (p + aW c + 2) (32 :: x):=(cP h2).next
    rw [← hx] at h3
    refine tB cs c2 (p + aW c + 2) (fun y hy=>ho y (List.mem_cons_of_mem _ hy)) h3 ?_
    rw [show p + aW c + 2 + bV (c2 :: cs) = p + bV (c :: c2 :: cs) by simp only [bV]; lia]
    exact ht
theorem end_toks {oth:Bool} (h:From src p (cN oth)):∃ q1 q2 q3,Toks src p (iH oth q1 q2 q3):=by
  cases oth with
  | false =>
    have h2:From src p (List.replicate 1 32 ++ ([69,78,68] ++ [])):=h
    refine ⟨0,p + 1,_,.cons (gQ (c:=69) (x:=[78,68]) s_END (by simp [keyList]) rfl rfl rfl h2) (.cons (vM (k:=0) ?_) .nil)⟩
    exact (cP h2).on
  | true =>
    have h2:From src p (List.replicate 1 32 ++ ([69,76,83,69] ++ [32,69,78,68])):=h
    have h3:From src (p + 1 + 4) (List.replicate 1 32 ++ ([69,78,68] ++ [])):=(cP h2).on
    refine ⟨p + 1,p + 1 + 4 + 1,_,.cons (gQ (c:=69) (x:=[76,83,69]) s_ELSE (by simp [keyList]) rfl rfl rfl h2) (.cons (gQ (c:=69) (x:=[78,68]) s_END (by simp [keyList]) rfl rfl rfl h3) (.cons (vM (k:=0) ?_) .nil))⟩
    exact (cP h3).on
end
structure Kp (X:List Nat) (m m':Mem):Prop where
  len:m.length ≤ m'.length
  keep:∀ k o,m[k]? = some o→k ∉ X→m'[k]? = some o
theorem Kp.refl (X:List Nat) (m:Mem):Kp X m m:=⟨Nat.le_refl _,fun _ _ h _=>h⟩
theorem Kp.trans {X:List Nat} {a b c:Mem} (x:Kp X a b) (y:Kp X b c):Kp X a c:=⟨Nat.le_trans x.len y.len,fun k o h hk=>y.keep k o (x.keep k o h hk) hk⟩
theorem Kp.more {X Y:List Nat} {a b:Mem} (x:Kp X a b) (h:∀ i ∈ X,i ∈ Y):Kp Y a b:=⟨x.len,fun k o h1 h2=>x.keep k o h1 fun q=>h2 (h k q)⟩
theorem Kp.set {X:List Nat} {m:Mem} {i:Nat} {o:MO} (hi:i ∈ X):Kp X m (m.set i o):=⟨Nat.le_of_eq List.length_set.symm,fun k x h hk=>aY h fun q=>hk (q ▸ hi)⟩
theorem Kp.push {X:List Nat} {m j:Mem}:Kp X m (m ++ j):=⟨by rw [List.length_append]; exact Nat.le_add_right _ _,fun k o h _=>hY h⟩
theorem Kp.setNew {X:List Nat} {m m':Mem} {i:Nat} {o:MO} (k:Kp X m m') (hi:m.length ≤ i):Kp X m (m'.set i o):=⟨by rw [List.length_set]; exact k.len,fun j x h hj=>aY (k.keep j x h hj) fun q=>Nat.lt_irrefl _ (Nat.lt_of_lt_of_le (List.getElem?_eq_some_iff.mp h).1 (q ▸ hi))⟩
section
variable {T:CT} {K:Frag} {hZ:Heap} {n:Nat} {mem:Mem}
theorem rF (F:Facts K) (St:Stat T K hZ):aA T K hZ (n + 1) (.ref 825) [.ref mem.length] (mem ++ [.inst .errors []]) (fun v m=>v = .none∧m = mem ++ [.inst .errors [.ref (mem.length + 1),.ref (mem.length + 2)],.lst [],.idict []]):=by
  refine F.ok_mErrorList_init.sem T hZ n _ _ _ St rfl ?_
  repeat walk_at "sf"
  exact tnil ⟨rfl,rfl⟩
theorem aCy (F:Facts K) (St:Stat T K hZ):aA T K hZ (n + 2) A.cErrorList [] mem (fun v m=>v = .ref mem.length∧m = mem ++ [.inst .errors [.ref (mem.length + 1),.ref (mem.length + 2)],.lst [],.idict []]) :=
  gB St F.mk_errors (rF F St)
noncomputable def jC (b:Nat):Mem:=[.inst .types [.int 7,.ref (b + 1),.ref (b + 2),.ref (b + 6),.ref (b + 10),.ref (b + 14),.ref (b + 18),.ref (b + 22),.ref (b + 26)],.sdict []] ++
  (pT (b + 2) (.int 1) (.str (Str.ofString "boolean")) (.int 1) .none (.int 0) (.str (Str.ofString "")) (.str (Str.ofString "")) ++ (pT (b + 6) (.int 2) (.str (Str.ofString "char")) (.int 1) .none (.int 0) (.str (Str.ofString "")) (.str (Str.ofString "")) ++
  (pT (b + 10) (.int 3) (.str (Str.ofString "byte")) (.int 1) .none (.int 0) (.str (Str.ofString "")) (.str (Str.ofString "")) ++ (pT (b + 14) (.int 4) (.str (Str.ofString "integer")) (.int 4) .none (.int 0) (.str (Str.ofString "")) (.str (Str.ofString "")) ++
  (pT (b + 18) (.int 5) (.str (Str.ofString "set")) (.int 4) .none (.int 0) (.str (Str.ofString "")) (.str (Str.ofString "")) ++ (pT (b + 22) (.int 6) (.str (Str.ofString "nil")) (.int 4) .none (.int 0) (.str (Str.ofString "")) (.str (Str.ofString "")) ++
  pT (b + 26) (.int 7) (.str (Str.ofString "none")) (.int 0) .none (.int 0) (.str (Str.ofString "")) (.str (Str.ofString ""))))))))
theorem iJ (F:Facts K) (St:Stat T K hZ) {L:Mem} {c:Int} {fs:List V} {form:Str} {size:V}:aA T K hZ (n + 3) (.ref 1086) [.ref mem.length,.str form,size] (mem ++ .inst .types (.int c :: fs) :: L) (fun v m=>v = .ref (mem.length + (L.length + 1))∧m = mem ++ .inst .types (.int (c + 1) :: fs) :: (L ++ pT (mem.length + (L.length + 1)) (.int (c + 1)) (.str form) size .none (.int 0) (.str (Str.ofString "")) (.str (Str.ofString "")))):=by
  refine (aFo (mem:=mem ++ .inst .types (.int c :: fs) :: L) (ty:=mem.length) (c:=c) (fs:=fs) F St bR).mono ?_
  rintro v m ⟨rfl,rfl⟩
  rw [iE,pM,nG]
  exact ⟨rfl,rfl⟩
theorem rT (F:Facts K) (St:Stat T K hZ):aA T K hZ (n + 4) (.ref 1078) [.ref mem.length] (mem ++ [.inst .types []]) (fun v m=>v = .none∧m = mem ++ jC mem.length):=by
  refine F.ok_mTypes_init.sem T hZ (n + 3) _ _ _ St rfl ?_
  walk_at "sf"
  walk_at "sf"
  refine tattr (xmeth rfl (mkm bR rfl) (by walk_at "evs") (iJ F St) ?_)
  rintro v m ⟨rfl,rfl⟩
  refine xp rfl (pl rfl ?_)
  refine tattr (xmeth rfl (mkm bR rfl) (by walk_at "evs") (iJ F St) ?_)
  rintro v m ⟨rfl,rfl⟩
  refine xp rfl (pl rfl ?_)
  refine tattr (xmeth rfl (mkm bR rfl) (by walk_at "evs") (iJ F St) ?_)
  rintro v m ⟨rfl,rfl⟩
  refine xp rfl (pl rfl ?_)
  refine tattr (xmeth rfl (mkm bR rfl) (by walk_at "evs") (iJ F St) ?_)
  rintro v m ⟨rfl,rfl⟩
  refine xp rfl (pl rfl ?_)
  refine tattr (xmeth rfl (mkm bR rfl) (by walk_at "evs") (iJ F St) ?_)
  rintro v m ⟨rfl,rfl⟩
  refine xp rfl (pl rfl ?_)
  refine tattr (xmeth rfl (mkm bR rfl) (by walk_at "evs") (iJ F St) ?_)
  rintro v m ⟨rfl,rfl⟩
  refine xp rfl (pl rfl ?_)
  refine tattr (xmeth rfl (mkm bR rfl) (by walk_at "evs") (iJ F St) ?_)
  rintro v m ⟨rfl,rfl⟩
  refine xp rfl (pl rfl ?_)
  exact tnil ⟨rfl,by kernel_rfl⟩
theorem aFs (F:Facts K) (St:Stat T K hZ):aA T K hZ (n + 5) A.cTypes [] mem (fun v m=>v = .ref mem.length∧m = mem ++ jC mem.length) :=
  gB St F.mk_types (rT F St)
theorem rV (F:Facts K) (St:Stat T K hZ) (a b:V):aA T K hZ (n + 1) (.ref 1114) [.ref mem.length,a,b] (mem ++ [.inst .scope []]) (fun v m=>v = .none∧m = mem ++ [.inst .scope [a,b,.ref (mem.length + 1),.ref (mem.length + 2),.int 0],.sdict [],.lst []]):=by
  refine F.ok_mScope_init.sem T hZ n _ _ _ St rfl ?_
  repeat walk_at "sf"
  exact tnil ⟨rfl,rfl⟩
theorem xH (F:Facts K) (St:Stat T K hZ) (a b:V):aA T K hZ (n + 2) A.cScope [a,b] mem (fun v m=>v = .ref mem.length∧m = mem ++ [.inst .scope [a,b,.ref (mem.length + 1),.ref (mem.length + 2),.int 0],.sdict [],.lst []]) :=
  gB St F.mk_scope (rV F St a b)
theorem aEw:isFun A.cScope = true:=by decide
theorem rC (F:Facts K) (St:Stat T K hZ) (a b:V):aA T K hZ (n + 3) (.ref 1135) [.ref mem.length,a,b] (mem ++ [.inst .scopes []]) (fun v m=>v = .none∧m = mem ++ [.inst .scopes [a,b,.ref (mem.length + 4),.int (-1)],.inst .scope [.int (-1),.str (Str.ofString ""),.ref (mem.length + 2),.ref (mem.length + 3),.int 0],.sdict [],.lst [],.lst [.ref (mem.length + 1)]]):=by
  refine F.ok_mScopes_init.sem T hZ (n + 2) _ _ _ St rfl ?_
  walk_at "sf"
  walk_at "sf"
  refine tattr ?_
  rw [e_lstM]
  refine xse (xcall aEw (by walk_at "evs") (xH F St _ _) ?_)
  rintro v m ⟨rfl,rfl⟩
  rw [iE,nG,aBj]
  refine ⟨Nat.le_of_ble_eq_true rfl,?_⟩
  rw [iE,nG]
  refine xp rfl (pl rfl ?_)
  walk_at "sf"
  exact tnil ⟨rfl,rfl⟩
theorem aCw (F:Facts K) (St:Stat T K hZ) (a b:V):aA T K hZ (n + 4) A.cScopes [a,b] mem (fun v m=>v = .ref mem.length∧m = mem ++ [.inst .scopes [a,b,.ref (mem.length + 4),.int (-1)],.inst .scope [.int (-1),.str (Str.ofString ""),.ref (mem.length + 2),.ref (mem.length + 3),.int 0],.sdict [],.lst [],.lst [.ref (mem.length + 1)]]) :=
  gB St F.mk_scopes (rC F St a b)
theorem isKeyw:isFun A.keywords = true:=by decide
theorem pF (F:Facts K) (St:Stat T K hZ) (a b:V):aA T K hZ (n + 2) (.ref 923) [.ref mem.length,a,b] (mem ++ [.inst .scanner []]) (fun v m=>v = .none∧m = mem ++ [.inst .scanner [a,b,.int 0,keyV]]):=by
  refine F.ok_mScanner_init.sem T hZ (n + 1) _ _ _ St rfl ?_
  repeat walk_at "sf"
  refine tattr (xcall isKeyw is0 (xD F St) ?_)
  rintro v m ⟨rfl,rfl⟩
  exact xp rfl (pl rfl (tnil ⟨rfl,rfl⟩))
theorem aAa (F:Facts K) (St:Stat T K hZ) (a b:V):aA T K hZ (n + 3) A.cScanner [a,b] mem (fun v m=>v = .ref mem.length∧m = mem ++ [.inst .scanner [a,b,.int 0,keyV]]) :=
  gB St F.mk_scanner (pF F St a b)
noncomputable def objFs (a b c d:V):List V:=[a,b,c,d,.bool false,.bool false,.int 0,.str (Str.ofString ""),.none,.int 0,.int 0,.int 0,.bool false,.none]
theorem xI (F:Facts K) (St:Stat T K hZ) (a b c d:V):aA T K hZ (n + 1) (.ref 1057) [.ref mem.length,a,b,c,d] (mem ++ [.inst .obj []]) (fun v m=>v = .none∧m = mem ++ [.inst .obj (objFs a b c d)]):=by
  refine F.ok_mObj_init.sem T hZ n _ _ _ St rfl ?_
  repeat walk_at "sf"
  exact tnil ⟨rfl,rfl⟩
theorem con_Obj (F:Facts K) (St:Stat T K hZ) (a b c d:V):aA T K hZ (n + 2) A.cObj [a,b,c,d] mem (fun v m=>v = .ref mem.length∧m = mem ++ [.inst .obj (objFs a b c d)]) :=
  gB St F.mk_obj (xI F St a b c d)
theorem isObj:isFun A.cObj = true:=by decide
structure Sco (m:Mem) (sp stk s nm od:Nat) (ty a b:V) (mo:Str) (lv:Int) (pre:List V) (es:List (Str × V)):Prop where
  hsp:m[sp]? = some (.inst .scopes [ty,.str mo,.ref stk,.int lv])
  hstk:m[stk]? = some (.lst (pre ++ [.ref s]))
  hs:∃ sl,m[s]? = some (.inst .scope [a,b,.ref nm,.ref od,.int sl])
  hnm:m[nm]? = some (.sdict es)
  hod:∃ os,m[od]? = some (.lst os)∧os.length = es.length
  small:es.length ≤ 500
  d1:nm ≠ od
  d2:nm ≠ s
  d3:od ≠ s
  d4:sp ≠ nm
  d5:sp ≠ od
  d6:sp ≠ s
  d7:stk ≠ nm
  d8:stk ≠ od
  d9:stk ≠ s
noncomputable def iQ (m:Mem) (k:Nat) (kind:Str) (ty val:V):Prop:=∃ fs,m[k]? = some (.inst .obj fs)∧fs[1]? = some (.str kind)∧fs[2]? = some ty∧fs[8]? = some val∧fs[13]? = some .none∧fs.length = 14
theorem putD_new {α : Type} [DecidableEq α] {x:α} {v:V} {es:List (α × V)} (h:es.any (fun kv=>kv.1 = x) = false):putD x v es = es ++ [(x,v)]:=by unfold putD; rw [if_neg (by rw [h]; simp)]
set_option tactic.hygienic true in
theorem wJ {x:Str}:∀ {es:List (Str × V)},look x es = none→es.any (fun kv=>kv.1 = x) = false
  | [],_=>rfl
  | (q,v) :: r,h=>by
    dsimp only [look] at h
    split at h
    · cases h
    · rename_i hq
      simp only [List.any_cons,hq,decide_false,Bool.false_or]
      exact wJ h
theorem con_add (F:Facts K) (St:Stat T K hZ) {sp stk s nm od k:Nat} {ty a b:V} {mo:Str} {lv:Int} {pre:List V} {es:List (Str × V)} {name kind:Str} {fs:List V} (S:Sco mem sp stk s nm od ty a b mo lv pre es) (hk:mem[k]? = some (.inst .obj fs)) (h0:fs[0]? = some (.str name)) (h1:fs[1]? = some (.str kind)) (h14:fs.length = 14)
    (hn:look name es = none) (hne:k ≠ nm∧k ≠ od∧k ≠ s∧k ≠ sp∧k ≠ stk) (hsm:es.length + 1 ≤ 500) :
    aA T K hZ (n + 1) (.ref 1163) [.ref sp,.ref k] mem (fun v m=>v = .bool true∧Sco m sp stk s nm od ty a b mo lv pre (es ++ [(name,.ref k)])∧m.length = mem.length∧(∃ sl,m[k]? = some (.inst .obj (if kind = Str.ofString "var" ∨ kind = Str.ofString "par" then fs.set 9 sl else fs)))∧Kp [nm,od,s,k] mem m):=by
  refine F.ok_mScopes_add.sem T hZ n _ _ _ St rfl ?_
  obtain ⟨sl,hsl⟩:=S.hs
  refine e1a2 S.hod fun os ho hol=>?_
  refine e0a5 hne fun n1 n2 n3 n4 n5=>?_
  refine tasgp (vitem (va rfl S.hsp rfl) rfl (itL S.hstk nthV_m1)) ?_
  refine tf0 (vcmp (va rfl hk h0) (va rfl hsl rfl) (cinD S.hnm (isN hn))) ?_
  refine titem (xp rfl (xp (va rfl hsl rfl) (xp (va rfl hk h0) (psdict S.hnm (Nat.le_trans S.small (by decide)) ?_))))
  rw [putD_new (wJ hn)]
  have e1:=aY (p:=.sdict (es ++ [(name,.ref k)])) hsl S.d2
  have e2:=aY (p:=.sdict (es ++ [(name,.ref k)])) ho S.d1
  refine texpr (xapp (va rfl e1 rfl) e2 rfl (Nat.le_trans (Nat.le_of_eq hol) (Nat.le_trans S.small (by decide))) ?_)
  generalize hM:(mem.set nm (.sdict (es ++ [(name,.ref k)]))).set od (.lst (os ++ [.ref k])) = M
  have m_sp:M[sp]? = some (.inst .scopes [ty,.str mo,.ref stk,.int lv]):=by rw [← hM]; exact aY (aY S.hsp (Ne.symm S.d4)) (Ne.symm S.d5)
  have m_stk:M[stk]? = some (.lst (pre ++ [.ref s])):=by rw [← hM]; exact aY (aY S.hstk (Ne.symm S.d7)) (Ne.symm S.d8)
  have m_s:M[s]? = some (.inst .scope [a,b,.ref nm,.ref od,.int sl]):=by rw [← hM]; exact aY e1 S.d3
  have m_nm:M[nm]? = some (.sdict (es ++ [(name,.ref k)])):=by rw [← hM]; exact aY (eI S.hnm) (Ne.symm S.d1)
  have m_od:M[od]? = some (.lst (os ++ [.ref k])):=by rw [← hM]; exact eI e2
  have m_k:M[k]? = some (.inst .obj fs):=by rw [← hM]; exact aY (aY hk (Ne.symm n1)) (Ne.symm n2)
  have m_len:M.length = mem.length:=by rw [← hM,List.length_set,List.length_set]
  have m_kp:Kp [nm,od,s,k] mem M:=by rw [← hM]; exact (Kp.set (.head _)).trans (Kp.set (.tail _ (.head _)))
  have len2:(os ++ [V.ref k]).length = (es ++ [(name,V.ref k)]).length:=by rw [List.length_append,List.length_append,hol]; rfl
  have hsm2:(es ++ [(name,V.ref k)]).length ≤ 500:=by rw [List.length_append]; exact hsm
  have fin:(kind = Str.ofString "var" ∨ kind = Str.ofString "par")→wpSs T K hZ n [some (V.ref sp),some (V.ref k),some (V.ref s)] [IS.attr (IE.p (PE.loc 1)) At.yC (IE.p (PE.attr (PE.loc 2) At.lX)),IS.augA (IE.p (PE.loc 2)) At.lX Operator.Add (IE.p (PE.cst (V.int 1)))] M
        (fun loc' m=>wpSs T K hZ n loc' [IS.ret (IE.p (PE.cst (V.bool true)))] m (fun x m=>False) (fun v m=>v = V.bool true∧Sco m sp stk s nm od ty a b mo lv pre (es ++ [(name,V.ref k)])∧m.length = mem.length∧(∃ sl,m[k]? = some (.inst .obj (if kind = Str.ofString "var" ∨ kind = Str.ofString "par" then fs.set 9 sl else fs)))∧Kp [nm,od,s,k] mem m) fun x x_1=>False)
        (fun v m=>v = V.bool true∧Sco m sp stk s nm od ty a b mo lv pre (es ++ [(name,V.ref k)])∧m.length = mem.length∧(∃ sl,m[k]? = some (.inst .obj (if kind = Str.ofString "var" ∨ kind = Str.ofString "par" then fs.set 9 sl else fs)))∧Kp [nm,od,s,k] mem m) fun x x_1=>False:=fun hv=>by
    have q_s:=aY (p:=.inst .obj (fs.set 9 (.int sl))) m_s n3
    refine tput rfl m_k (va rfl m_s rfl) (by show (if 9 < fs.length then _ else _) = _; rw [h14]; rfl) (taugA rfl q_s rfl rfl rfl rfl (tnil (tretp rfl ?_)))
    refine ⟨rfl,⟨aY (aY m_sp n4) (Ne.symm S.d6),aY (aY m_stk n5) (Ne.symm S.d9),⟨sl + 1,eI q_s⟩,aY (aY m_nm n1) (Ne.symm S.d2),⟨os ++ [.ref k],aY (aY m_od n2) (Ne.symm S.d3),len2⟩,hsm2,S.d1,S.d2,S.d3,S.d4,S.d5,S.d6,S.d7,S.d8,S.d9⟩,by rw [List.length_set,List.length_set]; exact m_len,⟨.int sl,(aY (eI m_k) (Ne.symm n3)).trans (by rw [if_pos hv])⟩,(m_kp.trans (Kp.set (.tail _ (.tail _ (.tail _ (.head _)))))).trans (Kp.set (.tail _ (.tail _ (.head _))))⟩
  cases b1:(kind == Str.ofString "var") with
  | true=>exact tt (yK (vcmp (va rfl m_k h1) rfl (ceq b1)) rfl) (fin (.inl (eq_of_beq b1)))
  | false =>
    cases b2:(kind == Str.ofString "par") with
    | true=>exact tt (lI (vcmp (va rfl m_k h1) rfl (ceq b1)) rfl (vcmp (va rfl m_k h1) rfl (ceq b2))) (fin (.inr (eq_of_beq b2)))
    | false =>
      refine tf0 (lI (vcmp (va rfl m_k h1) rfl (ceq b1)) rfl (vcmp (va rfl m_k h1) rfl (ceq b2))) (tretp rfl ?_)
      exact ⟨rfl,⟨m_sp,m_stk,⟨sl,m_s⟩,m_nm,⟨_,m_od,len2⟩,hsm2,S.d1,S.d2,S.d3,S.d4,S.d5,S.d6,S.d7,S.d8,S.d9⟩,m_len,⟨.none,m_k.trans (by rw [if_neg (fun q=>q.elim (ne_of_beq_false b1) (ne_of_beq_false b2))])⟩,m_kp⟩
end
theorem Kp.at {X:List Nat} {m m':Mem} {k:Nat} {o:MO} (h:Kp X m m') (hm:m[k]? = some o) (hk:k ∉ X):m'[k]? = some o:=h.keep k o hm hk
theorem Sco.kp {m m':Mem} {sp stk s nm od:Nat} {ty a b:V} {mo:Str} {lv:Int} {pre:List V} {es:List (Str × V)} {X:List Nat} (S:Sco m sp stk s nm od ty a b mo lv pre es) (k:Kp X m m') (hX:∀ i ∈ [sp,stk,s,nm,od],i ∉ X):Sco m' sp stk s nm od ty a b mo lv pre es:=by
  obtain ⟨sl,hs⟩:=S.hs
  refine e1a2 S.hod fun os ho hl=>?_
  exact ⟨k.at S.hsp (hX _ (.head _)),k.at S.hstk (hX _ (.tail _ (.head _))),⟨sl,k.at hs (hX _ (.tail _ (.tail _ (.head _))))⟩,k.at S.hnm (hX _ (.tail _ (.tail _ (.tail _ (.head _))))),⟨os,k.at ho (hX _ (.tail _ (.tail _ (.tail _ (.tail _ (.head _)))))),hl⟩,S.small,S.d1,S.d2,S.d3,S.d4,S.d5,S.d6,S.d7,S.d8,S.d9⟩
theorem iQ.kp {m m':Mem} {X:List Nat} {k:Nat} {kind:Str} {ty val:V} (o:iQ m k kind ty val) (h:Kp X m m') (hk:k ∉ X):iQ m' k kind ty val:=by
  refine e1a2 o fun fs h1 r=>?_
  exact ⟨fs,h.at h1 hk,r⟩
section
variable {T:CT} {K:Frag} {hZ:Heap} {n:Nat} {mem:Mem}
theorem vbi1b {loc:Locs} {f:BI} {a b:PE} {x y v:V} (ha:evP mem loc a = some x) (hb:evP mem loc b = some y) (h:biV mem f [x,y] = some v):evP mem loc (.bi f [a,b]) = some v:=by rw [v_bi,aDf,ha,Option.bind_some,aDf,hb]; exact h
theorem aCv (F:Facts K) (St:Stat T K hZ) {sp stk s nm od:Nat} {ty a b t:V} {mo:Str} {lv:Int} {pre:List V} {es:List (Str × V)} {name kind:Str} (S:Sco mem sp stk s nm od ty a b mo lv pre es) (hn:look name es = none) (hsm:es.length + 1 ≤ 500) :
    aA T K hZ (n + 3) (.ref 1170) [.ref sp,.str name,.str kind,t,.int 0] mem (fun v m=>v = .ref mem.length∧Sco m sp stk s nm od ty a b mo lv pre (es ++ [(name,.ref mem.length)])∧iQ m mem.length kind t .none∧m.length = mem.length + 1∧Kp [nm,od,s] mem m):=by
  refine aA.gen fun Q hQ=>?_
  refine F.ok_mScopes_insert.sem T hZ (n + 2) _ _ _ St rfl ?_
  obtain ⟨sl,hs⟩:=S.hs
  refine e1a2 S.hod fun od' ho hl=>?_
  refine casg isObj (isc rfl (isc rfl (is2 rfl rfl))) (con_Obj F St _ _ _ _) ?_
  rintro v m ⟨rfl,rfl⟩
  have q_sp:∀ o:MO,(mem ++ [o])[sp]? = some (.inst .scopes [ty,.str mo,.ref stk,.int lv]):=fun o=>hY S.hsp
  have rest:∀ (l mod:V),wpSs T K hZ (n + 2) [some (.ref sp),some (.str name),some (.str kind),some t,some (.int 0),some (.ref mem.length)] [.ite (.notE (.meth (.p (.loc 0)) .a_add [(.p (.loc 5))])) [.ret (.p (.cst .none))] [],.ret (.p (.loc 5))] (mem ++ [.inst .obj [.str name,.str kind,t,.int 0,.bool false,.bool false,l,mod,.none,.int 0,.int 0,.int 0,.bool false,.none]]) (fun x m=>Q .none m) Q (fun _ _=>False):=by
    intro l mod
    have S2:Sco (mem ++ [.inst .obj [.str name,.str kind,t,.int 0,.bool false,.bool false,l,mod,.none,.int 0,.int 0,.int 0,.bool false,.none]]) sp stk s nm od ty a b mo lv pre es:=S.kp (X:=[]) Kp.push fun _ _=>nin0
    have gt:∀ {k:Nat} {o:MO},mem[k]? = some o→mem.length ≠ k:=fun h=>Nat.ne_of_gt (cA h)
    refine tite (xnot (xmeth rfl (mkm (q_sp _) rfl) (is1 rfl) (con_add (n:=n + 1) F St S2 (k:=mem.length) bR rfl rfl rfl hn ⟨gt S.hnm,gt ho,gt hs,gt S.hsp,gt S.hstk⟩ hsm) ?_))
    rintro v m ⟨rfl,S3,hlen,⟨slv,hk⟩,K3⟩
    refine os rfl (brf rfl (tnil (tretp rfl (hQ _ _ ⟨rfl,S3,⟨_,hk,?_⟩,hlen.trans List.length_append,⟨Nat.le_trans (Kp.push (X:=[])).len (Nat.le_of_eq hlen.symm),fun k o h hX=>K3.keep k o (hY h) fun q=>?_⟩⟩))))
    · split
      · exact ⟨rfl,rfl,rfl,rfl,rfl⟩
      · exact ⟨rfl,rfl,rfl,rfl,rfl⟩
    · rcases List.mem_append.mp (show k ∈ [nm,od,s] ++ [mem.length] from q) with q | q
      · exact hX q
      · exact Nat.ne_of_lt (cA h) (List.mem_singleton.mp q)
  refine tput rfl bR (vbi1b (va rfl (q_sp _) rfl) rfl bi_max) rfl ?_
  rw [pM]
  by_cases hlv:0 ≤ lv
  · refine tt (vcmp (va rfl (q_sp _) rfl) rfl (congrArg some (decide_eq_true hlv))) (tput rfl bR (va rfl (q_sp _) rfl) rfl ?_)
    rw [pM]
    exact tnil (rest _ _)
  · exact tf0 (vcmp (va rfl (q_sp _) rfl) rfl (congrArg some (decide_eq_false hlv))) (rest _ _)
theorem lN {x:Str}:∀ {es:List (Str × V)},x ∉ es.map (·.1)→look x es = none
  | [],_=>rfl
  | (y,v) :: r,h=>by
    exact (if_neg fun (q:y = x)=>h (q ▸ .head _)).trans (lN fun q=>h (.tail _ q))
theorem wI {x:Str} {v:V}:∀ {es:List (Str × V)} {r:List (Str × V)},look x es = some v→look x (es ++ r) = some v
  | [],r,h=>by cases h
  | (y,w) :: es,r,h=>by
    by_cases q:y = x
    · exact (if_pos q).trans ((if_pos q).symm.trans h)
    · exact (if_neg q).trans (wI ((if_neg q).symm.trans h))
theorem sS {x:Str} {v:V}:∀ {es:List (Str × V)},look x es = none→look x (es ++ [(x,v)]) = some v
  | [],h=>if_pos rfl
  | (y,w) :: es,h=>by
    by_cases q:y = x
    · cases (if_pos q).symm.trans h
    · exact (if_neg q).trans (sS ((if_neg q).symm.trans h))
structure FI (m:Mem) (sp stk s nm od:Nat) (ty a b:V) (mo:Str) (lv:Int) (pre:List V) (names:List String):Prop where
  out:∃ es,Sco m sp stk s nm od ty a b mo lv pre es∧es.map (·.1) = names.map Str.ofString
theorem rB (F:Facts K) (St:Stat T K hZ) {sp stk s nm od:Nat} {ty a b t:V} {mo:Str} {lv:Int} {pre:List V} {names:List String} {name kind:String} (S:FI mem sp stk s nm od ty a b mo lv pre names) (hn:name ∉ names) (hsm:names.length ≤ 100) :
    aA T K hZ (n + 3) (.ref 1170) [.ref sp,.str (Str.ofString name),.str (Str.ofString kind),t,.int 0] mem (fun v m=>v = .ref mem.length∧FI m sp stk s nm od ty a b mo lv pre (names ++ [name])∧(∃ es,m[nm]? = some (.sdict es)∧look (Str.ofString name) es = some (.ref mem.length)∧∀ x w,(∃ es0,mem[nm]? = some (.sdict es0)∧look x es0 = some w)→look x es = some w)∧iQ m mem.length (Str.ofString kind) t .none∧m.length = mem.length + 1∧Kp [nm,od,s] mem m):=by
  refine e1a2 S.out fun es S hes=>?_
  have hno:look (Str.ofString name) es = none:=by
    refine lN ?_
    rw [hes]
    intro q
    refine e1a2 (List.mem_map.mp q) fun y hy e=>?_
    rw [jH] at e
    subst e
    exact hn hy
  have hl:es.length = names.length:=by have h:=congrArg List.length hes; rw [List.length_map,List.length_map] at h; exact h
  refine (aCv F St S hno (by rw [hl]; exact Nat.le_trans (Nat.succ_le_succ hsm) (by decide))).mono ?_
  intro v m hq
  refine e0a5 hq fun e0q S2 o l k=>?_
  subst e0q
  refine ⟨rfl,⟨_,S2,by rw [List.map_append,List.map_append,hes]; rfl⟩,⟨_,S2.hnm,sS hno,?_⟩,o,l,k⟩
  intro x w hq
  refine e1a2 hq fun es0 h0 hx=>?_
  rw [S.hnm] at h0
  cases h0
  exact wI hx
end
section
variable {T:CT} {K:Frag} {hZ:Heap} {n:Nat} {mem:Mem}
theorem FI.kp {m m':Mem} {sp stk s nm od:Nat} {ty a b:V} {mo:Str} {lv:Int} {pre:List V} {names:List String} {X:List Nat} (S:FI m sp stk s nm od ty a b mo lv pre names) (k:Kp X m m') (hX:∀ i ∈ [sp,stk,s,nm,od],i ∉ X):FI m' sp stk s nm od ty a b mo lv pre names:=by
  refine e1a2 S.out fun es S h=>?_
  exact ⟨es,S.kp k hX,h⟩
structure FS (m0 m:Mem) (sp stk s nm od bo:Nat) (ty a b:V) (mo:Str) (lv:Int) (pre:List V) (names:List String) (tru:Option Nat):Prop where
  fi:FI m sp stk s nm od ty a b mo lv pre names
  kp:Kp [nm,od,s] m0 m
  low:sp < m0.length∧stk < m0.length∧s < m0.length∧nm < m0.length∧od < m0.length
  tr:∀ k,tru = some k→(∃ es,m[nm]? = some (.sdict es)∧look (Str.ofString "TRUE") es = some (.ref k))∧iQ m k (Str.ofString "const") (.ref bo) (.int 1)∧m0.length ≤ k
variable {m0:Mem} {sp stk s nm od bo:Nat} {ty a b t:V} {mo:Str} {lv:Int} {pre:List V} {names:List String} {tru:Option Nat}
theorem FS.ins (F:Facts K) (St:Stat T K hZ) {name kind:String} (S:FS m0 mem sp stk s nm od bo ty a b mo lv pre names tru) (hn:name ∉ names) (hsm:names.length ≤ 100) {Q:V→Mem→Prop}
    (hQ:∀ m,FS m0 m sp stk s nm od bo ty a b mo lv pre (names ++ [name]) tru→iQ m mem.length (Str.ofString kind) t .none→m0.length ≤ mem.length→(∃ es,m[nm]? = some (.sdict es)∧look (Str.ofString name) es = some (.ref mem.length))→(∀ k,tru = some k→k ≠ mem.length)→Q (.ref mem.length) m) :
    aA T K hZ (n + 3) (.ref 1170) [.ref sp,.str (Str.ofString name),.str (Str.ofString kind),t,.int 0] mem Q:=by
  refine (rB F St S.fi hn hsm).mono ?_
  rintro v m ⟨rfl,h1,⟨es,h2,h3,h4⟩,h5,h6,h7⟩
  refine hQ m ⟨h1,S.kp.trans h7,S.low,fun k hk=>?_⟩ h5 S.kp.len ⟨es,h2,h3⟩ ?_
  · obtain ⟨⟨es0,e1,e2⟩,o,l⟩:=S.tr k hk
    refine e0a5 S.low fun _ _ a b c=>?_
    exact ⟨⟨es,h2,h4 _ _ ⟨es0,e1,e2⟩⟩,o.kp h7 (nin3 (Nat.ne_of_gt (Nat.lt_of_lt_of_le b l)) (Nat.ne_of_gt (Nat.lt_of_lt_of_le c l)) (Nat.ne_of_gt (Nat.lt_of_lt_of_le a l))),l⟩
  · intro k hk q
    obtain ⟨_,⟨fs,e,_⟩,_⟩:=S.tr k hk
    exact Nat.lt_irrefl _ (q ▸ cA e)
theorem FS.setNew {k:Nat} {o:MO} (S:FS m0 mem sp stk s nm od bo ty a b mo lv pre names tru) (hk:m0.length ≤ k) (ht:∀ j,tru = some j→j ≠ k):FS m0 (mem.set k o) sp stk s nm od bo ty a b mo lv pre names tru:=by
  refine e0a5 S.low fun l1 l2 l3 l4 l5=>?_
  have K1:Kp [k] mem (mem.set k o):=Kp.set (.head _)
  have ne:∀ {i:Nat},i < m0.length→i ∉ [k]:=fun h=>nin1 (Nat.ne_of_lt (Nat.lt_of_lt_of_le h hk))
  refine ⟨S.fi.kp K1 fun i hi=>?_,S.kp.setNew hk,S.low,fun j hj=>?_⟩
  · rcases List.mem_cons.mp hi with rfl | hi
    · exact ne l1
    rcases List.mem_cons.mp hi with rfl | hi
    · exact ne l2
    rcases List.mem_cons.mp hi with rfl | hi
    · exact ne l3
    rcases List.mem_cons.mp hi with rfl | hi
    · exact ne l4
    exact List.mem_singleton.mp hi ▸ ne l5
  · obtain ⟨⟨es0,e1,e2⟩,ob,l⟩:=S.tr j hj
    exact ⟨⟨es0,K1.at e1 (ne l4),e2⟩,ob.kp K1 (nin1 (ht j hj)),l⟩
theorem qD {k:Nat} {kind:Str} {t v0 val:V} {q:Mem→Prop} (o:iQ mem k kind t v0) (h:∀ x,iQ (mem.set k x) k kind t val→q (mem.set k x)):dY (.ref k) .aX val mem q:=by
  refine e1a6 o fun fs h1 h2 h3 h4 h5 h6=>?_
  refine pa (fs':=fs.set 8 val) h1 (by show (if 8 < fs.length then _ else _) = _; rw [h6]; rfl) (h _ ⟨_,eI h1,?_,?_,?_,?_,?_⟩)
  · rw [List.getElem?_set_ne (by decide)]; exact h2
  · rw [List.getElem?_set_ne (by decide)]; exact h3
  · rw [List.getElem?_set_self (by rw [h6]; decide)]
  · rw [List.getElem?_set_ne (by decide)]; exact h5
  · rw [List.length_set]; exact h6
theorem con_stdf (F:Facts K) (St:Stat T K hZ):aA T K hZ (n + 1) A.std_functions [] mem (fun v m=>v = .tup (["ABS", "ODD", "LEN", "LSL", "ASR", "ROR", "ORD", "CHR"].map fun s=>.str (Str.ofString s))∧m = mem):=by
  refine F.ok_std_functions.sem T hZ n _ _ _ St rfl ?_
  exact tretp rfl ⟨rfl,rfl⟩
theorem con_stdp (F:Facts K) (St:Stat T K hZ):aA T K hZ (n + 1) A.std_procedures [] mem (fun v m=>v = .tup (["INC", "DEC", "INCL", "EXCL", "NEW", "ASSERT"].map fun s=>.str (Str.ofString s))∧m = mem):=by
  refine F.ok_std_procedures.sem T hZ n _ _ _ St rfl ?_
  exact tretp rfl ⟨rfl,rfl⟩
noncomputable def fbody:List IS:=[.attr (.meth (.p (.loc 0)) .cV [(.p (.loc 2)),(.p (.cst (.str (Str.ofString "std")))),(.p (.attr (.loc 1) .tJ)),(.p (.cst (.int 0)))]) .aX (.p (.loc 2))]
theorem xB (F:Facts K) (St:Stat T K hZ) {tyn:Nat} {c:Int} {kn v0 v1 v2 v3 v4 v5 v6:V} (ht:m0[tyn]? = some (.inst .types [.int c,kn,v0,v1,v2,v3,v4,v5,v6])) (hty:tyn ≠ nm∧tyn ≠ od∧tyn ≠ s) {post:V→Mem→Prop} {kk:Locs→Mem→Prop} {all names0:List String} (hnd:(names0 ++ all).Nodup) (hsm:(names0 ++ all).length ≤ 100)
    (hkk:∀ m l2,FS m0 m sp stk s nm od bo ty a b mo lv pre (names0 ++ all) tru→kk [some (.ref sp),some (.ref tyn),l2] m) :
    ∀ (rest pr:List String) (m:Mem) (l2:Option V),all = pr ++ rest→FS m0 m sp stk s nm od bo ty a b mo lv pre (names0 ++ pr) tru →
      forW T K hZ (n + 3) 2 fbody post (.vals (all.map fun s=>.str (Str.ofString s))) (rest.length + 1) pr.length [some (.ref sp),some (.ref tyn),l2] m kk
  | [],pr,m,l2,e,S=>by
    rw [List.append_nil] at e
    subst e
    exact fA (congrArg some (List.getElem?_eq_none (Nat.le_of_eq (List.length_map ..)))) (hkk m l2 S)
  | x :: rest,pr,m,l2,e,S=>by
    refine cB (x:=.str (Str.ofString x)) (congrArg some (by rw [e,List.map_append,List.getElem?_append_right (Nat.le_of_eq (List.length_map ..)),List.length_map,Nat.sub_self]; rfl)) ?_
    refine e1a2 S.fi.out fun es S1 hes=>?_
    have hsp:=S1.hsp
    have ht':=S.kp.at ht (nin3 hty.1 hty.2.1 hty.2.2)
    have hn:x ∉ names0 ++ pr:=by
      rw [e,← List.append_assoc] at hnd
      exact fun q=>(List.nodup_append.mp hnd).2.2 x q x (.head _) rfl
    refine tattr (xp rfl (xmeth rfl (mkm hsp rfl) (isc rfl (isc rfl (is2 (va rfl ht' rfl) rfl))) (FS.ins F St S hn ?_ fun m2 S2 o2 hl _ htr=>?_) fun _ _ h=>h))
    · refine Nat.le_trans ?_ hsm
      rw [e,List.length_append,List.length_append,List.length_append]
      exact Nat.add_le_add_left (Nat.le_add_right _ _) _
    refine qD o2 fun y _=>tnil ?_
    have z:=xB (post:=post) F St ht hty hnd hsm hkk rest (pr ++ [x]) (m2.set m.length y) (some (.str (Str.ofString x))) (by rw [e,List.append_assoc]; rfl) (by rw [← List.append_assoc]; exact S2.setNew hl htr)
    rw [List.length_append] at z
    exact z
theorem isStdf:isFun A.std_functions = true:=by decide
theorem isStdp:isFun A.std_procedures = true:=by decide
noncomputable def tW:List String:=["ABS", "ODD", "LEN", "LSL", "ASR", "ROR", "ORD", "CHR", "INC", "DEC", "INCL", "EXCL", "NEW", "ASSERT"]
noncomputable def kP:List String:=["BOOLEAN", "CHAR", "BYTE", "INTEGER", "SET", "FALSE", "TRUE"] ++ tW
theorem names_nd:(["BOOLEAN", "CHAR", "BYTE", "INTEGER", "SET", "FALSE", "TRUE"] ++ tW).Nodup:=by decide
theorem con_fill (F:Facts K) (St:Stat T K hZ) {tyn:Nat} {c:Int} {kn v1 v2 v3 v4 v5 v6:V} (S:FS mem mem sp stk s nm od bo (.ref tyn) a b mo lv pre [] none) (ht:mem[tyn]? = some (.inst .types [.int c,kn,.ref bo,v1,v2,v3,v4,v5,v6])) (hty:tyn ≠ nm∧tyn ≠ od∧tyn ≠ s) :
    aA T K hZ (n + 4) (.ref 1205) [.ref sp] mem (fun v m=>∃ k,FS mem m sp stk s nm od bo (.ref tyn) a b mo lv pre kP (some k)):=by
  refine F.ok_fill.sem T hZ (n + 3) _ _ _ St rfl ?_
  generalize hm0:mem = m0' at S ht ⊢
  have tyat:∀ {m:Mem} {ns:List String} {tr:Option Nat},FS m0' m sp stk s nm od bo (.ref tyn) a b mo lv pre ns tr→m[sp]? = some (.inst .scopes [.ref tyn,.str mo,.ref stk,.int lv])∧m[tyn]? = some (.inst .types [.int c,kn,.ref bo,v1,v2,v3,v4,v5,v6]):=by
    intro m ns tr S
    refine e1a2 S.fi.out fun es S1 _=>?_
    exact ⟨S1.hsp,S.kp.at ht (nin3 hty.1 hty.2.1 hty.2.2)⟩
  have q1:=(tyat S).1
  walk_at "st"
  have q1:=(tyat S).1
  have q2:=(tyat S).2
  refine mexpr rfl (mkm q1 rfl) (by walk_at "evs") (FS.ins F St S (by decide) (by decide) fun m S _ _ _ _=>?_) fun _ _ h=>h
  have q1:=(tyat S).1
  have q2:=(tyat S).2
  refine mexpr rfl (mkm q1 rfl) (by walk_at "evs") (FS.ins F St S (by decide) (by decide) fun m S _ _ _ _=>?_) fun _ _ h=>h
  have q1:=(tyat S).1
  have q2:=(tyat S).2
  refine mexpr rfl (mkm q1 rfl) (by walk_at "evs") (FS.ins F St S (by decide) (by decide) fun m S _ _ _ _=>?_) fun _ _ h=>h
  have q1:=(tyat S).1
  have q2:=(tyat S).2
  refine mexpr rfl (mkm q1 rfl) (by walk_at "evs") (FS.ins F St S (by decide) (by decide) fun m S _ _ _ _=>?_) fun _ _ h=>h
  have q1:=(tyat S).1
  have q2:=(tyat S).2
  refine mexpr rfl (mkm q1 rfl) (by walk_at "evs") (FS.ins F St S (by decide) (by decide) fun m S _ _ _ _=>?_) fun _ _ h=>h
  have q1:=(tyat S).1
  have q2:=(tyat S).2
  refine tattr (xp rfl (xmeth rfl (mkm q1 rfl) (by walk_at "evs") (FS.ins F St S (by decide) (by decide) fun m2 S2 o2 hl _ htr=>?_) fun _ _ h=>h))
  refine qD o2 fun y _=>?_
  have S:=S2.setNew (o:=y) hl htr
  generalize m2.set m.length y = m3 at S ⊢
  have q1:=(tyat S).1
  have q2:=(tyat S).2
  refine tattr (xp rfl (xmeth rfl (mkm q1 rfl) (by walk_at "evs") (FS.ins F St S (by decide) (by decide) fun m4 S4 o4 hl4 hlk htr=>?_) fun _ _ h=>h))
  refine qD o4 fun y o5=>?_
  have S5:=S4.setNew (o:=y) hl4 htr
  have S6:FS m0' (m4.set m3.length y) sp stk s nm od bo (.ref tyn) a b mo lv pre ["BOOLEAN", "CHAR", "BYTE", "INTEGER", "SET", "FALSE", "TRUE"] (some m3.length):=by
    refine ⟨S5.fi,S5.kp,S5.low,fun k hk=>?_⟩
    cases hk
    refine e1a2 hlk fun es h1 h2=>?_
    exact ⟨⟨es,aY h1 (Nat.ne_of_gt (Nat.lt_of_lt_of_le S5.low.2.2.2.1 hl4)),h2⟩,o5,hl4⟩
  generalize m4.set m3.length y = m7 at S6 ⊢
  rw [bX,oP,it_of]
  refine xbin (xcall isStdf is0 (con_stdf F St) ?_)
  rintro v m ⟨rfl,rfl⟩
  refine xcall isStdp is0 (con_stdp F St) ?_
  rintro v m ⟨rfl,rfl⟩
  refine os rfl ⟨15,?_⟩
  have z:=xB (T:=T) (K:=K) (hZ:=hZ) (n:=n) (post:=fun v m_1=>∃ k,FS m0' m_1 sp stk s nm od bo (.ref tyn) a b mo lv pre kP (some k)) (kk:=fun l m_1=>wpSs T K hZ (n + 3) l [] m_1 (fun _ m=>∃ k,FS m0' m sp stk s nm od bo (.ref tyn) a b mo lv pre kP (some k)) (fun _ m=>∃ k,FS m0' m sp stk s nm od bo (.ref tyn) a b mo lv pre kP (some k)) (fun _ _=>False)) F St ht hty (all:=tW) (names0:=["BOOLEAN", "CHAR", "BYTE", "INTEGER", "SET", "FALSE", "TRUE"]) names_nd (by decide) (fun m l2 S=>tnil ⟨m3.length,S⟩) _ [] m none rfl S6
  exact z
end
section
variable {T:CT} {K:Frag} {hZ:Heap} {n:Nat} {mem:Mem}
theorem isScan:isFun A.cScanner = true:=by decide
theorem isScopes:isFun A.cScopes = true:=by decide
theorem isFill:isFun A.fill = true:=by decide
structure RdM (mem m:Mem) (src:Str) (tyn er bo:Nat) (tok:V) (p':Nat):Prop where
  kp:Kp [] mem m
  rd:∃ r6 r7 r8,m[mem.length]? = some (.inst .reader [.ref (mem.length + 1),.ref tyn,.ref er,.none,.ref (mem.length + 2),.str (Str.ofString ""),r6,r7,r8,.int 0,tok])
  sc:m[mem.length + 1]? = some (.inst .scanner [.str src,.ref er,.int p',keyV])
  fi:FI m (mem.length + 2) (mem.length + 6) (mem.length + 3) (mem.length + 4) (mem.length + 5) (.ref tyn) (.int (-1)) (.str (Str.ofString "")) (Str.ofString "") (-1) [] kP
  tr:∃ k es,m[mem.length + 4]? = some (.sdict es)∧look (Str.ofString "TRUE") es = some (.ref k)∧iQ m k (Str.ofString "const") (.ref bo) (.int 1)∧mem.length + 7 ≤ k
structure RdS (mem m:Mem) (src:Str) (tyn er bo k:Nat) (es:List (Str × V)) (fs:List V):Prop where
  kp:Kp [] mem m
  rd:m[mem.length]? = some (.inst .reader fs)
  sc:m[mem.length + 1]? = some (.inst .scanner [.str src,.ref er,.int 0,keyV])
  fi:FI m (mem.length + 2) (mem.length + 6) (mem.length + 3) (mem.length + 4) (mem.length + 5) (.ref tyn) (.int (-1)) (.str (Str.ofString "")) (Str.ofString "") (-1) [] kP
  tr:m[mem.length + 4]? = some (.sdict es)
  ob:iQ m k (Str.ofString "const") (.ref bo) (.int 1)
  len:mem.length + 7 ≤ m.length
theorem ads {l x:Nat} (h:∀ i ∈ [2,6,3,4,5],i ≠ x):∀ i ∈ [l + 2,l + 6,l + 3,l + 4,l + 5],i ∉ [l + x]:=fun i hi=>by
  refine e1a2 (List.mem_map (f:=fun j=>l + j) (l:=[2,6,3,4,5]).mp hi) fun j hj e0q=>?_
  subst e0q
  exact nin1 (cU (h j hj))
theorem RdS.put {m:Mem} {src:Str} {tyn er bo k:Nat} {es:List (Str × V)} {fs:List V} (S:RdS mem m src tyn er bo k es fs) (hk:mem.length + 7 ≤ k) (fs':List V) (j:Mem):RdS mem ((m ++ j).set mem.length (.inst .reader fs')) src tyn er bo k es fs':=by
  have k1:Kp [mem.length] m ((m ++ j).set mem.length (.inst .reader fs')):=(Kp.push (X:=[mem.length])).trans (Kp.set (.head _))
  exact ⟨(S.kp.trans Kp.push).setNew (Nat.le_refl _),eI (hY S.rd),k1.at S.sc (nin1 dO),S.fi.kp k1 (ads (x:=0) (by decide)),k1.at S.tr (nin1 dO),S.ob.kp k1 (nin1 (Nat.ne_of_gt (Nat.lt_of_lt_of_le (Nat.lt_add_of_pos_right (by decide)) hk))),Nat.le_trans S.len k1.len⟩
section
variable {m:Mem} {src:Str} {tyn er bo k:Nat} {es:List (Str × V)} {fs fs':List V} {loc:Locs} {a:At} {e:PE} {v:V} {r:List IS} {kl:Locs→Mem→Prop} {kr:V→Mem→Prop} {kb:Locs→Mem→Prop}
theorem rd_p (S:RdS mem m src tyn er bo k es fs) (hk:mem.length + 7 ≤ k) (h0:loc[0]? = some (some (.ref mem.length))) (he:evP m loc e = some v) (hf:putF .reader fs a v = some fs') (H:∀ m2,RdS mem m2 src tyn er bo k es fs'→wpSs T K hZ n loc r m2 kl kr kb):wpSs T K hZ n loc (.attr (.p (.loc 0)) a (.p e) :: r) m kl kr kb:=by
  have z:=S.put hk fs' []
  rw [List.append_nil] at z
  exact tput (by rw [tR,h0]; rfl) S.rd he hf (H _ z)
theorem rd_l (S:RdS mem m src tyn er bo k es fs) (hk:mem.length + 7 ≤ k) (h0:loc[0]? = some (some (.ref mem.length))) (hf:putF .reader fs a (.ref m.length) = some fs') (H:∀ m2,RdS mem m2 src tyn er bo k es fs'→wpSs T K hZ n loc r m2 kl kr kb):wpSs T K hZ n loc (.attr (.p (.loc 0)) a (.lstM []) :: r) m kl kr kb :=
  tattr (jB rfl (Nat.zero_le _) (xp (by rw [tR,h0]; rfl) (pa (hY S.rd) hf (H _ (S.put hk fs' _)))))
end
theorem rD (F:Facts K) (St:Stat T K hZ) {src:Str} {tyn er bo:Nat} {c:Int} {kn v1 v2 v3 v4 v5 v6 tok:V} {p':Nat} (ht:mem[tyn]? = some (.inst .types [.int c,kn,.ref bo,v1,v2,v3,v4,v5,v6])) (hT:Takes src 0 tok p') :
    aA T K hZ (n + 6) (.ref 1220) [.ref mem.length,.str src,.ref tyn,.ref er] (mem ++ [.inst .reader []]) (fun v m=>v = .none∧RdM mem m src tyn er bo tok p'):=by
  refine F.ok_mReader_init_d.sem T hZ (n + 5) _ _ _ St rfl ?_
  refine tattr (xcall isScan (by walk_at "evs") (aAa F St _ _) ?_)
  rintro v m ⟨rfl,rfl⟩
  rw [iE,nG]
  refine xp rfl (pl rfl ?_)
  walk_at "sf"
  walk_at "sf"
  walk_at "sf"
  refine tattr (xcall isScopes (by walk_at "evs") (aCw F St _ _) ?_)
  rintro v m ⟨rfl,rfl⟩
  rw [iE,nG]
  refine xp rfl (pl rfl ?_)
  generalize hM:mem ++ MO.inst .reader _ :: _ = M
  have g0:M[mem.length]? = some (.inst .reader [.ref (mem.length + 1),.ref tyn,.ref er,.none,.ref (mem.length + 2)]):=by rw [← hM]; exact bR
  have g1:M[mem.length + 1]? = some (.inst .scanner [.str src,.ref er,.int 0,keyV]):=by rw [← hM]; exact cM
  have g2:M[mem.length + 2]? = some (.inst .scopes [.ref tyn,.str (Str.ofString ""),.ref (mem.length + 6),.int (-1)]):=by rw [← hM]; exact cM
  have g3:M[mem.length + 3]? = some (.inst .scope [.int (-1),.str (Str.ofString ""),.ref (mem.length + 4),.ref (mem.length + 5),.int 0]):=by rw [← hM]; exact cM
  have g4:M[mem.length + 4]? = some (.sdict []):=by rw [← hM]; exact cM
  have g5:M[mem.length + 5]? = some (.lst []):=by rw [← hM]; exact cM
  have g6:M[mem.length + 6]? = some (.lst [.ref (mem.length + 3)]):=by rw [← hM]; exact cM
  have ML:mem.length + 7 ≤ M.length:=cA g6
  have old:Kp [] mem M:=by rw [← hM]; exact Kp.push
  clear hM
  have ht2:=old.at ht nin0
  have lt {i:Nat} (h:i < 7):mem.length + i < M.length:=Nat.lt_of_lt_of_le (Nat.add_lt_add_left h _) ML
  have S0:FS M M (mem.length + 2) (mem.length + 6) (mem.length + 3) (mem.length + 4) (mem.length + 5) bo (.ref tyn) (.int (-1)) (.str (Str.ofString "")) (Str.ofString "") (-1) [] [] none :=
    ⟨⟨[],⟨g2,g6,⟨0,g3⟩,g4,⟨[],g5,rfl⟩,Nat.zero_le _,cU (by decide),cU (by decide),cU (by decide),cU (by decide),cU (by decide),cU (by decide),cU (by decide),cU (by decide),cU (by decide)⟩,rfl⟩,Kp.refl _ _,⟨lt (by decide),lt (by decide),lt (by decide),lt (by decide),lt (by decide)⟩,fun k hk=>by cases hk⟩
  have lty:=cA ht
  refine cexpr isFill (is1 (va rfl g0 rfl)) (con_fill (n:=n + 1) F St S0 ht2 ⟨gO lty,gO lty,gO lty⟩) ?_
  rintro v m ⟨k,S1⟩
  obtain ⟨⟨es,t1,t2⟩,t3,t4⟩:=S1.tr k rfl
  have htk:mem.length + 7 ≤ k:=Nat.le_trans ML t4
  have S:RdS mem m src tyn er bo k es _:=⟨⟨Nat.le_trans old.len S1.kp.len,fun j o h _=>S1.kp.at (old.at h nin0) (nin3 (gO (cA h)) (gO (cA h)) (gO (cA h)))⟩,S1.kp.at g0 (nin3 dO.symm dO.symm dO.symm),S1.kp.at g1 (nin3 (cU (by decide)) (cU (by decide)) (cU (by decide))),S1.fi,t1,t3,Nat.le_trans ML S1.kp.len⟩
  clear S1 S0 g0 g1 g2 g3 g4 g5 g6 old ht2 ML
  refine rd_p S htk rfl rfl rfl fun m2 S=>?_
  refine rd_l S htk rfl rfl fun m3 S=>?_
  refine rd_l S htk rfl rfl fun m4 S=>?_
  refine rd_l S htk rfl rfl fun m5 S=>?_
  refine rd_p S htk rfl rfl rfl fun m6 S=>?_
  refine tattr (xmeth (va rfl S.rd rfl) (mkm S.sc rfl) is0 (hT T K hZ n m6 (mem.length + 1) (.ref er) F St S.sc) ?_)
  rintro v m7 ⟨rfl,j,rfl⟩
  have k7:Kp [mem.length + 1] m6 (scan m6 (mem.length + 1) src (.ref er) p' keyV ++ j):=(Kp.set (.head _)).trans Kp.push
  have sc7:(scan m6 (mem.length + 1) src (.ref er) p' keyV ++ j)[mem.length + 1]? = some (.inst .scanner [.str src,.ref er,.int p',keyV]):=hY (scan_get S.sc)
  have b7:=k7.at S.rd (nin1 dO.symm)
  refine xp rfl (pa b7 rfl (tnil ?_))
  have k8:=k7.more (Y:=[mem.length,mem.length + 1]) fun i hi=>.tail _ hi
  have k9:=fun o=>k8.trans (Kp.set (o:=o) (i:=mem.length) (.head _))
  clear k7 k8
  have ne {i:Nat} (h:i + 1 ≠ 0) (h2:i + 1 ≠ 1):mem.length + (i + 1) ∉ [mem.length,mem.length + 1]:=nin2 dO (cU h2)
  refine ⟨rfl,⟨Nat.le_trans S.kp.len (k9 _).len,fun i o h _=>(k9 _).at (S.kp.at h nin0) (nin2 (Nat.ne_of_lt (cA h)) (gO (cA h)))⟩,⟨_,_,_,eI b7⟩,aY sc7 dO.symm,S.fi.kp (k9 _) fun i hi=>?_,⟨k,es,(k9 _).at S.tr (nin2 dO (cU (by decide))),t2,S.ob.kp (k9 _) (nin2 (Nat.ne_of_gt (Nat.lt_of_lt_of_le (Nat.lt_add_of_pos_right (by decide)) htk)) (Nat.ne_of_gt (Nat.lt_of_lt_of_le (Nat.add_lt_add_left (by decide) _) htk))),htk⟩⟩
  exact ninc (fun q=>ads (l:=mem.length) (x:=0) (by decide) i hi (List.mem_singleton.mpr q)) (ads (by decide) i hi)
theorem aCx (F:Facts K) (St:Stat T K hZ) {src:Str} {tyn er bo:Nat} {c:Int} {kn v1 v2 v3 v4 v5 v6 tok:V} {p':Nat} (ht:mem[tyn]? = some (.inst .types [.int c,kn,.ref bo,v1,v2,v3,v4,v5,v6])) (hT:Takes src 0 tok p') :
    aA T K hZ (n + 7) A.cReader [.str src,.ref tyn,.ref er] mem (fun v m=>v = .ref mem.length∧RdM mem m src tyn er bo tok p') :=
  gB St F.mk_reader (rD F St ht hT)
theorem con_open (F:Facts K) (St:Stat T K hZ) {sp stk s nm od:Nat} {ty a b:V} {mo:Str} {names:List String} (S:FI mem sp stk s nm od ty a b mo (-1) [] names) :
    aA T K hZ (n + 3) (.ref 1142) [.ref sp,.str (Str.ofString "")] mem (fun v m=>FI m sp stk mem.length (mem.length + 1) (mem.length + 2) ty (.int 0) (.str (Str.ofString "")) mo 0 [.ref s] []∧Kp [sp,stk] mem m∧m.length = mem.length + 3∧(∃ sl es,m[s]? = some (.inst .scope [a,b,.ref nm,.ref od,.int sl])∧m[nm]? = some (.sdict es))):=by
  refine F.ok_mScopes_open.sem T hZ (n + 2) _ _ _ St rfl ?_
  refine e1a2 S.out fun es S hes=>?_
  obtain ⟨sl,hs⟩:=S.hs
  have l1:=cA S.hsp
  have l2:=cA S.hstk
  have hne:stk ≠ sp:=by
    intro q; have h1:=S.hsp; have h2:=S.hstk; rw [q] at h2; rw [h1] at h2; cases h2
  refine casg aEw (is2 (vbin (va rfl S.hsp rfl) rfl rfl) rfl) (xH F St _ _) ?_
  rintro v m ⟨rfl,rfl⟩
  generalize hM:mem ++ [MO.inst .scope _,_,_] = M
  have kM:Kp [] mem M:=by rw [← hM]; exact Kp.push
  have lM:M.length = mem.length + 3:=by rw [← hM,List.length_append]; rfl
  have w1:M[sp]? = some (.inst .scopes [ty,.str mo,.ref stk,.int (-1)]):=by rw [← hM]; exact hY S.hsp
  have w2:M[stk]? = some (.lst [.ref s]):=by rw [← hM]; exact hY S.hstk
  have w3:M[mem.length]? = some (.inst .scope [.int 0,.str (Str.ofString ""),.ref (mem.length + 1),.ref (mem.length + 2),.int 0]):=by rw [← hM]; exact bR
  have w4:M[mem.length + 1]? = some (.sdict []):=by rw [← hM]; exact cM
  have w5:M[mem.length + 2]? = some (.lst []):=by rw [← hM]; exact cM
  clear hM
  refine texpr (xapp (va rfl w1 rfl) w2 rfl (Nat.le_of_ble_eq_true rfl) ?_)
  have x1:=aY (p:=.lst [.ref s,.ref mem.length]) w1 hne
  have x3:=aY (p:=.lst [.ref s,.ref mem.length]) w3 (Nat.ne_of_lt l2)
  refine tput rfl x1 (va rfl x3 rfl) rfl (tretp rfl ?_)
  have kk:Kp [sp,stk] M ((M.set stk (.lst [.ref s,.ref mem.length])).set sp (.inst .scopes [ty,.str mo,.ref stk,.int 0])):=(Kp.set (.tail _ (.head _))).trans (Kp.set (.head _))
  have k0:Kp [sp,stk] mem M:=kM.more fun i hi=>(nomatch hi)
  exact ⟨⟨[],⟨eI x1,aY (eI w2) (Ne.symm hne),⟨0,kk.at w3 (nin2 (Nat.ne_of_gt l1) (Nat.ne_of_gt l2))⟩,kk.at w4 (nin2 (gO l1).symm (gO l2).symm),⟨[],kk.at w5 (nin2 (gO l1).symm (gO l2).symm),rfl⟩,Nat.zero_le _,cU (by decide),dO,dO,gO l1,gO l1,Nat.ne_of_lt l1,gO l2,gO l2,Nat.ne_of_lt l2⟩,rfl⟩,k0.trans kk,by rw [List.length_set,List.length_set]; exact lM,⟨sl,es,(k0.trans kk).at hs (nin2 (Ne.symm S.d6) (Ne.symm S.d9)),(k0.trans kk).at S.hnm (nin2 (Ne.symm S.d4) (Ne.symm S.d7))⟩⟩
end
noncomputable def intV (i:Int):V:=.int i
noncomputable def aAz (v:V) (q:List V→Prop):Prop:=aC (aFK v) fun i=>0 ≤ i∧i ≤ 2 ^ 20∧q ((List.range i.toNat).map fun (j:Nat)=>V.int (j:Int))
@[simp] theorem nV {j:Nat} {q:List V→Prop}:aAz (.int (j:Int)) q = (j ≤ 2 ^ 20∧q ((List.range j).map fun (j:Nat)=>V.int (j:Int))):=by
  refine propext ⟨fun ⟨a,b,c⟩=>⟨by lia,c⟩,fun ⟨a,c⟩=>⟨by lia,by lia,c⟩⟩
structure gA (m:Mem):Prop where
  out:∃ (figs:List Int) (i:Int) (mix:Int),m[1]? = some (.lst [.ref 0,.int i,.int mix])∧m[0]? = some (.lst (figs.map intV))∧(0 ≤ i∧i ≤ figs.length)∧figs.length ≤ 5000
theorem gA.kp {m m':Mem} {X:List Nat} (P:gA m) (k:Kp X m m') (h0:0 ∉ X) (h1:1 ∉ X):gA m':=by
  refine e3a3 P.out fun figs i mix a b c=>?_
  exact ⟨figs,i,mix,k.at a h1,k.at b h0,c⟩
section
variable {T:CT} {K:Frag} {hZ:Heap} {n:Nat} {mem:Mem}
theorem oG {a:Int} {l:Nat} (h:0 < l):∃ r:Nat,r < l∧a.fmod l = r:=by
  have h1:(0:Int) ≤ a.fmod l:=Int.fmod_nonneg_of_pos a (by lia)
  have h2:a.fmod l < l:=Int.fmod_lt_of_pos a (by lia)
  exact ⟨(a.fmod l).toNat,by lia,by lia⟩
theorem nth_int {xs:List V} {j:Int} (h0:0 ≤ j) (h:j ≤ 5000):nthV xs j = xs[j.toNat]?:=by
  obtain ⟨k,rfl⟩:=Int.eq_ofNat_of_zero_le h0
  rw [mJ (by lia)]; simp
theorem con_pick (F:Facts K) (St:Stat T K hZ) {l:Nat} (P:gA mem) (h:0 < l):aA T K hZ (n + 1) A.law_pick [.ref 1,.int l] mem (fun v m=>∃ r:Nat,r < l∧v = .int r∧gA m∧Kp [1] mem m∧m.length = mem.length):=by
  refine F.ok_law_pick.sem T hZ n _ _ _ St rfl ?_
  refine e3a4 P.out fun figs i mix h1 h0 hi hf=>?_
  have l1:=(List.getElem?_eq_some_iff.mp h1).1
  have hl0:(l:Int) ≠ 0:=by lia
  have hsz:figs.length ≤ 2 ^ 20:=by lia
  rw [lQ,bX]
  simp [loc0,h1,h0,hsz]
  by_cases hlt:i < figs.length
  · simp [hlt]
    have hj:i.toNat < figs.length:=by lia
    have hn:nthV (figs.map intV) i = some (.int figs[i.toNat]):=by rw [nth_int hi.1 (by lia),List.getElem?_map,List.getElem?_eq_getElem hj]; rfl
    rw [bX]
    simp [h1,h0,hn]
    simp [bX,h1,h0,iopV,tF hl0]
    refine e1a2 (oG (a:=figs[i.toNat]) h) fun r hr e=>?_
    refine ⟨r,hr,by rw [e],⟨figs,i + 1,mix,?_,by rw [List.getElem?_set_ne (by decide)]; exact h0,⟨by lia,by lia⟩,hf⟩,Kp.set (by simp)⟩
    rw [List.getElem?_set_self l1]
  · simp [hlt]
    rw [bX]
    simp [h1,h0,hsz]
    by_cases h3:(figs.length:Int) < 3
    · simp [h3]
      simp [bX,tF hl0]
      refine e1a2 (oG (a:=0) h) fun r hr e=>?_
      exact ⟨r,hr,by rw [← e]; simp,P,Kp.refl _ _⟩
    · simp [h3]
      rw [bX]
      simp [h1,aFF,tF]
      have e1:(mem.set 1 (.lst [.ref 0,.int i,.int ((mix * 37 + 11).fmod 1009)]))[1]? = some (.lst [.ref 0,.int i,.int ((mix * 37 + 11).fmod 1009)]):=by rw [List.getElem?_set_self l1]
      simp [bX,e1,tF hl0]
      refine e1a2 (oG (a:=(mix * 37 + 11).fmod 1009) h) fun r hr e=>?_
      exact ⟨r,hr,e,⟨figs,i,_,e1,by rw [List.getElem?_set_ne (by decide)]; exact h0,hi,hf⟩,Kp.set (by simp)⟩
@[simp] theorem uI {loc:Locs} {e:IE} {k:Src→Mem→Prop}:iterM T K hZ n loc mem (.range e) k = wpE T K hZ n loc e mem fun v m=>aAz v fun xs=>k (.vals xs) m:=propext Iff.rfl
end
section
variable {T:CT} {K:Frag} {hZ:Heap} {n:Nat} {mem:Mem}
noncomputable def headM (v:V) (z:Nat) (q:List V→Prop):Prop:=aC (asLst v) fun xs=>z ≤ 1000∧xs.length ≤ 1000∧q (xs.take z)
@[simp] theorem aEK {xs:List V} {z:Nat} {q:List V→Prop}:headM (.lst xs) z q = (z ≤ 1000∧xs.length ≤ 1000∧q (xs.take z)):=propext Iff.rfl
@[simp] theorem it_head {loc:Locs} {e:PE} {z:Nat} {k:Src→Mem→Prop}:iterM T K hZ n loc mem (.head e z) k = aC (evP mem loc e) fun v=>headM v z fun xs=>k (.lst xs) mem:=propext Iff.rfl
noncomputable def pin:List IS:=[.expr (.meth (.p (.loc 1)) .aP [(.p (.bin .Mod (.loc 5) (.cst (.int 840))))]),.augN 5 .FloorDiv (.p (.cst (.int 840))),.ite (.p (.cmp .Eq (.loc 5) (.cst (.int 0)))) [.brk] []]
noncomputable def pout:List IS:=[.asg 4 (.p (.bi .int [(.loc 3)])),.asg 2 (.p (.bin .Mod (.bin .Add (.bin .Mult (.loc 2) (.cst (.int 31))) (.loc 4)) (.cst (.int 1009)))),.asg 5 (.p (.bi .abs [(.loc 4)])),.for1 6 (.range (.p (.cst (.int 60)))) pin,.ite (.p (.cmp .Gt (.bi .len [(.loc 1)]) (.cst (.int 400)))) [.brk] []]
noncomputable def srcV:List V:=(List.range 60).map fun (j:Nat)=>V.int (j:Int)
theorem srcV_at {j:Nat} (h:j < 60):srcV[j]? = some (.int j):=by simp [srcV,h]
theorem srcV_end:srcV[60]? = none:=by simp [srcV]
theorem aDR {l0 l2 l3 l4:Option V} {post:V→Mem→Prop} {kk:Locs→Mem→Prop} :
    ∀ (N j:Nat) (figs:List Int) (r:Int) (l6:Option V),j + N = 61→0 < N→figs.length + N ≤ 5000→(∀ (figs':List Int) (l5 l6:Option V),figs'.length ≤ figs.length + N→kk [l0,some (.ref 0),l2,l3,l4,l5,l6] [.lst (figs'.map intV)]) →
      forW T K hZ n 6 pin post (.vals srcV) N j [l0,some (.ref 0),l2,l3,l4,some (.int r),l6] [.lst (figs.map intV)] kk
  | 0,_,_,_,_,_,h,_,_=>absurd h (by lia)
  | N + 1,j,figs,r,l6,hj,_,hl,hk=>by
    by_cases h60:j = 60
    · subst h60
      exact fA (by rw [nZ,srcV_end]) (hk figs _ _ (by lia))
    · have hlt:j < 60:=by lia
      refine cB (x:=.int j) (by rw [nZ,srcV_at hlt]) ?_
      refine texpr (xapp rfl rfl (vbin rfl rfl (tF (by decide))) (by rw [List.length_map]; lia) (taugN rfl (xp rfl ?_)))
      have e:figs.map intV ++ [V.int (r.fmod 840)] = (figs ++ [r.fmod 840]).map intV:=by rw [List.map_append]; rfl
      show wpSs T K hZ n _ _ [.lst (figs.map intV ++ [V.int (r.fmod 840)])] _ _ _
      rw [e]
      have hl1:(figs ++ [r.fmod 840]).length = figs.length + 1:=List.length_append
      by_cases h0:r.fdiv 840 = 0
      · refine tt (vcmp rfl rfl (congrArg some (beq_iff_eq.mpr h0))) ?_
        rw [bX,s_brk]
        exact hk (figs ++ [r.fmod 840]) _ _ (by rw [hl1]; lia)
      · exact tf0 (vcmp rfl rfl (congrArg some (beq_eq_false_iff_ne.mpr h0))) (tnil (aDR (l0:=l0) (l2:=l2) (l3:=l3) (l4:=l4) (post:=post) (kk:=kk) N (j + 1) (figs ++ [r.fmod 840]) (r.fdiv 840) (some (.int j)) (by lia) (by lia) (by rw [hl1]; lia) (fun figs' l5 l6 h=>hk figs' l5 l6 (by rw [hl1] at h; lia))))
theorem aAA {l0:Option V} {post:V→Mem→Prop} {kk:Locs→Mem→Prop} {all:List Int} (hk:∀ (figs:List Int) (mix:Int) (l3 l4 l5 l6:Option V),figs.length ≤ 5000→kk [l0,some (.ref 0),some (.int mix),l3,l4,l5,l6] [.lst (figs.map intV)]) :
    ∀ (rest pre figs:List Int) (mix:Int) (l3 l4 l5 l6:Option V),all = pre ++ rest→figs.length + 61 * rest.length ≤ 5000 →
      forW T K hZ n 3 pout post (.lst (all.map intV)) (rest.length + 1) pre.length [l0,some (.ref 0),some (.int mix),l3,l4,l5,l6] [.lst (figs.map intV)] kk
  | [],pre,figs,mix,l3,l4,l5,l6,e,hl=>by
    rw [List.append_nil] at e
    subst e
    exact fA (congrArg some zF) (hk figs mix l3 l4 l5 l6 hl)
  | x :: rest,pre,figs,mix,l3,l4,l5,l6,e,hl=>by
    simp only [List.length_cons] at hl
    refine cB (x:=.int x) (congrArg some (aEf e)) ?_
    refine tasgp (vbi1 rfl rfl) (tasgp (vbin (vbin (vbin rfl rfl (aFF (by decide))) rfl rfl) rfl (tF (by decide))) (tasgp (vbi1 rfl rfl) ?_))
    rw [bX,oP,uI]
    refine xp rfl ?_
    have h60:aAz (.int 60) = aAz (.int ((60:Nat):Int)):=rfl
    rw [h60,nV]
    refine ⟨by decide,61,?_⟩
    refine aDR (l0:=l0) (l2:=some (.int ((mix * 31 + x).fmod 1009))) (l3:=some (.int x)) (l4:=some (.int x)) 61 0 figs (if x < 0 then -x else x) l6 rfl (by decide) (by lia) ?_
    intro figs' l5 l6 hf
    have hsz:figs'.length ≤ 2 ^ 20:=by lia
    have hlen:biV [.lst (figs'.map intV)] .len [.ref 0] = some (.int figs'.length):=by
      refine aBv.trans ((if_pos (by rw [List.length_map]; exact hsz)).trans ?_)
      rw [List.length_map]
    by_cases h4:(400:Int) < (figs'.length:Int)
    · refine tt (vcmp (vbi1 rfl hlen) rfl (congrArg some (decide_eq_true h4))) ?_
      rw [bX,s_brk]
      exact hk figs' _ _ _ _ _ (by lia)
    · have z:=aAA (all:=all) (post:=post) hk rest (pre ++ [x]) figs' ((mix * 31 + x).fmod 1009) (some (.int x)) (some (.int x)) l5 l6 (by rw [e,List.append_assoc]; rfl) (by lia)
      rw [List.length_append] at z
      exact tf0 (vcmp (vbi1 rfl hlen) rfl (congrArg some (decide_eq_false h4))) (tnil z)
theorem con_pool (F:Facts K) (St:Stat T K hZ) {ns:List Int} (h:ns.length ≤ 63):aA T K hZ (n + 1) A.law_pool [.lst (ns.map intV)] [] (fun v m=>v = .ref 1∧gA m∧m.length = 2):=by
  refine F.ok_law_pool.sem T hZ n _ _ _ St rfl ?_
  refine tasg (jB rfl (Nat.zero_le _) (tasgp rfl ?_))
  rw [bX,oP,it_head]
  have h40:(ns.take 40).length ≤ 40:=List.length_take_le ..
  refine os rfl ((Iff.of_eq aEK).mpr ⟨by decide,by rw [List.length_map]; exact Nat.le_trans h (by decide),(ns.take 40).length + 1,?_⟩)
  rw [← List.map_take]
  refine aAA (l0:=some (.lst (ns.map intV))) (all:=ns.take 40) ?_ (ns.take 40) [] [] 5 none none none none rfl (by show 0 + _ ≤ _; lia)
  intro figs mix l3 l4 l5 l6 hf
  exact tret (jB rfl (Nat.le_of_ble_eq_true rfl) ⟨rfl,⟨figs,0,mix,rfl,rfl,⟨Int.le_refl 0,Int.natCast_nonneg _⟩,hf⟩,rfl⟩)
end
noncomputable def txt (l:List Nat):Str:=⟨l.toArray⟩
theorem aDj (a b:List Nat):txt a ++ txt b = txt (a ++ b):=by
  refine aDu ?_
  show (a.toArray ++ b.toArray).toList = _
  simp [txt]
theorem lJ (a:List Nat):(txt a).length = a.length:=by simp [txt,Str.length]
theorem rJ {a b:List Nat} (h:a.length + b.length ≤ 2 ^ 24):binV .Add (.str (txt a)) (.str (txt b)) = some (.str (txt (a ++ b))):=by
  rw [xU (by rw [lJ,lJ]; exact h),aDj]
theorem kG {a b:List Nat} (h:a.length + b.length ≤ 10000):iopV .Add (.str (txt a)) (.str (txt b)) = some (.str (txt (a ++ b))):=by
  show (if (txt a).length + (txt b).length ≤ 2 ^ 24 then some (V.str (txt a ++ txt b)) else none) = _
  rw [if_pos (by rw [lJ,lJ]; lia),aDj]
theorem mul_sp0:∀ k < 4,Txt.mul (Str.ofString " ") (k:Nat) = txt (List.replicate k 32):=by decide +kernel
theorem mul_sp {k:Nat} (h:k < 4):binV .Mult (.str (Str.ofString " ")) (.int (k:Int)) = some (.str (txt (List.replicate k 32))):=by
  have h1:(Str.ofString " ").length = 1:=by decide +kernel
  show (if 0 ≤ (k:Int)∧(k:Int) ≤ 1000∧(Str.ofString " ").length ≤ 1000 then some (V.str (Txt.mul (Str.ofString " ") (k:Int))) else none) = _
  rw [if_pos ⟨by lia,by lia,by rw [h1]; decide⟩,mul_sp0 k h]
noncomputable def aBF (t:List Nat):MO:=.sdict [(Str.ofString "wide",.str (txt t)),(Str.ofString "marks",.ref 2)]
structure GS (m:Mem) (text:List Nat) (marks:List (Int × Str)) (taken:List (Int × Int)):Prop where
  pool:gA m
  mks:m[2]? = some (.lst (marks.map rowV))
  wd:m[3]? = some (aBF text)
  tk:m[4]? = some (.lst (taken.map bI))
theorem GS.kp {m m':Mem} {text:List Nat} {marks:List (Int × Str)} {taken:List (Int × Int)} {X:List Nat} (S:GS m text marks taken) (k:Kp X m m') (h:∀ i ∈ [0,1,2,3,4],i ∉ X):GS m' text marks taken :=
  ⟨S.pool.kp k (h 0 (by decide)) (h 1 (by decide)),k.at S.mks (h 2 (by decide)),k.at S.wd (h 3 (by decide)),k.at S.tk (h 4 (by decide))⟩
theorem GS.picked {m m':Mem} {text:List Nat} {marks:List (Int × Str)} {taken:List (Int × Int)} (S:GS m text marks taken) (P:gA m') (k:Kp [1] m m'):GS m' text marks taken :=
  ⟨P,k.at S.mks (by decide),k.at S.wd (by decide),k.at S.tk (by decide)⟩
theorem put_wide {v w m:V}:putD (Str.ofString "wide") v [(Str.ofString "wide",w),(Str.ofString "marks",m)] = [(Str.ofString "wide",v),(Str.ofString "marks",m)]:=by kernel_rfl
theorem GS.put {m:Mem} {text text':List Nat} {marks:List (Int × Str)} {taken:List (Int × Int)} (S:GS m text marks taken) {q:Mem→Prop} (h:∀ m',GS m' text' marks taken→Kp [3] m m'→m'.length = m.length→q m'):dA (.ref 3) (.str (Str.ofString "wide")) (.str (txt text')) m q:=by
  refine psdict S.wd (Nat.le_of_ble_eq_true rfl) ?_
  rw [put_wide]
  have K1:Kp [3] m (m.set 3 (aBF text')):=Kp.set (.head _)
  exact h (m.set 3 (aBF text')) ⟨S.pool.kp K1 (by decide) (by decide),K1.at S.mks (by decide),eI S.wd,K1.at S.tk (by decide)⟩ K1 List.length_set
theorem GS.mark {m:Mem} {text:List Nat} {marks:List (Int × Str)} {taken:List (Int × Int)} (S:GS m text marks taken) (x:Int × Str):GS (m.set 2 (.lst (marks.map rowV ++ [.tup [.int x.1,.str x.2]]))) text (marks ++ [x]) taken:=by
  have K1:Kp [2] m (m.set 2 (.lst (marks.map rowV ++ [.tup [.int x.1,.str x.2]]))):=Kp.set (.head _)
  exact ⟨S.pool.kp K1 (by decide) (by decide),by rw [List.map_append]; exact eI S.mks,K1.at S.wd (by decide),K1.at S.tk (by decide)⟩
theorem eG {t:List Nat}:look (Str.ofString "wide") [(Str.ofString "wide",.str (txt t)),(Str.ofString "marks",.ref 2)] = some (.str (txt t)):=if_pos rfl
theorem kF {t:List Nat}:look (Str.ofString "marks") [(Str.ofString "wide",.str (txt t)),(Str.ofString "marks",.ref 2)] = some (.ref 2):=(if_neg (ne_of_beq_false (oql (bfalse (by decide))))).trans (if_pos rfl)
noncomputable def Form.want:Form→String
  | .int => "number"
  | .byte => "number"
  | .char => "char"
  | .bool => "none"
section
variable {T:CT} {K:Frag} {hZ:Heap} {n:Nat} {mem:Mem}
noncomputable def dgE:PE:=.dget [((Str.ofString "integer"),(Str.ofString "number")),((Str.ofString "byte"),(Str.ofString "number")),((Str.ofString "char"),(Str.ofString "char"))] (.loc 2) (.cst (.str (Str.ofString "none")))
theorem dg_val {f:Form} {l0 l1 l3 l4 l5 l6 l7 l8:Option V}:evP mem [l0,l1,some (.str (Str.ofString f.name)),l3,l4,l5,l6,l7,l8] dgE = some (.str (Str.ofString f.want)):=by
  cases f <;> kernel_rfl
noncomputable def ltail:List IS:=[.augI (.p (.loc 1)) (.p (.cst (.str (Str.ofString "wide")))) .Add (.p (.loc 5)),
  .ite (.p (.orE (.cmp .Eq (.loc 7) (.cst (.str (Str.ofString "")))) (.cmp .NotEq (.loc 7) dgE))) [.expr (.meth (.p (.item (.loc 1) (.cst (.str (Str.ofString "marks"))))) .aP [(.p (.tup [(.loc 4),(.cst (.str (Str.ofString "label_type")))]))]),.ret (.p (.tup [(.loc 4),(.cst .none)]))] [],
  .ret (.p (.tup [(.loc 4),(.loc 6)]))]
theorem aBZ {f:Form} {lab:Lab} {text:List Nat} {marks:List (Int × Str)} {taken:List (Int × Int)} {spot:Nat} {val:V} {good:String} {l3 l8:Option V} {nx kb:Locs→Mem→Prop} {post:V→Mem→Prop} (S:GS mem text marks taken) (hb:text.length + 10 ≤ 9000) (hm:marks.length ≤ 1000)
    (hg:(good = "" ∨ good ≠ f.want) ↔ lab.val f = none) (hv:∀ i,lab.val f = some i→val = .int i) (hlen:lab.chars.length ≤ 10)
    (hp:∀ m',GS m' (text ++ lab.chars) (marks ++ lmarks f lab spot) taken→Kp [2,3] mem m'→m'.length = mem.length→post (.tup [.int spot,optV (lab.val f)]) m') :
    wpSs T K hZ n [some (.ref 1),some (.ref 3),some (.str (Str.ofString f.name)),l3,some (.int spot),some (.str (txt lab.chars)),some val,some (.str (Str.ofString good)),l8] ltail mem nx post kb:=by
  refine aBI rfl rfl (itD S.wd eG) (xp rfl (os (kG (by lia)) (S.put fun m1 S1 K1 hl1=>?_)))
  by_cases hn:lab.val f = none
  · have hg':=hg.mpr hn
    have c:evP m1 [some (.ref 1),some (.ref 3),some (.str (Str.ofString f.name)),l3,some (.int spot),some (.str (txt lab.chars)),some val,some (.str (Str.ofString good)),l8] (.orE (.cmp .Eq (.loc 7) (.cst (.str (Str.ofString "")))) (.cmp .NotEq (.loc 7) dgE)) = some (.bool true):=by
      by_cases h0:good = ""
      · exact yK (vcmp rfl rfl (ceq (oql (btrue h0)))) rfl
      · exact lI (vcmp rfl rfl (ceq (oql (bfalse h0)))) rfl (vcmp rfl dg_val (cneF (oql (bfalse (hg'.resolve_left h0)))))
    unfold lmarks at hp
    rw [hn,if_pos rfl] at hp
    refine tt c (texpr (xapp (vitem rfl rfl (itD S1.wd kF)) S1.mks rfl (by rw [List.length_map]; exact Nat.le_trans hm (by decide)) (tretp rfl ?_)))
    exact hp _ (S1.mark ((spot:Int),Str.ofString "label_type")) ((K1.more fun i hi=>.tail _ hi).trans (Kp.set (.head _))) (List.length_set.trans hl1)
  · have hg':¬ (good = "" ∨ good ≠ f.want):=fun q=>hn (hg.mp q)
    have h1:good = f.want:=Classical.byContradiction fun q=>hg' (.inr q)
    refine tf0 (lI (vcmp rfl rfl (ceq (oql (bfalse fun q=>hg' (.inl q))))) rfl (vcmp rfl dg_val (cneT (oql (btrue h1))))) (tretp rfl ?_)
    unfold lmarks at hp
    rw [if_neg hn,List.append_nil] at hp
    obtain ⟨i,hi⟩:=Option.ne_none_iff_exists'.mp hn
    rw [hi] at hp
    rw [hv i hi]
    exact hp m1 S1 (K1.more fun i hi=>.tail _ hi) hl1
end
noncomputable def oQ (r:Nat):Lab:=if r < 2 then .neg (2 - r) else .num (r - 2)
theorem str_num0:∀ r < 12,Str.ofString (toString ((r:Nat) - 2:Int)) = txt (oQ r).chars:=by decide +kernel
theorem str_num {m:Mem} {r:Nat} (h:r < 12):biV m .str [.int ((r:Int) - 2)] = some (.str (txt (oQ r).chars)):=by
  show (if ((r:Int) - 2).natAbs < 2 ^ 62 then some (V.str (Str.ofString (toString ((r:Int) - 2)))) else none) = _
  rw [if_pos (by lia),str_num0 r h]
theorem str_dig0:∀ r < 6,Str.ofString (toString (65 + (r:Nat) - 64:Int)) = ⟨#[49 + r]⟩:=by decide +kernel
theorem str_dig {m:Mem} {r:Nat} (h:r < 6):biV m .str [.int (65 + (r:Int) - 64)] = some (.str ⟨#[49 + r]⟩):=by
  show (if (65 + (r:Int) - 64).natAbs < 2 ^ 62 then some (V.str (Str.ofString (toString (65 + (r:Int) - 64)))) else none) = _
  rw [if_pos (by lia),str_dig0 r h]
theorem chr_65 {m:Mem} {r:Nat} (h:r < 6):biV m .chr [.int (65 + (r:Int))] = some (.str ⟨#[65 + r]⟩):=by
  have:=bi_chr (mem:=m) (c:=65 + r) (by lia)
  simpa using this
theorem s_4:Str.ofString "4" = ⟨#[52]⟩:=by decide +kernel
theorem s_abq:Str.ofString "\"ab\"" = txt Lab.ab.chars:=by decide +kernel
theorem s_tru:Str.ofString "TRUE" = txt Lab.tru.chars:=by decide +kernel
theorem s_nil:Str.ofString "NIL" = txt Lab.nil.chars:=by decide +kernel
theorem add1 {a b:Nat}:binV .Add (.str ⟨#[a]⟩) (.str ⟨#[b]⟩) = some (.str ⟨#[a,b]⟩):=by rw [xU (by simp [Str.length])]; rfl
theorem add2 {a b c:Nat}:binV .Add (.str ⟨#[a,b]⟩) (.str ⟨#[c]⟩) = some (.str ⟨#[a,b,c]⟩):=by rw [xU (by simp [Str.length])]; rfl
theorem chq_txt {r:Nat}:(⟨#[34,65 + r,34]⟩ : Str) = txt (Lab.chq (1 + r)).chars:=by
  simp only [txt,Lab.chars]; rw [show 64 + (1 + r) = 65 + r by lia]
theorem chx_txt {r:Nat}:(⟨#[52,49 + r,88]⟩ : Str) = txt (Lab.chx (1 + r)).chars:=by
  simp only [txt,Lab.chars]; rw [show 48 + (1 + r) = 49 + r by lia]
theorem zH {m:Mem} {l:List Nat} (h:l.length ≤ 10000):biV m .len [.str (txt l)] = some (.int l.length):=by
  rw [kN (by rw [lJ]; lia),lJ]
section
variable {T:CT} {K:Frag} {hZ:Heap} {n:Nat} {mem:Mem}
theorem iR:isFun A.law_pick = true:=by decide
theorem dK (F:Facts K) (St:Stat T K hZ) {z:Int} (l:Nat) (hz:z = l) (P:gA mem) (h:0 < l):aA T K hZ (n + 1) A.law_pick [.ref 1,.int z] mem (fun v m=>∃ r:Nat,r < l∧v = .int r∧gA m∧Kp [1] mem m∧m.length = mem.length):=by
  subst hz; exact con_pick F St P h
theorem mY (F:Facts K) (St:Stat T K hZ) {z:Int} (l:Nat) (hz:z = l) (P:gA mem) (h:0 < l):aA T K hZ (n + 1) A.law_pick [.ref 1,.int z] mem (fun v m=>∃ r:Int,0 ≤ r∧r < l∧v = .int r∧gA m∧Kp [1] mem m∧m.length = mem.length):=by
  refine (dK F St l hz P h).mono ?_
  intro v m ⟨r,hr,hv,h⟩
  exact ⟨r,by lia,by lia,hv,h⟩
structure LabGiven (f:Form) (mem m:Mem) (text:List Nat) (marks:List (Int × Str)) (taken:List (Int × Int)) (k:Nat) (lab:Lab):Prop where
  k1:1 ≤ k
  k2:k ≤ 2
  ok:lab.ok = true
  len:lab.chars.length ≤ 4
  gs:GS m (text ++ (List.replicate k 32 ++ lab.chars)) (marks ++ lmarks f lab (text.length + k)) taken
  kp:Kp [1,2,3] mem m
  size:m.length = mem.length
theorem addq1 {a:Nat}:binV .Add (.str (Str.ofString "\"")) (.str ⟨#[a]⟩) = some (.str ⟨#[34,a]⟩):=by rw [nT]; exact add1
theorem addq2 {a b:Nat}:binV .Add (.str ⟨#[a,b]⟩) (.str (Str.ofString "\"")) = some (.str ⟨#[a,b,34]⟩):=by rw [nT]; exact add2
theorem addx1 {a:Nat}:binV .Add (.str (Str.ofString "4")) (.str ⟨#[a]⟩) = some (.str ⟨#[52,a]⟩):=by rw [s_4]; exact add1
theorem addx2 {a b:Nat}:binV .Add (.str ⟨#[a,b]⟩) (.str (Str.ofString "X")) = some (.str ⟨#[a,b,88]⟩):=by rw [s_X]; exact add2
theorem aDX {f:Form} {r3:Nat} (hr3:r3 < 12):(oQ r3).ok = true∧(oQ r3).chars.length ≤ 4∧((("number" : String) = "" ∨ "number" ≠ f.want) ↔ (oQ r3).val f = none)∧∀ i,(oQ r3).val f = some i→V.int ((r3:Int) - 2) = .int i:=by
  unfold oQ
  split
  · refine ⟨decide_eq_true (by lia),Nat.le_of_ble_eq_true rfl,?_,?_⟩
    · cases f <;> first | exact ⟨fun _=>rfl,fun _=>.inr (by decide)⟩ | exact ⟨fun q=>absurd q (by decide),fun q=>by cases q⟩
    · intro i q
      cases f <;> first | (rw [← Option.some.inj q]; exact congrArg V.int (by lia)) | cases q
  · refine ⟨decide_eq_true (by lia),Nat.le_of_ble_eq_true rfl,?_,?_⟩
    · cases f <;> first | exact ⟨fun _=>rfl,fun _=>.inr (by decide)⟩ | exact ⟨fun q=>absurd q (by decide),fun q=>by cases q⟩
    · intro i q
      cases f <;> first | (rw [← Option.some.inj q]; exact congrArg V.int (by lia)) | cases q
theorem mZ (F:Facts K) (St:Stat T K hZ) {f:Form} {text:List Nat} {marks:List (Int × Str)} {taken:List (Int × Int)} (S:GS mem text marks taken) (hb:text.length ≤ 8000) (hm:marks.length ≤ 900) :
    aA T K hZ (n + 2) A.law_label [.ref 1,.ref 3,.str (Str.ofString f.name)] mem (fun v m=>∃ k lab,v = .tup [.int ((text.length + k:Nat):Int),optV (lab.val f)]∧LabGiven f mem m text marks taken k lab):=by
  refine aA.gen fun Q hQ=>?_
  refine F.ok_law_label.sem T hZ (n + 1) _ _ _ St rfl ?_
  refine casg iR (is2 rfl rfl) (dK F St 10 rfl S.pool (by decide)) ?_
  intro v m1 hq
  refine e1a5 hq fun r hr e0q P1 K1 L1=>?_
  subst e0q
  have S1:=S.picked P1 K1
  refine aBI rfl rfl (itD S1.wd eG) (xbin (xp rfl (xbin (xp rfl (xcall iR (is2 rfl rfl) (dK F St 2 rfl P1 (by decide)) ?_)))))
  intro v m2 hq
  refine e1a5 hq fun r2 hr2 e0q P2 K2 L2=>?_
  subst e0q
  have S2:=S1.picked P2 K2
  have e1:(1:Int) + (r2:Int) = ((1 + r2:Nat):Int):=by lia
  have hlen:(text ++ List.replicate (1 + r2) 32).length = text.length + (1 + r2):=by rw [List.length_append,List.length_replicate]
  refine os (congrArg (fun z=>some (V.int z)) e1) (os (mul_sp (by lia)) (os (kG (by rw [List.length_replicate]; lia)) (S2.put fun m3 S3 K3 L3=>?_)))
  refine tasgp (vbi1 (vitem rfl rfl (itD S3.wd eG)) ((zH (by rw [hlen]; lia)).trans (congrArg (fun q:Nat=>some (V.int q)) hlen))) ?_
  have K13:Kp [1,2,3] mem m3:=((K1.more (by decide)).trans (K2.more (by decide))).trans (K3.more (by decide))
  have L13:m3.length = mem.length:=L3.trans (L2.trans L1)
  have tail:∀ (lab:Lab) (x:Str) (val:V) (good:String) (l8:Option V) (m4:Mem),x = txt lab.chars→GS m4 (text ++ List.replicate (1 + r2) 32) marks taken→Kp [1,2,3] mem m4→m4.length = mem.length→lab.ok = true→lab.chars.length ≤ 4→((good = "" ∨ good ≠ f.want) ↔ lab.val f = none)→(∀ i,lab.val f = some i→val = .int i) →
      wpSs T K hZ (n + 1) [some (.ref 1),some (.ref 3),some (.str (Str.ofString f.name)),some (.int r),some (.int ((text.length + (1 + r2):Nat):Int)),some (.str x),some val,some (.str (Str.ofString good)),l8] ltail m4 (fun x m=>Q .none m) Q (fun _ _=>False):=by
    intro lab x val good l8 m4 hx S4 K4 L4 ho hl hg hv
    subst hx
    refine aBZ S4 (by rw [hlen]; lia) (Nat.le_trans hm (by decide)) hg hv (Nat.le_trans hl (by decide)) fun m5 S5 K5 L5=>hQ _ _ ?_
    exact ⟨1 + r2,lab,rfl,Nat.le_add_right _ _,by lia,ho,hl,by rw [← List.append_assoc]; exact S5,K4.trans (K5.more (by decide)),L5.trans L4⟩
  have nolab:∀ (lab:Lab),(∀ f,lab.val f = none)→((("" : String) = "" ∨ "" ≠ f.want) ↔ lab.val f = none)∧∀ i,lab.val f = some i→V.int 0 = .int i:=fun lab h=>⟨⟨fun _=>h f,fun _=>.inl rfl⟩,fun i q=>by rw [h f] at q; cases q⟩
  walk_at "dl"
  by_cases h9:(r:Int) = 9
  · refine tt (vcmp rfl rfl (congrArg some (beq_iff_eq.mpr h9))) (tunp (xitem (xp rfl (xcall iR (is2 rfl rfl) (mY F St 3 rfl S3.pool (by decide)) ?_))))
    intro v m4 hq
    refine e1a6 hq fun r3 hr0 hr3 e0q P4 K4 L4=>?_
    subst e0q
    have S4:=S3.picked P4 K4
    have K14:=K13.trans (K4.more (by decide))
    have h3:r3 = 0 ∨ r3 = 1 ∨ r3 = 2:=by lia
    rcases h3 with rfl | rfl | rfl
    · exact os (mK.trans wF) ⟨rfl,tnil (tail .ab _ (.int 0) "" none m4 s_abq S4 K14 (L4.trans L13) rfl (by decide) (nolab .ab fun f=>by cases f <;> rfl).1 (nolab .ab fun f=>by cases f <;> rfl).2)⟩
    · exact os (mK.trans aAD) ⟨rfl,tnil (tail .tru _ (.int 0) "" none m4 s_tru S4 K14 (L4.trans L13) rfl (by decide) (nolab .tru fun f=>by cases f <;> rfl).1 (nolab .tru fun f=>by cases f <;> rfl).2)⟩
    · exact os (mK.trans nthV_2) ⟨rfl,tnil (tail .nil _ (.int 0) "" none m4 s_nil S4 K14 (L4.trans L13) rfl (by decide) (nolab .nil fun f=>by cases f <;> rfl).1 (nolab .nil fun f=>by cases f <;> rfl).2)⟩
  · refine tf (vcmp rfl rfl (congrArg some (beq_eq_false_iff_ne.mpr h9))) ?_
    cases hc:(decide ((r:Int) < 8) == !(f.name == "char")) with
    | true =>
      refine tt (vcmp (vcmp rfl rfl rfl) (vcmp rfl rfl (cne (cE ..))) (congrArg some hc)) (tasg (xbin (xcall iR (is2 rfl rfl) (dK F St 12 rfl S3.pool (by decide)) ?_)))
      intro v m4 hq
      refine e1a5 hq fun r3 hr3 e0q P4 K4 L4=>?_
      subst e0q
      have S4:=S3.picked P4 K4
      have K14:=K13.trans (K4.more (by decide))
      refine xp rfl (os rfl (tswp (xp (vtup (bZ (vbi1 rfl (str_num hr3)) rfl)) ⟨rfl,tnil (tnil ?_)⟩)))
      refine e0a4 (aDX (f:=f) hr3) fun h1 h2 h3 h4=>?_
      exact tail (oQ r3) _ (.int ((r3:Int) - 2)) "number" (some (.int ((r3:Int) - 2))) m4 rfl S4 K14 (L4.trans L13) h1 h2 h3 h4
    | false =>
      refine tf (vcmp (vcmp rfl rfl rfl) (vcmp rfl rfl (cne (cE ..))) (congrArg some hc)) (tasg (xbin (xp rfl (xcall iR (is2 rfl rfl) (dK F St 6 rfl S3.pool (by decide)) ?_))))
      intro v m4 hq
      refine e1a5 hq fun r3 hr3 e0q P4 K4 L4=>?_
      subst e0q
      have S4:=S3.picked P4 K4
      have K14:=K13.trans (K4.more (by decide))
      refine os rfl (tasg (xitem (xp (vlst (bZ (vbin (vbin rfl (vbi1 rfl (chr_65 hr3)) addq1) rfl addq2) (bZ (vbin (vbin rfl (vbi1 (vbin rfl rfl rfl) (str_dig hr3)) addx1) rfl addx2) rfl))) (xcall iR (is2 rfl rfl) (mY F St 2 rfl P4 (by decide)) ?_))))
      intro v m5 hq
      refine e1a6 hq fun r4 hr0 hr4 e0q P5 K5 L5=>?_
      subst e0q
      have S5:=S4.picked P5 K5
      have K15:=K14.trans (K5.more (by decide))
      have h4:r4 = 0 ∨ r4 = 1:=by lia
      have ok:decide (1 + r3 < 26) = true∧decide (1 + r3 < 10) = true:=⟨decide_eq_true (by lia),decide_eq_true (by lia)⟩
      have e65:(65:Int) + (r3:Int) = ((64 + (1 + r3):Nat):Int):=by lia
      have w:(("char" : String) = "" ∨ "char" ≠ f.want) ↔ (Lab.chq (1 + r3)).val f = none:=by cases f <;> first | exact ⟨fun _=>rfl,fun _=>.inr (by decide)⟩ | exact ⟨fun q=>absurd q (by decide),fun q=>by cases q⟩
      have u:∀ i,(Lab.chq (1 + r3)).val f = some i→V.int (65 + (r3:Int)) = .int i:=fun i q=>by rw [e65]; cases f <;> first | exact congrArg V.int (Option.some.inj q) | cases q
      have vx:(Lab.chx (1 + r3)).val f = (Lab.chq (1 + r3)).val f:=by cases f <;> rfl
      rcases h4 with rfl | rfl
      · exact os (mK.trans wF) (tswp (xp (vtup rfl) ⟨rfl,tnil (tnil (tail (.chq (1 + r3)) _ (.int (65 + (r3:Int))) "char" (some (.int (65 + (r3:Int)))) m5 chq_txt S5 K15 (L5.trans (L4.trans L13)) ok.1 (Nat.le_of_ble_eq_true rfl) w u))⟩))
      · exact os (mK.trans aAD) (tswp (xp (vtup rfl) ⟨rfl,tnil (tnil (tail (.chx (1 + r3)) _ (.int (65 + (r3:Int))) "char" (some (.int (65 + (r3:Int)))) m5 chx_txt S5 K15 (L5.trans (L4.trans L13)) ok.2 (Nat.le_of_ble_eq_true rfl) (by rw [vx]; exact w) (by rw [vx]; exact u)))⟩))
end
theorem aAI {α : Type} {f:V→Option PyData} {g:α→V} {d:α→PyData} (h:∀ x,f (g x) = some (d x)) (l:List α):mapO f (l.map g) = some (l.map d):=by
  induction l with
  | nil=>rfl
  | cons x l ih=>exact (aO (h x)).trans (congrArg (Option.map (d x :: ·)) ih)
theorem tS {α : Type} {g:α→V} {d:α→PyData} (h:∀ x,toD (g x) = some (d x)) (l:List α):toDs (l.map g) = some (l.map d):=(pH _).trans (aAI h l)
theorem zK {α : Type} {d:α→PyData} {n:Nat} (l:List α) (h:∀ x ∈ l,(d x).canLay0 = true∧(d x).depth ≤ n):PyData.canLayAll0 (l.map d) = true∧PyData.depthAll (l.map d) ≤ n:=by
  induction l with
  | nil=>exact ⟨rfl,Nat.zero_le _⟩
  | cons x l ih=>exact ⟨Bool.and_eq_true_iff.mpr ⟨(h x (.head _)).1,(ih fun y q=>h y (.tail _ q)).1⟩,Nat.max_le.mpr ⟨(h x (.head _)).2,(ih fun y q=>h y (.tail _ q)).2⟩⟩
theorem nR {α : Type} {d:α→PyData} {n:Nat} (l:List α) (h:∀ x ∈ l,(d x).canLay0 = true∧(d x).depth ≤ n) (hn:n ≤ 60):shaped (.list (l.map d)) = true :=
  Bool.and_eq_true_iff.mpr ⟨(zK l h).1,decide_eq_true (Nat.le_trans (Nat.succ_le_succ (zK l h).2) (Nat.le_trans (Nat.succ_le_succ hn) (by decide)))⟩
theorem aFi {m:Mem} {a b:V} {x y:PyData} (ha:topD m a = some x) (hb:topD m b = some y) (hx:shaped x = true) (hy:shaped y = true):oZ m a b = some (PyData.eqv x y):=(aDW ha hb).trans (if_pos (Bool.and_eq_true_iff.mpr ⟨hx,hy⟩))
theorem ne_nil {m:Mem} (l:List Int):cmpV m .NotEq (.lst (l.map fun _=>V.int 1)) (.lst []) = some (!l.isEmpty):=by
  have h3:PyData.eqv (.list (l.map fun _=>PyData.int 1)) (.list []) = l.isEmpty:=by cases l <;> rfl
  have z:oZ m (.lst (l.map fun _=>V.int 1)) (.lst []) = some (PyData.eqv (.list (l.map fun _=>PyData.int 1)) (.list [])) :=
    aFi (congrArg (Option.map PyData.list) (tS (d:=fun _=>PyData.int 1) (fun _=>rfl) l)) rfl (nR (n:=0) l (fun _ _=>⟨rfl,Nat.le_refl _⟩) (by decide)) rfl
  exact (congrArg (Option.map (!·)) z).trans (by rw [h3]; rfl)
noncomputable def inR (one:Int × Int) (x:Int):Bool:=decide (one.1 ≤ x) && decide (x ≤ one.2)
noncomputable def tE:PE:=.andE (.cmp .LtE (.item (.loc 0) (.cst (.int 0))) (.loc 1)) (.cmp .LtE (.loc 1) (.item (.loc 0) (.cst (.int 1))))
theorem tE_val {m:Mem} {one:Int × Int} {x:Int}:aBH m [some (bI one),some (.int x)] (some tE) = some (inR one x) :=
  have h0:evP m [some (bI one),some (.int x)] (.item (.loc 0) (.cst (.int 0))) = some (.int one.1):=vitem rfl rfl (show nthV [.int one.1,.int one.2] 0 = _ from wF)
  have h1:evP m [some (bI one),some (.int x)] (.item (.loc 0) (.cst (.int 1))) = some (.int one.2):=vitem rfl rfl (show nthV [.int one.1,.int one.2] 1 = _ from aAD)
  aO (band (vcmp h0 rfl rfl) (vcmp rfl h1 rfl))
section
variable {m:Mem} {is:List Nat} {test:Option PE} {elt:PE} {loc loc1:Locs} {x v:V} {xs ys:List V}
theorem aAb (hp:putC is loc x = some loc1) (ht:aBH m loc1 test = some true) (he:evP m loc1 elt = some v) (hr:nA m is test elt loc1 xs = some ys):nA m is test elt loc (x :: xs) = some (v :: ys) :=
  (aO hp).trans ((aO ht).trans ((aO he).trans (congrArg (Option.map (v :: ·)) hr)))
theorem comp_out (hp:putC is loc x = some loc1) (ht:aBH m loc1 test = some false) (hr:nA m is test elt loc1 xs = some ys):nA m is test elt loc (x :: xs) = some ys:=(aO hp).trans ((aO ht).trans hr)
end
theorem comp_val {m:Mem} {one:Int × Int} (xs:List Int):∀ (o:Option V),nA m [1] (some tE) (.cst (.int 1)) [some (bI one),o] (xs.map intV) = some ((xs.filter (inR one)).map fun _=>V.int 1):=by
  induction xs with
  | nil=>exact fun _=>rfl
  | cons x xs ih =>
    intro o
    have ht:aBH m [some (bI one),some (intV x)] (some tE) = some (inR one x):=tE_val
    rw [List.filter_cons]
    cases hx:inR one x with
    | true=>exact aAb rfl (hx ▸ ht) rfl (ih _)
    | false=>exact comp_out rfl (hx ▸ ht) (ih _)
theorem aEp {m:Mem} {a b:Int} (h1:-1000 ≤ a) (h2:a ≤ b) (h3:b ≤ 1000):oC m true [.int a,.int b] = some (((List.range (b - a).toNat).map fun (j:Nat)=>a + (j:Int)).map intV):=by
  exact (if_pos ⟨h1,h2,h3⟩).trans (by rw [List.map_map]; rfl)
theorem aEe {a b:Int} {one:Int × Int} (h1:a ≤ b) (h2:one.1 ≤ one.2):(!((((List.range (b + 1 - a).toNat).map fun (j:Nat)=>a + (j:Int)).filter (inR one)).isEmpty)) = meets a b one:=by
  rw [Bool.eq_iff_iff]
  simp [meets,inR]
  constructor
  · rintro ⟨x,hx,h3,h4⟩
    lia
  · rintro ⟨h3,h4⟩
    by_cases h5:a ≤ one.1
    · exact ⟨(one.1 - a).toNat,by lia,by lia,by lia⟩
    · exact ⟨0,by lia,by lia,by lia⟩
theorem mB {f:Form} {lab:Lab} {i:Int} (h:lab.ok = true) (hv:lab.val f = some i):-10 ≤ i∧i ≤ 200:=by
  cases f <;> cases lab <;> first
    | exact absurd (show none = some i from hv) (fun q=>nomatch q)
    | (obtain rfl:=Option.some.inj hv; have:=of_decide_eq_true h; lia)
section
variable {T:CT} {K:Frag} {hZ:Heap} {n:Nat} {mem:Mem}
noncomputable def wbod:List IS:=[.ite (.cmp .NotEq (.comp [8] [1] true [(.p (.loc 5)),(.p (.bin .Add (.loc 6) (.cst (.int 1))))] (some tE) (.cst (.int 1))) (.p (.lst []))) [.expr (.meth (.p (.item (.loc 1) (.cst (.str (Str.ofString "marks"))))) .aP [(.p (.tup [(.loc 4),(.cst (.str (Str.ofString "label_twice")))]))]),.ret (.lstM [])] []]
@[simp] theorem e_comp {loc:Locs} {caps is:List Nat} {rg:Bool} {src:List IE} {test:Option PE} {elt:PE} {k:V→Mem→Prop}:wpE T K hZ n loc (.comp caps is rg src test elt) mem k = ((caps.all fun i=>((loc[i]?).join).isSome) = true∧wpEs T K hZ n loc src mem fun vs m=>aC (oC m rg vs) fun xs=>aC (nA m is test elt (caps.map (fun i=>(loc[i]?).join) ++ List.replicate is.length none) xs) fun ys=>k (.lst ys) m):=propext Iff.rfl
noncomputable def rtl:List IS:=.ite (.p (.orE (.cmp .Is (.loc 5) (.cst .none)) (.cmp .Is (.loc 6) (.cst .none)))) [.ret (.lstM [])] [] ::
  .ite (.p (.cmp .Gt (.loc 5) (.loc 6))) [.expr (.meth (.p (.item (.loc 1) (.cst (.str (Str.ofString "marks"))))) .aP [(.p (.tup [(.loc 4),(.cst (.str (Str.ofString "label_range")))]))]),.ret (.lstM [])] [] ::
  .for1 8 (.of (.p (.loc 3))) wbod ::
  .expr (.meth (.p (.loc 3)) .aP [(.p (.tup [(.loc 5),(.loc 6)]))]) ::
  [.ret (.lstM [(.p (.tup [(.loc 5),(.loc 6)]))])]
theorem wbcond {l0 l1 l2 l3 l4 l7:Option V} {a b:Int} {x:Int × Int} {k:V→Mem→Prop} (hab:a ≤ b) (h1:-1000 ≤ a) (h2:b + 1 ≤ 1000) (hx:x.1 ≤ x.2) (H:k (.bool (meets a b x)) mem) :
    wpE T K hZ n [l0,l1,l2,l3,l4,some (.int a),some (.int b),l7,some (bI x)] (.cmp .NotEq (.comp [8] [1] true [(.p (.loc 5)),(.p (.bin .Add (.loc 6) (.cst (.int 1))))] (some tE) (.cst (.int 1))) (.p (.lst []))) mem k:=by
  rw [e_cmp,e_comp]
  exact ⟨rfl,xs (is2 rfl (vbin rfl rfl rfl)) (os (aEp h1 (Int.le_trans hab (Int.le_add_of_nonneg_right (by decide))) h2) (os (comp_val _ _) (xp rfl (os ((ne_nil _).trans (congrArg some (aEe hab hx))) H))))⟩
theorem wloop {l0 l2 l3 l4 l7:Option V} {a b:Int} {post:V→Mem→Prop} {kk:Locs→Mem→Prop} {taken:List (Int × Int)} (ht:mem[4]? = some (.lst (taken.map bI))) (hab:a ≤ b) (h1:-1000 ≤ a) (h2:b + 1 ≤ 1000) (hw:∀ t ∈ taken,t.1 ≤ t.2)
    (hkk:taken.any (meets a b) = false→∀ l8,kk [l0,some (.ref 3),l2,l3,l4,some (.int a),some (.int b),l7,l8] mem)
    (hret:taken.any (meets a b) = true→∀ l8 nx,wpSs T K hZ n [l0,some (.ref 3),l2,l3,l4,some (.int a),some (.int b),l7,l8] [.expr (.meth (.p (.item (.loc 1) (.cst (.str (Str.ofString "marks"))))) .aP [(.p (.tup [(.loc 4),(.cst (.str (Str.ofString "label_twice")))]))]),.ret (.lstM [])] mem nx post kk) :
    ∀ (rest pre:List (Int × Int)) (l8:Option V),taken = pre ++ rest→pre.any (meets a b) = false→forW T K hZ n 8 wbod post (.ref 4) (rest.length + 1) pre.length [l0,some (.ref 3),l2,l3,l4,some (.int a),some (.int b),l7,l8] mem kk
  | [],pre,l8,e,hp=>by
    rw [List.append_nil] at e
    subst e
    exact fA ((pL ht).trans (congrArg some zF)) (hkk hp l8)
  | x :: rest,pre,l8,e,hp=>by
    refine cB (x:=bI x) ((pL ht).trans (congrArg some (aEf e))) ?_
    have hx:=hw x (by rw [e]; exact List.mem_append_right _ (.head _))
    refine tite (wbcond hab h1 h2 hx (brb rfl (fun hm=>hret (by rw [e,List.any_append,List.any_cons,hm,Bool.true_or,Bool.or_true]) _ _) fun hm=>tnil ?_))
    have z:=wloop ht hab h1 h2 hw hkk hret rest (pre ++ [x]) (some (bI x)) (by rw [e,List.append_assoc]; rfl) (by rw [List.any_append,hp,List.any_cons,hm]; rfl)
    rw [List.length_append] at z
    exact z
end
section
variable {T:CT} {K:Frag} {hZ:Heap} {n:Nat} {mem:Mem}
theorem GS.push {m j:Mem} {text:List Nat} {marks:List (Int × Str)} {taken:List (Int × Int)} (S:GS m text marks taken):GS (m ++ j) text marks taken:=S.kp (X:=[]) Kp.push fun _ _=>nin0
theorem GS.low {m:Mem} {text:List Nat} {marks:List (Int × Str)} {taken:List (Int × Int)} (S:GS m text marks taken):5 ≤ m.length:=cA S.tk
theorem GS.take {m:Mem} {text:List Nat} {marks:List (Int × Str)} {taken:List (Int × Int)} (S:GS m text marks taken) (x:Int × Int):GS (m.set 4 (.lst (taken.map bI ++ [.tup [.int x.1,.int x.2]]))) text marks (taken ++ [x]):=by
  have K1:Kp [4] m (m.set 4 (.lst (taken.map bI ++ [.tup [.int x.1,.int x.2]]))):=Kp.set (.head _)
  exact ⟨S.pool.kp K1 (by decide) (by decide),K1.at S.mks (by decide),K1.at S.wd (by decide),by rw [List.map_append]; exact eI S.tk⟩
theorem qK {text:List Nat} {marks:List (Int × Str)} {taken:List (Int × Int)} {spot:Nat} {lo hi:Option Int} {l0 l2 l7 l8:Option V} {nx kb:Locs→Mem→Prop} {post:V→Mem→Prop} (S:GS mem text marks taken) (hw:∀ t ∈ taken,t.1 ≤ t.2) (hlo:∀ i,lo = some i→-10 ≤ i∧i ≤ 200) (hhi:∀ i,hi = some i→-10 ≤ i∧i ≤ 200) (hm:marks.length ≤ 1000) (hk:taken.length ≤ 1000)
    (hp:∀ m',GS m' text (marks ++ (bL taken spot lo hi).1) (taken ++ (bL taken spot lo hi).2.toList)→m'[mem.length]? = some (.lst ((bL taken spot lo hi).2.toList.map bI))→m'.length = mem.length + 1→Kp [2,4] mem m'→(∀ t ∈ (bL taken spot lo hi).2.toList,t.1 ≤ t.2)→post (.ref mem.length) m') :
    wpSs T K hZ n [l0,some (.ref 3),l2,some (.ref 4),some (.int spot),some (optV lo),some (optV hi),l7,l8] rtl mem nx post kb:=by
  have hmark:∀ (code:String) (l5 l6 l8:Option V) (nx kb:Locs→Mem→Prop),(∀ m',GS m' text (marks ++ [((spot:Int),Str.ofString code)]) taken→m'[mem.length]? = some (.lst [])→m'.length = mem.length + 1→Kp [2,4] mem m'→post (.ref mem.length) m') →
      wpSs T K hZ n [l0,some (.ref 3),l2,some (.ref 4),some (.int spot),l5,l6,l7,l8] [.expr (.meth (.p (.item (.loc 1) (.cst (.str (Str.ofString "marks"))))) .aP [(.p (.tup [(.loc 4),(.cst (.str (Str.ofString code)))]))]),.ret (.lstM [])] mem nx post kb:=by
    intro code l5 l6 l8 nx kb hq
    refine texpr (xapp (vitem rfl rfl (itD S.wd kF)) S.mks rfl (by rw [List.length_map]; exact Nat.le_trans hm (by decide)) (tret (jB rfl (Nat.zero_le _) ?_)))
    rw [List.length_set]
    have K2:Kp [2,4] mem (mem.set 2 (.lst (marks.map rowV ++ [.tup [.int spot,.str (Str.ofString code)]]))):=Kp.set (.head _)
    have S2:=S.mark ((spot:Int),Str.ofString code)
    have hl:(mem.set 2 (.lst (marks.map rowV ++ [.tup [.int spot,.str (Str.ofString code)]]))).length = mem.length:=List.length_set
    generalize mem.set 2 (.lst (marks.map rowV ++ [.tup [.int spot,.str (Str.ofString code)]])) = m2 at K2 S2 hl ⊢
    exact hq _ S2.push (by rw [← hl]; exact bR) (by rw [List.length_append,hl]; rfl) (K2.trans Kp.push)
  have hnone:(bL taken spot lo hi) = ([],none)→post (.ref mem.length) (mem ++ [.lst []]):=by
    intro e
    rw [e] at hp
    exact hp (mem ++ [.lst []]) (by rw [List.append_nil,show (none:Option (Int × Int)).toList = [] from rfl,List.append_nil]; exact S.push) bR List.length_append Kp.push (fun t q=>nomatch q)
  cases lo with
  | none=>exact tt (yK (vcmp rfl rfl rfl) rfl) (tret (jB rfl (Nat.zero_le _) (hnone rfl)))
  | some a =>
    cases hi with
    | none=>exact tt (lI (vcmp rfl rfl rfl) rfl (vcmp rfl rfl rfl)) (tret (jB rfl (Nat.zero_le _) (hnone rfl)))
    | some b =>
      have ha:=hlo a rfl
      have hb:=hhi b rfl
      refine tf0 (lI (vcmp rfl rfl rfl) rfl (vcmp rfl rfl rfl)) ?_
      have bad:∀ code,bL taken spot (some a) (some b) = ([((spot:Int),Str.ofString code)],none)→∀ m',GS m' text (marks ++ [((spot:Int),Str.ofString code)]) taken→m'[mem.length]? = some (.lst [])→m'.length = mem.length + 1→Kp [2,4] mem m'→post (.ref mem.length) m':=fun code e m' S' e' l' K'=>by
        rw [e] at hp
        exact hp m' (by rw [show (none:Option (Int × Int)).toList = [] from rfl,List.append_nil]; exact S') e' l' K' (fun t q=>nomatch q)
      by_cases hlt:b < a
      · exact tt (vcmp rfl rfl (congrArg some (decide_eq_true hlt))) (hmark "label_range" _ _ _ _ _ (bad _ (if_pos hlt)))
      · refine tf0 (vcmp rfl rfl (congrArg some (decide_eq_false hlt))) (aAo rfl S.tk (taken.length + 1) (wloop (n:=n) S.tk (Int.not_lt.mp hlt) (Int.le_trans (by decide) ha.1) (Int.le_trans (Int.add_le_add_right hb.2 1) (by decide)) hw ?_ ?_ taken [] l8 rfl rfl))
        · intro h l8
          have e:bL taken spot (some a) (some b) = ([],some (a,b)):=(if_neg hlt).trans (if_neg (by rw [h]; exact Bool.false_ne_true))
          rw [e] at hp
          refine texpr (xapp rfl S.tk rfl (by rw [List.length_map]; exact Nat.le_trans hk (by decide)) (tret (jB rfl (Nat.le_of_ble_eq_true rfl) ?_)))
          rw [List.length_set]
          have K2:Kp [2,4] mem (mem.set 4 (.lst (taken.map bI ++ [.tup [.int a,.int b]]))):=Kp.set (.tail _ (.head _))
          have S2:=S.take (a,b)
          have hl:(mem.set 4 (.lst (taken.map bI ++ [.tup [.int a,.int b]]))).length = mem.length:=List.length_set
          generalize mem.set 4 (.lst (taken.map bI ++ [.tup [.int a,.int b]])) = m2 at K2 S2 hl ⊢
          exact hp _ (by rw [List.append_nil]; exact S2.push) (by rw [← hl]; exact bR) (by rw [List.length_append,hl]; rfl) (K2.trans Kp.push) (fun t q=>by cases List.mem_singleton.mp q; exact Int.not_lt.mp hlt)
        · intro h l8 nx
          exact hmark "label_twice" _ _ _ _ _ (bad _ ((if_neg hlt).trans (if_pos h)))
theorem aAL:isFun A.law_label = true:=by decide
theorem s_sdots:Str.ofString " .." = txt [32,46,46]:=by decide +kernel
structure RngGiven (f:Form) (mem m:Mem) (text:List Nat) (marks:List (Int × Str)) (taken:List (Int × Int)) (r:Rng):Prop where
  ok:r.ok = true
  k:0 < r.k
  len:r.len ≤ 20
  gs:GS m (text ++ r.chars) (marks ++ (r.sem f taken text.length).1) (taken ++ (r.sem f taken text.length).2.toList)
  made:m[mem.length]? = some (.lst ((r.sem f taken text.length).2.toList.map bI))
  size:m.length = mem.length + 1
  kp:Kp [1,2,3,4] mem m
  le:∀ t ∈ (r.sem f taken text.length).2.toList,t.1 ≤ t.2
theorem uQ (F:Facts K) (St:Stat T K hZ) {f:Form} {text:List Nat} {marks:List (Int × Str)} {taken:List (Int × Int)} (S:GS mem text marks taken) (hw:∀ t ∈ taken,t.1 ≤ t.2) (hb:text.length ≤ 7000) (hm:marks.length ≤ 800) (hk:taken.length ≤ 1000) :
    aA T K hZ (n + 3) A.law_range [.ref 1,.ref 3,.str (Str.ofString f.name),.ref 4] mem (fun v m=>v = .ref mem.length∧∃ r,RngGiven f mem m text marks taken r):=by
  refine aA.gen fun Q hQ=>?_
  refine F.ok_law_range.sem T hZ (n + 2) _ _ _ St rfl ?_
  refine tunp (xcall aAL (isc rfl (is2 rfl rfl)) (mZ (n:=n) F St S (Nat.le_trans hb (by decide)) (Nat.le_trans hm (by decide))) ?_)
  intro v m1 hq
  refine e2a2 hq fun k lo e0q G1=>?_
  subst e0q
  refine ⟨rfl,tasgp rfl (tite (xcmp (xcall iR (is2 rfl rfl) (mY F St 3 rfl G1.gs.pool (by decide)) ?_)))⟩
  intro v m2 hq
  refine e1a6 hq fun z hz0 hz3 e0q P2 K2 L2=>?_
  subst e0q
  have S2:=G1.gs.picked P2 K2
  have K12:Kp [1,2,3,4] mem m2:=(G1.kp.more (by decide)).trans (K2.more (by decide))
  have hl1:=dD (f:=f) (l:=lo) (p:=text.length + k)
  have hcl:=G1.len
  have hk1:=G1.k1
  have hk2:=G1.k2
  have hlt1:(text ++ (List.replicate k 32 ++ lo.chars)).length = text.length + (k + lo.chars.length):=by rw [List.length_append,List.length_append,List.length_replicate]
  have hml1:(marks ++ lmarks f lo (text.length + k)).length ≤ 801:=by rw [List.length_append]; exact Nat.add_le_add hm hl1
  refine xp rfl (os rfl (brb rfl (fun h2=>?_) (fun h2=>tnil ?_)))
  · walk_at "dl"
    refine aBI rfl rfl (itD S2.wd eG) (xp rfl (os (by rw [s_sdots]; exact kG (by rw [hlt1]; show _ + 3 ≤ _; lia)) (S2.put fun m3 S3 K3 L3=>?_)))
    have hlt3:(text ++ (List.replicate k 32 ++ lo.chars) ++ [32,46,46]).length = text.length + (k + lo.chars.length) + 3:=by rw [List.length_append,hlt1]; rfl
    refine tunp (xcall aAL (isc rfl (is2 rfl rfl)) (mZ (n:=n) F St S3 (by rw [hlt3]; lia) (Nat.le_trans hml1 (by decide))) ?_)
    intro v m4 hq
    refine e2a2 hq fun k2 l2 e0q G4=>?_
    subst e0q
    refine ⟨rfl,tnil ?_⟩
    walk_at "dl"
    have K14:Kp [1,2,3,4] mem m4:=(K12.trans (K3.more (by decide))).trans (G4.kp.more (by decide))
    have L14:m4.length = mem.length:=G4.size.trans (L3.trans (L2.trans G1.size))
    have hpos:(text ++ (List.replicate k 32 ++ lo.chars) ++ [32,46,46]).length + k2 = text.length + k + lo.chars.length + 3 + k2:=by rw [hlt3,← Nat.add_assoc text.length]
    have hl2:=dD (f:=f) (l:=l2) (p:=text.length + k + lo.chars.length + 3 + k2)
    have G4s:=G4.gs
    rw [hpos] at G4s
    have hg42:=G4.k2
    have hg4l:=G4.len
    refine qK (n:=n + 2) (spot:=text.length + k) (lo:=lo.val f) (hi:=l2.val f) G4s hw (fun i hi=>mB G1.ok hi) (fun i hi=>mB G4.ok hi) (by rw [List.length_append]; exact Nat.le_trans (Nat.add_le_add hml1 hl2) (by decide)) hk ?_
    intro m5 S5 e5 l5 K5 le5
    refine hQ _ _ ⟨by rw [L14],⟨k,lo,some (k2,l2)⟩,Bool.and_eq_true_iff.mpr ⟨G1.ok,G4.ok⟩,hk1,by show k + (lo.chars.length + (3 + (k2 + l2.chars.length))) ≤ 20; lia,?_,?_,by rw [l5,L14],K14.trans (K5.more (by decide)),le5⟩
    · show GS m5 (text ++ (List.replicate k 32 ++ (lo.chars ++ 32 :: 46 :: 46 :: (List.replicate k2 32 ++ l2.chars)))) (marks ++ (lmarks f lo (text.length + k) ++ lmarks f l2 (text.length + k + lo.chars.length + 3 + k2) ++ _)) _
      rw [← List.append_assoc marks,← List.append_assoc marks]
      have e:text ++ (List.replicate k 32 ++ (lo.chars ++ 32 :: 46 :: 46 :: (List.replicate k2 32 ++ l2.chars))) = text ++ (List.replicate k 32 ++ lo.chars) ++ [32,46,46] ++ (List.replicate k2 32 ++ l2.chars):=by
        rw [List.append_assoc,List.append_assoc,List.append_assoc]; rfl
      rw [e]; exact S5
    · rw [← L14]; exact e5
  · walk_at "dl"
    have L12:m2.length = mem.length:=L2.trans G1.size
    refine qK (n:=n + 2) (spot:=text.length + k) (lo:=lo.val f) (hi:=lo.val f) S2 hw (fun i hi=>mB G1.ok hi) (fun i hi=>mB G1.ok hi) (Nat.le_trans hml1 (by decide)) hk ?_
    intro m5 S5 e5 l5 K5 le5
    refine hQ _ _ ⟨by rw [L12],⟨k,lo,none⟩,by show (lo.ok && true) = true; rw [Bool.and_true]; exact G1.ok,hk1,by show k + (lo.chars.length + 0) ≤ 20; lia,?_,?_,by rw [l5,L12],K12.trans (K5.more (by decide)),le5⟩
    · show GS m5 (text ++ (List.replicate k 32 ++ (lo.chars ++ []))) (marks ++ (lmarks f lo (text.length + k) ++ [] ++ _)) _
      rw [List.append_nil lo.chars,List.append_nil,← List.append_assoc marks]
      exact S5
    · rw [← L12]; exact e5
end
theorem gM (r:Rng):∀ rs:List Rng,aZ (rs ++ [r]) = if rs = [] then r.chars else aZ rs ++ 44 :: r.chars
  | []=>rfl
  | [x]=>by simp [aZ]
  | x :: y :: rs=>by
    have:=gM r (y :: rs)
    simp only [List.cons_append,aZ,reduceCtorEq,if_false] at this ⊢
    rw [this]; simp
noncomputable def rpos (p:Nat) (rs:List Rng):Nat:=if rs = [] then p else p + bK rs + 1
theorem gC {f:Form} (r:Rng):∀ (rs:List Rng) (taken:List (Int × Int)) (p:Nat),aH f taken p (rs ++ [r]) = ((aH f taken p rs).1 ++ (r.sem f (taken ++ (aH f taken p rs).2) (rpos p rs)).1,(aH f taken p rs).2 ++ (r.sem f (taken ++ (aH f taken p rs).2) (rpos p rs)).2.toList)
  | [],taken,p=>by simp [aH,rpos]
  | x :: rs,taken,p=>by
    rw [List.cons_append,aH,gC r rs,aH]
    have e:rpos (p + x.len + 1) rs = rpos p (x :: rs):=by
      cases rs with
      | nil=>simp [rpos,bK]
      | cons y rs=>simp only [rpos,bK,reduceCtorEq,if_false]; lia
    rw [e]
    simp [List.append_assoc]
theorem fX (c:List Rng):∀ cs:List (List Rng),aE (cs ++ [c]) = if cs = [] then aU c else aE cs ++ 32 :: 124 :: aU c
  | []=>rfl
  | [x]=>by simp [aE]
  | x :: y :: cs=>by
    have:=fX c (y :: cs)
    simp only [List.cons_append,aE,reduceCtorEq,if_false] at this ⊢
    rw [this]; simp
noncomputable def cpos (p:Nat) (cs:List (List Rng)):Nat:=if cs = [] then p else p + bV cs + 2
theorem cG {f:Form} (c:List Rng):∀ (cs:List (List Rng)) (taken:List (Int × Int)) (p:Nat),aF f taken p (cs ++ [c]) = ((aF f taken p cs).1 ++ (aH f (taken ++ (aF f taken p cs).2.flatten) (cpos p cs) c).1,(aF f taken p cs).2 ++ if c = [] then [] else [(aH f (taken ++ (aF f taken p cs).2.flatten) (cpos p cs) c).2])
  | [],taken,p=>by simp [aF,cpos]
  | x :: cs,taken,p=>by
    rw [List.cons_append,aF,cG c cs,aF]
    have e:cpos (p + aW x + 2) cs = cpos p (x :: cs):=by
      cases cs with
      | nil=>simp [cpos,bV]
      | cons y cs=>simp only [cpos,bV,reduceCtorEq,if_false]; lia
    have e2:(taken ++ (aH f taken p x).2) ++ (aF f (taken ++ (aH f taken p x).2) (p + aW x + 2) cs).2.flatten = taken ++ ((if x = [] then [] else [(aH f taken p x).2]) ++ (aF f (taken ++ (aH f taken p x).2) (p + aW x + 2) cs).2).flatten:=by
      by_cases h:x = []
      · subst h; simp [aH]
      · simp [h]
    rw [e,e2]
    simp [List.append_assoc]
section
variable {T:CT} {K:Frag} {hZ:Heap} {n:Nat} {mem:Mem}
theorem s_comma':Str.ofString "," = txt [44]:=by decide +kernel
theorem s_bar':Str.ofString " |" = txt [32,124]:=by decide +kernel
theorem s_colon':Str.ofString " :" = txt [32,58]:=by decide +kernel
theorem isLRange:isFun A.law_range = true:=by decide
noncomputable def sbod:List IS:=[.ite (.p (.cmp .Gt (.loc 10) (.cst (.int 0)))) [.augI (.p (.loc 4)) (.p (.cst (.str (Str.ofString "wide")))) .Add (.p (.cst (.str (Str.ofString ","))))] [],.augN 9 .Add (.call (.glob (.glob A.law_range)) [(.p (.loc 1)),(.p (.loc 4)),(.p (.loc 3)),(.p (.loc 5))])]
noncomputable def lw (l0 l2 l3 l7 l8 l9 l10:Option V):Locs:=[l0,some (.ref 1),l2,l3,some (.ref 3),some (.ref 4),some (.ref 5),l7,l8,l9,l10,none,none,none,none,none,none,none,none,none,none,none]
noncomputable def kR (many:Nat):List V:=(List.range many).map fun (j:Nat)=>V.int (j:Int)
theorem vX {many j:Nat} (h:j < many):(kR many)[j]? = some (.int j):=by simp [kR,h]
theorem sG {many:Nat}:(kR many)[many]? = none:=by simp [kR]
structure RowS (f:Form) (m0 m:Mem) (T0:List Nat) (M0:List (Int × Str)) (tk0:List (Int × Int)) (L:Nat) (rs:List Rng):Prop where
  gs:GS m (T0 ++ aZ rs) (M0 ++ (aH f tk0 T0.length rs).1) (tk0 ++ (aH f tk0 T0.length rs).2)
  row:m[L]? = some (.lst ((aH f tk0 T0.length rs).2.map bI))
  kp:Kp [1,2,3,4,L] m0 m
  ok:∀ x ∈ rs,x.ok = true∧0 < x.k
  len:bK rs ≤ 21 * rs.length
  le:∀ t ∈ (aH f tk0 T0.length rs).2,t.1 ≤ t.2
theorem vZ (rs:List Rng) (r:Rng):bK (rs ++ [r]) = (if rs = [] then 0 else bK rs + 1) + r.len:=by
  rw [← fE,gM,← fE]
  split <;> simp [r.len_eq]
  lia
theorem aAu (F:Facts K) (St:Stat T K hZ) {f:Form} {l0 l2 l7 l8:Option V} {many L:Nat} {post:V→Mem→Prop} {kk:Locs→Mem→Prop} {m0:Mem} {T0:List Nat} {M0:List (Int × Str)} {tk0:List (Int × Int)} (hL:6 ≤ L) (hT:T0.length ≤ 5000) (hM:M0.length ≤ 500) (htk:tk0.length ≤ 500) (hmany:many ≤ 10) (hle0:∀ t ∈ tk0,t.1 ≤ t.2)
    (hk:∀ (rs:List Rng) (m:Mem) (l10:Option V),rs.length = many→RowS f m0 m T0 M0 tk0 L rs→kk (lw l0 l2 (some (.str (Str.ofString f.name))) l7 l8 (some (.ref L)) l10) m) :
    ∀ (N j:Nat) (rs:List Rng) (m:Mem) (l10:Option V),j + N = many + 1→0 < N→rs.length = j→RowS f m0 m T0 M0 tk0 L rs →
      forW T K hZ (n + 3) 10 sbod post (.vals (kR many)) N j (lw l0 l2 (some (.str (Str.ofString f.name))) l7 l8 (some (.ref L)) l10) m kk
  | 0,_,_,_,_,_,h,_,_=>absurd h (by lia)
  | N + 1,j,rs,m,l10,hj,_,hr,R=>by
    by_cases hend:j = many
    · subst hend
      exact fA (by rw [nZ,sG]) (hk rs m l10 hr R)
    · have hlt:j < many:=by lia
      refine cB (x:=.int j) (by rw [nZ,vX hlt]) ?_
      have hs:=iB (f:=f) rs tk0 T0.length
      have hrl:=R.len
      have hcl:=fE rs
      have turn:∀ (m1:Mem) (T1:List Nat),GS m1 T1 (M0 ++ (aH f tk0 T0.length rs).1) (tk0 ++ (aH f tk0 T0.length rs).2)→T1 = T0 ++ (if rs = [] then [] else aZ rs ++ [44])→Kp [3] m m1 →
          wpSs T K hZ (n + 3) (lw l0 l2 (some (.str (Str.ofString f.name))) l7 l8 (some (.ref L)) (some (.int (j:Int)))) [.augN 9 .Add (.call (.glob (.glob A.law_range)) [(.p (.loc 1)),(.p (.loc 4)),(.p (.loc 3)),(.p (.loc 5))])] m1 (fun l m=>forW T K hZ (n + 3) 10 sbod post (.vals (kR many)) N (j + 1) l m kk) post kk:=by
        intro m1 T1 G1 hT1 K1
        have hTl:T1.length = rpos T0.length rs:=by
          rw [hT1]; unfold rpos; split <;> simp [hcl]; lia
        have hTb:T1.length ≤ 7000:=by rw [hTl]; unfold rpos; split <;> lia
        refine taugN rfl (xcall isLRange (isc rfl (isc rfl (is2 rfl rfl))) (uQ (n:=n) F St G1 (fun t ht=>(List.mem_append.mp ht).elim (hle0 t) (R.le t)) hTb (by rw [List.length_append]; lia) (by rw [List.length_append]; lia)) ?_)
        rintro v m2 ⟨rfl,r,G2⟩
        have row1:=K1.at R.row (nin1 (by lia))
        have row2:=G2.kp.at row1 (ninc (by lia) (nin3 (by lia) (by lia) (by lia)))
        have hlo:=cA row1
        have hz2:(r.sem f (tk0 ++ (aH f tk0 T0.length rs).2) T1.length).2.toList.length ≤ 1:=by cases (r.sem f (tk0 ++ (aH f tk0 T0.length rs).2) T1.length).2; exact Nat.zero_le 1; exact Nat.le_refl 1
        refine iopM_add row2 G2.made (by rw [List.length_map,List.length_map]; lia) ?_
        have K12:Kp [1,2,3,4,L] m0 (m2.set L (.lst ((aH f tk0 T0.length rs).2.map bI ++ (r.sem f (tk0 ++ (aH f tk0 T0.length rs).2) T1.length).2.toList.map bI))):=((R.kp.trans (K1.more fun i hi=>List.mem_singleton.mp hi ▸ .tail _ (.tail _ (.head _)))).trans (G2.kp.more fun i hi=>List.mem_append_left [L] hi)).trans (Kp.set (.tail _ (.tail _ (.tail _ (.tail _ (.head _))))))
        have KL:Kp [L] m2 (m2.set L (.lst ((aH f tk0 T0.length rs).2.map bI ++ (r.sem f (tk0 ++ (aH f tk0 T0.length rs).2) T1.length).2.toList.map bI))):=Kp.set (.head _)
        refine tnil (aAu F St (l0:=l0) (l2:=l2) (l7:=l7) (l8:=l8) (m0:=m0) (M0:=M0) hL hT hM htk hmany hle0 hk N (j + 1) (rs ++ [r]) _ (some (.int j)) (by lia) (by lia) (by rw [List.length_append,hr]; rfl) ⟨?_,?_,K12,?_,?_,?_⟩)
        · have G3:=G2.gs.kp KL fun i hi=>nin1 (Nat.ne_of_lt (Nat.lt_of_lt_of_le ((by decide:∀ i ∈ [0,1,2,3,4],i < 6) i hi) hL))
          have eT:T1 ++ r.chars = T0 ++ aZ (rs ++ [r]):=by
            rw [gM,hT1]; by_cases h:rs = [] <;> simp [h]
          rw [eT,hTl] at G3
          rw [gC,hTl,← List.append_assoc,← List.append_assoc]
          exact G3
        · rw [gC,hTl,List.map_append]; exact eI row2
        · intro x hx
          rcases List.mem_append.mp hx with hx | hx
          · exact R.ok x hx
          · cases List.mem_singleton.mp hx; exact ⟨G2.ok,G2.k⟩
        · rw [vZ,List.length_append]; have:=G2.len; show _ ≤ 21 * (rs.length + 1); split <;> lia
        · intro t ht
          rw [gC] at ht
          rcases List.mem_append.mp ht with ht | ht
          · exact R.le t ht
          · exact G2.le t (by rw [hTl]; exact ht)
      by_cases h0:j = 0
      · subst h0
        have hrs:rs = []:=List.length_eq_zero_iff.mp hr
        have G:=R.gs
        rw [hrs,show aZ [] = [] from rfl,List.append_nil] at G
        refine tf0 (vcmp rfl rfl rfl) (turn m T0 ?_ ?_ (Kp.refl _ _))
        · rw [hrs]; exact G
        · rw [if_pos hrs,List.append_nil]
      · have hrs:rs ≠ []:=by intro q; subst q; exact h0 hr.symm
        have hjp:(0:Int) < (j:Int):=by lia
        refine tt (vcmp rfl rfl (congrArg some (decide_eq_true hjp))) (aBI rfl rfl (itD R.gs.wd eG) (xp rfl (os (by rw [s_comma']; exact kG (by rw [List.length_append,hcl]; show _ + 1 ≤ _; lia)) (R.gs.put fun m1 S1 K1 L1=>tnil ?_))))
        exact turn m1 _ S1 (by rw [if_neg hrs,List.append_assoc]) K1
end
inductive eS (m:Mem):List V→List (List (Int × Int))→Prop
  | nil:eS m [] []
  | cons {i:Nat} {l:List (Int × Int)} {vs:List V} {ls:List (List (Int × Int))}:m[i]? = some (.lst (l.map bI))→6 ≤ i→eS m vs ls→eS m (.ref i :: vs) (l :: ls)
theorem eS.kp {m m':Mem} {X:List Nat} (k:Kp X m m'):∀ {vs:List V} {ls:List (List (Int × Int))},eS m vs ls→(∀ i ∈ X,i < 6 ∨ m.length ≤ i)→eS m' vs ls
  | _,_,.nil,_=>.nil
  | _,_,.cons h g r,hX=>.cons (k.at h (fun q=>by have:=hX _ q; have:=cA h; lia)) g (eS.kp k r hX)
theorem eS.snoc {m:Mem} {i:Nat} {l:List (Int × Int)} (h:m[i]? = some (.lst (l.map bI))) (g:6 ≤ i):∀ {vs:List V} {ls:List (List (Int × Int))},eS m vs ls→eS m (vs ++ [.ref i]) (ls ++ [l])
  | _,_,.nil=>.cons h g .nil
  | _,_,.cons h' g' r=>.cons h' g' (eS.snoc h g r)
theorem eS.len {m:Mem}:∀ {vs:List V} {ls:List (List (Int × Int))},eS m vs ls→vs.length = ls.length
  | _,_,.nil=>rfl
  | _,_,.cons _ _ r=>congrArg Nat.succ (eS.len r)
section
variable {T:CT} {K:Frag} {hZ:Heap} {n:Nat} {mem:Mem}
noncomputable def obod:List IS:=[.ite (.p (.cmp .Gt (.loc 7) (.cst (.int 0)))) [.augI (.p (.loc 4)) (.p (.cst (.str (Str.ofString "wide")))) .Add (.p (.cst (.str (Str.ofString " |"))))] [],.asg 8 (.call (.glob (.glob A.law_pick)) [(.p (.loc 1)),(.p (.cst (.int 5)))]),.asg 9 (.lstM []),.for1 10 (.range (.p (.loc 8))) sbod,.ite (.p (.cmp .Gt (.loc 8) (.cst (.int 0)))) [.augI (.p (.loc 4)) (.p (.cst (.str (Str.ofString "wide")))) .Add (.p (.cst (.str (Str.ofString " :")))),.expr (.meth (.p (.loc 6)) .aP [(.p (.loc 9))])] []]
structure CaseS (f:Form) (m:Mem) (B:List Nat) (M0:List (Int × Str)) (cs:List (List Rng)):Prop where
  gs:GS m (B ++ aE cs) (M0 ++ (aF f [] 9 cs).1) (aF f [] 9 cs).2.flatten
  due:∃ refs,m[5]? = some (.lst refs)∧eS m refs (aF f [] 9 cs).2
  ok:∀ c ∈ cs,∀ x ∈ c,x.ok = true∧0 < x.k
  few:tot cs ≤ 4 * cs.length
  len:bV cs ≤ 100 * cs.length
  ml:(aF f [] 9 cs).1.length ≤ 12 * cs.length
  tl:(aF f [] 9 cs).2.flatten.length ≤ 4 * cs.length
  nl:(aF f [] 9 cs).2.length ≤ cs.length
  le:∀ t ∈ (aF f [] 9 cs).2.flatten,t.1 ≤ t.2
theorem uX (cs:List (List Rng)) (c:List Rng):bV (cs ++ [c]) = (if cs = [] then 0 else bV cs + 2) + aW c:=by
  rw [← dU,fX,← dU,← oJ]
  split <;> simp
  lia
theorem aAl (c:List Rng):∀ cs:List (List Rng),tot (cs ++ [c]) = tot cs + c.length
  | []=>by simp [tot]
  | x :: cs=>by simp only [List.cons_append,tot,aAl c cs]; lia
set_option tactic.hygienic true in
theorem xS (F:Facts K) (St:Stat T K hZ) {f:Form} {l0 l2:Option V} {many:Nat} {post:V→Mem→Prop} {kk:Locs→Mem→Prop} {B:List Nat} {M0:List (Int × Str)} (hB:B.length = 9) (hM:M0.length ≤ 10) (hmany:many ≤ 10)
    (hk:∀ (cs:List (List Rng)) (m:Mem) (l7 l8 l9 l10:Option V),cs.length = many→CaseS f m B M0 cs→kk (lw l0 l2 (some (.str (Str.ofString f.name))) l7 l8 l9 l10) m) :
    ∀ (N j:Nat) (cs:List (List Rng)) (m:Mem) (l7 l8 l9 l10:Option V),j + N = many + 1→0 < N→cs.length = j→CaseS f m B M0 cs →
      forW T K hZ (n + 3) 7 obod post (.vals (kR many)) N j (lw l0 l2 (some (.str (Str.ofString f.name))) l7 l8 l9 l10) m kk
  | 0,_,_,_,_,_,_,_,_,h,_,_=>absurd h (by lia)
  | N + 1,j,cs,m,l7,l8,l9,l10,hj,_,hr,R=>by
    by_cases hend:j = many
    · subst hend
      exact fA (by rw [nZ,sG]) (hk cs m l7 l8 l9 l10 hr R)
    · have hlt:j < many:=by lia
      refine cB (x:=.int j) (by rw [nZ,vX hlt]) ?_
      have hcl:=dU cs
      have hlen:=R.len
      have hml:=R.ml
      have htl:=R.tl
      have hnl:=R.nl
      have hfew:=R.few
      have turn:∀ (m1:Mem) (T1:List Nat),GS m1 T1 (M0 ++ (aF f [] 9 cs).1) (aF f [] 9 cs).2.flatten→T1 = B ++ aE cs ++ (if cs = [] then [] else [32,124])→Kp [3] m m1→m1.length = m.length →
          wpSs T K hZ (n + 3) (lw l0 l2 (some (.str (Str.ofString f.name))) (some (.int (j:Int))) l8 l9 l10) (obod.drop 1) m1 (fun l m=>forW T K hZ (n + 3) 7 obod post (.vals (kR many)) N (j + 1) l m kk) post kk:=by
        intro m1 T1 G1 hT1 K1 hl1
        refine e1a2 R.due fun refs hd D=>?_
        have l5:=(List.getElem?_eq_some_iff.mp hd).1
        have hTl:T1.length = cpos 9 cs:=by
          rw [hT1]; unfold cpos; split
          · rename_i h; subst h; simp [aE,hB]
          · simp [hcl,hB]; lia
        have hTb:T1.length ≤ 2000:=by rw [hTl]; unfold cpos; split <;> lia
        refine casg iR (is2 rfl rfl) (dK F St 5 rfl G1.pool (by decide)) ?_
        rintro v m2 ⟨q,hq,rfl,P2,K2,L2⟩
        have G2:=G1.picked P2 K2
        have hm2l:m2.length = m.length:=L2.trans hl1
        refine tasg (jB rfl (Nat.zero_le _) ?_)
        rw [bX,oP,uI]
        refine xp rfl ?_
        rw [nV]
        refine ⟨Nat.le_trans (Nat.le_of_lt hq) (by decide),q + 1,?_⟩
        have R0:RowS f (m2 ++ [.lst []]) (m2 ++ [.lst []]) T1 (M0 ++ (aF f [] 9 cs).1) (aF f [] 9 cs).2.flatten m2.length []:=by
          refine ⟨?_,bR,Kp.refl _ _,(fun x hx=>nomatch hx),Nat.zero_le _,fun t ht=>nomatch ht⟩
          rw [show aZ [] = [] from rfl,List.append_nil,show aH f (aF f [] 9 cs).2.flatten T1.length [] = ([],[]) from rfl,List.append_nil,List.append_nil]
          exact G2.push
        have K02:Kp [1,3] m (m2 ++ [.lst []]):=((K1.more (by decide)).trans (K2.more (by decide))).trans Kp.push
        have step:=aAu (T:=T) (K:=K) (hZ:=hZ) (n:=n) F St (f:=f) (l0:=l0) (l2:=l2) (l7:=some (.int j)) (l8:=some (.int q)) (many:=q) (L:=m2.length) (post:=post) (kk:=fun l m=>wpSs T K hZ (n + 3) l (obod.drop 4) m (fun l m=>forW T K hZ (n + 3) 7 obod post (.vals (kR many)) N (j + 1) l m kk) post kk) (m0:=m2 ++ [.lst []]) (T0:=T1) (M0:=M0 ++ (aF f [] 9 cs).1) (tk0:=(aF f [] 9 cs).2.flatten) (by lia) (Nat.le_trans hTb (by decide)) (by rw [List.length_append]; lia) (by lia) (by lia) R.le ?_ (q + 1) 0 [] (m2 ++ [.lst []]) l10 (by lia) (by lia) rfl R0
        · exact step
        · intro rs m3 l10 hrs Q
          have hsl:=iB (f:=f) rs (aF f [] 9 cs).2.flatten T1.length
          have hqlen:=Q.len
          have hrl:=fE rs
          have K23:=Q.kp
          have K13:Kp [1,2,3,4,m2.length] m m3:=(K02.more fun i hi=>(List.mem_cons.mp hi).elim (fun q=>q ▸ .head _) fun hi=>List.mem_singleton.mp hi ▸ .tail _ (.tail _ (.head _))).trans K23
          have hd3:=K13.at hd (ninc (by decide) (ninc (by decide) (nin3 (by decide) (by decide) (by lia))))
          have D3:=eS.kp K13 D fun i hi=>by
            rcases List.mem_append.mp (show i ∈ [1,2,3,4] ++ [m2.length] from hi) with h | h
            · exact .inl ((by decide:∀ i ∈ [1,2,3,4],i < 6) i h)
            · exact .inr (by rw [List.mem_singleton.mp h,hm2l]; exact Nat.le_refl _)
          have row3:=Q.row
          have l3:=cA row3
          have hrefs:=D.len
          have fin:∀ (m4:Mem) (l7 l8 l9 l10:Option V),GS m4 (T1 ++ aU rs) (M0 ++ (aF f [] 9 cs).1 ++ (aH f (aF f [] 9 cs).2.flatten T1.length rs).1) ((aF f [] 9 cs).2.flatten ++ (aH f (aF f [] 9 cs).2.flatten T1.length rs).2) →
              (∃ refs,m4[5]? = some (.lst refs)∧eS m4 refs ((aF f [] 9 cs).2 ++ if rs = [] then [] else [(aH f (aF f [] 9 cs).2.flatten T1.length rs).2]))→forW T K hZ (n + 3) 7 obod post (.vals (kR many)) N (j + 1) (lw l0 l2 (some (.str (Str.ofString f.name))) l7 l8 l9 l10) m4 kk:=by
            intro m4 l7 l8 l9 l10 G4 D4
            have hflat:((aF f [] 9 cs).2 ++ if rs = [] then [] else [(aH f (aF f [] 9 cs).2.flatten T1.length rs).2]).flatten = (aF f [] 9 cs).2.flatten ++ (aH f (aF f [] 9 cs).2.flatten T1.length rs).2:=by
              by_cases h:rs = []
              · subst h; rw [if_pos rfl,List.append_nil,show aH f (aF f [] 9 cs).2.flatten T1.length [] = ([],[]) from rfl,List.append_nil]
              · rw [if_neg h,List.flatten_append,List.flatten_cons,List.flatten_nil,List.append_nil]
            have hcase:aW rs ≤ 88:=by unfold aW; split <;> lia
            refine xS F St hB hM hmany hk N (j + 1) (cs ++ [rs]) m4 l7 l8 l9 l10 (by lia) (by lia) (by rw [List.length_append,hr]; rfl) ⟨?_,?_,?_,?_,?_,?_,?_,?_,?_⟩
            · have eT:T1 ++ aU rs = B ++ aE (cs ++ [rs]):=by
                rw [fX,hT1]; by_cases h:cs = []
                · subst h; simp [aE]
                · simp [h]
              rw [eT,hTl] at G4
              rw [hTl] at hflat
              rw [cG]
              simp only [List.nil_append]
              rw [hflat,← List.append_assoc]
              exact G4
            · rw [cG]; simp only [List.nil_append]; rw [← hTl]; exact D4
            · intro c hc x hx
              rcases List.mem_append.mp hc with hc | hc
              · exact R.ok c hc x hx
              · cases List.mem_singleton.mp hc; exact Q.ok x hx
            · rw [aAl,List.length_append]; show _ ≤ 4 * (cs.length + 1); lia
            · rw [uX,List.length_append]; show _ ≤ 100 * (cs.length + 1); split <;> lia
            · rw [cG]; simp only [List.nil_append]; rw [← hTl,List.length_append,List.length_append]; show _ ≤ 12 * (cs.length + 1); lia
            · rw [cG]; simp only [List.nil_append]; rw [← hTl,hflat,List.length_append,List.length_append]; show _ ≤ 4 * (cs.length + 1); lia
            · rw [cG]; simp only [List.nil_append]; rw [List.length_append,List.length_append]; refine Nat.add_le_add hnl ?_; split; exact Nat.zero_le 1; exact Nat.le_refl 1
            · rw [cG]; simp only [List.nil_append]; rw [← hTl,hflat]
              intro t ht
              rcases List.mem_append.mp ht with ht | ht
              · exact R.le t ht
              · exact Q.le t ht
          by_cases hq0:q = 0
          · subst hq0
            have hrs0:rs = []:=List.length_eq_zero_iff.mp hrs
            subst hrs0
            exact tf0 (vcmp rfl rfl rfl) (tnil (fin m3 (some (.int j)) (some (.int 0)) (some (.ref m2.length)) l10 Q.gs ⟨refs,hd3,by rw [if_pos rfl,List.append_nil]; exact D3⟩))
          · have hrs0:rs ≠ []:=by intro e; subst e; exact hq0 hrs.symm
            have hqp:(0:Int) < (q:Int):=by lia
            refine tt (vcmp rfl rfl (congrArg some (decide_eq_true hqp))) (aBI rfl rfl (itD Q.gs.wd eG) (xp rfl (os (by rw [s_colon']; exact kG (by rw [List.length_append,hrl]; show _ + 2 ≤ _; lia)) (Q.gs.put fun m5 S5 K5 L5=>?_))))
            have hd5:=K5.at hd3 (by decide)
            have D5:=eS.kp K5 D3 fun i hi=>.inl (by rw [List.mem_singleton.mp hi]; decide)
            have row5:=K5.at row3 (nin1 (by lia))
            refine texpr (xapp rfl hd5 rfl (by rw [hrefs]; lia) (tnil (tnil ?_)))
            have K6:Kp [5] m5 (m5.set 5 (.lst (refs ++ [.ref m2.length]))):=Kp.set (.head _)
            have row6:=K6.at row5 (nin1 (by lia))
            refine fin (m5.set 5 (.lst (refs ++ [.ref m2.length]))) (some (.int j)) (some (.int q)) (some (.ref m2.length)) l10 ?_ ⟨refs ++ [.ref m2.length],eI hd5,by rw [if_neg hrs0]; exact eS.snoc row6 (by lia) (eS.kp K6 D5 fun i hi=>.inl (by rw [List.mem_singleton.mp hi]; decide))⟩
            rw [show aU rs = aZ rs ++ [32,58] from if_neg hrs0,← List.append_assoc]
            exact S5.kp K6 (by decide)
      by_cases h0:j = 0
      · subst h0
        have hrs:cs = []:=List.length_eq_zero_iff.mp hr
        exact tf0 (vcmp rfl rfl rfl) (turn m (B ++ aE cs) R.gs (by rw [if_pos hrs,List.append_nil]) (Kp.refl _ _) rfl)
      · have hrs:cs ≠ []:=by intro q; subst q; exact h0 hr.symm
        have hjp:(0:Int) < (j:Int):=by lia
        refine tt (vcmp rfl rfl (congrArg some (decide_eq_true hjp))) (aBI rfl rfl (itD R.gs.wd eG) (xp rfl (os (by rw [s_bar']; exact kG (by rw [List.length_append,hcl,hB]; show _ + 2 ≤ _; lia)) (R.gs.put fun m1 S1 K1 L1=>tnil ?_))))
        exact turn m1 _ S1 (by rw [if_neg hrs]) K1 L1
end
noncomputable def shift (k:Nat) (r:Int × Str):Int × Str:=(r.1 + k,r.2)
theorem jK {f:Form} {l:Lab} {p k:Nat}:lmarks f l (p + k) = (lmarks f l p).map (shift k):=by
  unfold lmarks; split <;> simp [shift]
theorem mG {taken:List (Int × Int)} {s k:Nat} {a b:Option Int}:bL taken (s + k) a b = ((bL taken s a b).1.map (shift k),(bL taken s a b).2):=by
  unfold bL
  split
  · split
    · simp [shift]
    · split <;> simp [shift]
  · simp
theorem aDD {f:Form} {taken:List (Int × Int)} {p k:Nat} (r:Rng):r.sem f taken (p + k) = ((r.sem f taken p).1.map (shift k),(r.sem f taken p).2):=by
  obtain ⟨j,lo,hi⟩:=r
  have e1:p + k + j = (p + j) + k:=by lia
  cases hi with
  | none=>simp only [Rng.sem]; rw [e1,jK,mG]; simp
  | some h =>
    obtain ⟨k2,l2⟩:=h
    simp only [Rng.sem]
    rw [e1,show p + j + k + lo.chars.length + 3 + k2 = (p + j + lo.chars.length + 3 + k2) + k by lia,jK (l:=lo),jK (l:=l2),mG]; simp
theorem sH {f:Form} {k:Nat}:∀ (rs:List Rng) (taken:List (Int × Int)) (p:Nat),aH f taken (p + k) rs = ((aH f taken p rs).1.map (shift k),(aH f taken p rs).2)
  | [],taken,p=>by simp [aH]
  | r :: rs,taken,p=>by
    rw [aH,aDD,show p + k + r.len + 1 = (p + r.len + 1) + k by lia,sH rs,aH]
    simp
theorem rG {f:Form} {k:Nat}:∀ (cs:List (List Rng)) (taken:List (Int × Int)) (p:Nat),aF f taken (p + k) cs = ((aF f taken p cs).1.map (shift k),(aF f taken p cs).2)
  | [],taken,p=>by simp [aF]
  | c :: cs,taken,p=>by
    rw [aF,sH,show p + k + aW c + 2 = (p + aW c + 2) + k by lia,rG cs,aF]
    simp
theorem aBL {f:Form} {p k:Nat}:aT f (p + k) = (aT f p).map (shift k):=by
  unfold aT; split <;> simp [shift]
noncomputable def Codes (rows:List (Int × Str)):Prop:=∀ r ∈ rows,PyData.strOk r.2 = true
theorem fW:Codes []:=fun r h=>by cases h
theorem Codes.app {a b:List (Int × Str)} (x:Codes a) (y:Codes b):Codes (a ++ b):=fun r hr=>(List.mem_append.mp hr).elim (x r) (y r)
theorem Codes.shift {a:List (Int × Str)} (x:Codes a) (k:Nat):Codes (a.map (shift k)):=fun r hr=>by
  refine e1a2 (List.mem_map.mp hr) fun q hq e0q=>?_
  subst e0q
  exact x q hq
theorem nE {p:Int} {s:String} (h:PyData.strOk (Str.ofString s) = true):Codes [(p,Str.ofString s)]:=fun r hr=>by simp at hr; subst hr; exact h
theorem jL {f:Form} {l:Lab} {p:Nat}:Codes (lmarks f l p):=by
  unfold lmarks; split
  · exact nE (by decide +kernel)
  · exact fW
theorem mH {taken:List (Int × Int)} {s:Nat} {a b:Option Int}:Codes (bL taken s a b).1:=by
  unfold bL
  split
  · split
    · exact nE (by decide +kernel)
    · split
      · exact nE (by decide +kernel)
      · exact fW
  · exact fW
theorem aDE {f:Form} {taken:List (Int × Int)} {p:Nat} (r:Rng):Codes (r.sem f taken p).1:=by
  obtain ⟨j,lo,hi⟩:=r
  cases hi with
  | none=>exact (jL.app fW).app mH
  | some h=>exact (jL.app jL).app mH
theorem sI {f:Form}:∀ (rs:List Rng) (taken:List (Int × Int)) (p:Nat),Codes (aH f taken p rs).1
  | [],_,_=>fW
  | r :: rs,taken,p=>by rw [aH]; exact (aDE r).app (sI rs _ _)
theorem rI {f:Form}:∀ (cs:List (List Rng)) (taken:List (Int × Int)) (p:Nat),Codes (aF f taken p cs).1
  | [],_,_=>fW
  | c :: cs,taken,p=>by rw [aF]; exact (sI c _ _).app (rI cs _ _)
theorem aBM {f:Form} {p:Nat}:Codes (aT f p):=by
  unfold aT; split
  · exact nE (by decide +kernel)
  · exact fW
noncomputable def rowD (r:Int × Str):PyData:=.tuple [.int r.1,.str r.2]
noncomputable def pairD (r:Int × Int):PyData:=.tuple [.int r.1,.int r.2]
theorem aDB (rows:List (Int × Str)):toDs (rows.map rowV) = some (rows.map rowD):=tS (fun _=>rfl) rows
theorem aDC {m:Mem} (rows:List (Int × Str)):elDs m (rows.map rowV) = some (rows.map rowD):=(aBk _).trans (aAI (fun _=>rfl) rows)
theorem yP {rows:List (Int × Str)} (h:Codes rows):shaped (.list (rows.map rowD)) = true :=
  nR (n:=1) rows (fun q hq=>⟨by show (PyData.strOk q.2 && true) = true; rw [h q hq]; rfl,Nat.le_refl _⟩) (by decide)
theorem qU {m:Mem} {a b:V} {d:PyData} (ha:topD m a = some d) (hb:topD m b = some d) (hs:shaped d = true):oZ m a b = some true:=(aFi ha hb hs hs).trans (congrArg some (PySem.SeqAt.eqv_refl d (canLay_of_shaped hs)))
theorem aEg {m:Mem} {xs:List V} {ds:List PyData} (h:toDs xs = some ds):topD m (.lst xs) = some (.list ds):=congrArg (Option.map PyData.list) h
theorem aDO {m:Mem} {r:Nat} {xs:List V} {ds:List PyData} (h:m[r]? = some (.lst xs)) (hs:elDs m xs = some ds):topD m (.ref r) = some (.list ds):=(aO (show dT m r = some xs from aO h)).trans (congrArg (Option.map PyData.list) hs)
theorem rows_ne {m:Mem} {r:Nat} {rows:List (Int × Str)} (h:m[r]? = some (.lst (rows.map rowV))) (hc:Codes rows):cmpV m .NotEq (.ref r) (.lst (rows.map rowV)) = some false :=
  congrArg (Option.map (!·)) (show oZ m (.ref r) (.lst (rows.map rowV)) = some true from qU (aDO h (aDC rows)) (aEg (aDB rows)) (yP hc))
theorem sM (l:List (Int × Int)):toDs (l.map bI) = some (l.map pairD):=tS (fun _=>rfl) l
theorem wE (l:List (Int × Int)):PyData.canLayAll0 (l.map pairD) = true∧PyData.depthAll (l.map pairD) ≤ 1:=zK l fun _ _=>⟨rfl,Nat.le_refl _⟩
noncomputable def labsD (ls:List (List (Int × Int))):List PyData:=ls.map fun l=>.list (l.map pairD)
noncomputable def labsV (ls:List (List (Int × Int))):List V:=ls.map fun l=>.lst (l.map bI)
theorem aEl (ls:List (List (Int × Int))):toDs (labsV ls) = some (labsD ls) :=
  tS (α:=List (Int × Int)) (g:=fun l=>V.lst (l.map bI)) (d:=fun l=>PyData.list (l.map pairD)) (fun l=>congrArg (Option.map PyData.list) (sM l)) ls
theorem due_elDs {m:Mem} {refs:List V} {ls:List (List (Int × Int))} (D:eS m refs ls):elDs m refs = some (labsD ls):=by
  induction D with
  | nil=>rfl
  | cons h _ _ ih=>exact (aO (show elD m (.ref _) = some _ from (aO (show dT m _ = some _ from aO h)).trans (congrArg (Option.map PyData.list) (sM _)))).trans (congrArg (Option.map (_ :: ·)) ih)
theorem labs_eq {m:Mem} {du:Nat} {refs:List V} {ls:List (List (Int × Int))} (h:m[du]? = some (.lst refs)) (D:eS m refs ls):cmpV m .Eq (.lst (labsV ls)) (.ref du) = some true :=
  show oZ m (.lst (labsV ls)) (.ref du) = some true from qU (aEg (aEl ls)) (aDO h (due_elDs D)) (nR (n:=2) ls (fun l _=>⟨(wE l).1,Nat.succ_le_succ (wE l).2⟩) (by decide))
theorem tup_ne {m:Mem} {k:Int} {b:Bool}:cmpV m .NotEq (.tup [.str (Str.ofString "case"),.int k,.bool b]) (.tup [.str (Str.ofString "case"),.int k,.bool b]) = some false :=
  congrArg (Option.map (!·)) (show oZ m _ _ = some true from qU (d:=.tuple [.str (Str.ofString "case"),.int k,.bool b]) rfl rfl (Bool.and_eq_true_iff.mpr ⟨Bool.and_eq_true_iff.mpr ⟨by decide +kernel,rfl⟩,decide_eq_true (show 1 ≤ 64 by decide)⟩))
section
variable {T:CT} {K:Frag} {hZ:Heap} {n:Nat} {m:Mem}
theorem wO {r:Nat} {xs:List V} (h:m[r]? = some (.lst xs)) (hl:xs.length ≤ 1000):oC m false [.ref r] = some xs:=(aO (show seqV m (.ref r) = some xs from aO h)).trans (if_pos hl)
noncomputable def eltE:PE:=(.tup [(.bin .Add (.loc 1) (.bi .len [(.loc 0)])),(.loc 2)])
theorem aCB {fr:List Nat} (hf:fr.length ≤ 100) (rows:List (Int × Str)):∀ (o1 o2:Option V),nA m [1,2] none eltE [some (.str (txt fr)),o1,o2] (rows.map rowV) = some ((rows.map (shift fr.length)).map rowV):=by
  induction rows with
  | nil=>exact fun _ _=>rfl
  | cons r rows ih=>exact fun o1 o2=>aAb rfl rfl (vtup (bZ (vbin rfl (vbi1 rfl (zH (m:=m) (l:=fr) (by lia))) rfl) rfl)) (ih _ _)
noncomputable def lstE:PE:=(.bi .list [(.loc 0)])
theorem aFv {E:Pl} {b:Nat} {refs:List V} {ls:List (List (Int × Int))} (L:dF E b m refs ls):(∀ l ∈ ls,l.length ≤ 1000)→∀ o:Option V,nA m [0] none lstE [o] refs = some (labsV ls):=by
  induction L with
  | nil=>exact fun _ _=>rfl
  | cons h _ _ _ ih=>exact fun hl o=>aAb rfl rfl (vbi1 rfl (bi_list h (by rw [List.length_map]; exact hl _ (List.mem_cons_self ..)))) (ih (fun x hx=>hl x (List.mem_cons_of_mem _ hx)) _)
noncomputable def lawE:List IS:=[
  .ite (.orE (.cmp .NotEq (.p (.attr (.loc 15) .tH)) (.comp [12] [1,2] false [(.p (.item (.loc 4) (.cst (.str (Str.ofString "marks")))))] none eltE)) (.notE (.meth (.p (.loc 16)) .a_at [(.p (.cst (.str (Str.ofString "eof"))))]))) [.ret (.p (.cst (.bool false)))] [],
  .unp [20,21] (.p (.attr (.loc 19) .aX)),
  .ite (.p (.orE (.cmp .NotEq (.tup [(.attr (.loc 19) .a_op),(.attr (.loc 19) .aJ),(.loc 21)]) (.tup [(.cst (.str (Str.ofString "case"))),(.bi .len [(.loc 12)]),(.loc 11)])) (.cmp .NotEq (.bi .len [(.attr (.loc 19) .lG)]) (.bin .Add (.bin .Add (.cst (.int 1)) (.bi .len [(.loc 6)])) (.ite (.loc 11) (.cst (.int 1)) (.cst (.int 0))))))) [.ret (.p (.cst (.bool false)))] [],
  .ret (.andE (.cmp .Eq (.comp [] [0] false [(.p (.loc 20))] none lstE) (.p (.loc 6))) (.p (.cmp .Eq (.attr (.item (.attr (.loc 19) .lG) (.cst (.int 0))) .aJ) (.bin .Add (.cst (.int 5)) (.bi .len [(.loc 12)])))))]
theorem xcomp {loc:Locs} {caps is:List Nat} {rg:Bool} {src:List IE} {test:Option PE} {elt:PE} {vs xs' ys:List V} {k:V→Mem→Prop} (hc:(caps.all fun i=>((loc[i]?).join).isSome) = true) (hs:evIs m loc src = some vs) (hi:oC m rg vs = some xs') (hv:nA m is test elt (caps.map (fun i=>(loc[i]?).join) ++ List.replicate is.length none) xs' = some ys) (H:k (.lst ys) m):wpE T K hZ n loc (.comp caps is rg src test elt) m k:=by
  rw [e_comp]; exact ⟨hc,xs hs (os hi (os hv H))⟩
theorem aBw {r:Nat} {xs:List V} (h:m[r]? = some (.lst xs)) (hl:xs.length ≤ 2 ^ 20):biV m .len [.ref r] = some (.int xs.length):=aBv.trans (by rw [h]; exact if_pos hl)
theorem law_end (F:Facts K) (St:Stat T K hZ) {E:Pl} (O:PlOk E) {l0 l2 l3 l7 l8 l9 l10 l13 l14 l17 l18:Option V} {oth:Bool} {k0 b q:Nat} {text:List Nat} {marks:List (Int × Str)} {labs:List (List (Int × Int))} {refs drefs ks:List V} {tyv kv:V} {nx kb:Locs→Mem→Prop} {post:V→Mem→Prop}
    (hk0:k0 < 4) (hwd:m[3]? = some (aBF text)) (hmk:m[2]? = some (.lst (marks.map rowV))) (hml:marks.length ≤ 1000) (hc:Codes marks) (R:RT E m [sTk "eof" q] (marks.map (shift k0)))
    (hb:m[b]? = some (.lst (bA "var" ((k0 + 5:Nat):Int) tyv (.lst []) kv :: ks))) (hks:ks.length = labs.length + (if oth then 1 else 0)) (hb1:m[b + 1]? = some (.lst refs)) (hla:dF E b m refs labs) (hdu:m[5]? = some (.lst drefs)) (hD:eS m drefs labs) (hsm:∀ l ∈ labs,l.length ≤ 1000) (hll:labs.length ≤ 500)
    (hp:post (.bool true) m) :
    wpSs T K hZ (n + 1) [l0,some (.ref 1),l2,l3,some (.ref 3),some (.ref 4),some (.ref 5),l7,l8,l9,l10,some (.bool oth),some (.str (txt (List.replicate k0 32))),l13,l14,some (.ref E.er),some (.ref E.rd),l17,l18,some (bA "case" k0 .none (.ref b) (.tup [.ref (b + 1),.bool oth])),none,none] lawE m nx post kb:=by
  have hfl:(List.replicate k0 32).length = k0:=List.length_replicate
  have hcm:=aCB (m:=m) (fr:=List.replicate k0 32) (by rw [hfl]; exact Nat.le_trans (Nat.le_of_lt hk0) (by decide)) marks none none
  have hlen:=zH (m:=m) (l:=List.replicate k0 32) (by rw [hfl]; exact Nat.le_trans (Nat.le_of_lt hk0) (by decide))
  rw [hfl] at hcm hlen
  refine e2a1 R.any fun _ p R1=>?_
  have hne:=rows_ne R1.rw (hc.shift k0)
  have her:=R.at O.er
  have hrd:=R.hrd
  have hdl:=hD.len
  have hrl:=hla.len
  have hcl:=aFv hla hsm none
  have hcond:(((ks.length + 1:Nat):Int) == 1 + (drefs.length:Int) + (if oth = true then 1 else 0)) = true:=by
    rw [beq_iff_eq,hks,hdl]; cases oth
    · show ((labs.length + 0 + 1:Nat):Int) = 1 + (labs.length:Int) + 0; lia
    · show ((labs.length + 1 + 1:Nat):Int) = 1 + (labs.length:Int) + 1; lia
  have hkl:ks.length + 1 ≤ 2 ^ 20:=by
    rw [hks]; exact Nat.le_trans (Nat.add_le_add_right (Nat.add_le_add hll (show _ ≤ 1 by split; exact Nat.le_refl 1; exact Nat.zero_le 1)) 1) (by decide)
  refine tite (xor' (xcmp (xp (va rfl her rfl) (xcomp rfl (is1 (vitem rfl rfl (itD hwd kF))) (wO hmk (by rw [List.length_map]; exact hml)) hcm (os hne (brf rfl (xnot (xmeth rfl (mkm hrd rfl) (by walk_at "evs") (aBq F St R) ?_))))))))
  rintro v m2 ⟨rfl,rfl⟩
  refine os (congrArg some (cE ..)) (brf rfl (tnil (tunp (xp (vai rfl rfl) ⟨rfl,?_⟩))))
  refine tf0 (lI (vcmp (vtup (bZ (vai rfl rfl) (bZ (vai rfl rfl) rfl))) (vtup (bZ rfl (bZ (vbi1 rfl hlen) rfl))) tup_ne) rfl (vcmp (vbi1 (vai rfl rfl) (aBw hb hkl)) (vbin (v:=.int (1 + (drefs.length:Int) + (if oth = true then 1 else 0))) (vbin rfl (vbi1 rfl (aBw hdu (by rw [hdl]; exact Nat.le_trans hll (by decide)))) rfl) (x:=.int (1 + (drefs.length:Int))) (y:=.int (if oth = true then 1 else 0)) (by cases oth <;> rfl) rfl) (congrArg (fun x=>some (!x)) hcond))) ?_
  refine tret (xand (xcmp (xcomp rfl (is1 rfl) (wO hb1 (by rw [hrl]; exact Nat.le_trans hll (by decide))) hcl (xp rfl (os (labs_eq hdu hD) (brt rfl (xp (vcmp (vai (vitem (vai rfl rfl) rfl (itL hb (wF.trans rfl))) rfl) (vbin rfl (vbi1 rfl hlen) rfl) (congrArg some (beq_iff_eq.mpr ?_))) hp)))))))
  show ((k0 + 5:Nat):Int) = 5 + (k0:Int)
  lia
end
noncomputable def Form.chr:Form→Nat
  | .int=>105
  | .char=>99
  | .byte=>98
  | .bool=>116
theorem aDh (f:Form):Str.ofString f.var = ⟨#[f.chr]⟩:=by cases f <;> decide +kernel
noncomputable def Form.base (f:Form):List Nat:=[67,65,83,69,32,f.chr,32,79,70]
theorem aDg (f:Form):keyList.any (fun y=>Str.ofString y == Str.ofString f.var) = false:=by cases f <;> simp [keyList,Form.var]
theorem chr_let (f:Form):isLet [f.chr] = true:=by cases f <;> rfl
theorem aDn {src:Str} {f:Form} {k0:Nat} {c:List Rng} {cs:List (List Rng)} {oth:Bool} (ho:∀ c' ∈ c :: cs,∀ x ∈ c',x.ok = true∧0 < x.k) (h:From src 0 (List.replicate k0 32 ++ (f.base ++ (aE (c :: cs) ++ cN oth)))) :
    ∃ q1 q2 q3,Takes src 0 (sTk "CASE" k0).v (k0 + 4)∧Toks src (k0 + 4) (⟨Str.ofString "ident",.str (Str.ofString f.var),k0 + 5⟩ :: sTk "OF" (k0 + 7) :: (bC (k0 + 9) (c :: cs) ++ iH oth q1 q2 q3)):=by
  obtain ⟨x,hx⟩ : ∃ x,cN oth = 32 :: x:=by cases oth <;> exact ⟨_,rfl⟩
  obtain ⟨y,hy⟩ : ∃ y,aE (c :: cs) ++ cN oth = 32 :: y:=by
    have hc:∃ z,aU c ++ [32] = 32 :: z:=by
      cases c with
      | nil=>exact ⟨[],rfl⟩
      | cons r rs =>
        obtain ⟨z,hz⟩:=eN r rs (ho (r :: rs) (by simp) r (by simp)).2
        exact ⟨_,by simp only [aU,reduceCtorEq,if_false,hz,List.cons_append]; rfl⟩
    obtain ⟨z,hz⟩:=hc
    cases cs with
    | nil=>exact ⟨z ++ x,by rw [aE,hx,show aU c ++ 32 :: x = (aU c ++ [32]) ++ x by simp,hz]; rfl⟩
    | cons c2 cs=>exact ⟨z ++ (124 :: (aE (c2 :: cs) ++ cN oth)),by rw [aE,show aU c ++ 32 :: 124 :: aE (c2 :: cs) ++ cN oth = (aU c ++ [32]) ++ (124 :: (aE (c2 :: cs) ++ cN oth)) by simp,hz]; rfl⟩
  have h1:From src 0 (List.replicate k0 32 ++ ((67 :: [65,83,69]) ++ (32 :: f.chr :: 32 :: 79 :: 70 :: (aE (c :: cs) ++ cN oth)))):=by simpa [Form.base] using h
  have t1:=gQ (src:=src) (p:=0) (k:=k0) (s := "CASE") (c:=67) (x:=[65,83,69]) s_CASE (by simp [keyList]) rfl rfl rfl h1
  have h2:From src (k0 + 4) (List.replicate 1 32 ++ ((f.chr :: []) ++ (32 :: 79 :: 70 :: (aE (c :: cs) ++ cN oth)))):=by
    have:=(cP h1).on
    simpa using this
  have t2:=pV (src:=src) (p:=k0 + 4) (k:=1) (s:=f.var) (c:=f.chr) (x:=[]) (aDh f) (aDg f) (chr_let f) rfl rfl h2
  have h3:From src (k0 + 6) (List.replicate 1 32 ++ ((79 :: [70]) ++ (aE (c :: cs) ++ cN oth))):=by
    have:=(cP h2).on
    simpa using this
  have t3:=gQ (src:=src) (p:=k0 + 6) (k:=1) (s := "OF") (c:=79) (x:=[70]) s_OF (by simp [keyList]) rfl rfl (by rw [hy]; rfl) h3
  have h4:From src (k0 + 9) (aE (c :: cs) ++ 32 :: x):=by
    have:=(cP h3).on
    rw [hx] at this
    simpa using this
  have h5:From src (k0 + 9 + bV (c :: cs)) (cN oth):=by
    have:=h4.on
    rw [dU] at this
    rw [hx]; exact this
  refine e3a1 (end_toks h5) fun q1 q2 q3 hend=>?_
  refine ⟨q1,q2,q3,by simpa using t1,.cons (p':=k0 + 6) (by simpa [Tk.v] using t2) (.cons (p':=k0 + 9) (by simpa using t3) ?_)⟩
  exact tB cs c (k0 + 9) ho h4 fun _=>hend
section
variable {T:CT} {K:Frag} {hZ:Heap} {n:Nat} {mem:Mem}
noncomputable def aCe (T:CT) (K:Frag) (hZ:Heap) (n:Nat) (is:List Nat) (b:List IS) (post:V→Mem→Prop) (src:Src) (N j:Nat) (loc:Locs) (mem:Mem) (k:Locs→Mem→Prop):Prop :=
  forN src (putT is) (fun l m q qb=>wpSs T K hZ n l b m q post qb) N j loc mem k
theorem s_forT {is:List Nat} {e:Iter} {b:List IS} {loc:Locs} {mem:Mem} {kl:Locs→Mem→Prop} {kr:V→Mem→Prop} {kb:Locs→Mem→Prop}:wpS T K hZ n loc (.forT is e b) mem kl kr kb = iterM T K hZ n loc mem e fun src m=>wQ src = true∧∃ N,aCe T K hZ n is b kr src N 0 loc m kl:=by dsimp only [wpS]; rfl
theorem kH {is:List Nat} {b:List IS} {post:V→Mem→Prop} {src:Src} {N j:Nat} {loc:Locs} {mem:Mem} {k:Locs→Mem→Prop} {vs:List V} (h:nextOf mem j src = some (some (.tup vs))) (hl:vs.length = is.length) (hb:wpSs T K hZ n (dI loc is vs) b mem (fun l m=>aCe T K hZ n is b post src N (j + 1) l m k) post k):aCe T K hZ n is b post src (N + 1) j loc mem k:=by
  unfold aCe
  rw [forN,h]
  exact os (o:=putT is loc (.tup vs)) (if_pos hl) hb
theorem aER {is:List Nat} {b:List IS} {post:V→Mem→Prop} {src:Src} {N j:Nat} {loc:Locs} {mem:Mem} {k:Locs→Mem→Prop} (h:nextOf mem j src = some none) (hb:k loc mem):aCe T K hZ n is b post src (N + 1) j loc mem k:=by
  unfold aCe
  rw [forN,h]
  exact hb
@[simp] theorem isLst_lst {xs:List V}:wQ (.lst xs) = true:=rfl
end
section
variable {T:CT} {K:Frag} {hZ:Heap} {n:Nat} {mem:Mem}
noncomputable def insb:List IS:=[.expr (.meth (.p (.attr (.loc 16) .fB)) .cV [(.p (.loc 17)),(.p (.cst (.str (Str.ofString "var")))),(.p (.loc 18)),(.p (.cst (.int 0)))])]
noncomputable def lawD:List IS:=.asg 19 (.call (.glob (.glob A.case_statement)) [(.p (.loc 16)),(.p (.glob (.glob A.law_statements)))]) :: lawE
noncomputable def lawC:List IS:=.asg 14 (.call (.glob (.glob A.cTypes)) []) ::
  .asg 15 (.call (.glob (.glob A.cErrorList)) []) ::
  .asg 16 (.call (.glob (.glob A.cReader)) [(.p (.loc 13)),(.p (.loc 14)),(.p (.loc 15))]) ::
  .expr (.meth (.p (.attr (.loc 16) .fB)) .aBC [(.p (.cst (.str (Str.ofString ""))))]) ::
  .forT [17,18] (.of (.p (.lst [(.tup [(.cst (.str (Str.ofString "i"))),(.attr (.loc 14) .bP)]),(.tup [(.cst (.str (Str.ofString "c"))),(.attr (.loc 14) .cO)]),(.tup [(.cst (.str (Str.ofString "b"))),(.attr (.loc 14) .tL)]),(.tup [(.cst (.str (Str.ofString "t"))),(.attr (.loc 14) .cZ)])]))) insb ::
  lawD
theorem isTypes:isFun A.cTypes = true:=by decide
theorem isErrs:isFun A.cErrorList = true:=by decide
theorem isReader:isFun A.cReader = true:=by decide
noncomputable def dP (m:Mem) (k:Nat) (f:String):Prop:=∃ fs,m[k]? = some (.inst .type fs)∧fs[1]? = some (.str (Str.ofString f))
theorem dP.kp {m m':Mem} {k:Nat} {f:String} {X:List Nat} (t:dP m k f) (h:Kp X m m') (hk:k ∉ X):dP m' k f:=by
  refine e1a2 t fun fs a b=>?_
  exact ⟨fs,h.at a hk,b⟩
noncomputable def tysO (b:Nat):MO:=.inst .types [.int 7,.ref (b + 1),.ref (b + 2),.ref (b + 6),.ref (b + 10),.ref (b + 14),.ref (b + 18),.ref (b + 22),.ref (b + 26)]
theorem types_at:(mem ++ jC mem.length).length = mem.length + 30∧(mem ++ jC mem.length)[mem.length]? = some (tysO mem.length)∧dP (mem ++ jC mem.length) (mem.length + 2) "boolean"∧dP (mem ++ jC mem.length) (mem.length + 6) "char"∧dP (mem ++ jC mem.length) (mem.length + 10) "byte"∧dP (mem ++ jC mem.length) (mem.length + 14) "integer"∧dP (mem ++ jC mem.length) (mem.length + 22) "nil" := by
  exact ⟨List.length_append,aFL,⟨_,cM,rfl⟩,⟨_,cM,rfl⟩,⟨_,cM,rfl⟩,⟨_,cM,rfl⟩,⟨_,cM,rfl⟩⟩
theorem Kp.old {X:List Nat} {m0 m m':Mem} (a:Kp [] m0 m) (b:Kp X m m') (hX:∀ i ∈ X,m0.length ≤ i):Kp [] m0 m':=⟨Nat.le_trans a.len b.len,fun k o h _=>b.at (a.at h nin0) fun q=>Nat.lt_irrefl _ (Nat.lt_of_lt_of_le (cA h) (hX k q))⟩
theorem objAt_of {m:Mem} {st:Nat→Option MO} {k:Nat} {kind:String} {ty:Nat} {val:V} (o:iQ m k (Str.ofString kind) (.ref ty) val) (h:st k = m[k]?):pG st k kind ty val:=by
  refine e1a6 o fun fs a b c d e _=>?_
  exact ⟨fs,by rw [h]; exact a,b,c,d,e⟩
theorem jW {m:Mem} {st:Nat→Option MO} {k:Nat} {f:String} (o:dP m k f) (h:st k = m[k]?):eX st k f:=by
  refine e1a2 o fun fs a b=>?_
  exact ⟨fs,by rw [h]; exact a,b⟩
section
variable {m8:Mem} {src:Str} {estr x8:List (Str × V)} {r6 r7 r8 tok:V} {sl sl8:Int} {L0 L1 L2 L3:Nat}
noncomputable def plE (m8:Mem) (src:Str) (estr x8:List (Str × V)) (r6 r7 r8:V) (sl sl8:Int) (L0 L1 L2 L3:Nat):Pl:={ rd:=L2,sc:=L2 + 1,ty:=L0,er:=L1,rw:=L1 + 1,pl:=L1 + 2,sp:=L2 + 2,stk:=L2 + 6,s0:=L2 + 3,s1:=L3,n0:=L2 + 4,n1:=L3 + 1,bo:=L0 + 2,ch:=L0 + 6,bt:=L0 + 10,it:=L0 + 14,ni:=L0 + 22,src:=src,es0:=estr,es1:=x8,kn:=.ref (L0 + 1),ma:=.ref (L0 + 18),no:=.ref (L0 + 26),r5:=.str (Str.ofString ""),r6:=r6,r7:=r7,r8:=r8,r9:=.int 0,c0:=.ref L0,c1:=.str (Str.ofString ""),c3:=.int 0,a0:=.int (-1),a1:=.str (Str.ofString ""),a3:=.ref (L2 + 5),a4:=.int sl,b0:=.int 0,b1:=.str (Str.ofString ""),b3:=.ref (L3 + 2),b4:=.int sl8,st:=fun k=>if k = L2 ∨ k = L2 + 1 ∨ k = L0 ∨ k = L1 + 1 ∨ k = L1 + 2 then none else m8[k]? }
theorem st_lo (h1:L1 = L0 + 30) (h2:L2 = L1 + 3) (i:Nat) (h:∀ x ∈ [33,34,0,31,32],i ≠ x):(plE m8 src estr x8 r6 r7 r8 sl sl8 L0 L1 L2 L3).st (L0 + i) = m8[L0 + i]?:=by
  subst h1; subst h2
  refine if_neg ?_
  rintro (q | q | q | q | q)
  · exact h 33 (.head _) (Nat.add_left_cancel q)
  · exact h 34 (.tail _ (.head _)) (Nat.add_left_cancel q)
  · exact h 0 (.tail _ (.tail _ (.head _))) (Nat.add_left_cancel (m:=i) (k:=0) q)
  · exact h 31 (.tail _ (.tail _ (.tail _ (.head _)))) (Nat.add_left_cancel q)
  · exact h 32 (.tail _ (.tail _ (.tail _ (.tail _ (.head _))))) (Nat.add_left_cancel q)
theorem st_hi (h1:L1 = L0 + 30) (h2:L2 = L1 + 3) (k:Nat) (h:L2 + 2 ≤ k):(plE m8 src estr x8 r6 r7 r8 sl sl8 L0 L1 L2 L3).st k = m8[k]?:=by
  subst h1; subst h2
  exact if_neg (by lia)
theorem setup_ok (h1:L1 = L0 + 30) (h2:L2 = L1 + 3) (h3:L2 + 7 ≤ L3)
    (ty:m8[L0]? = some (tysO L0)) (er:m8[L1]? = some (.inst .errors [.ref (L1 + 1),.ref (L1 + 2)])) (rw:m8[L1 + 1]? = some (.lst [])) (pl:m8[L1 + 2]? = some (.idict []))
    (rd:m8[L2]? = some (.inst .reader [.ref (L2 + 1),.ref L0,.ref L1,.none,.ref (L2 + 2),.str (Str.ofString ""),r6,r7,r8,.int 0,tok])) {p':Nat} (sc:m8[L2 + 1]? = some (.inst .scanner [.str src,.ref L1,.int p',keyV]))
    (sp:m8[L2 + 2]? = some (.inst .scopes [.ref L0,.str (Str.ofString ""),.ref (L2 + 6),.int 0])) (stk:m8[L2 + 6]? = some (.lst [.ref (L2 + 3),.ref L3])) (s0:m8[L2 + 3]? = some (.inst .scope [.int (-1),.str (Str.ofString ""),.ref (L2 + 4),.ref (L2 + 5),.int sl]))
    (n0:m8[L2 + 4]? = some (.sdict estr)) (s1:m8[L3]? = some (.inst .scope [.int 0,.str (Str.ofString ""),.ref (L3 + 1),.ref (L3 + 2),.int sl8])) (n1:m8[L3 + 1]? = some (.sdict x8))
    (tb:dP m8 (L0 + 2) "boolean") (tc:dP m8 (L0 + 6) "char") (tby:dP m8 (L0 + 10) "byte") (ti:dP m8 (L0 + 14) "integer") (tn:dP m8 (L0 + 22) "nil")
    (q5:∃ k,look (Str.ofString "i") x8 = some (.ref k)∧iQ m8 k (Str.ofString "var") (.ref (L0 + 14)) .none∧L3 ≤ k) (q6:∃ k,look (Str.ofString "c") x8 = some (.ref k)∧iQ m8 k (Str.ofString "var") (.ref (L0 + 6)) .none∧L3 ≤ k)
    (q7:∃ k,look (Str.ofString "b") x8 = some (.ref k)∧iQ m8 k (Str.ofString "var") (.ref (L0 + 10)) .none∧L3 ≤ k) (q8:∃ k,look (Str.ofString "t") x8 = some (.ref k)∧iQ m8 k (Str.ofString "var") (.ref (L0 + 2)) .none∧L3 ≤ k)
    (tr:look (Str.ofString "TRUE") x8 = none∧∃ k,look (Str.ofString "TRUE") estr = some (.ref k)∧iQ m8 k (Str.ofString "const") (.ref (L0 + 2)) (.int 1)∧L2 + 7 ≤ k) :
    PlOk (plE m8 src estr x8 r6 r7 r8 sl sl8 L0 L1 L2 L3)∧RS (plE m8 src estr x8 r6 r7 r8 sl sl8 L0 L1 L2 L3) m8 tok p' []:=by
  have lo:=fun i h=>st_lo (m8:=m8) (src:=src) (estr:=estr) (x8:=x8) (r6:=r6) (r7:=r7) (r8:=r8) (sl:=sl) (sl8:=sl8) (L3:=L3) h1 h2 i h
  have hi:=fun k h=>st_hi (m8:=m8) (src:=src) (estr:=estr) (x8:=x8) (r6:=r6) (r7:=r7) (r8:=r8) (sl:=sl) (sl8:=sl8) (L3:=L3) h1 h2 k h
  have obj:∀ {x:String} {kd:String} {t:Nat} {val:V} {es:List (Str × V)},(∃ k,look (Str.ofString x) es = some (.ref k)∧iQ m8 k (Str.ofString kd) (.ref t) val∧L2 + 7 ≤ k)→∃ k,look (Str.ofString x) es = some (.ref k)∧pG (plE m8 src estr x8 r6 r7 r8 sl sl8 L0 L1 L2 L3).st k kd t val:=fun ⟨k,a,b,c⟩=>⟨k,a,objAt_of b (hi k (Nat.le_trans (Nat.add_le_add_left (by decide) _) c))⟩
  have obj3:∀ {x:String} {kd:String} {t:Nat} {val:V} {es:List (Str × V)},(∃ k,look (Str.ofString x) es = some (.ref k)∧iQ m8 k (Str.ofString kd) (.ref t) val∧L3 ≤ k)→∃ k,look (Str.ofString x) es = some (.ref k)∧pG (plE m8 src estr x8 r6 r7 r8 sl sl8 L0 L1 L2 L3).st k kd t val:=fun ⟨k,a,b,c⟩=>obj ⟨k,a,b,Nat.le_trans h3 c⟩
  have h37:L2 + 2 ≤ L3:=Nat.le_trans (Nat.add_le_add_left (by decide) _) h3
  subst h1; subst h2
  refine ⟨{ d_rd:=if_pos (.inl rfl),d_sc:=if_pos (.inr (.inl rfl)),d_ty:=if_pos (.inr (.inr (.inl rfl))),d_rw:=if_pos (.inr (.inr (.inr (.inl rfl)))),d_pl:=if_pos (.inr (.inr (.inr (.inr rfl)))),n1:=cU (m:=L0) (i:=33) (j:=34) (by decide),n2:=cU (m:=L0) (i:=33) (j:=0) (by decide),n3:=cU (m:=L0) (i:=33) (j:=31) (by decide),n4:=cU (m:=L0) (i:=33) (j:=32) (by decide),n5:=cU (m:=L0) (i:=34) (j:=0) (by decide),n6:=cU (m:=L0) (i:=34) (j:=31) (by decide),n7:=cU (m:=L0) (i:=34) (j:=32) (by decide),n8:=cU (m:=L0) (i:=0) (j:=31) (by decide),n9:=cU (m:=L0) (i:=0) (j:=32) (by decide),n10:=cU (m:=L0) (i:=31) (j:=32) (by decide),er:=(lo 30 (by decide)).trans er,sp:=(lo 35 (by decide)).trans sp,stk:=(lo 39 (by decide)).trans stk,s0:=(lo 36 (by decide)).trans s0,s1:=(hi L3 h37).trans s1,n0d:=(lo 37 (by decide)).trans n0,n1d:=(hi (L3 + 1) (Nat.le_succ_of_le h37)).trans n1,bo:=jW tb (lo 2 (by decide)),ch:=jW tc (lo 6 (by decide)),bt:=jW tby (lo 10 (by decide)),it:=jW ti (lo 14 (by decide)),ni:=jW tn (lo 22 (by decide)),oi:=obj3 q5,oc:=obj3 q6,ob:=obj3 q7,ot:=obj3 q8,ou:=⟨tr.1,obj tr.2⟩ },sc,rd,⟨7,ty⟩,rw,⟨[],pl,fun _ _=>rfl,Nat.zero_le _⟩,fun k o h=>?_⟩
  have h':(if k = L0 + 30 + 3 ∨ k = L0 + 30 + 3 + 1 ∨ k = L0 ∨ k = L0 + 30 + 1 ∨ k = L0 + 30 + 2 then none else m8[k]?) = some o:=h
  split at h'
  · cases h'
  · exact h'
end
theorem no_name {x:String} {names:List String} {es:List (Str × V)} (h:es.map (·.1) = names.map Str.ofString) (hx:x ∉ names):look (Str.ofString x) es = none:=by
  refine lN fun q=>?_
  rw [h] at q
  refine e1a2 (List.mem_map.mp q) fun y hy e=>?_
  rw [jH] at e
  exact hx (e ▸ hy)
set_option maxHeartbeats 4000000 in
theorem aEk (F:Facts K) (St:Stat T K hZ) {src:Str} {tok:V} {p':Nat} {l0 l2 l3 l7 l8 l9 l10 l11 l12:Option V} {nx kb:Locs→Mem→Prop} {post:V→Mem→Prop} (hT:Takes src 0 tok p')
    (hk:∀ (E:Pl) (m:Mem) (l17 l18:Option V),PlOk E→E.src = src→(mem.length ≤ E.rd∧mem.length ≤ E.sc∧mem.length ≤ E.ty∧mem.length ≤ E.rw∧mem.length ≤ E.pl)→Kp [] mem m→RS E m tok p' [] →
      wpSs T K hZ (n + 7) [l0,some (.ref 1),l2,l3,some (.ref 3),some (.ref 4),some (.ref 5),l7,l8,l9,l10,l11,l12,some (.str src),some (.ref E.ty),some (.ref E.er),some (.ref E.rd),l17,l18,none,none,none] lawD m nx post kb) :
    wpSs T K hZ (n + 7) [l0,some (.ref 1),l2,l3,some (.ref 3),some (.ref 4),some (.ref 5),l7,l8,l9,l10,l11,l12,some (.str src),none,none,none,none,none,none,none,none] lawC mem nx post kb:=by
  refine casg isTypes is0 (aFs F St) ?_
  rintro v m ⟨rfl,rfl⟩
  refine e0a7 (types_at (mem:=mem)) fun tl t0 tb tc tby ti tn=>?_
  have K1:Kp [] mem (mem ++ jC mem.length):=Kp.push
  generalize mem ++ jC mem.length = m1 at *
  refine casg isErrs is0 (aCy F St) ?_
  rintro v m ⟨rfl,rfl⟩
  have l2':(m1 ++ [MO.inst .errors [.ref (m1.length + 1),.ref (m1.length + 2)],.lst [],.idict []]).length = m1.length + 3:=List.length_append
  have e0:(m1 ++ [MO.inst .errors [.ref (m1.length + 1),.ref (m1.length + 2)],.lst [],.idict []])[m1.length]? = some (.inst .errors [.ref (m1.length + 1),.ref (m1.length + 2)]):=aFL
  have e1:(m1 ++ [MO.inst .errors [.ref (m1.length + 1),.ref (m1.length + 2)],.lst [],.idict []])[m1.length + 1]? = some (.lst []):=cM
  have e2:(m1 ++ [MO.inst .errors [.ref (m1.length + 1),.ref (m1.length + 2)],.lst [],.idict []])[m1.length + 2]? = some (.idict []):=cM
  have K2:Kp [] m1 (m1 ++ [MO.inst .errors [.ref (m1.length + 1),.ref (m1.length + 2)],.lst [],.idict []]):=Kp.push
  generalize m1 ++ [MO.inst .errors [.ref (m1.length + 1),.ref (m1.length + 2)],.lst [],.idict []] = m2 at *
  have t2:m2[mem.length]? = some (tysO mem.length):=K2.at t0 nin0
  refine casg isReader (by walk_at "evs") (aCx (n:=n) F St t2 hT) ?_
  rintro v m3 ⟨rfl,Z⟩
  walk_at "dl"
  refine e3a1 Z.rd fun r6 r7 r8 hrd=>?_
  refine e1a2 Z.fi.out fun es0 S3 hes0=>?_
  refine mexpr (va rfl hrd rfl) (mkm S3.hsp rfl) (is1 rfl) (con_open (n:=n + 4) F St Z.fi) ?_
  intro v m4 hq
  refine e0a4 hq fun fi4 K4 l4 _=>?_
  have K3:=Z.kp
  have l3:m2.length + 7 ≤ m3.length:=cA S3.hstk
  have hrd4:=K4.at hrd (nin2 dO.symm dO.symm)
  have hsc4:=K4.at Z.sc (nin2 (cU (by decide)) (cU (by decide)))
  refine e2a4 Z.tr fun ktr estr tr1 tr2 tr3 tr4=>?_
  have tr1':=K4.at tr1 (nin2 (cU (by decide)) (cU (by decide)))
  have ltr:ktr < m3.length:=by obtain ⟨fs,a,_⟩:=tr3; exact cA a
  have tr3':=tr3.kp K4 (nin2 (Nat.ne_of_gt (Nat.lt_of_lt_of_le (Nat.add_lt_add_left (by decide) _) tr4)) (Nat.ne_of_gt (Nat.lt_of_lt_of_le (Nat.add_lt_add_left (by decide) _) tr4)))
  obtain ⟨sl,hs0⟩:=S3.hs
  have hs0':=K4.at hs0 (nin2 (cU (by decide)) (cU (by decide)))
  have K24:Kp [m2.length + 2,m2.length + 6] m2 m4:=(K3.more fun i hi=>(nomatch hi)).trans K4
  have low2:∀ {k:Nat},k < m2.length→k ∉ [m2.length + 2,m2.length + 6]:=fun h=>nin2 (gO h) (gO h)
  have t4:=K24.at t2 (low2 (cA t2))
  have e04:=K24.at e0 (low2 (cA e0))
  have e14:=K24.at e1 (low2 (cA e1))
  have e24:=K24.at e2 (low2 (cA e2))
  have ty2:∀ {k:Nat} {f:String},dP m1 k f→dP m4 k f:=fun ⟨fs,a,b⟩=>⟨fs,K24.at (K2.at a nin0) (low2 (cA (K2.at a nin0))),b⟩
  have l02:mem.length ≤ m2.length:=Nat.le_trans K1.len K2.len
  have K04:Kp [] mem m4:=(K1.trans K2).old K24 fun i hi=>by
    rcases List.mem_cons.mp hi with rfl | hi
    · exact Nat.le_add_right_of_le l02
    · exact List.mem_singleton.mp hi ▸ Nat.le_add_right_of_le l02
  rw [bX,s_forT,it_of]
  refine xp (vlst (bZ (vtup (bZ rfl (bZ (va rfl t4 rfl) rfl))) (bZ (vtup (bZ rfl (bZ (va rfl t4 rfl) rfl))) (bZ (vtup (bZ rfl (bZ (va rfl t4 rfl) rfl))) (bZ (vtup (bZ rfl (bZ (va rfl t4 rfl) rfl))) rfl))))) ⟨rfl,5,?_⟩
  have hi3:∀ {k:Nat},m3.length + 3 ≤ k→k ∉ [m3.length + 1,m3.length + 2,m3.length]:=fun h=>nin3 (Nat.ne_of_gt (Nat.lt_of_lt_of_le (Nat.add_lt_add_left (by decide) _) h)) (Nat.ne_of_gt (Nat.lt_of_lt_of_le (Nat.add_lt_add_left (by decide) _) h)) (Nat.ne_of_gt (Nat.lt_of_lt_of_le (Nat.lt_add_of_pos_right (by decide)) h))
  have lo3:∀ {k:Nat},k < m3.length→k ∉ [m3.length + 1,m3.length + 2,m3.length]:=fun h=>nin3 (gO h) (gO h) (Nat.ne_of_lt h)
  have rd2:m2.length < m3.length:=cA hrd
  have g4:m3.length + 3 ≤ m4.length:=Nat.le_of_eq l4.symm
  refine kH (vs:=[.str (Str.ofString "i"),.ref (mem.length + 14)]) rfl rfl ?_
  walk_at "dl"
  refine e1a2 fi4.out fun es S4 _=>?_
  refine mexpr (va rfl hrd4 rfl) (mkm S4.hsp rfl) (isc rfl (isc rfl (is2 rfl rfl))) (rB (n:=n + 4) (name := "i") (kind := "var") F St fi4 (by decide) (by decide)) ?_
  rintro v m5 ⟨rfl,fi5,⟨x5,d5,k5,mo5⟩,o5,l5,K5⟩
  refine tnil (kH (vs:=[.str (Str.ofString "c"),.ref (mem.length + 6)]) rfl rfl ?_)
  walk_at "dl"
  have hrd5:=K5.at hrd4 (lo3 rd2)
  refine e1a2 fi5.out fun es S5 _=>?_
  refine mexpr (va rfl hrd5 rfl) (mkm S5.hsp rfl) (isc rfl (isc rfl (is2 rfl rfl))) (rB (n:=n + 4) (name := "c") (kind := "var") F St fi5 (by decide) (by decide)) ?_
  rintro v m6 ⟨rfl,fi6,⟨x6,d6,k6,mo6⟩,o6,l6,K6⟩
  refine tnil (kH (vs:=[.str (Str.ofString "b"),.ref (mem.length + 10)]) rfl rfl ?_)
  walk_at "dl"
  have hrd6:=K6.at hrd5 (lo3 rd2)
  refine e1a2 fi6.out fun es S6 _=>?_
  refine mexpr (va rfl hrd6 rfl) (mkm S6.hsp rfl) (isc rfl (isc rfl (is2 rfl rfl))) (rB (n:=n + 4) (name := "b") (kind := "var") F St fi6 (by decide) (by decide)) ?_
  rintro v m7 ⟨rfl,fi7,⟨x7,d7,k7,mo7⟩,o7,l7',K7⟩
  refine tnil (kH (vs:=[.str (Str.ofString "t"),.ref (mem.length + 2)]) rfl rfl ?_)
  walk_at "dl"
  have hrd7:=K7.at hrd6 (lo3 rd2)
  refine e1a2 fi7.out fun es S7 _=>?_
  refine mexpr (va rfl hrd7 rfl) (mkm S7.hsp rfl) (isc rfl (isc rfl (is2 rfl rfl))) (rB (n:=n + 4) (name := "t") (kind := "var") F St fi7 (by decide) (by decide)) ?_
  rintro v m8 ⟨rfl,fi8,⟨x8,d8,k8,mo8⟩,o8,l8',K8⟩
  refine tnil (aER rfl ?_)
  have K48:=((K5.trans K6).trans K7).trans K8
  refine e1a2 fi8.out fun es8 S8 h8=>?_
  have q7:∃ es0,m7[m3.length + 1]? = some (.sdict es0)∧look (Str.ofString "i") es0 = some (.ref m4.length):=⟨x7,d7,mo7 _ _ ⟨x6,d6,mo6 _ _ ⟨x5,d5,k5⟩⟩⟩
  have n8:look (Str.ofString "TRUE") x8 = none:=by
    have hx:x8 = es8:=by have:=S8.hnm; rw [d8] at this; cases this; rfl
    exact no_name (hx ▸ h8) (by decide)
  have g5:m3.length + 3 ≤ m5.length:=Nat.le_trans g4 K5.len
  have g6:m3.length + 3 ≤ m6.length:=Nat.le_trans g5 K6.len
  have g7:m3.length + 3 ≤ m7.length:=Nat.le_trans g6 K7.len
  have up:∀ {k:Nat},m3.length + 3 ≤ k→m3.length ≤ k:=fun h=>Nat.le_trans (Nat.le_add_right _ _) h
  have at8:∀ {k:Nat} {o:MO},m4[k]? = some o→k < m3.length→m8[k]? = some o:=fun h hl=>K48.at h (lo3 hl)
  have ty8:∀ {k:Nat} {f:String},dP m1 k f→dP m8 k f:=fun t=>by
    refine e1a2 t fun fs a b=>?_
    have l:=cA (K2.at a nin0)
    exact ⟨fs,at8 (K24.at (K2.at a nin0) (low2 l)) (Nat.lt_trans l rd2),b⟩
  obtain ⟨sl8,hs8⟩:=S8.hs
  obtain ⟨HO,HR⟩:=setup_ok (src:=src) (sl:=sl) (sl8:=sl8) (r6:=r6) (r7:=r7) (r8:=r8) tl l2' l3 (at8 t4 (Nat.lt_trans (cA t2) rd2)) (at8 e04 (Nat.lt_trans (cA e0) rd2)) (at8 e14 (Nat.lt_trans (cA e1) rd2)) (at8 e24 (Nat.lt_trans (cA e2) rd2)) (K8.at hrd7 (lo3 rd2)) (at8 hsc4 (cA Z.sc)) S8.hsp S8.hstk (at8 hs0' (cA hs0)) (at8 tr1' (cA tr1)) hs8 d8 (ty8 tb) (ty8 tc) (ty8 tby) (ty8 ti) (ty8 tn)
    ⟨_,mo8 _ _ q7,((o5.kp K6 (hi3 g4)).kp K7 (hi3 g4)).kp K8 (hi3 g4),up g4⟩ ⟨_,mo8 _ _ ⟨x7,d7,mo7 _ _ ⟨x6,d6,k6⟩⟩,(o6.kp K7 (hi3 g5)).kp K8 (hi3 g5),up g5⟩ ⟨_,mo8 _ _ ⟨x7,d7,k7⟩,o7.kp K8 (hi3 g6),up g6⟩ ⟨_,k8,o8,up g7⟩ ⟨n8,ktr,tr2,tr3'.kp K48 (lo3 ltr),tr4⟩
  have l01:mem.length ≤ m1.length:=K1.len
  have l03:mem.length ≤ m3.length:=Nat.le_trans l02 K3.len
  refine hk _ m8 _ _ HO rfl ⟨l02,Nat.le_succ_of_le l02,Nat.le_refl _,Nat.le_add_right_of_le l01,Nat.le_add_right_of_le l01⟩ (K04.old K48 fun i hi=>?_) HR
  rcases List.mem_cons.mp hi with rfl | hi
  · exact Nat.le_add_right_of_le l03
  rcases List.mem_cons.mp hi with rfl | hi
  · exact Nat.le_add_right_of_le l03
  · exact List.mem_singleton.mp hi ▸ l03
end
theorem aBz {m L:Mem} {k j:Nat} (h:m.length = k):(m ++ L)[k + j]? = L[j]?:=by subst h; exact cM
theorem s_CASEb:Str.ofString "CASE " = txt [67,65,83,69,32]:=by decide +kernel
theorem s_OFb:Str.ofString " OF" = txt [32,79,70]:=by decide +kernel
theorem s_ELSEb:Str.ofString " ELSE" = txt [32,69,76,83,69]:=by decide +kernel
theorem s_ENDb:Str.ofString " END" = txt [32,69,78,68]:=by decide +kernel
theorem s_emptyb:Str.ofString "" = txt []:=by decide +kernel
theorem tQ (f:Form):Str.ofString f.var = txt [f.chr]:=aDh f
theorem aAU {l:List (Int × Int)}:∀ {ls:List (List (Int × Int))},l ∈ ls→l.length ≤ ls.flatten.length
  | [],h=>by cases h
  | x :: ls,h=>by
    rw [List.flatten_cons,List.length_append]
    rcases List.mem_cons.mp h with rfl | h
    · exact Nat.le_add_right _ _
    · exact Nat.le_trans (aAU h) (Nat.le_add_left _ _)
theorem RT.more {E:Pl} {m:Mem} {t:Tk} {ts:List Tk} {p:Nat} {rows:List (Int × Str)} (R:RS E m t.v p rows) (h:Toks E.src p ts):RT E m (t :: ts) rows:=⟨p,t,ts,rfl,R,h⟩
section
variable {T:CT} {K:Frag} {hZ:Heap} {n:Nat} {mem:Mem}
noncomputable def lawA3:List IS:=.asg 11 (.cmp .Eq (.call (.glob (.glob A.law_pick)) [(.p (.loc 1)),(.p (.cst (.int 2)))]) (.p (.cst (.int 1)))) ::
  .asg 12 (.bin .Mult (.p (.cst (.str (Str.ofString " ")))) (.call (.glob (.glob A.law_pick)) [(.p (.loc 1)),(.p (.cst (.int 3)))])) ::
  .asg 13 (.p (.bin .Add (.bin .Add (.bin .Add (.loc 12) (.item (.loc 4) (.cst (.str (Str.ofString "wide"))))) (.ite (.loc 11) (.cst (.str (Str.ofString " ELSE"))) (.cst (.str (Str.ofString ""))))) (.cst (.str (Str.ofString " END"))))) :: lawC
noncomputable def lawA2:List IS:=.asg 5 (.lstM []) ::
  .asg 6 (.lstM []) ::
  .for1 7 (.range (.call (.glob (.glob A.law_pick)) [(.p (.loc 1)),(.p (.cst (.int 6)))])) obod ::  lawA3
noncomputable def lawA1:List IS:=.asg 4 (.dictM [((Str.ofString "wide"),(.p (.bin .Add (.bin .Add (.cst (.str (Str.ofString "CASE "))) (.loc 2)) (.cst (.str (Str.ofString " OF")))))),((Str.ofString "marks"),(.lstM []))]) ::
  .ite (.p (.cmp .Eq (.loc 3) (.cst (.str (Str.ofString "boolean"))))) [.expr (.meth (.p (.item (.loc 4) (.cst (.str (Str.ofString "marks"))))) .aP [(.p (.tup [(.cst (.int 5)),(.cst (.str (Str.ofString "case_type")))]))])] [] ::  lawA2
theorem isPool:isFun A.law_pool = true:=by decide
theorem isCase:isFun A.case_statement = true:=by decide
theorem law_A3 (F:Facts K) (St:Stat T K hZ) {f:Form} {l0 l7 l8 l9 l10:Option V} {nx kb:Locs→Mem→Prop} {m:Mem} {cs:List (List Rng)} (C:CaseS f m f.base (aT f 5) cs) (hcs:cs.length ≤ 6) :
    wpSs T K hZ (n + 21) (lw l0 (some (.str (txt [f.chr]))) (some (.str (Str.ofString f.name))) l7 l8 l9 l10) lawA3 m nx (fun v _=>v = .bool true) kb:=by
  have hcl:=dU cs
  have hlen:=C.len
  have hBl:f.base.length = 9:=rfl
  refine tasg (xcmp (xcall iR (is2 rfl rfl) (dK F St 2 rfl C.gs.pool (by decide)) ?_))
  intro v m1 hq
  refine e1a5 hq fun r hr e0q P1 K1 L1=>?_
  subst e0q
  have G1:=C.gs.picked P1 K1
  refine xp rfl (os rfl ?_)
  generalize ((r:Int) == 1) = oth
  refine tasg (xbin (xp rfl (xcall iR (is2 rfl rfl) (dK F St 3 rfl P1 (by decide)) ?_)))
  intro v m2 hq
  refine e1a5 hq fun k0 hk0 e0q P2 K2 L2=>?_
  subst e0q
  have G2:=G1.picked P2 K2
  have helen:(if oth = true then [32,69,76,83,69] else []:List Nat).length ≤ 5:=by cases oth; exact Nat.zero_le 5; exact Nat.le_refl 5
  have l1:(List.replicate k0 32 ++ (f.base ++ aE cs)).length = k0 + (9 + bV cs):=by rw [List.length_append,List.length_append,List.length_replicate,hcl]; rfl
  have l2:(List.replicate k0 32 ++ (f.base ++ aE cs) ++ (if oth = true then [32,69,76,83,69] else [])).length ≤ 2000:=by rw [List.length_append,l1]; lia
  have e1:binV .Add (.str (txt (List.replicate k0 32))) (.str (txt (f.base ++ aE cs))) = some (.str (txt (List.replicate k0 32 ++ (f.base ++ aE cs)))):=rJ (by rw [← List.length_append,l1]; lia)
  have e2:binV .Add (.str (txt (List.replicate k0 32 ++ (f.base ++ aE cs)))) (.str (txt (if oth = true then [32,69,76,83,69] else []))) = some (.str (txt (List.replicate k0 32 ++ (f.base ++ aE cs) ++ (if oth = true then [32,69,76,83,69] else [])))):=rJ (by rw [← List.length_append]; exact Nat.le_trans l2 (by decide))
  have e3:binV .Add (.str (txt (List.replicate k0 32 ++ (f.base ++ aE cs) ++ (if oth = true then [32,69,76,83,69] else [])))) (.str (Str.ofString " END")) = some (.str (txt (List.replicate k0 32 ++ (f.base ++ aE cs) ++ (if oth = true then [32,69,76,83,69] else []) ++ [32,69,78,68]))):=by rw [s_ENDb]; exact rJ (Nat.le_trans (Nat.add_le_add_right l2 4) (by decide))
  refine os (mul_sp (Nat.lt_succ_of_lt hk0)) (tasgp (vbin (vbin (vbin rfl (vitem rfl rfl (itD G2.wd eG)) e1) (by cases oth; exact congrArg (fun x=>some (V.str x)) s_emptyb; exact congrArg (fun x=>some (V.str x)) s_ELSEb) e2) rfl e3) ?_)
  have etxt:List.replicate k0 32 ++ (f.base ++ aE cs) ++ (if oth = true then [32,69,76,83,69] else []) ++ [32,69,78,68] = List.replicate k0 32 ++ (f.base ++ (aE cs ++ cN oth)):=by
    rw [List.append_assoc,List.append_assoc,List.append_assoc]; cases oth <;> rfl
  rw [etxt]
  generalize hsrc:txt (List.replicate k0 32 ++ (f.base ++ (aE cs ++ cN oth))) = src
  have hfrom:From src 0 (List.replicate k0 32 ++ (f.base ++ (aE cs ++ cN oth))):=by
    rw [← hsrc]
    refine ⟨by simp [txt],?_⟩
    rw [lJ,← etxt,List.length_append]
    exact Nat.le_trans (Nat.add_le_add_right l2 4) (by decide)
  clear hsrc
  obtain ⟨c0,cs0,hc1,hc2,hc3,hc4,hc5⟩ : ∃ c0 cs0,aE (c0 :: cs0) = aE cs∧(∀ p,aF f [] p (c0 :: cs0) = aF f [] p cs)∧(∀ c' ∈ c0 :: cs0,∀ x ∈ c',x.ok = true∧0 < x.k)∧tot (c0 :: cs0) = tot cs∧cs0.length ≤ 6:=by
    cases cs with
    | nil=>exact ⟨[],[],rfl,fun p=>rfl,(fun c' h x hx=>by rw [List.mem_singleton.mp h] at hx; cases hx),rfl,Nat.zero_le _⟩
    | cons c cs=>exact ⟨c,cs,rfl,fun p=>rfl,C.ok,rfl,Nat.le_of_succ_le hcs⟩
  rw [← hc1] at hfrom
  refine e3a2 (aDn hc3 hfrom) fun q1 q2 q3 hT hToks=>?_
  have hlow:=C.gs.low
  refine e1a2 C.due fun drefs hdu hD=>?_
  have K02:Kp [1] m m2:=K1.trans K2
  refine aEk (n:=n + 14) F St hT fun E m8 l17 l18 O hsrc2 hge K8 R8=>?_
  have hR:RT E m8 (sTk "CASE" k0 :: ⟨Str.ofString "ident",.str (Str.ofString f.var),k0 + 5⟩ :: sTk "OF" (k0 + 7) :: (bC (k0 + 9) (c0 :: cs0) ++ iH oth q1 q2 q3)) []:=RT.more R8 (by rw [hsrc2]; exact hToks)
  have hfew:=C.few
  refine casg isCase (is2 rfl rfl) (con_case (n:=n) F St O (f:=f) (p0:=k0) (p1:=k0 + 5) (p2:=k0 + 7) (p:=k0 + 9) (c:=c0) (cs:=cs0) (fun c' h1 x h2=>(hc3 c' h1 x h2).1) (Nat.add_lt_add_left (by decide) _) (by rw [hc4]; lia) (Nat.le_trans hc5 (by decide)) hR) ?_
  rintro v m9 ⟨⟨tyv,kv,b,ks,refs,hb,hv,hb1,hks,hb2,hla,hfb,hfb1⟩,R9,K9⟩
  have K29:Kp [] m2 m9:=⟨Nat.le_trans K8.len K9.len,fun k o h _=>by
    refine e0a5 hge fun g1 g2 g3 g4 g5=>?_
    have ne:∀ {i:Nat},m2.length ≤ i→k ≠ i:=fun q=>Nat.ne_of_lt (Nat.lt_of_lt_of_le (cA h) q)
    exact K9.keep k o (K8.at h nin0) (ne g1) (ne g2) (ne g3) (ne g4) (ne g5)⟩
  have hD9:=eS.kp K29 (eS.kp K02 hD fun i hi=>.inl (by rw [List.mem_singleton.mp hi]; decide)) fun i hi=>nomatch hi
  rw [hc2,Nat.add_comm k0 9,rG] at R9 hks hla
  dsimp only at R9 hks hla
  rw [Nat.add_comm k0 5,aBL,← List.map_append] at R9
  subst hv
  have hsl:(aT f 5).length ≤ 1:=by unfold aT; split; exact Nat.le_refl 1; exact Nat.zero_le 1
  have htl:=C.tl
  have hnl:=C.nl
  have hml:=C.ml
  exact law_end (n:=n + 20) F St O (Nat.lt_succ_of_lt hk0) (K29.at G2.wd nin0) (K29.at G2.mks nin0) (by rw [List.length_append]; lia) (aBM.app (rI _ _ _)) R9 hb1 hks hb2 hla (K29.at (K02.at hdu (by decide)) nin0) hD9 (fun l hl=>Nat.le_trans (aAU hl) (by lia)) (by lia) rfl
theorem con_law (F:Facts K) (St:Stat T K hZ) {ns:List Int} (hns:ns.length ≤ 63):aA T K hZ (n + 22) (.ref 1314) [.lst (ns.map intV)] [] (fun v _=>v = .bool true):=by
  refine F.ok_law.sem T hZ (n + 21) _ _ _ St rfl ?_
  refine casg isPool (is1 rfl) (con_pool F St hns) ?_
  intro v m hq
  refine e0a3 hq fun e0q P0 L0=>?_
  subst e0q
  have key:∀ (f:Form) (m1:Mem),gA m1→m1.length = 2→wpSs T K hZ (n + 21) [some (.lst (ns.map intV)),some (.ref 1),some (.str (txt [f.chr])),some (.str (Str.ofString f.name)),none,none,none,none,none,none,none,none,none,none,none,none,none,none,none,none,none,none] lawA1 m1 (fun _ m=>V.none = .bool true) (fun v m=>v = .bool true) (fun _ _=>False):=by
    intro f m1 P1 L1
    have e1:binV .Add (.str (txt [67,65,83,69,32])) (.str (txt [f.chr])) = some (.str (txt ([67,65,83,69,32] ++ [f.chr]))):=rJ (by simp)
    have e2:binV .Add (.str (txt ([67,65,83,69,32] ++ [f.chr]))) (.str (txt [32,79,70])) = some (.str (txt f.base)):=rJ (by simp)
    refine tasg ?_
    rw [e_dictM,aFh]
    refine xp (vbin (vbin rfl rfl (by rw [s_CASEb]; exact e1)) rfl (by rw [s_OFb]; exact e2)) ?_
    rw [aFh]
    refine jB rfl (Nat.zero_le _) ?_
    rw [ed_nil,show (m1 ++ [MO.lst []]).length = 3 by rw [List.length_append,L1]; rfl,L1]
    have g2:(m1 ++ [MO.lst []] ++ [.sdict [(Str.ofString "wide",.str (txt f.base)),(Str.ofString "marks",.ref 2)]])[2]? = some (.lst []):=by rw [List.append_assoc]; exact aBz (j:=0) L1
    have g3:(m1 ++ [MO.lst []] ++ [.sdict [(Str.ofString "wide",.str (txt f.base)),(Str.ofString "marks",.ref 2)]])[3]? = some (aBF f.base):=by rw [List.append_assoc]; exact aBz (j:=1) L1
    have gp:gA (m1 ++ [MO.lst []] ++ [.sdict [(Str.ofString "wide",.str (txt f.base)),(Str.ofString "marks",.ref 2)]]):=P1.kp (X:=[]) ((Kp.push).trans Kp.push) nin0 nin0
    have gl:(m1 ++ [MO.lst []] ++ [MO.sdict [(Str.ofString "wide",.str (txt f.base)),(Str.ofString "marks",.ref 2)]]).length = 4:=by rw [List.length_append,List.length_append,L1]; rfl
    generalize m1 ++ [MO.lst []] ++ [MO.sdict [(Str.ofString "wide",.str (txt f.base)),(Str.ofString "marks",.ref 2)]] = m2 at g2 g3 gp gl
    have key2:∀ m3:Mem,gA m3→m3.length = 4→m3[2]? = some (.lst ((aT f 5).map rowV))→m3[3]? = some (aBF f.base)→wpSs T K hZ (n + 21) [some (.lst (ns.map intV)),some (.ref 1),some (.str (txt [f.chr])),some (.str (Str.ofString f.name)),some (.ref 3),none,none,none,none,none,none,none,none,none,none,none,none,none,none,none,none,none] lawA2 m3 (fun _ m=>V.none = .bool true) (fun v m=>v = .bool true) (fun _ _=>False):=by
      intro m3 P3 L3 h2 h3
      refine tasg (jB rfl (Nat.zero_le _) (tasg (jB rfl (Nat.zero_le _) ?_)))
      rw [show (m3 ++ [MO.lst []]).length = 5 by rw [List.length_append,L3]; rfl,L3,List.append_assoc]
      have G:GS (m3 ++ ([MO.lst []] ++ [MO.lst []])) f.base (aT f 5) []:=⟨P3.kp (X:=[]) Kp.push nin0 nin0,(Kp.push (X:=[])).at h2 nin0,(Kp.push (X:=[])).at h3 nin0,aBz (j:=0) L3⟩
      have d5:(m3 ++ ([MO.lst []] ++ [MO.lst []]))[5]? = some (.lst []):=aBz (j:=1) L3
      generalize m3 ++ ([MO.lst []] ++ [MO.lst []]) = m4 at G d5 ⊢
      rw [bX,oP,uI]
      refine xcall iR (is2 rfl rfl) (dK F St 6 rfl G.pool (by decide)) ?_
      rintro v m5 ⟨q,hq,rfl,P5,K5,L5⟩
      rw [nV]
      refine ⟨Nat.le_trans (Nat.le_of_lt hq) (by decide),q + 1,?_⟩
      have C0:CaseS f m5 f.base (aT f 5) []:=by
        have G5:=G.picked P5 K5
        refine ⟨?_,⟨[],K5.at d5 (by decide),.nil⟩,(fun c hc=>nomatch hc),Nat.le_refl 0,Nat.le_refl 0,Nat.le_refl 0,Nat.le_refl 0,Nat.le_refl 0,fun t ht=>nomatch ht⟩
        rw [show aE [] = [] from rfl,show aF f [] 9 [] = ([],[]) from rfl,List.append_nil,List.append_nil]
        exact G5
      have hsl:(aT f 5).length ≤ 10:=by unfold aT; split; exact Nat.le_of_ble_eq_true rfl; exact Nat.zero_le 10
      exact xS (T:=T) (K:=K) (hZ:=hZ) (n:=n + 18) F St (f:=f) (l0:=some (.lst (ns.map intV))) (l2:=some (.str (txt [f.chr]))) (many:=q) (post:=fun v m=>v = .bool true) (kk:=fun l m=>wpSs T K hZ (n + 21) l lawA3 m (fun _ m=>V.none = .bool true) (fun v m=>v = .bool true) (fun _ _=>False)) (B:=f.base) (M0:=aT f 5) rfl hsl (Nat.le_trans (Nat.le_of_lt hq) (by decide)) (fun cs m l7 l8 l9 l10 hcs C=>law_A3 F St C (by lia)) (q + 1) 0 [] m5 none none none none (Nat.zero_add _) (Nat.succ_pos _) rfl C0
    by_cases hf:f = .bool
    · subst hf
      refine tt (vcmp rfl rfl (ceq (oql (btrue rfl)))) (texpr (xapp (vitem rfl rfl (itD g3 kF)) g2 rfl (Nat.zero_le _) (tnil ?_)))
      have K1:Kp [2] m2 (m2.set 2 (.lst [.tup [.int 5,.str (Str.ofString "case_type")]])):=Kp.set (.head _)
      exact key2 _ (gp.kp K1 (by decide) (by decide)) (List.length_set.trans gl) (eI g2) (K1.at g3 (by decide))
    · refine tf0 (vcmp rfl rfl (ceq (oql (bfalse ?_)))) (key2 m2 gp gl ?_ g3)
      · cases f <;> first | exact absurd rfl hf | decide
      · rw [show aT f 5 = [] from if_neg hf]; exact g2
  refine tunp (xitem (xp rfl ?_))
  rw [e_bi]
  refine xse (xp rfl ?_)
  refine xse (xcall iR (is2 rfl rfl) (mY F St 7 rfl P0 (by decide)) ?_)
  intro v m1 hq
  refine e1a6 hq fun z hz0 hz7 e0q P1 K1 L1=>?_
  subst e0q
  rw [aBj]
  have L1':m1.length = 2:=L1.trans L0
  have hz:z = 0 ∨ z = 1 ∨ z = 2 ∨ 3 ≤ z:=by lia
  have key':∀ (f:Form) (x:Str),x = txt [f.chr]→wpSs T K hZ (n + 21) [some (.lst (ns.map intV)),some (.ref 1),some (.str x),some (.str (Str.ofString f.name)),none,none,none,none,none,none,none,none,none,none,none,none,none,none,none,none,none,none] lawA1 m1 (fun _ m=>V.none = .bool true) (fun v m=>v = .bool true) (fun _ _=>False):=fun f x e=>by subst e; exact key f m1 P1 L1'
  rcases hz with rfl | rfl | rfl | hz
  · exact os aBu (os (mK.trans wF) ⟨rfl,key' .int _ (tQ .int)⟩)
  · exact os aBu (os (mK.trans aAD) ⟨rfl,key' .char _ (tQ .char)⟩)
  · exact os aBu (os (mK.trans nthV_2) ⟨rfl,key' .byte _ (tQ .byte)⟩)
  · refine os (aBu.trans (congrArg (fun z=>some (V.int z)) (if_neg (Int.not_lt.mpr hz)))) (os (mK.trans nthV_3) ⟨rfl,key' .bool _ (tQ .bool)⟩)
end
set_option tactic.hygienic true in
theorem ns_of_in {K:Frag} {h:Heap} {N:Addr} {mg:Str→Option Value} {n:Str} {v:Value} (X:K.In h) (G:h.Ns N mg) (e:nsIn K N n = some (some v)):mg n = some v:=by
  refine e3a4 G fun o es ep ho hd _ hf=>?_
  unfold nsIn at e
  split at e
  · rename_i c d es' n' sl q
    have:=X _ _ q
    rw [ho] at this
    cases this
    cases hd
    split at e
    · rename_i x he
      cases e
      rw [← hf]
      unfold nsFind findBy
      rw [← Array.find?_toList,he]
      rfl
    · split at e <;> cases e
  · cases e
set_option tactic.hygienic true in
theorem aBG:∀ (k:Nat) (h:Heap),h.objs.size = k→(∃ a o,h.get? a = some o)→∃ hZ:Heap,(∀ b,hZ.get? b = h.get? b)∧hZ.objs.size ≤ h.objs.size∧∃ o,hZ.get? (hZ.objs.size - 1) = some o:=by
  intro k
  induction k with
  | zero =>
    intro h hk ⟨a,o,e⟩
    have hlt:=Heap.lt_size e
    rw [hk] at hlt
    exact absurd hlt (Nat.not_lt_zero _)
  | succ k ih =>
    intro h hk ⟨a,o,e⟩
    cases hl:h.get? (h.objs.size - 1) with
    | some o'=>exact ⟨h,fun _=>rfl,Nat.le_refl _,o',hl⟩
    | none =>
      obtain ⟨objs,life⟩:=h
      have hk':objs.size = k + 1:=hk
      have same:∀ b,(Heap.mk objs.pop life).get? b = (Heap.mk objs life).get? b:=by
        intro b
        by_cases hb:b = objs.size - 1
        · subst hb
          have h1:(Heap.mk objs.pop life).get? (objs.size - 1) = none:=by
            unfold Heap.get?
            have:objs.pop[objs.size - 1]? = none:=by rw [Array.getElem?_eq_none_iff]; simp
            simp only [this]
          rw [h1]
          exact hl.symm
        · unfold Heap.get?
          have:objs.pop[b]? = objs[b]?:=by
            rw [Array.getElem?_pop]
            split
            · rfl
            · rename_i hlt
              symm
              rw [Array.getElem?_eq_none_iff]
              have h1:objs.size - 1 ≤ b:=Nat.le_of_not_lt hlt
              have h2:objs.size - 1 < b:=Nat.lt_of_le_of_ne h1 (Ne.symm hb)
              exact Nat.le_of_pred_lt h2
          simp only [this]
      refine e1a3 (ih (Heap.mk objs.pop life) (by simp [hk']) ⟨a,o,by rw [same]; exact e⟩) fun hZ e1 e2 e3=>?_
      exact ⟨hZ,fun b=>(e1 b).trans (same b),Nat.le_trans e2 (by simp),e3⟩
noncomputable def LawWalk (prog:Program):Prop:=∀ (w:World) (s:Shared) (K:Frag) (mg mb:Str→Option Value) (ns:List Int) (l:Addr) (vs:List Value),
  K.In s.heap→obsK K = (true,hA,mW)→s.heap.NoLimit→s.heap.Ns mainGlobals mg→s.heap.Ns builtinsNs mb→(∀ x:Str,x ≠ "__name__"→mb x = bootBuiltins x)→(∃ mc,s.heap.Ns cStatics mc∧mc "sys.int_max_str_digits" = none)→s.heap.IsList l vs.toArray→IntsAre vs ns→ns.length ≤ 63 →
  codeAny (model prog w) callerA (.call (.ref 1314) ⟨[.ref l],[]⟩) (fun r s'=>r = .ok (.ret (.bool true))∧∃ h' tk,s' = { s with heap:=h',toks:=tk }∧∀ b o,s.heap.get? b = some o→h'.get? b = some o) s
theorem ints_rep {T:CT} {h:Heap} {bad:List Addr} {ρ:List (Addr × Addr)} {vs:List Value} {ns:List Int} (h0:IntsAre vs ns):RepL T h bad ρ (ns.map intV) vs:=by
  induction h0 with
  | nil=>exact bE
  | cons n t _ ih=>exact bB ⟨t,rfl⟩ ih
theorem law_walk (prog:Program):LawWalk prog:=by
  intro w s K mg mb ns l vs X e hlim hg hb hbi hd hl hi hn
  have F:=facts_of e
  have hL:=law_of e
  obtain ⟨om,hom⟩ : ∃ o,s.heap.get? l = some o:=by obtain ⟨o,ho,_⟩:=hl; exact ⟨o,ho⟩
  refine e1a3 (aBG _ s.heap rfl ⟨l,om,hom⟩) fun hZ e1 e2 e3=>?_
  have kk:∀ b o,s.heap.get? b = some o→hZ.get? b = some o:=fun b o h=>by rw [e1]; exact h
  have St:Stat ⟨prog,w⟩ K hZ:=by
    refine ⟨Frag.In.keeps X kk,hlim.keeps kk,⟨mg,hg.keeps kk⟩,⟨mb,hb.keeps kk,hbi⟩,?_,?_,e3,F.fine,?_,?_⟩
    · refine e1a2 hd fun mc h1 h2=>?_
      exact ⟨mc,h1.keeps kk,h2⟩
    · obtain ⟨f,hf⟩ : ∃ fd,fnAt K 1314 = some fd:=by
        have h1:irOf K 1314 = some aEB:=by
          unfold obsK at e
          simp only [Prod.mk.injEq] at e
          refine e0a3 e fun _ h2 _=>?_
          simp only [irAt,hA,List.map_cons,List.cons.injEq] at h2
          exact h2.1
        unfold irOf at h1
        cases hq:fnAt K 1314 with
        | none=>rw [hq] at h1; cases h1
        | some fd=>exact ⟨fd,rfl⟩
      refine e1a2 (zR hf) fun o ho _=>?_
      have:=Heap.lt_size (kk _ _ (X _ _ ho))
      exact Nat.lt_trans (show sysModules < 1314 by decide) this
    · exact fun c m f h=>zE (F.meth c) m f h
    · exact fun g h=>funs_of F.funs g h
  have hR:Rnd callerA 22:=⟨rfl,by decide,by decide⟩
  have M:MemR ⟨prog,w⟩ hZ [] [] s.heap []:=by
    refine ⟨fun b o h=>?_,rfl,fun i p o hi _=>?_,by simp,fun p hp=>?_,fun L hL=>?_⟩
    · rw [← e1]; exact h
    · simp at hi
    · cases hp
    · cases hL
  have r:RepL ⟨prog,w⟩ s.heap (aG [] []) [] [V.lst (ns.map intV)] [.ref l] :=
    bB ⟨l,vs.toArray,rfl,⟨⟨om,hom⟩,by simp⟩,hl,by simpa using ints_rep hi⟩ bE
  have z:=con_law (T:=⟨prog,w⟩) (K:=K) (hZ:=hZ) (n:=0) F St hn callerA [] [] s [.ref l] hR M r (fun v s'=>v = .bool true∧∃ h' tk,s' = { s with heap:=h',toks:=tk }∧∀ b o,s.heap.get? b = some o→h'.get? b = some o) ?_
  · refine codeAny_mono z ?_
    intro res s' g
    cases res with
    | error e=>exact g.elim
    | ok f =>
      cases f with
      | ret v=>exact ⟨by rw [g.1],g.2⟩
      | _=>exact g.elim
  · intro v m' ρ' h' tk' wv hv hrep _ st
    subst hv
    exact ⟨hrep,h',tk',rfl,fun b o h=>st.keep b o h (.inr (by simp)) (by simp)⟩
noncomputable def saysM (w:World) (h:Heap):Prop:=∃ K:Frag,K.In h∧obsK K = (true,hA,mW)
end Mine
open Mine
set_option maxHeartbeats 8000000 in
theorem PySem.Challenge.cw_pb0396_01_holds : PySem.Challenge.rw_pb0396_01.Holds := by
  refine holds_law law_said fun said=>?_
  refine holds_open (XP:=fun _ _=>True) (YP:=saysM) left0 (fun w s e=>⟨_,qQ s.heap asL,e⟩) (fun w h h' ⟨K,x,e⟩ k=>⟨K,Frag.In.keeps x k,e⟩) (fun _ _=>trivial) (fun _ _ _ _ _=>trivial) (by rfl) (by rfl) (by rfl) (fun s e=>recFacts_nil rfl) (by rfl) said (by decide +kernel) ⟨rfl,rfl,rfl,rfl,rfl,by decide +kernel⟩ ?hw ?hc
  case hw=>w_witness2
  case hc =>
    intro w s₀ s₁ mg mb G Y fa o pm cd doc dV kV ho hd hcd hD hmg hg args vals as hpre hlay hrd hwl hlo
    clear hd hcd hD ho
    obtain ⟨K,X,e⟩ : ∃ K:Frag,K.In s₁.heap∧obsK K = (true,hA,mW):=Y
    have hl:=law_of e
    have hfa:mg (Str.ofString "law") = some (.ref 1314):=ns_of_in X G.T.g hl
    have hmg':mg (Str.ofString "law") = some (.ref fa):=hmg
    have h1314:fa = 1314:=by rw [hfa] at hmg'; cases hmg'; rfl
    clear hmg hmg'
    subst h1314
    have hT:=G.T
    have hsh:=(pre_splitW hpre).1
    have hcond:=(pre_splitW hpre).2
    wrow_hasAll hsh hlay
    wrow_readAll hrd hwl hlo
    clear hpre
    w_cond hcond
    refine enter_call (codeAny_mono (law_walk _ w s₁ K mg mb _ _ _ X e hT.nolimit hT.g hT.b hT.builtins hT.nodigits (by assumption) (by assumption) (by omega)) ?_)
    rintro r s' ⟨rfl,h',tk,rfl,hk⟩
    clear G hT e
    refine ⟨.inl ⟨.bool true,.bool true,[],rfl,raisesW_false (by wrow_none_raised),?_,?_,?_⟩,.of_keep hk,rfl,?_⟩
    · first | exact ⟨rfl,rfl⟩ | w_reads
    · exact postW_of (by wrow_shape) (by wtm_val) (by first | rfl | w_fin)
    · exact fun _=>⟨List.nodup_nil,by simp⟩
    · row_bare
