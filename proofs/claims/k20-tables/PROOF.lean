import PyProof.Rows.All
import Wide.All
import OpenK.AllK
import Wide.FinOn
import HandS.Head2
import HandS.ForMost
import KE.KNestM
import HandS.MakeKwOnly
import HandS.IsInst
import HandS.OwnEq
import HandS.Wide
import HandS.ForExc
import HandS.ExcInit
import HandS.ExcIs
import HandS.ExcField
import KE.KExcIs
import HandS.Walk
import HandS.NoneIn
import HandS.Deep
import HandS.TupMul
import HandS.TupAny
import HandS.Nested
import HandS.NestedK
import HandS.EndTab
import KE.KDictKeyed
import HandS.Comp
import HandS.Exc
import HandS.RaiseOp
import PyProof.AutoIntOps
import PyProof.Rows.RaiseClass
import HandS.RaiseMore
import HandS.Style
import HandS.Words
import HandS.List
import PyProof.ReprRoads
import HandS.ExcOwn
import HandS.WordsExc
import PyProof.SumWalkG
import HandS.Dict
import HandS.More
import HandS.WrittenGet
import HandS.Flow
import HandS.Text
import PyProof.MeetsIn
import PyProof.EqAt
import KE.LtData
import HandS.ListItems
import HandS.SetFor
import PyProof.StrOps2
import PyProof.ReprLen
import KE.KUnpackStar
import HandS.Zip
import HandS.DictComp
import PyProof.Rows.SetFrom
import PyProof.SetRoads
import HandS.SuiteRaise
import HandS.ExcInitHot
import KE.GoesMore
import HandS.SetBool
import KE.SortKeyHeap
import HandS.ExcValue
import HandS.SortKw
import KE.KSortKey
import HandS.Iter
import PyProof.NeKinds
import KE.KDictList
import KE.KDictCopyH
import KE.DataFind
import KE.KDictZip
import PyProof.Rows.ReprOcc
import PyProof.StrLawsIn
import KE.KTurns
import KE.KDictItemsList
import KE.DataMinMax
import KE.GoesZip
import KE.GoesEnum
import HandS.Conv
import HandS.DictEq
import KE.SortData
import PyProof.EqKinds
import HandS.FStr
import PyProof.P3Eq
import PySem.Challenge.RW_askford_k20_tables
set_option Elab.async false
set_option linter.all false
set_option maxRecDepth 100000
set_option maxHeartbeats 2000000
namespace DM
open PySem PySem.W PySem.Calls PyProof.Rows HandSHeadRun
/-- what the run tells at a world -/
def RunK (o : OpenRow) (v : Program) (K : Params → Frag) (as : List Addr) (m : Nat) (ls : List PySem.Str) (w : World) : Prop :=
  ∀ os : OsState, (endF (stepQ (denQ tabQ) o.prog w) m o.prog w os).map (fun s => (looksF o.prog (boot_heap w.params) s.abs, seenQ v ls (importedModules o.prog.main.body) (fun s => xlAt v [] s && recOk o.toRowW.records s) s.abs, as.map (getT s))) = some (true, openGood v ls, (K w.params).map fun p => some p.2)
theorem wW {o : OpenRow} {v : Program} {K : Params → Frag} {as : List Addr} {m : Nat} {ls : List PySem.Str} {d : DefRec} (ek : ∀ P, as = (K P).map (·.1)) (run : ∀ w, RunK o v K as m ls w) (e : opening o.prog = plainProg o.prog.main.scope.names) (f : ∀ s, fenceModules? o.prog s = some s)
    (h1 : defOf v o.name = some (d, [])) (h2 : o.prog.theDef o.name = some (d.params, d.body, d.scope)) (h3 : kwWritten? d.params.kwonlyargs d.params.kw_defaults = some []) (h4 : (!o.writes || o.records.isEmpty) = true) (h5 : o.wellSaid = true)
    (h6 : (chainsOk v && opensWell o.prog && (frees o.toRowW && o.within.isEmpty)) = true) (h7 : o.prog.bare) (h8 : o.toRowW.promised) (call : WalkO v ls (XL v []) (InK K) o.toRowW d [] fun g us => PySem.call g us) : o.Holds :=
  head_any (H := kHook K as ek) (ob := fun s => as.map (getT s)) (M := m) (fun s => List.map_congr_left fun a _ => getT_eq s a) e f (fun w os => run w os) h1 h2 h3 h4 h5 h6 h7 h8 call
end DM
set_option Elab.async false
set_option linter.all false
set_option maxRecDepth 100000
set_option maxHeartbeats 4000000
namespace HDK
open PySem PySem.W PySem.Calls PyProof.Rows HandSHeadRun
section
local macro_rules
  | `(tactic| o_head $H) => `(tactic| (have hK := $H; exact (‹(PySem.W.OpenLaw.row PySem.Challenge.rw_askford_k20_tables).wellSaid = true → (PySem.W.OpenLaw.row PySem.Challenge.rw_askford_k20_tables).Holds›) ‹_›))
set_option maxHeartbeats 0 in
theorem made (h0 : (PySem.W.OpenLaw.row PySem.Challenge.rw_askford_k20_tables).wellSaid = true → (PySem.W.OpenLaw.row PySem.Challenge.rw_askford_k20_tables).Holds) : PySem.Challenge.rw_askford_k20_tables.Holds := by
  w_on; o_law; k_head
end
def l0 : List PySem.Str := ["NoTable", "Day", "KINDS", "LETTERS", "FIGURES", "LONG", "is_whole", "is_name", "is_worth", "are_columns", "is_row", "plainly", "row_key", "counted", "Table", "dale_worth", "dale_columns", "through_door", "_law_draws", "_law_next", "_law_cell", "_law_heads", "_law_handed", "_law_made", "_law_bad_columns", "_law_bad_row", "_law_refused_right", "_law_door", "_law_more_heads", "_law_right"]
def loose : List PySem.Str := l0
def p0 : PySem.Params := { strHash := fun _ => 0, shareClass := fun _ => 0, mergeTok := fun t => t, idOf := fun _ => 0, idOfShared := fun _ _ => 0, followText := fun _ => false, idOfImm := fun _ => 0 }
noncomputable def as : List PySem.Addr := (HDK.made.heap_39 p0).map (·.1)
theorem ek (P : PySem.Params) : as = (HDK.made.heap_39 P).map (·.1) := by kernel_rfl
noncomputable def q : PySem.Program := PySem.W.view (PySem.W.OpenLaw.row PySem.Challenge.rw_askford_k20_tables).prog [34]
def qY (w : PySem.World) : Prop := DM.RunK (PySem.W.OpenLaw.row PySem.Challenge.rw_askford_k20_tables) q HDK.made.heap_39 as 9100 loose w
theorem run0 (w : PySem.World) : qY (w.withFollow "special-get-raises" false) := by
  intro os
  kernel_rfl
theorem run1 (w : PySem.World) : qY (w.withFollow "special-get-raises" true) := by
  intro os
  kernel_rfl
theorem run (w : PySem.World) : qY w := PySem.W.byRow2 "special-get-raises" run0 run1 w
end HDK
set_option Elab.async false
set_option linter.all false
set_option maxRecDepth 100000
set_option maxHeartbeats 2000000
namespace Lay
open PySem PySem.Spec PyProof.Rows L2
section
variable {prog : Program} {w : World} {A : Around} {E : Value → Shared → Prop} {s : Shared} {K : PySem.W.Frag} {x C f : Addr} {ox : Obj} {od : Option Obj} {b tb : Value}
theorem lN (hu : A.units < cLine) (X : K.In s.heap) (I : PySem.W.InstAt s.heap x ox C od) (hs : PySem.W.findIn K (.ref C) "__eq__" = some (some (.ref f))) (hf : PySem.W.isFn K (.ref f) = true) {Q : Fin → Shared → Prop}
    (hcall : wpAny (model prog w) A (call (.ref f) [.ref x, b]) (fun v s' => ∃ r, v = .bool r ∧ Q (.done (.ret (.bool (!r)))) s') E s) :
    wpAny (model prog w) A (Builtin.«object.__ne__» ⟨[.ref x, b], []⟩) Q E s := by
  unfold Builtin.«object.__ne__»
  repeat (first
    | with_reducible refine wpAny_cRoomFor hu ?_
    | (refine wpAny_bind (m := callSpecialIfBound? (.ref x) (Str.ofString "__eq__") [b])
        (PySem.W.ifBound_K X I hs hf (wpAny_mono hcall (fun r s' hr => by
          obtain ⟨b, rfl, hq⟩ := hr
          repeat (first | exact hq | exact wpAny_pure hq | exact wpAny_truthy_bool hq | (refine wpAny_bind (m := truthy (.bool _)) (wpAny_truthy_bool ?_)) | wp_step)) fun _ _ e => e)))
    | wp_step)
theorem jO {M : Model} {args : List Value} {Q : Option Value → Shared → Prop} (X : K.In s.heap) (I : PySem.W.InstAt s.heap x ox C od) (hs : PySem.W.findIn K (.ref C) "__ne__" = some (some (.builtin "object.__ne__")))
    (h : wpAny M A (call (.builtin "object.__ne__") (.ref x :: args)) (fun v => Q (some v)) E s) : wpAny M A (callSpecialIfBound? (.ref x) "__ne__" args) Q E s := by
  simp only [callSpecialIfBound?, bindSpecialIfBound?]
  refine wpAny_holding (wpAny_bind (wpAny_bind (wpAny_bind (I.type.here ((PySem.W.looks_findIn X hs).here ?_)))))
  refine wpAny_bind (wpAny_askSetting (wpAny_ite ?_))
  have fin : wpAny M A (call (.builtin "object.__ne__") ([.ref x] ++ args) >>= fun v => pure (some v)) Q E s := wpAny_bind (wpAny_mono h (fun v s' h' => wpAny_pure h') fun _ _ h' => h')
  split
  · exact wpAny_bind (wpAny_of_eq (F.cmp_object.ne.bind _) (wpAny_pure (by exact fin)))
  · exact wpAny_tryCatch (wpAny_bind (wpAny_of_eq (F.cmp_object.ne.bind _) (wpAny_pure (by exact fin))))
theorem nN {Q : Value → Shared → Prop} (hu : A.units + 1 < cLine) (X : K.In s.heap) (I : PySem.W.InstAt s.heap x ox C od) (hm : PySem.W.mroIn K C (.type "object") = some true)
    (hs : PySem.W.findIn K (.ref C) "__eq__" = some (some (.ref f))) (hf : PySem.W.isFn K (.ref f) = true)
    (hcall : wpAny (model prog w) A.in1 (call (.ref f) [.ref x, b]) (fun v s' => ∃ r, v = .bool r ∧ Q (.bool (!r)) s') E s) :
    wpAny (model prog w) A (call (.builtin "object.__ne__") [.ref x, b]) Q E s :=
  wpAny_call (codeAny_call_builtin F.cmp_object.ne.plain F.cmpEntry_ne (PySem.W.check_slot F.cmpKind_ne F.cmpSplit_ne (I.type.andThen (PySem.W.looks_mroIn X hm)) (F.cmpArgs_ne _ _)
    (lN (A := A.in1) hu X I hs hf hcall)))
theorem wX {Q : Value → Shared → Prop} (hu : A.units + 1 < cLine) (X : K.In s.heap) (I : PySem.W.InstAt s.heap x ox C od) (hb : PySem.W.Looks (model prog w) s.heap (typeOf b) tb) (hn : PySem.W.notFirst K C tb = true)
    (hm : PySem.W.mroIn K C (.type "object") = some true) (hN : PySem.W.findIn K (.ref C) "__ne__" = some (some (.builtin "object.__ne__")))
    (hs : PySem.W.findIn K (.ref C) "__eq__" = some (some (.ref f))) (hf : PySem.W.isFn K (.ref f) = true)
    (hcall : wpAny (model prog w) A.in1 (call (.ref f) [.ref x, b]) (fun v s' => ∃ r, v = .bool r ∧ Q (.bool (!r)) s') E s) :
    wpAny (model prog w) A (richCompare .NotEq (.ref x) b) Q E s := by
  have one : wpAny (model prog w) A (tryCompare (.ref x) "__ne__" b) (fun r s' => ∃ v, r = some v ∧ Q v s') E s := by
    unfold tryCompare
    refine wpAny_bind (jO X I hN (nN hu X I hm hs hf (wpAny_mono hcall (fun v s' hv => ?_) fun _ _ e => e)))
    obtain ⟨r, rfl, q⟩ := hv
    exact ⟨r, rfl, wpAny_pure ⟨_, rfl, q⟩⟩
  unfold richCompare
  simp only [oneThing_ref]
  refine wpAny_holding (wpAny_bind (wpAny_cRoomFor (Nat.lt_of_succ_lt hu) ?_))
  rw [cmpInfo_NotEq]
  dsimp only
  refine wpAny_bind (I.type.here (wpAny_bind (hb.here ?_)))
  split
  · rename_i q
    have e : PySem.W.subIn K tb (.ref C) = some false := by
      rcases Bool.or_eq_true_iff.mp hn with e | e
      · rw [beq_iff_eq.mp e] at q; simp at q
      · exact beq_iff_eq.mp e
    refine wpAny_bind ((PySem.W.looks_subIn X e).here ?_)
    simp only [Bool.false_eq_true, if_false]
    refine wpAny_bind (wpAny_mono one (fun r s' z => ?_) fun _ _ e => e)
    obtain ⟨v, rfl, hq⟩ := z
    exact wpAny_pure hq
  · refine wpAny_bind (wpAny_pure ?_)
    simp only [Bool.false_eq_true, if_false]
    refine wpAny_bind (wpAny_mono one (fun r s' z => ?_) fun _ _ e => e)
    obtain ⟨v, rfl, hq⟩ := z
    exact wpAny_pure hq
end
/-- what an own == asks and tells: x an instance of C, y of a type that does not go first, then the promise of __eq__ -/
def wY (K : PySem.W.Frag) (C : Addr) (sp : Sp) (E : XK) (g : Bool → Bool) : R2 := fun x y H Q => ∃ a dx fs t, x = .ref a ∧ H a = some (.ins C dx fs) ∧ TyX K H y t ∧ PySem.W.notFirst K C t = true ∧ sp [x, y] H (fun v H' => ∃ b, v = .bl b ∧ Q (.bl (g b)) H') E
section
variable {X : Cx} {CX : CXT} {n : Nat} {C f : Addr} {fd : FuncData} {ps : List Str} {sp : Sp} {E : XK}
theorem ur (F : FnOk X.prog X.w X.K X.mg X.base CX n f fd ps sp) (hb : Binds X.K fd ps []) (hx : Passes CX X E) {A : Around} (hr : Room n A) (hfr : A.frames = X.A.frames) {pins : List (Addr × Obj)} {σ : L2.St} {H : Hp} {s : Shared} {x y : V} {u v : Value} {R : V → Hp → Prop}
    (I : Inv X pins σ H s) (rx : RelV x u) (ry : RelV y v) (hsp : sp [x, y] H R E) : wpAny (model X.prog X.w) A (call (.ref f) [u, v]) (EP X pins σ R) X.xe s := by
  have e0 : Env0 X.prog X.w X.K X.mg X.base A X.stack s H := by
    have e := I.env0
    exact ⟨by rw [hfr]; exact e.frames, e.mod, e.bs, e.bsz, e.funs, e.frf, e.hok, e.bare⟩
  have hl := F.len _ _ _ _ hsp
  have r2 : Vals [x, y] [u, v] := .cons rx (.cons ry .nil)
  refine wpAny_call (codeAny_mono (F.run A X.stack s H ⟨[u, v], []⟩ [u, v] [x, y] _ E hr e0 (by
    have := hb s [u, v] I.kIn (by simpa using hl)
    simpa using this) r2 hsp) fun r s' hq => ?_)
  cases r with
  | error e => exact hx pins σ H s e s' I hq
  | ok fl =>
    cases fl with
    | ret w => exact I.after hq
    | next => exact False.elim hq
    | brk => exact False.elim hq
    | cont => exact False.elim hq
theorem qZ (F : FnOk X.prog X.w X.K X.mg X.base CX n f fd ps sp) (hs : PySem.W.findIn X.K (.ref C) "__eq__" = some (some (.ref f))) (hf : PySem.W.isFn X.K (.ref f) = true) (hb : Binds X.K fd ps []) (hx : Passes CX X E) (hr : Room n X.A) :
    OpR X (compareOp .Eq) (wY X.K C sp E id) := by
  intro pins s σ H x y v u Q I rx ry hq
  obtain ⟨a, dx, fs, t, rfl, ha, ty, hn, hsp⟩ := hq
  cases rx
  obtain ⟨mA, J, _⟩ := ins_get I.hok ha
  obtain ⟨od, J, _⟩ := J.look
  obtain ⟨m, hF⟩ := I.fr
  obtain ⟨P, Z, p, _⟩ := kit_of I ry ty
  show wpAny (model X.prog X.w) X.A (richCompare .Eq (.ref a) u) (EP X pins σ Q) X.xe s
  refine PySem.W.cmp_K (op := .Eq) (tb := t) hr.units0 hF I.ok.mod.kin J (Z.ty _ _ I.kIn p) hn hs hf ?_
  refine wpAny_mono (ur (x := V.ref a) (u := Value.ref a) F hb hx hr rfl I rfl ry hsp) (fun r s' z => ?_) fun _ _ e => e
  obtain ⟨z1, H', I', rz, b, rfl, q⟩ := z
  cases rz
  exact ⟨.bl b, H', I', rfl, q⟩
end
section
variable {X : Cx}
def q5 (i j : Int) : Prop := 0 ≤ j ∧ (Builtin.Int.intBits i : Int) * j ≤ 2 ^ 27
theorem pb : OpR X (binaryOp .Pow) (rI q5 fun i j => .int (i ^ j.toNat)) := opI fun _ _ _ _ _ _ _ hc q => pow_int hc.1 hc.2 q
end
end Lay
set_option Elab.async false
set_option linter.all false
set_option maxRecDepth 100000
set_option maxHeartbeats 2000000
namespace Lay
open PySem PySem.Spec PyProof.Rows PySem.W
end Lay
namespace Lay
open PySem PySem.Spec PyProof.Rows L2
/-- an exception of the class cls with the own dict d, kept at a -/
def excAt (a : Addr) (cls : Value) (d : Option Addr) : HO := .ext fun h => ∃ o, h.get? a = some o ∧ Zc cls d o ∧ ∃ vs, o.data = .fields vs
theorem qh {X : Cx} {pins : List (Addr × Obj)} {σ : L2.St} {H : Hp} {s : Shared} (I : Inv X pins σ H s) {a : Addr} {cls : Value} {d : Option Addr} {oe : Obj} (ha : s.heap.get? a = some oe) (hz : Zc cls d oe) (hd : ∃ vs, oe.data = .fields vs) (na : H a = none)
    (n0 : X.s_0.heap.get? a = none) (nL : a ≠ X.env.locals) (nC : ∀ x c, X.env.cells.lookup x = some c → c ≠ a) (nP : ∀ p ∈ X.pn ++ pins, p.1 ≠ a) : Inv X pins σ (upd H a (excAt a cls d)) s := by
  have ne : ∀ b u, H b = some u → b ≠ a := fun b u e z => by rw [z, na] at e; cases e
  refine ⟨I.ok, I.os, I.bare, ⟨I.base.keep, I.base.slot, fun b o e n x => ?_, I.base.there, fun b xs e => ?_, fun b o u e => ?_, fun b ps e => ?_⟩, I.loc, I.cell, ?_, fun x c e => ?_, fun p hp => ?_, fun b u e => ?_, I.len⟩
  · have nb : b ≠ a := fun z => by rw [z, n0] at e; cases e
    rw [upd_ne nb]
    exact I.base.free b o e n x
  · have q := I.base.tups b xs e
    rw [upd_ne (ne _ _ q)]
    exact q
  · have q := I.base.frzs b o u e
    rw [upd_ne (ne _ _ q)]
    exact q
  · obtain ⟨more, q⟩ := I.base.tbls b ps e
    exact ⟨more, by rw [upd_ne (ne _ _ q)]; exact q⟩
  · rw [upd_ne (Ne.symm nL)]
    exact I.free
  · rw [upd_ne (nC x c e)]
    exact I.freeC x c e
  · obtain ⟨h1, h2, h3, h4, h5⟩ := I.pin p hp
    exact ⟨h1, by rw [upd_ne (nP p hp)]; exact h2, h3, h4, h5⟩
  · by_cases z : b = a
    · subst z
      rw [upd_same] at e
      cases e
      exact ⟨⟨oe, ha, hz, hd⟩, ⟨oe, ha⟩, fun h1 h2 ⟨o, e1, e2, e3⟩ k => ⟨o, k o e1, e2, e3⟩⟩
    · rw [upd_ne z] at e
      exact (I.hok b u e).stay (fun _ _ _ q => q) (fun c q => by rw [upd_ne (ne _ _ q)]; exact q) fun c xs q => by rw [upd_ne (ne _ _ q)]; exact q
inductive eL (X : Cx) : List Expr → List Value → Prop
  | nil : eL X [] []
  | cons {x : Str} {c : Value} {np : Pos} {es : List Expr} {cs : List Value} (hc : Names X x c) (r : eL X es cs) : eL X (.Name x np :: es) (c :: cs)
theorem eL.suite {X : Cx} {es : List Expr} {cs : List Value} (h : eL X es cs) (a : Addr) (pn : List (Addr × Obj)) : eL (X.suite a pn) es cs := by
  induction h with
  | nil => exact .nil
  | cons hc _ ih => exact .cons hc ih
theorem qi {X : Cx} {pins : List (Addr × Obj)} {σ : L2.St} {H : Hp} {s : Shared} {x : Str} {c : Value} {np : Pos} {Q E : Value → Shared → Prop} (I : Inv X pins σ H s) (hc : Names X x c) (q : Q c s) : wpAny (model X.prog X.w) X.A (eval (.Name x np) X.env) Q E s := by
  obtain ⟨hg, hdbg, hm | ⟨hm, hv, hnn⟩⟩ := hc
  · exact ld_glob I hg hm q hdbg
  · exact ld_blt I hg hm hv q hnn hdbg
end Lay
namespace Lay
open PySem PySem.Spec PyProof.Rows L2
/-- a kept exception of the own class D: at a; its own dict, if it has one, holds the fields fs -/
def gH (H : Hp) (a D : Addr) (fs : List (Str × V)) : Prop := (fs = [] ∧ H a = some (excAt a (.ref D) none)) ∨ ∃ d, H a = some (excAt a (.ref D) (some d)) ∧ H d = some (.xd fs)
theorem gH.same {H H' : Hp} {a D : Addr} {fs : List (Str × V)} (h : gH H a D fs) (s : Same H H') : gH H' a D fs := by
  rcases h with ⟨e, h⟩ | ⟨d, h1, h2⟩
  · exact .inl ⟨e, s _ _ h⟩
  · exact .inr ⟨d, s _ _ h1, s _ _ h2⟩
theorem qj {X : Cx} {pins : List (Addr × Obj)} {σ : L2.St} {H : Hp} {s : Shared} {a D : Addr} {fs : List (Str × V)} (I : Inv X pins σ H s) (h : gH H a D fs) : ∃ ox od, PySem.W.InstAt s.heap a ox D od := by
  rcases h with ⟨_, h⟩ | ⟨d, h1, h2⟩
  · have x : ObjOk X.prog X.w H s.heap a (.ext fun h => ∃ o, h.get? a = some o ∧ Zc (.ref D) none o ∧ ∃ vs, o.data = .fields vs) := I.hok a _ h
    obtain ⟨⟨o, e1, e2, vs, e3⟩, _⟩ := x
    refine ⟨o, none, e1, e2.1, ?_, ?_⟩
    · unfold PySem.W.notCls
      rw [e3]
    · rw [e2.2]
      trivial
  · have x : ObjOk X.prog X.w H s.heap a (.ext fun h => ∃ o, h.get? a = some o ∧ Zc (.ref D) (some d) o ∧ ∃ vs, o.data = .fields vs) := I.hok a _ h1
    obtain ⟨⟨o, e1, e2, vs, e3⟩, _⟩ := x
    obtain ⟨mA, hns, hr⟩ := (show ObjOk X.prog X.w H s.heap d (.xd fs) from I.hok d _ h2)
    obtain ⟨od, ho, hl⟩ := lookIn_ns hns
    refine ⟨o, some od, e1, e2.1, ?_, ?_⟩
    · unfold PySem.W.notCls
      rw [e3]
    · rw [e2.2]
      exact ho
theorem ExcC.kit {K : PySem.W.Frag} {D : Addr} (C : ExcC K D) {x : Addr} {ox : Obj} {od : Option Obj} : PySem.W.KitX K (.ref x) (.ref D) (fun h => PySem.W.InstAt h x ox D od) := by
  obtain ⟨cd, hc, _⟩ := PySem.W.any_some C.hd
  exact PySem.W.kitx_exc (by rw [hc]; rfl) C.hg C.hk C.hs C.ha C.hn C.ht C.hm
/-- isinstance(e, c), e a kept exception -/
def wZ (K : PySem.W.Frag) : List V → Hp → VK → Prop := fun xs H Q => ∃ (a D : Addr) (fs : List (Str × V)) (c : V) (u : Value) (b : Bool), xs = [.ref a, c] ∧ ExcC K D ∧ gH H a D fs ∧ ClsV c u ∧ PySem.W.kitOne K (.ref D) u = some b ∧ Q (.bl b) H
section
variable {X : Cx}
theorem q7 : CallR X (.builtin "isinstance") (wZ X.K) := by
  intro pins s σ H xs us Q I r h
  obtain ⟨a, D, fs, c, u, b, rfl, C, hk, k, e, q⟩ := h
  obtain ⟨u1, u2, rfl, r1, r2⟩ := vals2 r
  have e2 := k.eq r2
  subst e2
  cases (show u1 = Value.ref a from r1)
  obtain ⟨ox, od, J⟩ := qj I hk
  exact PySem.W.kia_one (ExcC.kit C) I.kIn J e (fun z => nomatch z) fun tk => ⟨.bl b, H, I.tok tk, rfl, q⟩
/-- e.f, e a kept exception -/
def tXk (K : PySem.W.Frag) (f : Str) (te : TE) : TE := fun σ H Q => te σ H fun x H1 => ∃ (a D d : Addr) (fs : List (Str × V)) (v : V), x = .ref a ∧ XfC K D ∧ PySem.W.findIn K (.ref D) f = some none ∧ H1 a = some (excAt a (.ref D) (some d)) ∧ H1 d = some (.xd fs) ∧ fs.lookup f = some v ∧ Q v H1
theorem yT {e : Expr} {te : TE} {pos : Pos} {n : Str} (he : PE X e te) (hb : attributeBase e n X.env (eval e X.env) = eval e X.env := by rfl) : PE X (.Attribute e n pos) (tXk X.K n te) := by
  refine ⟨fun pins s σ H Q I h => ?_⟩
  refine attr_of hb (thn (he.run pins s σ H _ I h) fun u s1 hh => ?_)
  obtain ⟨x, H1, I1, rx, a, D, d, fs, v, ex, T, hno, ha, ed, l, q⟩ := hh
  subst ex
  obtain rfl : u = Value.ref a := rx
  have x : ObjOk X.prog X.w H1 s1.heap a (.ext fun h => ∃ o, h.get? a = some o ∧ Zc (.ref D) (some d) o ∧ ∃ vs, o.data = .fields vs) := I1.hok a _ ha
  obtain ⟨⟨oe, e1, e2, vs, e3⟩, _⟩ := x
  obtain ⟨mA, hns, hr⟩ := (show ObjOk X.prog X.w H1 s1.heap d (.xd fs) from I1.hok d _ ed)
  obtain ⟨od, ho, hl⟩ := lookIn_ns hns
  obtain ⟨u, hu, ru⟩ := RelO.some_of (v := v) (o := mA n) (by rw [← l]; exact hr n)
  have J : PySem.W.InstAt s1.heap a oe D (some od) := ⟨e1, e2.1, by unfold PySem.W.notCls; rw [e3] <;> rfl, by rw [e2.2]; exact ho⟩
  exact HandSPX.exc_get I1.kIn J T.ga T.gg T.exC (PySem.W.findObj_own T.hdC hno rfl (by rw [hl, hu])) (handed_of ru) ⟨v, H1, I1.tok _, ru, q⟩
end
end Lay
set_option Elab.async false
set_option linter.all false
set_option maxRecDepth 100000
set_option maxHeartbeats 2000000
namespace DM
open PySem L2
abbrev Av := Addr → Prop
def WrT (K : PySem.W.Frag) (a : Addr) (xs : List V) : Prop := ∃ (o : Obj) (its : Array Value) (n : Nat), K.lookup a = some o ∧ o.cls = .type "tuple" ∧ o.data = .seq its n ∧ its.size ≤ sizeLine ∧ Vals xs its.toList
def TupAt (K : PySem.W.Frag) (H : Hp) (av : Av) (a : Addr) (xs : List V) : Prop := (¬ av a ∧ H a = some (.tup xs)) ∨ WrT K a xs
end DM
namespace XK
open PySem PySem.Spec PyProof.Rows L2 DM
mutual
/-- the value is the key, its tuples as they stand, by none of av -/
inductive NkV (K : PySem.W.Frag) (H : Hp) (av : Av) : NestedKey → V → Prop
  | none : NkV K H av .none .non
  | bool (b : Bool) : NkV K H av (.num (if b = true then 1 else 0)) (.bl b)
  | int (i : Int) : NkV K H av (.num i) (.int i)
  | text (x : Str) : NkV K H av (.text x) (.str x)
  | tup {a : Addr} {vs : List V} {ks : List NestedKey} : TupAt K H av a vs → d9 K H av ks vs → NkV K H av (.tup ks) (.ref a)
inductive d9 (K : PySem.W.Frag) (H : Hp) (av : Av) : List NestedKey → List V → Prop
  | nil : d9 K H av [] []
  | cons {k : NestedKey} {v : V} {ks : List NestedKey} {vs : List V} : NkV K H av k v → d9 K H av ks vs → d9 K H av (k :: ks) (v :: vs)
end
section
variable {P : Program} {w : World} {K : PySem.W.Frag} {H H' : Hp} {av av2 : Av} {h : Heap}
mutual
theorem NkV.is (X : K.In h) (ok : HOk P w H h) : ∀ (k : NestedKey) (v : V) (u : Value), NkV K H av k v → RelV v u → NestedIs h k u
  | .none, _, u, x, r => by
    cases x
    obtain rfl : u = Value.none := r
    exact .none
  | .num i, _, u, x, r => by
    cases x with
    | bool b =>
      obtain rfl : u = Value.bool b := r
      exact .bool rfl
    | int i =>
      obtain ⟨t, rfl⟩ := r
      exact .int _ _
  | .text z, _, u, x, r => by
    cases x
    obtain ⟨t, rfl⟩ := r
    exact .text _ _
  | .tup ks, _, u, x, r => by
    cases x with
    | @tup a vs ks hA ha =>
      obtain rfl : u = Value.ref a := r
      rcases hA with ⟨_, hA⟩ | ⟨o, its, n, hk, hc, hd, _, rv⟩
      · obtain ⟨z, its, rv, o, ho, hc, n, hd⟩ := ok a _ hA
        exact .tup ho hc hd (by simpa using d9.is X ok ks vs its ha rv)
      · exact .tup (X _ _ hk) hc hd (d9.is X ok ks vs _ ha rv)
theorem d9.is (X : K.In h) (ok : HOk P w H h) : ∀ (ks : List NestedKey) (vs : List V) (us : List Value), d9 K H av ks vs → Vals vs us → NestedAll h ks us
  | [], _, _, x, r => by
    cases x
    cases r
    exact .nil
  | k :: ks, _, _, x, r => by
    cases x with
    | cons x1 x2 =>
      cases r with
      | cons r1 r2 => exact .cons (NkV.is X ok k _ _ x1 r1) (d9.is X ok ks _ _ x2 r2)
end
mutual
theorem NkV.stay (ht : ∀ b xs, TupAt K H av b xs → TupAt K H' av2 b xs) : ∀ (k : NestedKey) (v : V), NkV K H av k v → NkV K H' av2 k v
  | .none, _, x => by cases x; exact .none
  | .num i, _, x => by
    cases x with
    | bool b => exact .bool b
    | int i => exact .int i
  | .text z, _, x => by cases x; exact .text z
  | .tup ks, _, x => by
    cases x with
    | tup hA ha => exact .tup (ht _ _ hA) (d9.stay ht ks _ ha)
theorem d9.stay (ht : ∀ b xs, TupAt K H av b xs → TupAt K H' av2 b xs) : ∀ (ks : List NestedKey) (vs : List V), d9 K H av ks vs → d9 K H' av2 ks vs
  | [], _, x => by cases x; exact .nil
  | k :: ks, _, x => by
    cases x with
    | cons x1 x2 => exact .cons (NkV.stay ht k _ x1) (d9.stay ht ks _ x2)
end
end
/-- an entry: the key, where its tuple stands, the thing -/
abbrev Ent := NestedKey × Addr × V
def gI (p : Ent) (q : NestedKey × Addr × Value) : Prop := p.1 = q.1 ∧ p.2.1 = q.2.1 ∧ RelV p.2.2 q.2.2
/-- the dict of these entries at a -/
def entK (w : World) (x : NestedKey × Addr × Value) : DictEntry := ⟨x.1.hash w, .ref x.2.1, x.2.2⟩
def Has (w : World) (a : Addr) (xs : List Ent) (h : Heap) : Prop := (a == sysModules) = false ∧ ∃ us : List (NestedKey × Addr × Value), Paired gI xs us ∧
  ∃ o es ep, h.get? a = some o ∧ o.ExactDict ∧ o.data = .dict es ep ∧ es.toList = us.map (entK w) ∧ (us.map (·.1)).Nodup
def KxO (w : World) (a : Addr) (xs : List Ent) : HO := .ext fun h => Has w a xs h
/-- the keys stand -/
def dO (K : PySem.W.Frag) (H : Hp) (av : Av) (xs : List Ent) : Prop := ∀ p ∈ xs, NkV K H av p.1 (.ref p.2.1) ∧ p.1.depth ≤ 8
theorem dO.stay {K : PySem.W.Frag} {H H' : Hp} {av av2 : Av} {xs : List Ent} (ht : ∀ b ys, TupAt K H av b ys → TupAt K H' av2 b ys) (h : dO K H av xs) : dO K H' av2 xs := fun p hp => ⟨NkV.stay ht _ _ (h p hp).1, (h p hp).2⟩
def ft (xs : List Ent) (k : NestedKey) : Option V := (xs.find? fun x => decide (x.1 = k)).map (·.2.2)
def gq (xs : List Ent) (k : NestedKey) (a : Addr) (v : V) : List Ent := if (ft xs k).isSome then xs.map fun x => if x.1 = k then (x.1, x.2.1, v) else x else xs ++ [(k, a, v)]
theorem rg {P : Program} {w : World} {H : Hp} {h : Heap} {a : Addr} {xs : List Ent} (R : Has w a xs h) : ObjOk P w H h a (KxO w a xs) := by
  have ⟨z, us, r, o, es, ep, ho, rest⟩ := R
  exact ⟨R, ⟨o, ho⟩, fun h1 h2 p k => let ⟨z, us, r, o, es, ep, ho, rest⟩ := p; ⟨z, us, r, o, es, ep, k o ho, rest⟩⟩
theorem qk {w : World} (h : Heap) (hb : sysModules < h.objs.size) : Has w h.objs.size [] (h.push { cls := .type "dict", data := .dict #[] }) :=
  ⟨beq_eq_false_iff_ne.mpr (Ne.symm (Nat.ne_of_lt hb)), [], .nil, _, #[], 0, Heap.get?_push_size _ rfl, ⟨rfl, rfl, rfl⟩, rfl, rfl, List.nodup_nil⟩
theorem Paired.w7 {xs : List Ent} {us : List (NestedKey × Addr × Value)} (r : Paired gI xs us) : xs.length = us.length := by
  induction r with
  | nil => rfl
  | cons _ _ ih => simp [ih]
theorem gJ {k : NestedKey} : ∀ {xs : List Ent} {us : List (NestedKey × Addr × Value)}, Paired gI xs us →
    (ft xs k = none ∧ atKey us k = none) ∨ ∃ v p, ft xs k = some v ∧ atKey us k = some p ∧ RelV v p.2
  | _, _, .nil => .inl ⟨rfl, rfl⟩
  | _, _, .cons (a := a) (b := b) (l₁ := l1) (l₂ := l2) e r => by
    obtain ⟨e1, e2, e3⟩ := e
    by_cases hk : a.1 = k
    · exact .inr ⟨a.2.2, b.2, by simp [ft, hk], by simp [atKey, ← e1, hk], e3⟩
    · have h1 : ft (a :: l1) k = ft l1 k := by simp [ft, hk]
      have h2 : atKey (b :: l2) k = atKey l2 k := by simp [atKey, ← e1, hk]
      rw [h1, h2]
      exact gJ r
theorem pf {k : NestedKey} {v : V} {u : Value} (rv : RelV v u) : ∀ {xs : List Ent} {us : List (NestedKey × Addr × Value)}, Paired gI xs us → Paired gI (xs.map fun x => if x.1 = k then (x.1, x.2.1, v) else x) (us.map (putAt k u))
  | _, _, .nil => .nil
  | _, _, .cons (a := a) (b := b) e r => by
    obtain ⟨e1, e2, e3⟩ := e
    refine .cons ?_ (pf rv r)
    by_cases hk : a.1 = k
    · have hk2 : b.1 = k := by rw [← e1]; exact hk
      simp only [putAt, hk, hk2, if_true]
      exact ⟨rfl, e2, rv⟩
    · have hk2 : ¬ b.1 = k := by rw [← e1]; exact hk
      simp only [putAt, hk, hk2, if_false]
      exact ⟨e1, e2, e3⟩
theorem lO {p : Ent} {q : NestedKey × Addr × Value} (e : gI p q) : ∀ {xs : List Ent} {us : List (NestedKey × Addr × Value)}, Paired gI xs us → Paired gI (xs ++ [p]) (us ++ [q])
  | _, _, .nil => .cons e .nil
  | _, _, .cons z r => .cons z (lO e r)
theorem ql {k : NestedKey} {b : Addr} {v : V} {u : Value} (rv : RelV v u) {xs : List Ent} {us : List (NestedKey × Addr × Value)} (r : Paired gI xs us) : Paired gI (gq xs k b v) (storedH us k b u) := by
  unfold gq
  rcases gJ (k := k) r with ⟨h1, h2⟩ | ⟨v', p, h1, h2, _⟩
  · rw [h1, storedH_new h2]
    exact lO ⟨rfl, rfl, rv⟩ r
  · rw [h1, storedH_old h2]
    exact pf rv r
section
variable {X : Cx} {pins : List (Addr × Obj)} {σ : L2.St} {H : Hp} {av : Av} {s : Shared} {a b : Addr} {xs : List Ent} {k : NestedKey} {d v : V} {r u : Value} {A : Around} {E : Value → Shared → Prop}
theorem i9 (I : Inv X pins σ H s) (ha : H a = some (KxO X.w a xs)) (hk : dO X.K H av xs) : (a == sysModules) = false ∧ ∃ us, Paired gI xs us ∧ s.heap.DictOfH (nestedKind X.prog X.w) a us := by
  obtain ⟨z, us, r, o, es, ep, ho, hx, hd, he, nd⟩ := (I.hok a _ ha).1
  refine ⟨z, us, r, o, es, ep, ho, hx, hd, he, ?_, nd⟩
  have : ∀ {xs : List Ent} {us : List (NestedKey × Addr × Value)}, Paired gI xs us → dO X.K H av xs → ∀ x ∈ us, (nestedKind X.prog X.w).is s.heap x.1 x.2.1 := by
    intro xs us r
    induction r with
    | nil => intro _ x hx; cases hx
    | @cons p q l1 l2 e r ih =>
      intro hk x hx
      obtain ⟨e1, e2, _⟩ := e
      rcases List.mem_cons.mp hx with rfl | hx
      · obtain ⟨n, dp⟩ := hk p (by simp)
        rw [← e1, ← e2]
        exact ⟨NkV.is I.kIn I.hok _ _ _ n (show RelV (.ref p.2.1) (.ref p.2.1) from rfl), dp⟩
      · exact ih (fun z hz => hk z (List.mem_cons_of_mem _ hz)) x hx
  exact this r hk
theorem key_is (I : Inv X pins σ H s) (n : NkV X.K H av k (.ref b)) (dp : k.depth ≤ 8) : (nestedKind X.prog X.w).is s.heap k b := ⟨NkV.is I.kIn I.hok _ _ _ n (show RelV (.ref b) (.ref b) from rfl), dp⟩
/-- d.get(k, x) -/
theorem w8 {Q : Value → Shared → Prop} (hu : A.units + 10 < cLine) (I : Inv X pins σ H s) (ha : H a = some (KxO X.w a xs)) (hk : dO X.K H av xs) (n : NkV X.K H av k (.ref b)) (dp : k.depth ≤ 8) (rd : RelV d r)
    (h : ∀ w' s', Inv X pins σ H s' → RelV ((ft xs k).getD d) w' → Q w' s') : wpAny (model X.prog X.w) A (call (.builtin "dict.get") [.ref a, .ref b, r]) Q E s := by
  obtain ⟨hs, us, ru, dd⟩ := i9 I ha hk
  refine call_meetsIn PySem.F.slot_dict_get dd.typeIs PySem.F.entry_dict_get (PySem.F.args_dict_get_3 _ _ _) (meetsH_dict_get_default (nestedKind X.prog X.w) a b hs r) ⟨by show A.units + 1 + 8 < cLine; omega, k, us, key_is I n dp, dd, h _ _ (I.tok _) ?_⟩
  rcases gJ (k := k) ru with ⟨h1, h2⟩ | ⟨v', p, h1, h2, h3⟩
  · rw [h1, h2]
    exact rd
  · rw [h1, h2]
    exact h3
/-- d[k] = v -/
theorem qm {Q : Unit → Shared → Prop} (hu : A.units + 10 < cLine) (I : Inv X pins σ H s) (ha : H a = some (KxO X.w a xs)) (hk : dO X.K H av xs) (n : NkV X.K H av k (.ref b)) (dp : k.depth ≤ 8) (rv : RelV v u) (hl : xs.length ≤ 100000)
    (h : ∀ s', Inv X pins σ (upd H a (KxO X.w a (gq xs k b v))) s' → Q () s') : wpAny (model X.prog X.w) A (setItem (.ref a) (.ref b) u) Q E s := by
  obtain ⟨hs, us, ru, dd⟩ := i9 I ha hk
  refine wpAny_setItem_heap (knd := nestedKind X.prog X.w) (by show A.units + 1 + 8 < cLine; omega) (key_is I n dp) dd (fun h' hd sb => ?_) (hsz := by rw [← Paired.w7 ru]; exact Nat.le_trans hl (by decide))
  obtain ⟨o, es, ep, ho, hx, hdd, he, _, nd⟩ := hd
  exact h _ (I.write (e := a) (by rw [ha]; trivial) (.inl rfl) (fun c ob hc hob => (sb.2 c hc).trans hob) ⟨o, ho⟩ (rg ⟨hs, _, ql rv ru, o, es, ep, ho, hx, hdd, he, nd⟩))
theorem ri (I : Inv X pins σ H s) (ha : H a = some (KxO X.w a xs)) : s.TypeIs (.ref a) "dict" ∧ ∀ b, Value.ref a = .ref b → ∃ o, s.heap.get? b = some o ∧ o.dict = none := by
  obtain ⟨z, us, r, o, es, ep, ho, hx, hd, he, nd⟩ := (I.hok a _ ha).1
  exact ⟨⟨o, ho, hx.1⟩, fun b e => by cases e; exact ⟨o, ho, hx.2.1⟩⟩
end
end XK
set_option linter.all false
namespace Cal
def b2 (b : Bool) : Int := if b then 1 else 0
def lens : List Int := [31, 28, 31, 30, 31, 30, 31, 31, 30, 31, 30, 31]
def since (y m : Int) : Int := y - b2 (decide (m < 3))
def aheadOf (m d : Int) : Int := (153 * ((m + 9) % 12) + 2) / 5 + d - 1
def num (y m d : Int) : Int := 365 * since y m + since y m / 4 - since y m / 100 + since y m / 400 + aheadOf m d
def there (y m k : Int) : Int := 12 * y + m - 1 + k
end Cal
set_option Elab.async false
set_option linter.all false
set_option maxRecDepth 100000
set_option maxHeartbeats 2000000
namespace XC
open PySem PySem.Spec PyProof.Rows L2
/-- an error in the air; L is the frame's place (a block within a def has its def's) -/
def XEL (X : Cx) (L : Addr) (W : WX) (u : Value) (s' : Shared) : Prop :=
  ∃ (a : Addr) (B : Heap) (t : Shared) (ps : List (Addr × Obj)) (σ : L2.St) (H : Hp) (c : Value) (d : Option Addr),
    u = .ref a ∧ Inv X ps σ H t ∧ (∀ b o, t.heap.get? b = some o → b ∉ frs X.stack → B.get? b = some o) ∧
      t.heap.UpToSlots s'.heap ∧ Sky B X.stack a (Zc c d) L s'.heap ∧ H a = none ∧ s'.os = t.os ∧ AllBare s'.gens ∧ W c d σ H
def eG (X : Cx) (L : Addr) (W : WX) : Prop := ∀ u s', XEL X L W u s' → X.xe u s'
theorem bf {X : Cx} {W : WX} (t : Takes X W) : eG X X.env.locals W := fun u s' x => t u s' x
/-- whose frame it is -/
structure Fm (X : Cx) (L : Addr) : Prop where
  st : ∃ e r, X.stack = e :: r ∧ e.frame = some L
  fr : X.env.frame = some L
theorem uu {x : Value} {a b : Env} (h : a.frame = b.frame) : noteFrame x a = noteFrame x b := by
  unfold noteFrame PySem.frameOf
  rw [h]
theorem j1 {h h' base B : Heap} : ∀ {l : List Env}, h.FunFrames base l → (∀ b ∈ frs l, h'.get? b = h.get? b) → (∀ b ∈ frs l, B.get? b = none) → h'.FunFrames B l
  | [], _, _, _ => trivial
  | env :: l, hh, k, hn => by
    obtain ⟨hk, ⟨L, o, hf, _, ho, hd⟩, hr⟩ := hh
    have hm : L ∈ frs (env :: l) := List.mem_filterMap.mpr ⟨env, List.mem_cons_self, hf⟩
    have up : ∀ b, b ∈ frs l → b ∈ frs (env :: l) := fun b hb => by
      obtain ⟨e, he, q⟩ := List.mem_filterMap.mp hb
      exact List.mem_filterMap.mpr ⟨e, List.mem_cons_of_mem _ he, q⟩
    exact ⟨hk, ⟨L, o, hf, hn L hm, (k L hm).trans ho, hd⟩, j1 hr (fun b hb => k b (up b hb)) fun b hb => hn b (up b hb)⟩
section
variable {X : Cx} {L : Addr} {W WB : WX} {ps : List (Addr × Obj)} {σ : L2.St} {H : Hp} {s : Shared} {scope : Scope} {ce : Env} {fp : List Addr} {xb : Value → Shared → Prop}
abbrev blkE (X : Cx) (s : Shared) (H : Hp) (scope : Scope) (ce : Env) (fp : List Addr) (xb : Value → Shared → Prop) : Cx := { X.blk s H scope ce fp with xe := xb }
/-- what stands behind a comprehension's error -/
def gone (X : Cx) (C L : Addr) (x : Value) (s' : Shared) : Prop := ∃ m, s'.heap.Ns C m ∧ ∀ h', Heap.SameBut C s'.heap h' → ∀ en : Env, en.frame = some L →
  wpAny (model X.prog X.w) X.A (PySem.passOn "comprehension.variables-let-go" x en : Sem Value) (fun _ _ => False) X.xe { s' with heap := h' }
theorem XEL.back (I3 : Inv X ps σ H s) (fm : Fm X L) (tk : eG X L W) (hc : ce.locals = s.heap.objs.size) (hf : ce.frame = some L) (f3 : ∀ b ∈ fp, FpOk X ps H b ∧ b < s.heap.objs.size)
    (hW : ∀ c d σ' H', WB c d σ' H' → W c d σ H') {u : Value} {s' : Shared} (x : XEL (blkE X s H scope ce fp xb) L WB u s') : notedBy (model X.prog X.w) X.A ce (gone X s.heap.objs.size L) u s' := by
  obtain ⟨a, B, t, ps', σ', H', c, d, rfl, I, nb, up, sky, na, os, ag, w⟩ := x
  obtain ⟨⟨e0, r0, hst, he0⟩, _⟩ := fm
  have hfr : X.A.frames = some (e0 :: r0) := by rw [I3.ok.frames, hst]
  have nC : s.heap.objs.size ∉ frs X.stack := fun hm => by
    obtain ⟨_, o, e, _⟩ := I3.stack.mem hm
    exact absurd (Heap.lt_size e) (Nat.lt_irrefl _)
  have nH : H' s.heap.objs.size = none := by
    have z : H' ce.locals = none := I.free
    rw [hc] at z
    exact z
  have fin : ∀ h1, HandSPX.HeldZ B (e0 :: r0) a (Zc c d) L h1 → s'.heap.UpToSlots h1 → gone X s.heap.objs.size L (.ref a) { s' with heap := h1 } := by
    intro h1 hh up1
    obtain ⟨m, hn, _⟩ := I.loc
    have hn : t.heap.Ns ce.locals m := hn
    rw [hc] at hn
    obtain ⟨oC, es, ep, hoC, rC⟩ := hn
    have bC : B.get? s.heap.objs.size = some oC := nb _ oC hoC nC
    obtain ⟨hk, hna, hfun, oe, vs, T, oT, ts, he, hz, hd, hv1, hnT, hTe, hT, hdT, hv3⟩ := hh
    refine ⟨m, ⟨oC, es, ep, hk _ _ bC, rC⟩, fun h' sb en hen => ?_⟩
    have aC : a ≠ s.heap.objs.size := fun z => by rw [z, bC] at hna; cases hna
    have TC : T ≠ s.heap.objs.size := fun z => by rw [z, bC] at hnT; cases hnT
    have k' : ∀ b, b ≠ s.heap.objs.size → h'.get? b = h1.get? b := sb.2
    obtain ⟨B', b1, b2⟩ := restrict h' fun b => (B.get? b).isSome
    obtain ⟨G, g1, g2⟩ := restrict h' fun b => (B.get? b).isSome || decide (b ∈ frs X.stack)
    have stB : B'.StaysIn h' := fun b o e => by
      cases q : (B.get? b).isSome with
      | false => rw [b2 b q] at e; cases e
      | true => rw [b1 b q] at e; exact e
    have frN : ∀ b ∈ frs (e0 :: r0), B.get? b = none := fun b hb => (hfun.mem hb).1
    have frB : ∀ b ∈ frs (e0 :: r0), B'.get? b = none := fun b hb => b2 b (by rw [frN b hb]; rfl)
    have hfun' : h'.FunFrames B' (e0 :: r0) := j1 hfun (fun b hb => k' b fun z => nC (by rw [hst, ← z]; exact hb)) frB
    have naB : B'.get? a = none := b2 a (by rw [hna]; rfl)
    have nTB : B'.get? T = none := b2 T (by rw [hnT]; rfl)
    have tr : HandSPX.TracedZ h' B' a (Zc c d) (rawInt L) := ⟨oe, vs, T, oT, ts, (k' a aC).trans he, hz, hd, hv1, nTB, hTe, (k' T TC).trans hT, hdT, hv3⟩
    have gB : ∀ b o, b ≠ s.heap.objs.size → B.get? b = some o → G.get? b = some o := fun b o hb e => by
      rw [g1 b (by simp [e]), k' b hb]
      exact hk b o e
    have gF : ∀ b, b ∈ frs X.stack → G.get? b = h'.get? b := fun b hb => g1 b (by simp [hb])
    have og : ∀ b o, G.get? b = some o → h'.get? b = some o ∧ ((B.get? b).isSome = true ∨ b ∈ frs X.stack) := fun b o e => by
      cases q : ((B.get? b).isSome || decide (b ∈ frs X.stack)) with
      | false => rw [g2 b q] at e; cases e
      | true =>
        rw [g1 b q] at e
        exact ⟨e, by simpa [Bool.or_eq_true] using q⟩
    have old : ∀ {b : Addr} {o : Obj}, s.heap.get? b = some o → b ≠ s.heap.objs.size := fun e => Nat.ne_of_lt (Heap.lt_size e)
    -- slots of the frames
    have sl : ∀ b o, t.heap.get? b = some o → b ∈ frs X.stack → ∃ sl, G.get? b = some { o with slots := sl } := fun b o e hb => by
      obtain ⟨_, o2, e2, hnf⟩ := I.stack.mem hb
      rw [e] at e2
      cases e2
      obtain ⟨s1, q1⟩ := up b o e hnf
      obtain ⟨s2, q2⟩ := up1 b _ q1 hnf
      exact ⟨s2, by rw [gF b hb, k' b fun z => nC (by rw [← z]; exact hb)]; exact q2⟩
    have hok : HOk X.prog X.w H' G := fun b o e => (I.inGround nb b o e).stay (fun v u' hv q => gB v u' (fun z => by
      rcases hv with hv | hv
      · rw [← hv, z, nH] at e; cases e
      · rw [z, nH] at hv; cases hv) q) (fun _ q => q) fun _ _ q => q
    have JX : Inv X ps σ H' { s with heap := G, gens := s'.gens, drawn := s'.drawn, toks := s'.toks } := by
      refine I3.call' (ch := fp) rfl ⟨fun b o e n hb hx => ?_, fun b o e n hb hx => ?_, fun b o e n hx => I.base.free b o e n hx, fun b o e hx => ?_, I.base.tups, I.base.frzs, I.base.tbls⟩ hok ag fun b hb => ⟨(f3 b hb).1.2.2.2.1, (f3 b hb).1.2.1, (f3 b hb).1.2.2.2.2.1, (f3 b hb).1.2.2.2.2.2⟩
      · exact gB b o (old e) (nb b o (I.base.keep b o e n hb hx) hb)
      · obtain ⟨s1, q1⟩ := I.base.slot b o e n hb hx
        obtain ⟨s2, q2⟩ := sl b _ q1 hb
        exact ⟨s2, q2⟩
      · obtain ⟨o', q1⟩ := I.base.there b o e hx
        by_cases hb : b ∈ frs X.stack
        · obtain ⟨s2, q2⟩ := sl b _ q1 hb
          exact ⟨_, q2⟩
        · exact ⟨o', gB b o' (old e) (nb b o' q1 hb)⟩
    unfold PySem.passOn
    refine wpAny_bind (wpAny_field ((k' a aC).trans he) hd hv1 ?_)
    rw [if_neg (show ¬ ((Value.ref T == Value.none) = true) from by simp)]
    refine wpAny_bind (HandSPX.setFlight_anyZ stB hfun' tr fun h2 s2 f2 t2 up2 => ?_)
    refine wpAny_throw (tk _ _ ⟨a, B', { s with heap := G, gens := s'.gens, drawn := s'.drawn, toks := s'.toks }, ps, σ, H', c, d, rfl, JX, fun b o e hb => ?_, (Heap.UpToSlots.of_keeps fun b o e => (og b o e).1).trans up2, ?_, na, os.trans I.os, ag, hW _ _ _ _ w⟩)
    · obtain ⟨q1, q2⟩ := og b o e
      rcases q2 with q2 | q2
      · rw [b1 b q2]; exact q1
      · exact absurd q2 hb
    · rw [hst]
      rw [hen] at t2
      exact .inr (.inr ⟨s2, naB, f2, t2⟩)
  show wpAny _ X.A (noteFrame (.ref a) ce) _ _ s'
  rw [uu (hf.trans he0.symm)]
  have sky : Sky B X.stack a (Zc c d) L s'.heap := sky
  rw [hst] at sky
  rcases sky with ⟨hB, hn, hl, oe, vs, he, hz, hd, h1⟩ | fl | hh
  · exact HandSPX.look_newZ Zc.steady hfr hl he0 he hB hn hd h1 hz fin
  · exact HandSPX.looks_onZ Zc.steady hfr he0 fl fin
  · exact HandSPX.againZ he0 hh.2.2.2 (fin s'.heap hh (Heap.UpToSlots.refl _))
/-- what a call lets out -/
theorem XEL.call {E : XK} (I : Inv X ps σ H s) (hE : ∀ c d H', E c d H' → W c d σ H') {u : Value} {s' : Shared} (x : CX X.prog X.w X.stack H s E u s') : XEL X L W u s' := by
  obtain ⟨a, B, H1, c, d, rfl, fly, hokB, ub, na, hos, bare, e1⟩ := x
  have stay : B.StaysIn s'.heap := fly.1
  obtain ⟨G, in1, out1⟩ := restrict s'.heap fun v => (B.get? v).isSome || decide (v ∈ frs X.stack)
  have ofB : ∀ v o, B.get? v = some o → G.get? v = some o := fun v o q => by
    rw [in1 v (by simp [q])]
    exact stay v o q
  have ofF : ∀ v, v ∈ frs X.stack → G.get? v = s'.heap.get? v := fun v hv => in1 v (by simp [hv])
  have inv : ∀ v o, G.get? v = some o → s'.heap.get? v = some o ∧ ((B.get? v).isSome = true ∨ v ∈ frs X.stack) := fun v o q => by
    cases z : ((B.get? v).isSome || decide (v ∈ frs X.stack)) with
    | true =>
      rw [in1 v z] at q
      exact ⟨q, by simpa [Bool.or_eq_true] using z⟩
    | false => rw [out1 v z] at q; cases q
  have J : Inv X ps σ H1 { s with heap := G, gens := s'.gens, drawn := s'.drawn, toks := s'.toks } := by
    refine I.call (ch := []) ⟨fun v o q n hv _ => ofB v o (ub.keep v o q n hv), fun v o q n hv _ => ?_, fun v o q n _ => ub.free v o q n, fun v o q _ => ?_, ub.tups, ub.frzs, ub.tbls⟩ (hokB.kept ofB) bare (fun _ z => nomatch z)
    · obtain ⟨sl, z⟩ := ub.slot v o q hv
      exact ⟨sl, (ofF v hv).trans z⟩
    · by_cases hv : v ∈ frs X.stack
      · obtain ⟨sl, z⟩ := ub.slot v o q hv
        exact ⟨_, (ofF v hv).trans z⟩
      · obtain ⟨o2, z⟩ := ub.there v o q hv
        exact ⟨o2, ofB v o2 z⟩
  refine ⟨a, B, _, ps, σ, H1, c, d, rfl, J, fun v o q hv => ?_, Heap.UpToSlots.of_keeps fun v o q => (inv v o q).1, .inr (.inl fly), na, hos, bare, hE _ _ _ e1⟩
  obtain ⟨q1, q2⟩ := inv v o q
  rcases q2 with q2 | q2
  · obtain ⟨o2, q3⟩ := Option.isSome_iff_exists.mp q2
    have z := stay v o2 q3
    rw [q1] at z
    cases z
    exact q3
  · exact absurd q2 hv
theorem passL {E : L2.St → XK} (tk : eG X L W) (hE : ∀ c d σ H, E σ c d H → W c d σ H) (σ : L2.St) : PassesAt (L2.CX X.prog X.w) X σ (E σ) :=
  fun _ _ _ e s' I c => tk e s' (XEL.call I (fun c d H' h => hE c d σ H' h) c)
/-- an error that an operation makes -/
theorem XEL.made {cls : String} {h' : Heap} {e : Addr} {t' : Nat} (I : Inv X ps σ H s) (x : Heap.NewExc s.heap h' e cls) (w : ∀ d, W (.type cls) d σ H) : XEL X L W (.ref e) { s with heap := h', toks := t' } := by
  obtain ⟨ob, tb, he, hcl, hd⟩ := x.there
  have hidden : ∀ v o, (PySem.W.hideAll s.heap (frs X.stack)).get? v = some o → s.heap.get? v = some o := fun v o q => PySem.W.of_hideAll _ q
  refine ⟨e, PySem.W.hideAll s.heap (frs X.stack), s, ps, σ, H, .type cls, ob.dict, rfl, I, fun v o q hv => PySem.W.hideAll_get _ q hv, Heap.UpToSlots.of_keeps x.keeps, .inl ⟨fun v o q => x.keeps v o (hidden v o q), ?_, ?_, ob, _, he, ⟨hcl, rfl⟩, hd, rfl⟩, I.hok.gone x.new, rfl, I.bare, w ob.dict⟩
  · cases q : (PySem.W.hideAll s.heap (frs X.stack)).get? e with
    | none => rfl
    | some o =>
      have z := hidden e o q
      rw [x.new] at z
      cases z
  · exact Heap.FunFrames.of_keeps (fun v o q _ => ⟨o, x.keeps v o q, rfl⟩) (funFrames_none I.stack fun v hv => PySem.W.hideAll_none _ hv)
end
end XC
set_option Elab.async false
set_option linter.all false
set_option maxRecDepth 100000
set_option maxHeartbeats 2000000
namespace XC
open PySem PySem.Spec PyProof.Rows L2
/-- behind a block: a result, or an error that goes on -/
def pst (X : Cx) (L : Addr) (use : Option (Value → Sem Unit)) (Q : Value → Shared → Prop) (acc : Value) (C : Addr) (r : Result) (t : Shared) : Prop :=
  match r, use with
  | .error x, _ => gone X C L x t
  | .ok _, none => ∃ m, t.heap.Ns C m ∧ ∀ h2, Heap.SameBut C t.heap h2 → Q acc { t with heap := h2 }
  | .ok _, some u => wpAny (model X.prog X.w) X.A (u acc) (fun _ t2 => ∃ m, t2.heap.Ns C m ∧ ∀ h2, Heap.SameBut C t2.heap h2 → Q .none { t2 with heap := h2 }) X.xe t
section
variable {X : Cx} {L : Addr} {W : WX}
theorem lP {env : Env} {s : Shared} {e : Expr} {scope : Scope} {pos : Pos} {newAcc first : Sem Value} {g : Comprehension} {gs : List Comprehension} {cl : List (Str × Addr)} {use : Option (Value → Sem Unit)} {Q : Value → Shared → Prop}
    (hf : env.frame = some L) (hcl : clausesOf e = g :: gs) (hs : ∀ x, foldedSetIterable g.iter env x = pure x) (hclo : closureFor scope env = pure cl) (hk : scope.kind = .function) (hn : ∀ x ∈ scope.names, x.2 = .local → scope.names.lookup x.1 = some .local)
    (h : wpAny (model X.prog X.w) X.A first (fun x s1 => wpAny (model X.prog X.w) X.A (pyIter x) (fun it s2 => wpAny (model X.prog X.w) X.A newAcc (fun acc s3 =>
      wpAny (model X.prog X.w) X.A (newFunctionEnv scope env.globals cl [] env.qual none .none (some env)) (fun ce s4 => ce.frame = some L ∧
        codeAny (model X.prog X.w) X.A (.compStart e 0 it acc { ce with scope := relabel scope env }) (pst X L use Q acc ce.locals) s4) X.xe s3) X.xe s2) X.xe s1) X.xe s) :
    wpAny (model X.prog X.w) X.A (comprehension e scope env pos newAcc false first use) Q X.xe s := by
  have id' : ∀ (a : Value) (b : Shared), X.xe a b → X.xe a b := fun _ _ z => z
  unfold comprehension
  rw [hclo, hcl]
  refine wpAny_bind (wpAny_mono h (fun x s1 q1 => ?_) id')
  refine wpAny_bind (wpAny_standAt (wpAny_bind (wpAny_of_eq (hs x) (wpAny_bind (wpAny_holding (wpAny_mono q1 (fun it s2 q2 => ?_) id'))))))
  refine wpAny_standIf (wpAny_bind (wpAny_mono q2 (fun acc s3 q3 => ?_) id'))
  refine wpAny_bind (wpAny_pure (wpAny_bind (wpAny_mono q3 (fun ce s4 q4 => ?_) id')))
  obtain ⟨hcf, q4⟩ := q4
  dsimp only
  generalize hvs : (scope.names.filter fun x => (x.2 == .local || x.2 == .cell) && x.1 != (".0" : Str)).reverse = vs
  have mem : ∀ x ∈ vs, x ∈ scope.names := fun x hx => by
    rw [← hvs] at hx
    exact (List.mem_filter.mp (List.mem_reverse.mp hx)).1
  have loc : ∀ x ∈ vs, x.2 = .local → Env.kindOf { ce with scope := relabel scope env } x.1 = some .local := fun x hx hl => lookup_relabel_local (hn x (mem x hx) hl)
  have loc2 : ∀ x ∈ vs.drop 1 ++ vs.take 1, x.2 = .local → Env.kindOf { ce with scope := relabel scope env } x.1 = some .local := fun x hx hl => by
    rcases List.mem_append.mp hx with z | z
    · exact loc x (List.mem_of_mem_drop z) hl
    · exact loc x (List.mem_of_mem_take z) hl
  refine wpAny_holding (wpAny_bind (wpAny_attempt (wpAny_holding (wpAny_run (codeAny_mono q4 fun r t hr => ?_)))))
  cases r with
  | error x =>
    have hr : gone X ce.locals L x t := by cases use <;> exact hr
    obtain ⟨m, hm, hr⟩ := hr
    refine wpAny_bind (wpAny_holding (wpAny_comp_letGo (cenv := { ce with scope := relabel scope env }) hk _ t m loc hm fun h2 m2 _ hs2 => ?_))
    exact wpAny_mono (hr h2 hs2 _ hcf) (fun _ _ z => z.elim) id'
  | ok f =>
    cases use with
    | none =>
      obtain ⟨m, hm, hr⟩ := hr
      exact wpAny_bind (wpAny_holding (wpAny_comp_letGo (cenv := { ce with scope := relabel scope env }) hk _ t m loc hm fun h2 m2 _ hs2 => wpAny_pure (hr h2 hs2)))
    | some u =>
      refine wpAny_bind (wpAny_rule (wpAny_bind (wpAny_holding (wpAny_mono hr (fun _ t2 hr2 => ?_) id'))))
      obtain ⟨m, hm, hr2⟩ := hr2
      exact wpAny_bind (wpAny_comp_letGo (cenv := { ce with scope := relabel scope env }) hk _ t2 m loc2 hm fun h2 m2 _ hs2 => wpAny_pure (hr2 h2 hs2))
end
end XC
set_option Elab.async false
set_option linter.all false
set_option maxRecDepth 100000
set_option maxHeartbeats 2000000
namespace XC
open PySem PySem.Spec PyProof.Rows L2
theorem Inv.re {X : Cx} {a b : Value → Shared → Prop} {ps : List (Addr × Obj)} {σ : L2.St} {H : Hp} {s : Shared} (I : Inv { X with xe := a } ps σ H s) : Inv { X with xe := b } ps σ H s :=
  ⟨⟨I.ok.mod, I.ok.kind, I.ok.glob, I.ok.blt, I.ok.above, I.ok.inj, I.ok.has, I.ok.cab, I.ok.hd, I.ok.frames, I.ok.stk, I.ok.exf, I.ok.bs, I.ok.bsz, I.ok.noex, I.ok.exfs, I.ok.funs, I.ok.frf⟩, I.os, I.bare, I.base, I.loc, I.cell, I.free, I.freeC, I.pin, I.hok, I.len⟩
/-- the block's context: its errors are the outer one's -/
abbrev cG (X : Cx) (L : Addr) (W : WX) (σ0 : L2.St) (s : Shared) (H : Hp) (scope : Scope) (ce : Env) (fp : List Addr) : Cx := blkE X s H scope ce fp (XEL (X.blk s H scope ce fp) L fun c d _ H' => W c d σ0 H')
section
variable {X : Cx} {L : Addr} {W : WX}
theorem cz {σ0 : L2.St} {s : Shared} {H : Hp} {scope : Scope} {ce : Env} {fp : List Addr} : eG (cG X L W σ0 s H scope ce fp) L (fun c d _ H' => W c d σ0 H') := fun u s' x => by
  obtain ⟨a, B, t, ps, σ, H1, c, d, e, I, r⟩ := x
  exact ⟨a, B, t, ps, σ, H1, c, d, e, Inv.re I, r⟩
theorem nO {σ0 : L2.St} {s : Shared} {H : Hp} {scope : Scope} {cl : List (Str × Addr)} {C : Addr} {fp : List Addr} (f : Fm X L) : Fm (cG X L W σ0 s H scope (compEnvC scope cl C X.env) fp) L := ⟨f.st, f.fr⟩
/-- the reading of a comprehension out of which an error may come -/
def qo (wi : TI) (g : TG) (tt : L2.St → TT) (te : L2.St → TE) (vs : List Nat) : TE := fun σ H Q => tLc wi g (tt σ) (te σ) vs σ H Q
theorem lcE {pins : List (Addr × Obj)} {s : Shared} {σ : L2.St} {H : Hp} {Q : VK} {elt tg iter : Expr} {ifs : List Expr} {scope : Scope} {own : List (Str × Nat)} {pos pos' : Pos} {wi : TI} {g : TG} {tt : TT} {te : TE} {use : Option (Value → Sem Unit)} {Qf : Value → Shared → Prop}
    (hc : X.calm = true) (hN : X.N.Nodup) (fm : Fm X L) (tk : eG X L W) (I : Inv X pins σ H s) (hi : PI X tg iter wi) (ok : BlkOk X.N X.env.scope scope own)
    (hg : ∀ (s : Shared) (H : Hp) (C : Addr) (cl : List (Str × Addr)) (fp : List Addr), PG (cG X L W σ s H scope (compEnvC scope cl C X.env) fp) tg g)
    (ht : ∀ (s : Shared) (H : Hp) (C : Addr) (cl : List (Str × Addr)) (fp : List Addr), PTs (cG X L W σ s H scope (compEnvC scope cl C X.env) fp) ifs tt)
    (he : ∀ (s : Shared) (H : Hp) (C : Addr) (cl : List (Str × Addr)) (fp : List Addr), PE (cG X L W σ s H scope (compEnvC scope cl C X.env) fp) elt te)
    (hs : ∀ x, foldedSetIterable iter X.env x = pure x) (h : tLc wi g tt te (own.map (·.2)) σ H Q)
    (hRR : ∀ D C s' m H', Inv X pins σ H' s' → Q (.ref D) H' → s'.heap.Ns C m → FpOk X pins H' C → pst X L use Qf (.ref D) C (.ok .next) s') :
    wpAny (model X.prog X.w) X.A (comprehension (.ListComp elt [⟨tg, iter, ifs, 0⟩] scope pos) scope X.env pos' (newList []) false (eval iter X.env) use) Qf X.xe s := by
  have clo : ∀ y ∈ scope.names, y.2 = .free → ∃ c, X.env.cells.lookup y.1 = some c := fun y hy e => (ok.free y hy e).elim (fun k => I.ok.has _ (.inl k)) (fun k => I.ok.has _ (.inr k))
  refine lP (use := use) fm.fr rfl hs (closure_ok clo) ok.kind (fun y hy e => by rw [ok.uniq y hy, e]) (thn (hi.run pins s σ H _ I h) fun xv s1 hx => thn hx fun itv s2 h2 => ?_)
  obtain ⟨it, fp, tn, J, H2, e, I2, T, st2, f2, q⟩ := h2
  subst e
  refine wpAny_newObj_type (newEnv_comp ⟨fm.fr, ?_⟩) (by show 0 ≤ sizeLine; decide)
  generalize hD : s2.heap.objs.size = D
  have hDn : H2 D = none := I2.hok.fresh (Nat.le_of_eq hD)
  obtain ⟨V, ⟨m0, w0⟩, turn⟩ := q D hDn
  generalize hs3 : ({ s2 with heap := s2.heap.push { cls := .type "list", data := .seq ([] : List Value).toArray } } : Shared) = s3
  have h3 : s3.heap = s2.heap.push { cls := .type "list", data := .seq ([] : List Value).toArray } := by rw [← hs3]
  have I3 : Inv X pins σ (upd H2 D (.lst [])) s3 := by
    rw [← hs3]
    refine I2.laid (t' := s2.toks) (fun b o e => Heap.get?_push_of_some _ e) (Nat.le_of_eq hD) ⟨Nat.zero_le _, [], 0, .nil, ?_⟩
    rw [← hD]
    exact Heap.get?_push_size _ rfl
  have below : ∀ b ∈ fp, b < s2.heap.objs.size := fun b hb => let ⟨o, e, _⟩ := T.obj _ _ st2 b hb; Heap.lt_size e
  have f3 : ∀ b ∈ fp, FpOk X pins (upd H2 D (.lst [])) b ∧ b < s3.heap.objs.size := fun b hb => by
    refine ⟨⟨?_, (f2 b hb).2⟩, by rw [h3, Heap.size_push]; exact Nat.lt_succ_of_lt (below b hb)⟩
    rw [upd_ne (by rw [← hD]; exact Nat.ne_of_lt (below b hb))]
    exact (f2 b hb).1
  have st3 : tn 0 s3.heap := T.keep _ _ _ st2 fun b _ o e => by rw [h3]; exact Heap.get?_push_of_some _ e
  have I4 := block_start I3 ok hN f3
  generalize hcl : cellsFrom (s3.heap.objs.size + 1) scope.names (cloFrom X.env.cells scope.names []) = cl at I4
  have pg := hg s3 (upd H2 D (.lst [])) s3.heap.objs.size cl fp
  have pt := ht s3 (upd H2 D (.lst [])) s3.heap.objs.size cl fp
  have pe := he s3 (upd H2 D (.lst [])) s3.heap.objs.size cl fp
  show codeAny _ _ (.compStart (.ListComp elt [⟨tg, iter, ifs, 0⟩] scope pos) 0 (.ref it) (.ref D) (compEnvC scope cl s3.heap.objs.size X.env)) (pst X L use Qf (.ref D) s3.heap.objs.size) { s3 with heap := pushCells (s3.heap.push { cls := .type "dict", data := .dict #[] }) scope.names }
  have nfp : ∀ b ∈ fp, (upd H2 D (.lst [])) b = none := fun b hb => (f3 b hb).1.1
  generalize hH3 : upd H2 D (.lst []) = H3 at I3 I4 pg pt pe w0 nfp f3
  generalize hce : compEnvC scope cl s3.heap.objs.size X.env = ce at I4 pg pt pe ⊢
  have cL : ce.locals = s3.heap.objs.size := by subst hce; rfl
  have cF : ce.frame = some L := by subst hce; exact fm.fr
  generalize hs4 : ({ s3 with heap := pushCells (s3.heap.push { cls := .type "dict", data := .dict #[] }) scope.names } : Shared) = s4 at I4 ⊢
  have st4 : tn 0 s4.heap := T.keep _ _ _ st3 fun b _ o e => by rw [← hs4]; exact pushCells_keeps _ _ _ _ (Heap.get?_push_of_some _ e)
  have I4' : Inv (cG X L W σ s3 H3 scope ce fp) [] (wipe σ (own.map (·.2))) H3 s4 := Inv.re I4
  have stat : ∀ {σ' : L2.St} {H' : Hp} {s' : Shared}, Inv (cG X L W σ s3 H3 scope ce fp) [] σ' H' s' → (∀ b ∈ fp, H' b = none) → ∀ b ∈ fp, FpOk (cG X L W σ s3 H3 scope ce fp) [] H' b := fun {σ' H' s'} I' hn b hb =>
    ⟨hn b hb, (I'.ok.exf b hb).1, I'.ok.exfs b hb, .inl hb, fun x c e => (I'.ok.exf b hb).2 x c e, fun p hp => absurd (show p ∈ ([] : List (Addr × Obj)) ++ [] from hp) (by simp)⟩
  have err : ∀ u s', (cG X L W σ s3 H3 scope ce fp).xe u s' → notedBy (model X.prog X.w) X.A ce (gone X s3.heap.objs.size L) u s' := fun u s' x => XEL.back (xb := fun _ _ => False) I3 fm tk cL cF f3 (fun _ _ _ _ w => w) x
  have pe0 : ∀ (u : Value) (s' : Shared), gone X s3.heap.objs.size L u s' → pst X L use Qf (.ref D) s3.heap.objs.size (.error u) s' := fun u s' z => by cases use <;> exact z
  have up : ∀ u s', notedBy (model X.prog X.w) X.A ce (gone X s3.heap.objs.size L) u s' → notedBy (model X.prog X.w) X.A ce (fun e s' => pst X L use Qf (.ref D) s3.heap.objs.size (.error e) s') u s' := fun u s' z => wpAny_mono z (fun _ t q => pe0 _ t q) fun e t q => pe0 e t q
  have loop : codeAny (model X.prog X.w) X.A (.compLoop (.ListComp elt [⟨tg, iter, ifs, 0⟩] scope pos) 0 (.ref it) (.ref D) ce) (pst X L use Qf (.ref D) s3.heap.objs.size) s4 := by
    refine compLoop_any (fun n s' => ∃ i H', Inv (cG X L W σ s3 H3 scope ce fp) [] (wipe σ (own.map (·.2))) H' s' ∧ tn i s'.heap ∧ (∀ b ∈ fp, H' b = none) ∧ V i n H') ?_ m0 ⟨0, H3, I4', st4, nfp, w0⟩
    rintro n s5 ⟨i, H5, I5, st5, n5, w5⟩
    rcases turn i n H5 w5 with ⟨stop, qq⟩ | ⟨go, Nx, hNx, step⟩
    · refine thnF (T.done (cG X L W σ s3 H3 scope ce fp) rfl rfl rfl hc i [] s5 _ H5 (fun _ _ => False) I5 (stat I5 n5) st5 stop) fun r s6 ⟨hr, I6⟩ => ?_
      subst hr
      have I7 : Inv X pins σ H5 s6 := I3.call' (ch := fp) I6.os I6.base I6.hok I6.bare fun b hb => ⟨(f3 b hb).1.2.2.2.1, (f3 b hb).1.2.1, (f3 b hb).1.2.2.2.2.1, (f3 b hb).1.2.2.2.2.2⟩
      have nC : H5 s3.heap.objs.size = none := by
        have z : H5 ce.locals = none := I6.free
        rwa [cL] at z
      obtain ⟨m, hn, _⟩ := I6.loc
      have hn : s6.heap.Ns ce.locals m := hn
      rw [cL] at hn
      exact hRR D s3.heap.objs.size s6 m H5 I7 qq hn (I3.fpOk (Nat.le_refl _) nC)
    · refine thnF (T.item (cG X L W σ s3 H3 scope ce fp) rfl rfl rfl hc i [] s5 _ H5 (fun _ _ => False) I5 (stat I5 n5) st5 go) fun r s6 ⟨u, hr, h6⟩ => ?_
      subst hr
      refine thnF h6 fun _ s7 ⟨x, H7, I7, r7, y7, st7, n7⟩ => ?_
      have I7' := I7.pinned (stat I7 n7) (T.obj _ _ st7)
      refine wpAny_mono (pg.run _ s7 _ H7 x u _ I7' r7 (step x H7 y7)) (fun _ s8 ⟨σ8, H8, I8, hw8, q8⟩ => ?_) fun u s' z => up u s' (err u s' z)
      refine wpAny_mono (pt.run _ s8 σ8 H8 _ I8 q8) (fun b s9 ⟨H9, I9, q9⟩ => ?_) fun u s' z => up u s' (err u s' z)
      have fin : ∀ {s' : Shared} {H' : Hp}, Inv (cG X L W σ s3 H3 scope ce fp) ([] ++ pinsAt fp s7.heap) σ8 H' s' → Nx H' → ∃ m, m < n ∧ ∃ i H', Inv (cG X L W σ s3 H3 scope ce fp) [] (wipe σ (own.map (·.2))) H' s' ∧ tn i s'.heap ∧ (∀ b ∈ fp, H' b = none) ∧ V i m H' := fun {s' H'} I' nx => by
        obtain ⟨m', hm, w'⟩ := hNx H' nx
        have pin' : ∀ b ∈ fp, ∀ o, s7.heap.get? b = some o → s'.heap.get? b = some o ∧ H' b = none := fun b hb o e =>
          let z := I'.pin (b, o) (List.mem_append_right _ (List.mem_append_right _ (mem_pinsAt hb e)))
          ⟨z.1, z.2.1⟩
        have hl : (wipe σ (own.map (·.2))).length = σ8.length := by rw [← hw8, wipe_length]
        refine ⟨m', hm, i + 1, H', (I'.unpinned (pins := [])).weak hl (fun j v e => ?_), T.keep _ _ _ st7 fun b hb o e => (pin' b hb o e).1, fun b hb => ?_, w'⟩
        · rw [← hw8] at e
          exact (wipe_some e).1
        · obtain ⟨o, e, _⟩ := T.obj _ _ st7 b hb
          exact (pin' b hb o e).2
      cases b with
      | false =>
        simp only [Bool.false_eq_true, if_false] at q9 ⊢
        exact fin I9 q9
      | true =>
        simp only [if_true] at q9 ⊢
        refine wpAny_mono (pe.run _ s9 σ8 H9 _ I9 q9) (fun z s10 ⟨yv, H10, I10, r10, acc, hD10, hz10, nx⟩ => ?_) fun u s' z => up u s' (err u s' z)
        exact app_ok (X := cG X L W σ s3 H3 scope ce fp) I10 hD10 hz10 r10 fun s11 I11 => fin I11 nx
  exact codeAny_compStart_list loop (T.self X.A 0 _ _ _ st4 loop)
/-- as a value -/
theorem dk {elt tg iter : Expr} {ifs : List Expr} {scope : Scope} {own : List (Str × Nat)} {pos : Pos} {wi : TI} {g : TG} {tt : L2.St → TT} {te : L2.St → TE} (hc : X.calm = true) (hN : X.N.Nodup) (fm : Fm X L) (tk : eG X L W) (hi : PI X tg iter wi) (ok : BlkOk X.N X.env.scope scope own)
    (hg : ∀ (σ : L2.St) (s : Shared) (H : Hp) (C : Addr) (cl : List (Str × Addr)) (fp : List Addr), PG (cG X L W σ s H scope (compEnvC scope cl C X.env) fp) tg g)
    (ht : ∀ (σ : L2.St) (s : Shared) (H : Hp) (C : Addr) (cl : List (Str × Addr)) (fp : List Addr), PTs (cG X L W σ s H scope (compEnvC scope cl C X.env) fp) ifs (tt σ))
    (he : ∀ (σ : L2.St) (s : Shared) (H : Hp) (C : Addr) (cl : List (Str × Addr)) (fp : List Addr), PE (cG X L W σ s H scope (compEnvC scope cl C X.env) fp) elt (te σ)) (hs : ∀ x, foldedSetIterable iter X.env x = pure x := by intro _; rfl) :
    PE X (.ListComp elt [⟨tg, iter, ifs, 0⟩] scope pos) (qo wi g tt te (own.map (·.2))) := by
  refine ⟨fun pins s σ H Q I h => ?_⟩
  rw [eval_ListComp]
  refine lcE hc hN fm tk I hi ok (hg σ) (ht σ) (he σ) hs h fun D C s' m H' I' q hn f => ⟨m, hn, fun h'' sb => ?_⟩
  obtain ⟨f0, f1, _, f3, f4, f5⟩ := f
  exact ⟨.ref D, H', I'.turned (t' := s'.toks) (fun b o hb e => (sb.2 b hb).trans e) f0 f1 f3 f4 f5, rfl, q⟩
theorem fm0 (hs : X.stack = X.env :: X.outer) (hf : X.env.frame = some X.env.locals) : Fm X X.env.locals := ⟨⟨_, _, hs, hf⟩, hf⟩
theorem jg (tk : eG X L W) (σ : L2.St) : PassesAt (L2.CX X.prog X.w) X σ (WE W σ) := passL tk (fun _ _ _ _ h => h) σ
/-- name = [..] on one line -/
theorem eM {i : Nat} {y : Str} {py : Pos} {elt tg iter : Expr} {ifs : List Expr} {scope : Scope} {own : List (Str × Nat)} {pos spos : Pos} {wi : TI} {g : TG} {tt : L2.St → TT} {te : L2.St → TE} (hc : X.calm = true) (hN : X.N.Nodup) (hy : X.N[i]? = some y) (hyl : X.env.scope.names.lookup y = some .local)
    (hsw : swapsWith (.ListComp elt [⟨tg, iter, ifs, 0⟩] scope pos) (some (.Name y py)) spos.line X.env = pure true) (fm : Fm X L) (tk : eG X L W) (hi : PI X tg iter wi) (ok : BlkOk X.N X.env.scope scope own)
    (hg : ∀ (σ : L2.St) (s : Shared) (H : Hp) (C : Addr) (cl : List (Str × Addr)) (fp : List Addr), PG (cG X L W σ s H scope (compEnvC scope cl C X.env) fp) tg g)
    (ht : ∀ (σ : L2.St) (s : Shared) (H : Hp) (C : Addr) (cl : List (Str × Addr)) (fp : List Addr), PTs (cG X L W σ s H scope (compEnvC scope cl C X.env) fp) ifs (tt σ))
    (he : ∀ (σ : L2.St) (s : Shared) (H : Hp) (C : Addr) (cl : List (Str × Addr)) (fp : List Addr), PE (cG X L W σ s H scope (compEnvC scope cl C X.env) fp) elt (te σ)) (hs : ∀ x, foldedSetIterable iter X.env x = pure x := by intro _; rfl) :
    PS X (.Assign [.Name y py] (.ListComp elt [⟨tg, iter, ifs, 0⟩] scope pos) spos) (tAsg (qo wi g tt te (own.map (·.2))) (gName i)) := by
  refine ⟨fun pins s σ H D I h => ?_⟩
  rw [exec_Assign_Name_used _ _ _ _ hsw]
  refine wpAny_bind (wpAny_standAt (wpAny_bind ?_))
  show wpAny _ X.A (do let _ ← comprehension (.ListComp elt [⟨tg, iter, ifs, 0⟩] scope pos) scope X.env (firstIterPos [⟨tg, iter, ifs, 0⟩] pos) (newList []) false (eval iter X.env) (some (assign (.Name y py) X.env))) _ _ s
  have h1 : tLc wi g (tt σ) (te σ) (own.map (·.2)) σ H (fun x H1 => gName i x σ H1 D.nx) := h
  refine wpAny_bind (thn (lcE (Qf := fun _ t => SP X pins D .next t) hc hN fm tk I hi ok (hg σ) (ht σ) (he σ) hs h1 fun N C s1 m H1 I1 q hn f => ?_) fun _ t hq => wpAny_pure (wpAny_pure hq))
  show wpAny _ _ (assign (.Name y py) X.env (.ref N)) _ _ _
  refine wpAny_assign_Name (store_ok2 (v := V.ref N) I1 hN hy (.inl hyl) rfl (fun s2 I2 ⟨a, sb, ha⟩ => ?_) (.inr hyl))
  obtain ⟨f0, f1, _, f3, f4, f5⟩ := f
  have ne : C ≠ a := ha.elim (fun z => by rw [z]; exact f1) fun z e => f4 y a z e.symm
  exact ⟨m, hn.sameBut sb ne, fun h3 sb3 => ⟨_, H1, I2.turned (t' := s2.toks) (fun b o hb e => (sb3.2 b hb).trans e) f0 f1 f3 f4 f5, q⟩⟩
end
end XC
set_option Elab.async false
set_option linter.all false
set_option maxRecDepth 100000
set_option maxHeartbeats 2000000
namespace XC
open PySem PySem.Spec PyProof.Rows L2
section
variable {X : Cx} {L : Addr} {W : WX}
theorem XEL.new {ps : List (Addr × Obj)} {σ : L2.St} {H : Hp} {t s' : Shared} {a : Addr} {oe : Obj} {vs : Array Value} {c : Value} {d : Option Addr} (I : Inv X ps σ H t) (k : ∀ b o, t.heap.get? b = some o → s'.heap.get? b = some o) (hn : t.heap.get? a = none)
    (he : s'.heap.get? a = some oe) (hz : Zc c d oe) (hd : oe.data = .fields vs) (h1 : vs[1]? = some .none) (na : H a = none) (os : s'.os = t.os) (ag : AllBare s'.gens) (w : W c d σ H) : XEL X L W (.ref a) s' := by
  have hid : ∀ v o, (PySem.W.hideAll t.heap (frs X.stack)).get? v = some o → t.heap.get? v = some o := fun v o q => PySem.W.of_hideAll _ q
  refine ⟨a, PySem.W.hideAll t.heap (frs X.stack), t, ps, σ, H, c, d, rfl, I, fun v o q hv => PySem.W.hideAll_get _ q hv, Heap.UpToSlots.of_keeps k, .inl ⟨fun v o q => k v o (hid v o q), ?_, ?_, oe, vs, he, hz, hd, h1⟩, na, os, ag, w⟩
  · cases q : (PySem.W.hideAll t.heap (frs X.stack)).get? a with
    | none => rfl
    | some o =>
      have z := hid a o q
      rw [hn] at z
      cases z
  · exact Heap.FunFrames.of_keeps (fun v o q _ => ⟨o, k v o q, rfl⟩) (funFrames_none I.stack fun v hv => PySem.W.hideAll_none _ hv)
end
end XC
set_option Elab.async false
set_option linter.all false
set_option maxRecDepth 100000
set_option maxHeartbeats 2000000
namespace DM
open PySem L2 Lay NdefX LamX XK
inductive D where
  | non
  | bl (b : Bool)
  | int (i : Int)
  | str (x : Str)
  | lst (xs : List D)
  | tup (xs : List D)
  | dic (ks : List Str) (xs : List D)
  | obj (c : Str) (ns : List Str) (xs : List D)
  | exc (c : Str) (ns : List Str) (xs : List D)
  | drw
  | mob (i : Nat)
  | kdc (ks : List D) (xs : List D)
structure DS where
  n : Int
  k : Nat
  b : Bool
  m : List D := []
/-- an error: its class, the names of its fields, what they hold -/
structure Xn where
  c : Str
  ns : List Str
  xs : List D
abbrev M (α : Type) := DS → Option (Except Xn α × DS)
/-- what stands for a whole run: where the draws lie, the tables of code objects, the classes -/
structure Wc where
  dr : Addr
  T : List NTab
  cl : Str → Option Addr
  fz : Addr → Prop
  mu : List Addr
  wd : World
/-- a dict of texts stands at a, locked where fz tells it -/
def j2 (fz : Addr → Prop) (H : Hp) (a : Addr) (kvs : List (Key × V)) : Prop := H a = some (.dK kvs) ∨ (fz a ∧ ∃ o, H a = some (.frz o (.dK kvs)))
theorem j2.rd {fz : Addr → Prop} {H : Hp} {a : Addr} {kvs : List (Key × V)} (h : j2 fz H a kvs) : Rd H a (.dK kvs) := by
  rcases h with h | ⟨_, o, h⟩
  · exact .inl h
  · exact .inr ⟨o, h⟩
theorem j2.ne {fz : Addr → Prop} {H : Hp} {a : Addr} {kvs : List (Key × V)} (h : j2 fz H a kvs) : H a ≠ none := by
  rcases h with h | ⟨_, o, h⟩ <;> rw [h] <;> simp
def Wc.ch (Γ : Wc) : Addr → Prop := fun a => a = Γ.dr ∨ (∃ p ∈ Γ.T, p.1 = a) ∨ a ∈ Γ.mu
/-- a tree of objects of one's own -/
inductive OD where
  | val (d : D)
  | lst (xs : List OD)
  | tup (xs : List OD)
  | dic (ks : List Str) (xs : List OD)
  | kdc (ks : List D) (xs : List OD)
inductive Sl where
  | no
  | val (d : D)
  | own (d : D)
  | lam (k : Nat)
  | new (d : D)
  | tre (o : OD)
abbrev En := List Sl
def Kp (av : Av) (H H' : Hp) : Prop := ∀ a o, ¬ av a → H a = some o → H' a = some o
def Lv (H H' : Hp) : Prop := ∀ a, H a ≠ none → H' a ≠ none
theorem Kp.refl {av : Av} {H : Hp} : Kp av H H := fun _ _ _ h => h
theorem Kp.trans {av : Av} {H H1 H2 : Hp} (a : Kp av H H1) (b : Kp av H1 H2) : Kp av H H2 := fun x o n h => b x o n (a x o n h)
theorem Kp.mono {av av2 : Av} {H H' : Hp} (k : Kp av H H') (h : ∀ a, av a → av2 a) : Kp av2 H H' := fun a o n e => k a o (fun z => n (h a z)) e
theorem bV {H : Hp} {p : Addr} {o : HO} (h : H p = none) : Same H (upd H p o) := fun b x e => by
  rw [upd_ne (ne_of_none e h)]
  exact e
theorem Kp.of {av : Av} {H H' : Hp} (s : Same H H') : Kp av H H' := fun a o _ h => s a o h
theorem Kp.new {av : Av} {H : Hp} {p : Addr} {o : HO} (h : H p = none) : Kp av H (upd H p o) := .of (bV h)
theorem Kp.upd {av : Av} {H : Hp} {p : Addr} {o : HO} (h : av p) : Kp av H (upd H p o) := fun a u n e => by
  rw [upd_ne (fun z => n (by rw [z]; exact h))]
  exact e
theorem Lv.refl {H : Hp} : Lv H H := fun _ h => h
theorem Lv.trans {H H1 H2 : Hp} (a : Lv H H1) (b : Lv H1 H2) : Lv H H2 := fun x h => b x (a x h)
theorem Lv.upd {H : Hp} {p : Addr} {o : HO} : Lv H (upd H p o) := fun a h => by
  by_cases e : a = p
  · subst e
    rw [upd_same]
    simp
  · rw [upd_ne e]
    exact h
/-- as it was but for what may change -/
structure Go (Γ : Wc) (H H' : Hp) : Prop where
  kp : Kp Γ.ch H H'
  lv : Lv H H'
theorem Go.refl {Γ : Wc} {H : Hp} : Go Γ H H := ⟨.refl, .refl⟩
theorem Go.trans {Γ : Wc} {H H1 H2 : Hp} (a : Go Γ H H1) (b : Go Γ H1 H2) : Go Γ H H2 := ⟨a.kp.trans b.kp, a.lv.trans b.lv⟩
theorem Go.new {Γ : Wc} {H : Hp} {p : Addr} {o : HO} (h : H p = none) : Go Γ H (upd H p o) := ⟨.new h, .upd⟩
def cT (ks : List Str) (vs : List V) : List (Key × V) := List.zipWith (fun k v => (Sum.inr k, v)) ks vs
mutual
/-- the key that data is -/
def kOf : D → Option NestedKey
  | .non => some .none
  | .bl b => some (.num (if b = true then 1 else 0))
  | .int i => some (.num i)
  | .str x => some (.text x)
  | .tup xs => (dC xs).map .tup
  | _ => none
def dC : List D → Option (List NestedKey)
  | [] => some []
  | x :: xs => (kOf x).bind fun k => (dC xs).map fun ks => k :: ks
end
mutual
inductive Rep (K : PySem.W.Frag) (H : Hp) (av : Av) (Γ : Wc) : V → D → Prop
  | non : Rep K H av Γ .non .non
  | bl (b : Bool) : Rep K H av Γ (.bl b) (.bl b)
  | int (i : Int) : Rep K H av Γ (.int i) (.int i)
  | str (x : Str) : Rep K H av Γ (.str x) (.str x)
  | lst {a : Addr} {vs : List V} {ds : List D} : ¬ av a → H a = some (.lst vs) → ah K H av Γ vs ds → Rep K H av Γ (.ref a) (.lst ds)
  | tup {a : Addr} {vs : List V} {ds : List D} : TupAt K H av a vs → ah K H av Γ vs ds → Rep K H av Γ (.ref a) (.tup ds)
  | dic {a : Addr} {ks : List Str} {vs : List V} {ds : List D} : ¬ av a → j2 Γ.fz H a (cT ks vs) → ks.length = ds.length → ah K H av Γ vs ds → Rep K H av Γ (.ref a) (.dic ks ds)
  | obj {a C dx : Addr} {c : Str} {ns : List Str} {vs : List V} {ds : List D} : ¬ av a → Γ.cl c = some C → H a = some (.ins C dx (List.zip ns vs)) → ns.length = ds.length → ah K H av Γ vs ds → Rep K H av Γ (.ref a) (.obj c ns ds)
  | exc {a C dx : Addr} {c : Str} {ns : List Str} {vs : List V} {ds : List D} : ¬ av a → ¬ av dx → Γ.cl c = some C → H a = some (excAt a (.ref C) (some dx)) → H dx = some (.xd (List.zip ns vs)) → ns.length = ds.length → ah K H av Γ vs ds → Rep K H av Γ (.ref a) (.exc c ns ds)
  | ex0 {a C : Addr} {c : Str} : ¬ av a → Γ.cl c = some C → H a = some (excAt a (.ref C) none) → Rep K H av Γ (.ref a) (.exc c [] [])
  | drw : Rep K H av Γ (.ref Γ.dr) .drw
  | mob {i : Nat} {a : Addr} : Γ.mu[i]? = some a → Rep K H av Γ (.ref a) (.mob i)
  | kdc {a : Addr} {es : List Ent} {ks ds : List D} : ¬ av a → H a = some (KxO Γ.wd a es) → dC ks = some (es.map (·.1)) → (∀ p ∈ es, p.1.depth ≤ 8) → ah K H av Γ (es.map fun p => V.ref p.2.1) ks → ah K H av Γ (es.map (·.2.2)) ds → Rep K H av Γ (.ref a) (.kdc ks ds)
inductive ah (K : PySem.W.Frag) (H : Hp) (av : Av) (Γ : Wc) : List V → List D → Prop
  | nil : ah K H av Γ [] []
  | cons {v : V} {vs : List V} {d : D} {ds : List D} : Rep K H av Γ v d → ah K H av Γ vs ds → ah K H av Γ (v :: vs) (d :: ds)
end
section
variable {K : PySem.W.Frag} {H H' : Hp} {av av2 : Av} {Γ : Wc}
theorem TupAt.sq {a : Addr} {xs : List V} (h : TupAt K H av a xs) : SqT K H a xs := by
  rcases h with ⟨_, h⟩ | h
  · exact .inl (.inl h)
  · exact .inr h
theorem TupAt.kp {a : Addr} {xs : List V} (k : Kp av H H') (h : TupAt K H av a xs) : TupAt K H' av a xs := by
  rcases h with ⟨n, h⟩ | h
  · exact .inl ⟨n, k _ _ n h⟩
  · exact .inr h
theorem TupAt.wd {a : Addr} {xs : List V} (f : ∀ a, av2 a → av a ∨ H a = none) (h : TupAt K H av a xs) : TupAt K H av2 a xs := by
  rcases h with ⟨n, h⟩ | h
  · refine .inl ⟨fun z => ?_, h⟩
    rcases f a z with z | z
    · exact n z
    · rw [z] at h
      cases h
  · exact .inr h
mutual
theorem Rep.kp' (k : Kp av H H') : ∀ (d : D) (v : V), Rep K H av Γ v d → Rep K H' av Γ v d
  | .non, _, h => by cases h; exact .non
  | .bl b, _, h => by cases h; exact .bl b
  | .int i, _, h => by cases h; exact .int i
  | .str x, _, h => by cases h; exact .str x
  | .drw, _, h => by cases h; exact .drw
  | .mob i, _, h => by
    cases h with
    | mob e => exact .mob e
  | .kdc ks ds, _, h => by
    cases h with
    | kdc n s e dp rk r => exact .kdc n (k _ _ n s) e dp (ah.kp' k ks _ rk) (ah.kp' k ds _ r)
  | .lst ds, _, h => by
    cases h with
    | lst n s r => exact .lst n (k _ _ n s) (ah.kp' k ds _ r)
  | .tup ds, _, h => by
    cases h with
    | tup t r => exact .tup (t.kp k) (ah.kp' k ds _ r)
  | .dic ks ds, _, h => by
    cases h with
    | dic n s l r => exact .dic n (s.elim (fun s => .inl (k _ _ n s)) fun ⟨f, o, s⟩ => .inr ⟨f, o, k _ _ n s⟩) l (ah.kp' k ds _ r)
  | .obj c ns ds, _, h => by
    cases h with
    | obj n q s l r => exact .obj n q (k _ _ n s) l (ah.kp' k ds _ r)
  | .exc c ns ds, _, h => by
    cases h with
    | exc n n2 q s s2 l r => exact .exc n n2 q (k _ _ n s) (k _ _ n2 s2) l (ah.kp' k ds _ r)
    | ex0 n q s => exact .ex0 n q (k _ _ n s)
theorem ah.kp' (k : Kp av H H') : ∀ (ds : List D) (vs : List V), ah K H av Γ vs ds → ah K H' av Γ vs ds
  | [], _, h => by cases h; exact .nil
  | d :: ds, _, h => by
    cases h with
    | cons a r => exact .cons (Rep.kp' k d _ a) (ah.kp' k ds _ r)
end
theorem Rep.kp {v : V} {d : D} (h : Rep K H av Γ v d) (k : Kp av H H') : Rep K H' av Γ v d := Rep.kp' k d v h
theorem ah.kp {vs : List V} {ds : List D} (h : ah K H av Γ vs ds) (k : Kp av H H') : ah K H' av Γ vs ds := ah.kp' k ds vs h
mutual
theorem Rep.wd' (f : ∀ a, av2 a → av a ∨ H a = none) : ∀ (d : D) (v : V), Rep K H av Γ v d → Rep K H av2 Γ v d
  | .non, _, h => by cases h; exact .non
  | .bl b, _, h => by cases h; exact .bl b
  | .int i, _, h => by cases h; exact .int i
  | .str x, _, h => by cases h; exact .str x
  | .drw, _, h => by cases h; exact .drw
  | .mob i, _, h => by
    cases h with
    | mob e => exact .mob e
  | .kdc ks ds, _, h => by
    cases h with
    | kdc n s e dp rk r =>
      refine .kdc (fun z => ?_) s e dp (ah.wd' f ks _ rk) (ah.wd' f ds _ r)
      rcases f _ z with z | z
      · exact n z
      · rw [z] at s
        cases s
  | .lst ds, _, h => by
    cases h with
    | lst n s r =>
      refine .lst (fun z => ?_) s (ah.wd' f ds _ r)
      rcases f _ z with z | z
      · exact n z
      · rw [z] at s
        cases s
  | .tup ds, _, h => by
    cases h with
    | tup t r => exact .tup (t.wd f) (ah.wd' f ds _ r)
  | .dic ks ds, _, h => by
    cases h with
    | dic n s l r =>
      refine .dic (fun z => ?_) s l (ah.wd' f ds _ r)
      rcases f _ z with z | z
      · exact n z
      · exact s.ne z
  | .obj c ns ds, _, h => by
    cases h with
    | obj n q s l r =>
      refine .obj (fun z => ?_) q s l (ah.wd' f ds _ r)
      rcases f _ z with z | z
      · exact n z
      · rw [z] at s
        cases s
  | .exc c ns ds, _, h => by
    cases h with
    | exc n n2 q s s2 l r =>
      refine .exc (fun z => ?_) (fun z => ?_) q s s2 l (ah.wd' f ds _ r)
      · rcases f _ z with z | z
        · exact n z
        · rw [z] at s
          cases s
      · rcases f _ z with z | z
        · exact n2 z
        · rw [z] at s2
          cases s2
    | ex0 n q s =>
      refine .ex0 (fun z => ?_) q s
      rcases f _ z with z | z
      · exact n z
      · rw [z] at s
        cases s
theorem ah.wd' (f : ∀ a, av2 a → av a ∨ H a = none) : ∀ (ds : List D) (vs : List V), ah K H av Γ vs ds → ah K H av2 Γ vs ds
  | [], _, h => by cases h; exact .nil
  | d :: ds, _, h => by
    cases h with
    | cons a r => exact .cons (Rep.wd' f d _ a) (ah.wd' f ds _ r)
end
theorem Rep.wd {v : V} {d : D} (h : Rep K H av Γ v d) (f : ∀ a, av2 a → av a ∨ H a = none) : Rep K H av2 Γ v d := Rep.wd' f d v h
theorem ah.wd {vs : List V} {ds : List D} (h : ah K H av Γ vs ds) (f : ∀ a, av2 a → av a ∨ H a = none) : ah K H av2 Γ vs ds := ah.wd' f ds vs h
theorem ah.len : ∀ {vs : List V} {ds : List D}, ah K H av Γ vs ds → vs.length = ds.length
  | _, [], h => by cases h; rfl
  | _, d :: ds, h => by
    cases h with
    | cons a r => simp [ah.len r]
theorem ah.get : ∀ {vs : List V} {ds : List D} {i : Nat} {d : D}, ah K H av Γ vs ds → ds[i]? = some d → ∃ v, vs[i]? = some v ∧ Rep K H av Γ v d
  | _, [], i, d, h, e => by simp at e
  | _, d0 :: ds, 0, d, h, e => by
    cases h with
    | cons a r =>
      simp at e
      subst e
      exact ⟨_, rfl, a⟩
  | _, d0 :: ds, i + 1, d, h, e => by
    cases h with
    | cons a r =>
      simp at e
      obtain ⟨v, h1, h2⟩ := ah.get r e
      exact ⟨v, by simpa using h1, h2⟩
theorem ah.lQ : ∀ {vs : List V} {ds : List D} {i : Nat} {v : V}, ah K H av Γ vs ds → vs[i]? = some v → ∃ d, ds[i]? = some d ∧ Rep K H av Γ v d
  | _, [], i, v, h, e => by cases h; simp at e
  | _, d0 :: ds, 0, v, h, e => by
    cases h with
    | cons a r =>
      simp at e
      subst e
      exact ⟨_, rfl, a⟩
  | _, d0 :: ds, i + 1, v, h, e => by
    cases h with
    | cons a r =>
      simp at e
      obtain ⟨d, h1, h2⟩ := ah.lQ r e
      exact ⟨d, by simpa using h1, h2⟩
theorem ah.append : ∀ {vs ws : List V} {ds es : List D}, ah K H av Γ vs ds → ah K H av Γ ws es → ah K H av Γ (vs ++ ws) (ds ++ es)
  | _, _, [], _, h, h2 => by cases h; exact h2
  | _, _, d :: ds, _, h, h2 => by
    cases h with
    | cons a r => exact .cons a (ah.append r h2)
theorem ah.snoc {vs : List V} {v : V} {ds : List D} {d : D} (h : ah K H av Γ vs ds) (r : Rep K H av Γ v d) : ah K H av Γ (vs ++ [v]) (ds ++ [d]) := h.append (.cons r .nil)
theorem ah.drop : ∀ {vs : List V} {ds : List D} (n : Nat), ah K H av Γ vs ds → ah K H av Γ (vs.drop n) (ds.drop n)
  | _, _, 0, h => h
  | _, [], n + 1, h => by cases h; exact .nil
  | _, d :: ds, n + 1, h => by
    cases h with
    | cons a r => exact ah.drop n r
theorem ah.take : ∀ {vs : List V} {ds : List D} (n : Nat), ah K H av Γ vs ds → ah K H av Γ (vs.take n) (ds.take n)
  | _, _, 0, h => by simp; exact .nil
  | _, [], n + 1, h => by cases h; exact .nil
  | _, d :: ds, n + 1, h => by
    cases h with
    | cons a r => exact .cons a (ah.take n r)
theorem ah.set : ∀ {vs : List V} {ds : List D} {v : V} {d : D} (n : Nat), ah K H av Γ vs ds → Rep K H av Γ v d → ah K H av Γ (vs.set n v) (ds.set n d)
  | _, [], _, _, n, h, _ => by cases h; exact .nil
  | _, d :: ds, _, _, 0, h, r0 => by
    cases h with
    | cons a r => exact .cons r0 r
  | _, d :: ds, _, _, n + 1, h, r0 => by
    cases h with
    | cons a r => exact .cons a (ah.set n r r0)
theorem Rep.bS {v : V} {i : Int} (h : Rep K H av Γ v (.int i)) : v = .int i := by cases h; rfl
theorem Rep.b9 {v : V} {x : Str} (h : Rep K H av Γ v (.str x)) : v = .str x := by cases h; rfl
theorem Rep.dA {v : V} {b : Bool} (h : Rep K H av Γ v (.bl b)) : v = .bl b := by cases h; rfl
theorem Rep.dP {v : V} (h : Rep K H av Γ v .non) : v = .non := by cases h; rfl
theorem Rep.w9 {v : V} (h : Rep K H av Γ v .drw) : v = .ref Γ.dr := by cases h; rfl
theorem Rep.kD {v : V} {i : Nat} (h : Rep K H av Γ v (.mob i)) : ∃ a, v = .ref a ∧ Γ.mu[i]? = some a := by
  cases h with
  | mob e => exact ⟨_, rfl, e⟩
theorem Rep.b3 {v : V} {ds : List D} (h : Rep K H av Γ v (.lst ds)) : ∃ a vs, v = .ref a ∧ ¬ av a ∧ H a = some (.lst vs) ∧ ah K H av Γ vs ds := by
  cases h with
  | lst n s r => exact ⟨_, _, rfl, n, s, r⟩
theorem Rep.dm {v : V} {ds : List D} (h : Rep K H av Γ v (.tup ds)) : ∃ a vs, v = .ref a ∧ TupAt K H av a vs ∧ ah K H av Γ vs ds := by
  cases h with
  | tup t r => exact ⟨_, _, rfl, t, r⟩
theorem Rep.fA {v : V} {c : Str} {ns : List Str} {ds : List D} (h : Rep K H av Γ v (.obj c ns ds)) : ∃ a C dx vs, v = .ref a ∧ ¬ av a ∧ Γ.cl c = some C ∧ H a = some (.ins C dx (List.zip ns vs)) ∧ ns.length = ds.length ∧ ah K H av Γ vs ds := by
  cases h with
  | obj n q s l r => exact ⟨_, _, _, _, rfl, n, q, s, l, r⟩
theorem Rep.rj {v : V} {c : Str} {ns : List Str} {ds : List D} (h : Rep K H av Γ v (.exc c ns ds)) : (∃ a C dx vs, v = .ref a ∧ ¬ av a ∧ ¬ av dx ∧ Γ.cl c = some C ∧ H a = some (excAt a (.ref C) (some dx)) ∧ H dx = some (.xd (List.zip ns vs)) ∧ ns.length = ds.length ∧ ah K H av Γ vs ds) ∨ (∃ a C, v = .ref a ∧ ¬ av a ∧ Γ.cl c = some C ∧ H a = some (excAt a (.ref C) none) ∧ ns = [] ∧ ds = []) := by
  cases h with
  | exc n n2 q s s2 l r => exact .inl ⟨_, _, _, _, rfl, n, n2, q, s, s2, l, r⟩
  | ex0 n q s => exact .inr ⟨_, _, rfl, n, q, s, rfl, rfl⟩
theorem Rep.xa {v : V} {ks : List Str} {ds : List D} (h : Rep K H av Γ v (.dic ks ds)) : ∃ a vs, v = .ref a ∧ ¬ av a ∧ j2 Γ.fz H a (cT ks vs) ∧ ks.length = ds.length ∧ ah K H av Γ vs ds := by
  cases h with
  | dic n s l r => exact ⟨_, _, rfl, n, s, l, r⟩
end
/-- the object at a is as d tells -/
inductive MAt (K : PySem.W.Frag) (H : Hp) (av : Av) (Γ : Wc) (a : Addr) : D → Prop
  | lst {vs : List V} {ds : List D} : H a = some (.lst vs) → ah K H av Γ vs ds → MAt K H av Γ a (.lst ds)
  | dic {ks : List Str} {vs : List V} {ds : List D} : H a = some (.dK (cT ks vs)) → ks.length = ds.length → ah K H av Γ vs ds → MAt K H av Γ a (.dic ks ds)
  | obj {C dx : Addr} {c : Str} {ns : List Str} {vs : List V} {ds : List D} : Γ.cl c = some C → H a = some (.ins C dx (List.zip ns vs)) → ns.length = ds.length → ah K H av Γ vs ds → MAt K H av Γ a (.obj c ns ds)
structure Wo (K : PySem.W.Frag) (Γ : Wc) (av : Av) (H : Hp) (s : DS) : Prop where
  dr : H Γ.dr = some (.lst [.int s.n, .int (s.k : Int), .bl s.b])
  tb : TabsN Γ.T H
  nd : (Γ.dr :: Γ.mu).Nodup
  ml : s.m.length = Γ.mu.length
  mt : ∀ (i : Nat) (a : Addr) (d : D), Γ.mu[i]? = some a → s.m[i]? = some d → MAt K H av Γ a d
section
variable {K : PySem.W.Frag} {H H' : Hp} {av av2 : Av} {Γ : Wc} {s : DS} {a : Addr} {d : D}
theorem MAt.ne (h : MAt K H av Γ a d) : H a ≠ none := by
  cases h with
  | lst e => rw [e]; simp
  | dic e => rw [e]; simp
  | obj _ e => rw [e]; simp
theorem MAt.nc (h : MAt K H av Γ a d) (c : Addr) (q : Str) : H a ≠ some (CodeO c q) := by
  cases h with
  | lst e => rw [e]; intro z; cases z
  | dic e => rw [e]; intro z; cases z
  | obj _ e => rw [e]; intro z; cases z
theorem MAt.nt (h : MAt K H av Γ a d) (ps : Array Value) : H a ≠ some (.tbl ps) := by
  cases h with
  | lst e => rw [e]; intro z; cases z
  | dic e => rw [e]; intro z; cases z
  | obj _ e => rw [e]; intro z; cases z
theorem MAt.wd (h : MAt K H av Γ a d) (f : ∀ a, av2 a → av a ∨ H a = none) : MAt K H av2 Γ a d := by
  cases h with
  | lst e r => exact .lst e (r.wd f)
  | dic e l r => exact .dic e l (r.wd f)
  | obj q e l r => exact .obj q e l (r.wd f)
theorem MAt.kp (h : MAt K H av Γ a d) (k : Kp av H H') (e0 : H' a = H a) : MAt K H' av Γ a d := by
  cases h with
  | lst e r => exact .lst (e0.trans e) (r.kp k)
  | dic e l r => exact .dic (e0.trans e) l (r.kp k)
  | obj q e l r => exact .obj q (e0.trans e) l (r.kp k)
theorem Wo.wd (w : Wo K Γ av H s) (f : ∀ a, av2 a → av a ∨ H a = none) : Wo K Γ av2 H s := ⟨w.dr, w.tb, w.nd, w.ml, fun i a d h1 h2 => (w.mt i a d h1 h2).wd f⟩
theorem Wo.any (w : Wo K Γ av H s) (h : Γ.mu = []) : Wo K Γ av2 H s := ⟨w.dr, w.tb, w.nd, w.ml, fun i a d h1 h2 => by rw [h] at h1; simp at h1⟩
theorem Wo.lk (w : Wo K Γ av H s) {i : Nat} (h : Γ.mu[i]? = some a) : ∃ d, s.m[i]? = some d ∧ MAt K H av Γ a d := by
  have hi : i < s.m.length := by
    rw [w.ml]
    exact (List.getElem?_eq_some_iff.mp h).1
  exact ⟨s.m[i], List.getElem?_eq_getElem hi, w.mt i a _ h (List.getElem?_eq_getElem hi)⟩
theorem Wo.same (h : Wo K Γ av H s) (k : Same H H') : Wo K Γ av H' s := ⟨k _ _ h.dr, h.tb.ext k, h.nd, h.ml, fun i a d h1 h2 => by
  have m := h.mt i a d h1 h2
  refine m.kp (.of k) ?_
  cases e : H a with
  | none => exact absurd e m.ne
  | some o => exact k _ _ e⟩
theorem Wo.new {p : Addr} {o : HO} (h : Wo K Γ av H s) (n : H p = none) : Wo K Γ av (upd H p o) s := h.same (bV n)
theorem TabN.some {P : Addr} {nm : Nat → Nat → Str} (t : TabN H P nm) : H P ≠ none := by
  obtain ⟨ps, h, _⟩ := t
  rw [h]; simp
theorem Wo.al (h : Wo K Γ av H s) (z : Γ.ch a) : H a ≠ none := by
  rcases z with z | ⟨p, hp, z⟩ | z
  · rw [z, h.dr]; simp
  · rw [← z]; exact TabN.some (h.tb p hp)
  · obtain ⟨i, hi⟩ := List.mem_iff_getElem?.mp z
    obtain ⟨d, _, m⟩ := h.lk hi
    exact m.ne
theorem Wo.nc (h : Wo K Γ av H s) (z : Γ.ch a) (c : Addr) (q : Str) : H a ≠ some (CodeO c q) := by
  rcases z with z | ⟨p, hp, z⟩ | z
  · rw [z, h.dr]
    intro e
    cases e
  · obtain ⟨ps, e1, _⟩ := h.tb p hp
    rw [← z, e1]
    intro e
    cases e
  · obtain ⟨i, hi⟩ := List.mem_iff_getElem?.mp z
    obtain ⟨d, _, m⟩ := h.lk hi
    exact m.nc c q
theorem Go.nc (g : Go Γ H H') (w : Wo K Γ av H' s) (al : H a ≠ none) (n : ∀ c q, H a ≠ some (CodeO c q)) (c : Addr) (q : Str) : H' a ≠ some (CodeO c q) := by
  by_cases z : Γ.ch a
  · exact w.nc z c q
  · cases e : H a with
    | none => exact absurd e al
    | some o =>
      rw [g.kp a o z e, ← e]
      exact n c q
theorem ir {p : Addr} {o : HO} (h : ∀ c q, H a ≠ some (CodeO c q)) (ho : ∀ c q, o ≠ CodeO c q) (c : Addr) (q : Str) : upd H p o a ≠ some (CodeO c q) := by
  by_cases e : a = p
  · subst e
    rw [upd_same]
    exact fun z => ho c q (Option.some.inj z)
  · rw [upd_ne e]
    exact h c q
/-- a list or dict at p, no code object, is changed: the world stands -/
theorem Wo.own {p : Addr} {o o' : HO} (h : Wo K Γ av H s) (ap : av p) (nc : ¬ Γ.ch p) (e : H p = some o') (he : ∀ c q, o' ≠ CodeO c q) : Wo K Γ av (upd H p o) s := by
  refine ⟨by rw [upd_ne fun z => nc (.inl z.symm)]; exact h.dr, fun r hr => ?_, h.nd, h.ml, fun i a d h1 h2 => ?_⟩
  · obtain ⟨ps, h1, h2, h3⟩ := h.tb r hr
    refine ⟨ps, by rw [upd_ne fun z => nc (.inr (.inl ⟨r, hr, z⟩))]; exact h1, h2, fun pos cv hc => ?_⟩
    obtain ⟨c, e1, e2⟩ := h3 pos cv hc
    exact ⟨c, e1, by rw [upd_ne fun z => he _ _ (Option.some.inj ((by rw [← z]; exact e2.symm : some _ = H p).trans e)).symm]; exact e2⟩
  · exact (h.mt i a d h1 h2).kp (.upd ap) (upd_ne fun z => nc (.inr (.inr (by rw [← z]; exact List.mem_of_getElem? h1))))
end
mutual
def toP : D → Option PyData
  | .non => some .none
  | .bl b => some (.bool b)
  | .int i => some (.int i)
  | .str x => some (.str x)
  | .lst xs => (fu xs).map .list
  | .tup xs => (fu xs).map .tuple
  | .dic _ _ => none
  | .obj _ _ _ => none
  | .exc _ _ _ => none
  | .drw => none
  | .mob _ => none
  | .kdc _ _ => none
def fu : List D → Option (List PyData)
  | [] => some []
  | x :: xs => (toP x).bind fun a => (fu xs).map fun r => a :: r
end
section
variable {K : PySem.W.Frag} {H : Hp} {av : Av} {Γ : Wc}
mutual
theorem Rep.dp' : ∀ (d : D) (v : V) (p : PyData), Rep K H av Γ v d → toP d = some p → Dp K H v p
  | .non, _, p, h, e => by cases h; simp [toP] at e; subst e; exact .non
  | .bl b, _, p, h, e => by cases h; simp [toP] at e; subst e; exact .bl b
  | .int b, _, p, h, e => by cases h; simp [toP] at e; subst e; exact .int b
  | .str b, _, p, h, e => by cases h; simp [toP] at e; subst e; exact .str b
  | .dic _ _, _, p, h, e => by simp [toP] at e
  | .drw, _, p, h, e => by simp [toP] at e
  | .mob _, _, p, h, e => by simp [toP] at e
  | .kdc _ _, _, p, h, e => by simp [toP] at e
  | .obj _ _ _, _, p, h, e => by simp [toP] at e
  | .exc _ _ _, _, p, h, e => by simp [toP] at e
  | .lst ds, _, p, h, e => by
    cases h with
    | lst n s r =>
      simp only [toP, Option.map_eq_some_iff] at e
      obtain ⟨ps, e, rfl⟩ := e
      exact .lst (.inl (.inl s)) (ah.dp' ds _ ps r e)
  | .tup ds, _, p, h, e => by
    cases h with
    | tup t r =>
      simp only [toP, Option.map_eq_some_iff] at e
      obtain ⟨ps, e, rfl⟩ := e
      exact .tup t.sq (ah.dp' ds _ ps r e)
theorem ah.dp' : ∀ (ds : List D) (vs : List V) (ps : List PyData), ah K H av Γ vs ds → fu ds = some ps → DpAll K H vs ps
  | [], _, ps, h, e => by cases h; simp [fu] at e; subst e; exact .nil
  | d :: ds, _, ps, h, e => by
    cases h with
    | cons a r =>
      simp only [fu, Option.bind_eq_some_iff, Option.map_eq_some_iff] at e
      obtain ⟨p, e1, qs, e2, rfl⟩ := e
      exact .cons (Rep.dp' d _ p a e1) (ah.dp' ds _ qs r e2)
end
theorem Rep.dp {v : V} {d : D} {p : PyData} (h : Rep K H av Γ v d) (e : toP d = some p) : Dp K H v p := Rep.dp' d v p h e
end
end DM
set_option Elab.async false
set_option linter.all false
set_option maxRecDepth 100000
set_option maxHeartbeats 2000000
namespace DM
open PySem L2 Lay NdefX LamX
/-- what is the same for a whole def: the written part, the world, its lambdas -/
structure Cc where
  K : PySem.W.Frag
  Γ : Wc
  lo : Nat → Addr → Addr → HO
  lq : Nat → Str
def jh (C : Cc) (H : Hp) (av : Av) (k : Nat) (v : V) : Prop := ∃ f c', v = .ref f ∧ ¬ av f ∧ ¬ av c' ∧ H f = some (C.lo k f c') ∧ H c' = some (CodeO c' (C.lq k))
theorem jh.kp {C : Cc} {H H' : Hp} {av : Av} {k : Nat} {v : V} (h : jh C H av k v) (g : Kp av H H') : jh C H' av k v := by
  obtain ⟨f, c, e, n1, n2, h1, h2⟩ := h
  exact ⟨f, c, e, n1, n2, g _ _ n1 h1, g _ _ n2 h2⟩
theorem jh.wd {C : Cc} {H : Hp} {av av2 : Av} {k : Nat} {v : V} (h : jh C H av k v) (g : ∀ a, av2 a → av a ∨ H a = none) : jh C H av2 k v := by
  obtain ⟨f, c, e, n1, n2, h1, h2⟩ := h
  refine ⟨f, c, e, fun z => ?_, fun z => ?_, h1, h2⟩
  · rcases g _ z with z | z
    · exact n1 z
    · rw [z] at h1; cases h1
  · rcases g _ z with z | z
    · exact n2 z
    · rw [z] at h2; cases h2
/-- slots of some values, told by data -/
structure aI (C : Cc) (H : Hp) (av : Av) (σ : L2.St) (ρ : En) : Prop where
  val : ∀ (i : Nat) (d : D), ρ[i]? = some (Sl.val d) → ∃ v, σ[i]? = some (some v) ∧ Rep C.K H av C.Γ v d
  lam : ∀ (i k : Nat), ρ[i]? = some (Sl.lam k) → ∃ v, σ[i]? = some (some v) ∧ jh C H av k v
  new : ∀ (i : Nat) (d : D), ρ[i]? = some (Sl.new d) → ∃ v, σ[i]? = some (some v) ∧ Rep C.K H av C.Γ v d
structure OkE (C : Cc) (av : Av) (σ : L2.St) (ρ : En) (s : DS) (H : Hp) : Prop where
  len : σ.length = ρ.length
  wo : Wo C.K C.Γ av H s
  ad : ∀ a, C.Γ.ch a → av a
  al : ∀ a, av a → H a ≠ none
  nc : ∀ a, av a → ∀ c q, H a ≠ some (CodeO c q)
  sl : aI C H av σ ρ
theorem aI.kp {C : Cc} {H H' : Hp} {av : Av} {σ : L2.St} {ρ : En} (h : aI C H av σ ρ) (k : Kp av H H') : aI C H' av σ ρ :=
  ⟨fun i d e => let ⟨v, h1, h2⟩ := h.val i d e; ⟨v, h1, h2.kp k⟩, fun i d e => let ⟨v, h1, h2⟩ := h.lam i d e; ⟨v, h1, h2.kp k⟩, fun i d e => let ⟨v, h1, h2⟩ := h.new i d e; ⟨v, h1, h2.kp k⟩⟩
theorem aI.wd {C : Cc} {H : Hp} {av av2 : Av} {σ : L2.St} {ρ : En} (h : aI C H av σ ρ) (f : ∀ a, av2 a → av a ∨ H a = none) : aI C H av2 σ ρ :=
  ⟨fun i d e => let ⟨v, h1, h2⟩ := h.val i d e; ⟨v, h1, h2.wd f⟩, fun i d e => let ⟨v, h1, h2⟩ := h.lam i d e; ⟨v, h1, h2.wd f⟩, fun i d e => let ⟨v, h1, h2⟩ := h.new i d e; ⟨v, h1, h2.wd f⟩⟩
theorem Kp.ch {av : Av} {Γ : Wc} {H H' : Hp} (h : Kp Γ.ch H H') (ad : ∀ a, Γ.ch a → av a) : Kp av H H' := h.mono ad
section
variable {C : Cc} {av : Av} {σ : L2.St} {ρ : En} {s s' : DS} {H H' : Hp}
theorem OkE.step (o : OkE C av σ ρ s H) (g : Go C.Γ H H') (d : Wo C.K C.Γ av H' s') : OkE C av σ ρ s' H' :=
  ⟨o.len, d, o.ad, fun a z => g.lv a (o.al a z), fun a z => g.nc d (o.al a z) (o.nc a z), o.sl.kp (g.kp.ch o.ad)⟩
/-- what an operation needs of its surroundings -/
structure At (C : Cc) (av : Av) (s : DS) (H : Hp) : Prop where
  wo : Wo C.K C.Γ av H s
  ad : ∀ a, C.Γ.ch a → av a
  al : ∀ a, av a → H a ≠ none
  nc : ∀ a, av a → ∀ c q, H a ≠ some (CodeO c q)
theorem OkE.at_ (o : OkE C av σ ρ s H) : At C av s H := ⟨o.wo, o.ad, o.al, o.nc⟩
theorem At.fresh {p : Addr} (o : At C av s H) (h : H p = none) : ¬ av p := fun z => o.al p z h
theorem At.step (o : At C av s H) (g : Go C.Γ H H') (d : Wo C.K C.Γ av H' s') : At C av s' H' := ⟨d, o.ad, fun a z => g.lv a (o.al a z), fun a z => g.nc d (o.al a z) (o.nc a z)⟩
end
/-- built-in classes of errors that operations make -/
def ji (c : Str) : Option String := if c = "ZeroDivisionError" then some "ZeroDivisionError" else none
/-- the class of an error -/
def ph (Γ : Wc) (c : Str) (v : Value) : Prop := (∃ A, Γ.cl c = some A ∧ v = .ref A) ∨ ∃ T, ji c = some T ∧ v = .type T
/-- an error told by data: its class, its own dict -/
def ee (C : Cc) (H : Hp) (av : Av) (x : Xn) (cls : Value) (dd : Option Addr) : Prop := (∃ A, C.Γ.cl x.c = some A ∧ cls = .ref A ∧
  ((x.ns = [] ∧ x.xs = [] ∧ dd = none) ∨ ∃ d vs, dd = some d ∧ ¬ av d ∧ H d = some (.xd (List.zip x.ns vs)) ∧ x.ns.length = x.xs.length ∧ ah C.K H av C.Γ vs x.xs)) ∨ (∃ T, ji x.c = some T ∧ cls = .type T)
theorem ee.cls {C : Cc} {H : Hp} {av : Av} {x : Xn} {cls : Value} {dd : Option Addr} (h : ee C H av x cls dd) : ph C.Γ x.c cls := by
  rcases h with ⟨A, h1, h2, _⟩ | ⟨T, h1, h2⟩
  · exact .inl ⟨A, h1, h2⟩
  · exact .inr ⟨T, h1, h2⟩
theorem ee.wd {C : Cc} {H : Hp} {av av2 : Av} {x : Xn} {cls : Value} {dd : Option Addr} (h : ee C H av x cls dd) (f : ∀ a, av2 a → av a ∨ H a = none) : ee C H av2 x cls dd := by
  rcases h with ⟨A, h1, h2, h⟩ | h
  · refine .inl ⟨A, h1, h2, ?_⟩
    rcases h with h | ⟨d, vs, e, n, hd, hl, r⟩
    · exact .inl h
    · refine .inr ⟨d, vs, e, fun z => ?_, hd, hl, r.wd f⟩
      rcases f _ z with z | z
      · exact n z
      · rw [z] at hd; cases hd
  · exact .inr h
abbrev TG' (γ : Type) := L2.St → Hp → (γ → Hp → Prop) → Prop
abbrev RG (α γ : Type) := Hp → Av → γ → α → Prop
/-- behind: the result, or the error -/
def gr {α γ : Type} (C : Cc) (W : WX) (R : RG α γ) (av : Av) (σ : L2.St) (H : Hp) (s' : DS) (Q : γ → Hp → Prop) : Except Xn α → Prop
  | .ok a => ∀ v H', Go C.Γ H H' → Wo C.K C.Γ av H' s' → R H' av v a → Q v H'
  | .error x => ∀ cls dd H', Go C.Γ H H' → Wo C.K C.Γ av H' s' → ee C H' av x cls dd → W cls dd σ H'
theorem gr.go {α γ : Type} {C : Cc} {W : WX} {R : RG α γ} {av : Av} {σ : L2.St} {H H1 : Hp} {s' : DS} {Q : γ → Hp → Prop} {r : Except Xn α} (h : gr C W R av σ H s' Q r) (g : Go C.Γ H H1) : gr C W R av σ H1 s' Q r := by
  cases r with
  | ok a => exact fun v H' g' d r => h v H' (g.trans g') d r
  | error x => exact fun c d H' g' w r => h c d H' (g.trans g') w r
/-- the reading t is told by the plain function m -/
def SG {α γ : Type} (C : Cc) (W : WX) (R : RG α γ) (t : TG' γ) (m : En → M α) : Prop := ∀ av σ ρ s H r s' (Q : γ → Hp → Prop), OkE C av σ ρ s H → m ρ s = some (r, s') → gr C W R av σ H s' Q r → t σ H Q
def rV (C : Cc) : RG D V := fun H av v d => Rep C.K H av C.Γ v d
def rVs (C : Cc) : RG (List D) (List V) := fun H av vs ds => ah C.K H av C.Γ vs ds
def rB : RG Bool Bool := fun _ _ b c => b = c
def rOI : RG (Option Int) (Option Int) := fun _ _ b c => b = c
abbrev SE (C : Cc) (W : WX) (t : TE) (m : En → M D) : Prop := SG C W (rV C) t m
abbrev SA (C : Cc) (W : WX) (t : TA) (m : En → M (List D)) : Prop := SG C W (rVs C) t m
abbrev ST (C : Cc) (W : WX) (t : TT) (m : En → M Bool) : Prop := SG C W rB t m
abbrev SO (C : Cc) (W : WX) (t : TO) (m : En → M (Option Int)) : Prop := SG C W rOI t m
/-- one behind the other -/
def bx {α β : Type} (x : Option (Except Xn α × DS)) (f : α → DS → Option (Except Xn β × DS)) : Option (Except Xn β × DS) := match x with
  | none => none
  | some (.error e, s) => some (.error e, s)
  | some (.ok a, s) => f a s
def ox {α : Type} (x : Option α) (s : DS) : Option (Except Xn α × DS) := x.map fun a => (.ok a, s)
section
variable {C : Cc} {W : WX} {α β γ δ : Type} {R : RG α γ} {R' : RG β δ} {t : TG' γ} {m : En → M α}
theorem SG.bind {av : Av} {σ : L2.St} {ρ : En} {s s' : DS} {H : Hp} {r : Except Xn β} {f : α → DS → Option (Except Xn β × DS)} {Q : γ → Hp → Prop} {Q' : δ → Hp → Prop} (h : SG C W R t m) (o : OkE C av σ ρ s H) (e : bx (m ρ s) f = some (r, s')) (q : gr C W R' av σ H s' Q' r)
    (k : ∀ a s1 v H1, Go C.Γ H H1 → OkE C av σ ρ s1 H1 → R H1 av v a → f a s1 = some (r, s') → gr C W R' av σ H1 s' Q' r → Q v H1) : t σ H Q := by
  cases z : m ρ s with
  | none => rw [z] at e; cases e
  | some p =>
    obtain ⟨a, s1⟩ := p
    rw [z] at e
    cases a with
    | error x =>
      cases e
      exact h av σ ρ s H _ _ Q o z fun c dd H' g w rx => q c dd H' g w rx
    | ok a => exact h av σ ρ s H _ _ Q o z fun v H1 g w rv => k a s1 v H1 g (o.step g w) rv e (q.go g)
theorem aL {x : Option α} {s s' : DS} {r : Except Xn α} (h : ox x s = some (r, s')) : ∃ a, x = some a ∧ r = .ok a ∧ s' = s := by
  unfold ox at h
  cases x with
  | none => cases h
  | some a => cases h; exact ⟨a, rfl, rfl, rfl⟩
end
def ai (i : Nat) : En → M D := fun ρ s => match ρ[i]? with
  | some (Sl.val d) => some (.ok d, s)
  | _ => none
def eC (d : D) : En → M D := fun _ s => some (.ok d, s)
def eOp (f : D → D → Option D) (a b : En → M D) : En → M D := fun ρ s => bx (a ρ s) fun x s1 => bx (b ρ s1) fun y s2 => ox (f x y) s2
def eUn (f : D → Option D) (a : En → M D) : En → M D := fun ρ s => bx (a ρ s) fun x s1 => ox (f x) s1
def ak : En → M (List D) := fun _ s => some (.ok [], s)
def ab (a : En → M D) (b : En → M (List D)) : En → M (List D) := fun ρ s => bx (a ρ s) fun x s1 => bx (b ρ s1) fun y s2 => some (.ok (x :: y), s2)
def line : Nat := 100000
def mkT (xs : List D) : Option D := if xs.length ≤ line then some (.tup xs) else none
def mkL (xs : List D) : Option D := if xs.length ≤ line then some (.lst xs) else none
def c3 (a : En → M (List D)) : En → M D := fun ρ s => bx (a ρ s) fun x s1 => ox (mkT x) s1
def bE (a : En → M (List D)) : En → M D := fun ρ s => bx (a ρ s) fun x s1 => ox (mkL x) s1
def eCB (f : List D → Option D) (a : En → M (List D)) : En → M D := fun ρ s => bx (a ρ s) fun x s1 => ox (f x) s1
def eIf (c : En → M Bool) (a b : En → M D) : En → M D := fun ρ s => bx (c ρ s) fun x s1 => if x = true then a ρ s1 else b ρ s1
def isB : D → Option Bool
  | .bl b => some b
  | _ => none
def tB' (a : En → M D) : En → M Bool := fun ρ s => bx (a ρ s) fun x s1 => ox (isB x) s1
def pj (a b : En → M Bool) : En → M Bool := fun ρ s => bx (a ρ s) fun x s1 => if x = true then b ρ s1 else some (.ok false, s1)
def dQ (a b : En → M Bool) : En → M Bool := fun ρ s => bx (a ρ s) fun x s1 => if x = true then some (.ok true, s1) else b ρ s1
def bW (a : En → M Bool) : En → M Bool := fun ρ s => bx (a ρ s) fun x s1 => some (.ok (!x), s1)
def a6 : En → M Bool := fun _ s => some (.ok true, s)
def nQ (a b : En → M D) : En → M D := fun ρ s => bx (a ρ s) fun x s1 => match x with
  | .bl true => b ρ s1
  | .bl false => some (.ok (.bl false), s1)
  | _ => none
def eOr (a b : En → M D) : En → M D := fun ρ s => bx (a ρ s) fun x s1 => match x with
  | .bl true => some (.ok (.bl true), s1)
  | .bl false => b ρ s1
  | _ => none
def isI : D → Option (Option Int)
  | .int i => some (some i)
  | _ => none
def cq : En → M (Option Int) := fun _ s => some (.ok none, s)
def cu (a : En → M D) : En → M (Option Int) := fun ρ s => bx (a ρ s) fun x s1 => ox (isI x) s1
def eSl (f : D → Option Int → Option Int → Option D) (a : En → M D) (l u : En → M (Option Int)) : En → M D := fun ρ s => bx (a ρ s) fun x s1 => bx (l ρ s1) fun y s2 => bx (u ρ s2) fun z s3 => ox (f x y z) s3
def Done (C : Cc) (av : Av) (s : DS) (H : Hp) (d : D) (Q : VK) : Prop := ∀ v H', Go C.Γ H H' → Wo C.K C.Γ av H' s → Rep C.K H' av C.Γ v d → Q v H'
theorem Done.pure {C : Cc} {av : Av} {s : DS} {H : Hp} {d : D} {Q : VK} {v : V} (h : Done C av s H d Q) (a : At C av s H) (r : Rep C.K H av C.Γ v d) : Q v H := h v H .refl a.wo r
def OpS (C : Cc) (r : R2) (f : D → D → Option D) : Prop := ∀ av s H x y a b c Q, At C av s H → Rep C.K H av C.Γ x a → Rep C.K H av C.Γ y b → f a b = some c → Done C av s H c Q → r x y H Q
def CbS (C : Cc) (r : List V → Hp → VK → Prop) (f : List D → Option D) : Prop := ∀ av s H vs ds c Q, At C av s H → ah C.K H av C.Γ vs ds → f ds = some c → Done C av s H c Q → r vs H Q
def SlS (C : Cc) (r : V → Option Int → Option Int → Hp → VK → Prop) (f : D → Option Int → Option Int → Option D) : Prop := ∀ av s H x a l u c Q, At C av s H → Rep C.K H av C.Γ x a → f a l u = some c → Done C av s H c Q → r x l u H Q
/-- either of two readings; either of two functions -/
def orR (r1 r2 : R2) : R2 := fun x y H Q => r1 x y H Q ∨ r2 x y H Q
theorem fB {X : Cx} {f : Value → Value → Sem Value} {r1 r2 : R2} (h1 : OpR X f r1) (h2 : OpR X f r2) : OpR X f (orR r1 r2) := fun pins s σ H x y v u Q I rx ry h => h.elim (h1 pins s σ H x y v u Q I rx ry) (h2 pins s σ H x y v u Q I rx ry)
def orF (f g : D → D → Option D) : D → D → Option D := fun a b => match f a b with
  | some c => some c
  | none => g a b
theorem iN {C : Cc} {r1 r2 : R2} {f g : D → D → Option D} (h1 : OpS C r1 f) (h2 : OpS C r2 g) : OpS C (orR r1 r2) (orF f g) := by
  intro av s H x y a b c Q o ra rb e q
  unfold orF at e
  split at e
  · rename_i c' hc
    cases e
    exact .inl (h1 av s H x y a b _ Q o ra rb hc q)
  · exact .inr (h2 av s H x y a b c Q o ra rb e q)
section
variable {C : Cc} {W : WX} {ta tb te : TE} {ma mb me : En → M D} {t u : TT} {mt mu : En → M Bool} {ts : TA} {ms : En → M (List D)}
theorem af {i : Nat} : SE C W (tVar i) (ai i) := by
  intro av σ ρ s H r s' Q o e q
  unfold ai at e
  split at e
  · rename_i d' hd
    cases e
    obtain ⟨v, h1, h2⟩ := o.sl.val i _ hd
    exact ⟨v, h1, q v H .refl o.wo h2⟩
  · cases e
theorem rm {v : V} {d : D} (h : ∀ H av, Rep C.K H av C.Γ v d) : SE C W (tC v) (eC d) := fun av σ ρ s H r s' Q o e q => by
  cases e
  exact q _ H .refl o.wo (h H av)
theorem aq {i : Int} : SE C W (tC (.int i)) (eC (.int i)) := rm fun _ _ => .int i
theorem ay {i : Str} : SE C W (tC (.str i)) (eC (.str i)) := rm fun _ _ => .str i
theorem dg {i : Bool} : SE C W (tC (.bl i)) (eC (.bl i)) := rm fun _ _ => .bl i
theorem cc : SE C W (tC .non) (eC .non) := rm fun _ _ => .non
theorem gr.done {av : Av} {σ : L2.St} {H : Hp} {s : DS} {Q : VK} {d : D} (q : gr C W (rV C) av σ H s Q (.ok d)) : Done C av s H d Q := q
theorem ao {r : R2} {f : D → D → Option D} (hr : OpS C r f) (ha : SE C W ta ma) (hb : SE C W tb mb) : SE C W (tOp r ta tb) (eOp f ma mb) := by
  intro av σ ρ s H r' s' Q o e q
  refine ha.bind o e q fun x s1 v H1 g1 o1 r1 e q => ?_
  refine hb.bind o1 e q fun y s2 w H2 g2 o2 r2 e q => ?_
  obtain ⟨z, e3, rfl, rfl⟩ := aL e
  exact hr av _ H2 v w x y _ Q o2.at_ (r1.kp (g2.kp.ch o.ad)) r2 e3 q.done
theorem aj : SA C W tNil ak := fun av σ ρ s H d s' Q o e q => by
  cases e
  exact q _ H .refl o.wo .nil
theorem aa (ha : SE C W ta ma) (hs : SA C W ts ms) : SA C W (tCons ta ts) (ab ma ms) := by
  intro av σ ρ s H r s' Q o e q
  refine ha.bind o e q fun x s1 v H1 g1 o1 r1 e q => ?_
  refine hs.bind o1 e q fun y s2 w H2 g2 o2 r2 e q => ?_
  cases e
  exact q _ H2 .refl o2.wo (.cons (r1.kp (g2.kp.ch o.ad)) r2)
theorem dX {n : Nat} (h : n ≤ line) : n ≤ sizeLine := Nat.le_trans h (by decide)
theorem dY {n : Nat} (h : n ≤ line) : n < sizeLine := Nat.lt_of_le_of_lt h (by decide)
theorem Rep.qp {H : Hp} {av : Av} {p : Addr} {s : DS} {vs : List V} {ds : List D} (a : At C av s H) (h : H p = none) (r : ah C.K H av C.Γ vs ds) : Rep C.K (upd H p (.tup vs)) av C.Γ (.ref p) (.tup ds) := .tup (.inl ⟨a.fresh h, upd_same⟩) (r.kp (.new h))
theorem Rep.kE {H : Hp} {av : Av} {p : Addr} {s : DS} {vs : List V} {ds : List D} (a : At C av s H) (h : H p = none) (r : ah C.K H av C.Γ vs ds) : Rep C.K (upd H p (.lst vs)) av C.Γ (.ref p) (.lst ds) := .lst (a.fresh h) upd_same (r.kp (.new h))
theorem Done.qp {av : Av} {p : Addr} {s : DS} {H : Hp} {vs : List V} {ds : List D} {Q : VK} (q : Done C av s H (.tup ds) Q) (a : At C av s H) (h : H p = none) (r : ah C.K H av C.Γ vs ds) : Q (.ref p) (upd H p (.tup vs)) := q _ _ (.new h) (a.wo.new h) (.qp a h r)
theorem Done.kE {av : Av} {p : Addr} {s : DS} {H : Hp} {vs : List V} {ds : List D} {Q : VK} (q : Done C av s H (.lst ds) Q) (a : At C av s H) (h : H p = none) (r : ah C.K H av C.Γ vs ds) : Q (.ref p) (upd H p (.lst vs)) := q _ _ (.new h) (a.wo.new h) (.kE a h r)
theorem rn {xs : List D} {d : D} (h : mkT xs = some d) : xs.length ≤ line ∧ d = .tup xs := by
  unfold mkT at h
  split at h
  · rename_i hl; cases h; exact ⟨hl, rfl⟩
  · cases h
theorem jk {xs : List D} {d : D} (h : mkL xs = some d) : xs.length ≤ line ∧ d = .lst xs := by
  unfold mkL at h
  split at h
  · rename_i hl; cases h; exact ⟨hl, rfl⟩
  · cases h
theorem b4 (hs : SA C W ts ms) : SE C W (tTup ts) (c3 ms) := by
  intro av σ ρ s H r s' Q o e q
  refine hs.bind o e q fun x s1 vs H1 g1 o1 r1 e q => ?_
  obtain ⟨z, e3, rfl, rfl⟩ := aL e
  obtain ⟨hl, rfl⟩ := rn e3
  exact ⟨dX (by rw [r1.len]; exact hl), fun p hp => q.done.qp o1.at_ hp r1⟩
theorem a7 (hs : SA C W ts ms) : SE C W (tLst ts) (bE ms) := by
  intro av σ ρ s H r s' Q o e q
  refine hs.bind o e q fun x s1 vs H1 g1 o1 r1 e q => ?_
  obtain ⟨z, e3, rfl, rfl⟩ := aL e
  obtain ⟨hl, rfl⟩ := jk e3
  exact ⟨dX (by rw [r1.len]; exact hl), fun p hp => q.done.kE o1.at_ hp r1⟩
theorem cN {r : List V → Hp → VK → Prop} {f : List D → Option D} (hr : CbS C r f) (hs : SA C W ts ms) : SE C W (tCB r ts) (eCB f ms) := by
  intro av σ ρ s H r' s' Q o e q
  refine hs.bind o e q fun x s1 vs H1 g1 o1 r1 e q => ?_
  obtain ⟨z, e3, rfl, rfl⟩ := aL e
  exact hr av _ H1 vs x _ Q o1.at_ r1 e3 q.done
theorem pk (hc : ST C W t mt) (ha : SE C W ta ma) (hb : SE C W tb mb) : SE C W (tIf t ta tb) (eIf mt ma mb) := by
  intro av σ ρ s H r s' Q o e q
  refine hc.bind o e q fun b s1 v H1 g1 o1 r1 e q => ?_
  cases r1
  cases b with
  | true =>
    rw [if_pos rfl] at e ⊢
    exact ha av σ ρ s1 H1 r s' Q o1 e q
  | false =>
    rw [if_neg (by simp)] at e ⊢
    exact hb av σ ρ s1 H1 r s' Q o1 e q
theorem fC (ha : SE C W ta ma) : ST C W (tB ta) (tB' ma) := by
  intro av σ ρ s H r s' Q o e q
  refine ha.bind o e q fun x s1 v H1 g1 o1 r1 e q => ?_
  obtain ⟨z, e3, rfl, rfl⟩ := aL e
  cases x <;> simp [isB] at e3
  subst e3
  exact ⟨_, Rep.dA r1, q _ H1 .refl o1.wo rfl⟩
theorem aJ (ha : SE C W ta ma) : ST C W (tTest ta) (tB' ma) := fC ha
theorem xf (h1 : ST C W t mt) (h2 : ST C W u mu) : ST C W (tAnd t u) (pj mt mu) := by
  intro av σ ρ s H r s' Q o e q
  refine h1.bind o e q fun b s1 v H1 g1 o1 r1 e q => ?_
  cases r1
  cases b with
  | true =>
    rw [if_pos rfl] at e ⊢
    exact h2 av σ ρ s1 H1 r s' Q o1 e q
  | false =>
    rw [if_neg (by simp)] at e ⊢
    cases e
    exact q _ H1 .refl o1.wo rfl
theorem eN (h1 : ST C W t mt) (h2 : ST C W u mu) : ST C W (tOr t u) (dQ mt mu) := by
  intro av σ ρ s H r s' Q o e q
  refine h1.bind o e q fun b s1 v H1 g1 o1 r1 e q => ?_
  cases r1
  cases b with
  | true =>
    rw [if_pos rfl] at e ⊢
    cases e
    exact q _ H1 .refl o1.wo rfl
  | false =>
    rw [if_neg (by simp)] at e ⊢
    exact h2 av σ ρ s1 H1 r s' Q o1 e q
theorem c0 (h1 : ST C W t mt) : ST C W (tNot t) (bW mt) := by
  intro av σ ρ s H r s' Q o e q
  refine h1.bind o e q fun b s1 v H1 g1 o1 r1 e q => ?_
  cases r1
  cases e
  exact q _ H1 .refl o1.wo rfl
theorem cf : ST C W tYes a6 := fun av σ ρ s H r s' Q o e q => by
  cases e
  exact q _ H .refl o.wo rfl
theorem kF (ha : SE C W ta ma) (hb : SE C W tb mb) : SE C W (tAndV ta tb) (nQ ma mb) := by
  intro av σ ρ s H r s' Q o e q
  refine ha.bind o e q fun x s1 v H1 g1 o1 r1 e q => ?_
  cases x with
  | bl c =>
    cases c with
    | true => exact ⟨true, Rep.dA r1, iteT (hb av σ ρ s1 H1 r s' Q o1 e q)⟩
    | false =>
      cases e
      exact ⟨false, Rep.dA r1, iteF (q _ H1 .refl o1.wo (.bl false))⟩
  | _ => cases e
theorem yU (ha : SE C W ta ma) (hb : SE C W tb mb) : SE C W (tOrV ta tb) (eOr ma mb) := by
  intro av σ ρ s H r s' Q o e q
  refine ha.bind o e q fun x s1 v H1 g1 o1 r1 e q => ?_
  cases x with
  | bl c =>
    cases c with
    | false => exact ⟨false, Rep.dA r1, iteF (hb av σ ρ s1 H1 r s' Q o1 e q)⟩
    | true =>
      cases e
      exact ⟨true, Rep.dA r1, iteT (q _ H1 .refl o1.wo (.bl true))⟩
  | _ => cases e
theorem cU : SO C W tNoPart cq := fun av σ ρ s H b s' Q o e q => by
  cases e
  exact q _ H .refl o.wo rfl
theorem cW (ha : SE C W ta ma) : SO C W (tPart ta) (cu ma) := by
  intro av σ ρ s H b s' Q o e q
  refine ha.bind o e q fun x s1 v H1 g1 o1 r1 e q => ?_
  obtain ⟨z, e3, rfl, rfl⟩ := aL e
  cases x <;> simp [isI] at e3
  subst e3
  exact ⟨_, Rep.bS r1, q _ H1 .refl o1.wo rfl⟩
theorem eO {r : V → Option Int → Option Int → Hp → VK → Prop} {f : D → Option Int → Option Int → Option D} {tl tu : TO} {ml mu : En → M (Option Int)} (hr : SlS C r f) (ha : SE C W ta ma) (hl : SO C W tl ml) (hu : SO C W tu mu) : SE C W (L2.tSl r ta tl tu) (eSl f ma ml mu) := by
  intro av σ ρ s H r' s' Q o e q
  refine ha.bind o e q fun x s1 v H1 g1 o1 r1 e q => ?_
  refine hl.bind o1 e q fun l s2 _ H2 g2 o2 r2 e q => ?_
  cases r2
  refine hu.bind o2 e q fun u s3 _ H3 g3 o3 r3 e q => ?_
  cases r3
  obtain ⟨z, e4, rfl, rfl⟩ := aL e
  exact hr av _ H3 v x l u _ Q o3.at_ ((Rep.kp r1 (g2.kp.ch o.ad)).kp (g3.kp.ch o.ad)) e4 q.done
end
end DM
set_option Elab.async false
set_option linter.all false
set_option maxRecDepth 100000
set_option maxHeartbeats 2000000
namespace DM
open PySem L2 Lay NdefX LamX
def oI (c : Int → Int → Bool) (g : Int → Int → D) : D → D → Option D
  | .int i, .int j => if c i j then some (g i j) else none
  | _, _ => none
def oI0 (g : Int → Int → D) : D → D → Option D
  | .int i, .int j => some (g i j)
  | _, _ => none
def rq : D → D → Option D
  | .str x, .str y => if x.length + y.length ≤ line then some (.str (x ++ y)) else none
  | _, _ => none
def lR : D → D → Option D
  | .lst x, .lst y => if x.length + y.length ≤ line then some (.lst (x ++ y)) else none
  | _, _ => none
def rD : D → D → Option D
  | .tup x, .tup y => if x.length + y.length ≤ line then some (.tup (x ++ y)) else none
  | _, _ => none
def eqF : D → D → Option Bool
  | .int i, .int j => some (decide (i = j))
  | .str i, .str j => some (decide (i = j))
  | .bl i, .bl j => some (decide (i = j))
  | .non, .non => some true
  | .non, .int _ => some false
  | .non, .str _ => some false
  | .int _, .non => some false
  | .str _, .non => some false
  | .int _, .str _ => some false
  | .str _, .int _ => some false
  | _, _ => none
def oEq (a b : D) : Option D := (eqF a b).map .bl
def oNe (a b : D) : Option D := (eqF a b).map fun k => .bl (!k)
def oIx : D → D → Option D
  | .lst xs, .int i => atI xs i
  | .tup xs, .int i => atI xs i
  | _, _ => none
def uv (a b : D) : Option D := (toP a).bind fun p => (toP b).bind fun q => if SeqAt.shaped p && SeqAt.shaped q then some (.bl (PyData.eqv p q)) else none
def nR (a b : D) : Option D := (toP a).bind fun p => (toP b).bind fun q => if SeqAt.shaped p && SeqAt.shaped q then some (.bl (!PyData.eqv p q)) else none
def eP : D → Bool
  | .non => true
  | .bl _ => true
  | .int _ => true
  | .str _ => true
  | _ => false
def uw : D → D → Bool
  | .non, .non => true
  | .bl a, .bl b => a == b
  | .bl a, .int b => (if a then 1 else 0) == b
  | .int a, .bl b => a == (if b then 1 else 0)
  | .int a, .int b => a == b
  | .str a, .str b => a == b
  | _, _ => false
def xg : List D → Option D
  | [.lst xs] => some (.int xs.length)
  | [.tup xs] => some (.int xs.length)
  | _ => none
def kG : List D → Option D
  | [.int i] => some (.int i)
  | [.bl b] => some (.int (if b then 1 else 0))
  | _ => none
def e9 : List D → Option D
  | [.lst xs] => some (.tup xs)
  | [.tup xs] => some (.tup xs)
  | _ => none
def cutD (xs : List D) (lo hi : Option Int) : List D := (xs.drop (HT.sIx xs.length 0 lo)).take (HT.sIx xs.length xs.length hi - HT.sIx xs.length 0 lo)
def slL : D → Option Int → Option Int → Option D
  | .lst xs, lo, hi => some (.lst (cutD xs lo hi))
  | _, _, _ => none
def slT : D → Option Int → Option Int → Option D
  | .tup xs, lo, hi => some (.tup (cutD xs lo hi))
  | _, _, _ => none
def slS : D → Option Int → Option Int → Option D
  | .str z, lo, hi => if z.length ≤ line then some (.str (cutS z lo hi)) else none
  | _, _, _ => none
section
variable {C : Cc}
theorem cO {α β : Type} {x : Option α} {f : α → Option β} {z : β} (h : x.bind f = some z) : ∃ y, x = some y ∧ f y = some z := Option.bind_eq_some_iff.mp h
theorem eQ {α β : Type} {x : Option α} {f : α → β} {z : β} (h : x.map f = some z) : ∃ y, x = some y ∧ f y = z := Option.map_eq_some_iff.mp h
theorem xh {c : Int → Int → Bool} {Cn : Int → Int → Prop} {g : Int → Int → Int} (h : ∀ i j, c i j = true → Cn i j) : OpS C (rI Cn fun i j => .int (g i j)) (oI c fun i j => .int (g i j)) := by
  intro av s H x y a b z Q o ra rb e q
  cases a <;> cases b <;> simp [oI] at e
  obtain ⟨e1, rfl⟩ := e
  exact ⟨_, _, ra.bS, rb.bS, h _ _ e1, q.pure o (.int _)⟩
theorem vZ {g : Int → Int → Int} : OpS C (rI0 fun i j => .int (g i j)) (oI0 fun i j => .int (g i j)) := by
  intro av s H x y a b z Q o ra rb e q
  cases a <;> cases b <;> simp [oI0] at e
  subst e
  exact ⟨_, _, ra.bS, rb.bS, q.pure o (.int _)⟩
theorem wa {g : Int → Int → Bool} : OpS C (rI0 fun i j => .bl (g i j)) (oI0 fun i j => .bl (g i j)) := by
  intro av s H x y a b z Q o ra rb e q
  cases a <;> cases b <;> simp [oI0] at e
  subst e
  exact ⟨_, _, ra.bS, rb.bS, q.pure o (.bl _)⟩
theorem xi : OpS C (rI0 fun i j => .int (i + j)) (oI0 fun i j => .int (i + j)) := vZ
theorem jl : OpS C (rI0 fun i j => .int (i - j)) (oI0 fun i j => .int (i - j)) := vZ
def xj (i j : Int) : Bool := (decide (-(2 ^ 64) < i) && decide (i < 2 ^ 64)) || (decide (-(2 ^ 64) < j) && decide (j < 2 ^ 64))
def rE (i j : Int) : Bool := decide (0 < j) && decide (j < 1073741824)
def rF (i j : Int) : Bool := decide (0 < j)
def rG (i j : Int) : Bool := decide (0 ≤ j) && decide (j ≤ 1000000) && decide (i.natAbs < 2 ^ 64)
theorem b8 : OpS C (rI CDiv fun i j => .int (i / j)) (oI rE fun i j => .int (i / j)) := xh fun i j h => by
  simp only [rE, Bool.and_eq_true, decide_eq_true_eq] at h
  exact h
theorem bh : OpS C (rI (fun _ j => 0 < j) fun i j => .int (i % j)) (oI rF fun i j => .int (i % j)) := xh fun i j h => by
  simpa [rF] using h
theorem rH : OpS C (rI CPow fun i j => .int (i ^ j.toNat)) (oI rG fun i j => .int (i ^ j.toNat)) := xh fun i j h => by
  simp only [rG, Bool.and_eq_true, decide_eq_true_eq] at h
  exact ⟨h.1.1, h.1.2, h.2⟩
theorem ux : OpS C (fun x y H Q => ∃ i j, x = .str i ∧ y = .str j ∧ i.length + j.length ≤ sizeLine ∧ Q (.str (i ++ j)) H) rq := by
  intro av s H x y a b z Q o ra rb e q
  cases a <;> cases b <;> simp [rq] at e
  obtain ⟨e1, rfl⟩ := e
  exact ⟨_, _, ra.b9, rb.b9, dX e1, q.pure o (.str _)⟩
theorem xk : OpS C rCat lR := by
  intro av s H x y a b z Q o ra rb e q
  cases a <;> cases b <;> simp [lR] at e
  obtain ⟨e1, rfl⟩ := e
  obtain ⟨p, vs, rfl, n, h1, r1⟩ := ra.b3
  obtain ⟨p2, ws, rfl, n2, h2, r2⟩ := rb.b3
  exact ⟨p, p2, vs, ws, rfl, rfl, h1, h2, dX (by rw [r1.len, r2.len]; exact e1), fun l hl => q.kE o hl (r1.append r2)⟩
theorem uy : OpS C (rCatA C.K) rD := by
  intro av s H x y a b z Q o ra rb e q
  cases a <;> cases b <;> simp [rD] at e
  obtain ⟨e1, rfl⟩ := e
  obtain ⟨p, vs, rfl, h1, r1⟩ := ra.dm
  obtain ⟨p2, ws, rfl, h2, r2⟩ := rb.dm
  refine ⟨p, p2, vs, ws, rfl, rfl, h1.sq, h2.sq, dX (by rw [r1.len, r2.len]; exact e1), fun z => ?_, fun _ z => ?_, fun _ _ l hl => q.qp o hl (r1.append r2)⟩
  · subst z
    cases r1
    exact q.pure o rb
  · subst z
    cases r2
    rw [List.append_nil] at q
    exact q.pure o ra
theorem os_eq : OpS C rEq oEq := by
  intro av s H x y a b z Q o ra rb e q
  unfold oEq at e
  obtain ⟨k, e1, rfl⟩ := eQ e
  cases a <;> cases b <;> simp [eqF] at e1 <;> first | (have h1 := ra.bS) | (have h1 := ra.b9) | (have h1 := ra.dA) | (have h1 := ra.dP)
  all_goals first | (have h2 := rb.bS) | (have h2 := rb.b9) | (have h2 := rb.dA) | (have h2 := rb.dP)
  all_goals
    subst h1 h2
    refine ⟨rfl, ?_⟩
    have q' := q.pure o (.bl _)
    subst e1
    simpa using q'
theorem yV : OpS C rNe oNe := by
  intro av s H x y a b z Q o ra rb e q
  unfold oNe at e
  obtain ⟨k, e1, rfl⟩ := eQ e
  cases a <;> cases b <;> simp [eqF] at e1 <;> first | (have h1 := ra.bS) | (have h1 := ra.b9) | (have h1 := ra.dA) | (have h1 := ra.dP)
  all_goals first | (have h2 := rb.bS) | (have h2 := rb.b9) | (have h2 := rb.dA) | (have h2 := rb.dP)
  all_goals
    subst h1 h2
    refine ⟨rfl, ?_⟩
    have q' := q.pure o (.bl _)
    subst e1
    simpa using q'
theorem pq {av : Av} {H : Hp} {vs : List V} {ds : List D} {i : Int} {d : D} (r : ah C.K H av C.Γ vs ds) (e : atI ds i = some d) : ∃ v, atI vs i = some v ∧ Rep C.K H av C.Γ v d := by
  unfold atI at e ⊢
  obtain ⟨j, e1, e2⟩ := cO e
  obtain ⟨v, h1, h2⟩ := r.get e2
  exact ⟨v, by rw [r.len, e1]; exact h1, h2⟩
theorem cI : OpS C (rIx C.K) oIx := by
  intro av s H x y a b z Q o ra rb e q
  cases a <;> cases b <;> simp [oIx] at e
  · obtain ⟨p, vs, rfl, n, h1, r1⟩ := ra.b3
    obtain ⟨v, h2, h3⟩ := pq r1 e
    exact .inl ⟨p, vs, _, v, rfl, rb.bS, SqL.of h1, h2, q.pure o h3⟩
  · obtain ⟨p, vs, rfl, h1, r1⟩ := ra.dm
    obtain ⟨v, h2, h3⟩ := pq r1 e
    exact .inr (.inl ⟨p, vs, _, v, rfl, rb.bS, h1.sq, h2, q.pure o h3⟩)
theorem xl : OpS C (rEqD C.K) uv := by
  intro av s H x y a b z Q o ra rb e q
  obtain ⟨p, e1, e⟩ := cO e
  obtain ⟨p2, e2, e⟩ := cO e
  split at e
  · rename_i hs
    simp at hs
    cases e
    exact ⟨p, p2, ra.dp e1, rb.dp e2, hs.1, hs.2, q.pure o (.bl _)⟩
  · cases e
theorem xm : OpS C (rNeD C.K) nR := by
  intro av s H x y a b z Q o ra rb e q
  obtain ⟨p, e1, e⟩ := cO e
  obtain ⟨p2, e2, e⟩ := cO e
  split at e
  · rename_i hs
    simp at hs
    cases e
    exact ⟨p, p2, ra.dp e1, rb.dp e2, hs.1, hs.2, q.pure o (.bl _)⟩
  · cases e
theorem kH {av : Av} {H : Hp} {v : V} {d : D} (r : Rep C.K H av C.Γ v d) (h : eP d = true) : flatV v = true := by
  cases r <;> first | rfl | (exact absurd h (by simp [eP]))
theorem uz {av : Av} {H : Hp} {v w : V} {d e : D} (r : Rep C.K H av C.Γ v d) (r2 : Rep C.K H av C.Γ w e) (h : eP d = true) (h2 : eP e = true) : eqV v w = uw d e := by
  cases r <;> cases r2 <;> first | rfl | (exact absurd h (by simp [eP])) | (exact absurd h2 (by simp [eP]))
theorem jm {av : Av} {H : Hp} : ∀ {vs : List V} {ds : List D}, ah C.K H av C.Γ vs ds → ds.all eP = true → vs.all flatV = true
  | _, [], r, h => by cases r; rfl
  | _, d :: ds, r, h => by
    cases r with
    | cons a r =>
      rw [List.all_cons, Bool.and_eq_true] at h ⊢
      exact ⟨kH a h.1, jm r h.2⟩
theorem nS {av : Av} {H : Hp} {w : V} {e : D} (r2 : Rep C.K H av C.Γ w e) (h2 : eP e = true) : ∀ {vs : List V} {ds : List D}, ah C.K H av C.Γ vs ds → ds.all eP = true → inV w vs = ds.any fun y => uw y e
  | _, [], r, h => by cases r; rfl
  | _, d :: ds, r, h => by
    cases r with
    | cons a r =>
      rw [List.all_cons, Bool.and_eq_true] at h
      have ih := nS r2 h2 r h.2
      unfold inV at ih ⊢
      rw [List.any_cons, List.any_cons, ih, uz a r2 h.1 h2]
theorem lS {av : Av} {H : Hp} {vs : List V} {ds : List D} {lo hi : Option Int} (r : ah C.K H av C.Γ vs ds) : ah C.K H av C.Γ (cutV vs lo hi) (cutD ds lo hi) := by
  unfold cutV cutD
  rw [r.len]
  exact (r.drop _).take _
theorem ss_L : SlS C (rSlL C.K) slL := by
  intro av s H x a l u c Q o r e q
  cases a <;> simp [slL] at e
  subst e
  obtain ⟨p, vs, rfl, n, h1, r1⟩ := r.b3
  exact ⟨p, vs, rfl, SqL.of h1, fun t ht => q.kE o ht (lS r1)⟩
theorem ss_T : SlS C (rSlA C.K) slT := by
  intro av s H x a l u c Q o r e q
  cases a <;> simp [slT] at e
  subst e
  obtain ⟨p, vs, rfl, h1, r1⟩ := r.dm
  refine ⟨p, vs, rfl, h1.sq, fun z => ?_, fun _ t ht => q.qp o ht (lS r1)⟩
  refine q.pure o ?_
  rename_i xs
  have e : cutD xs l u = xs := by
    unfold cutD
    rw [← r1.len, z.1, z.2]
    simp [r1.len]
  rw [e]
  exact r
theorem ss_S : SlS C rSlS slS := by
  intro av s H x a l u c Q o r e q
  cases a <;> simp [slS] at e
  obtain ⟨e1, rfl⟩ := e
  exact ⟨_, r.b9, dX e1, q.pure o (.str _)⟩
theorem ah.one {av : Av} {H : Hp} {vs : List V} {d : D} (r : ah C.K H av C.Γ vs [d]) : ∃ v, vs = [v] ∧ Rep C.K H av C.Γ v d := by
  cases r with
  | cons a r =>
    cases r
    exact ⟨_, rfl, a⟩
theorem xn : CbS C (fun xs H Q => ∃ p ys, xs = [.ref p] ∧ (SqL C.K H p ys ∨ SqT C.K H p ys) ∧ Q (.int ys.length) H) xg := by
  intro av s H vs ds c Q o r e q
  unfold xg at e
  split at e
  · cases e
    obtain ⟨v, rfl, r1⟩ := r.one
    obtain ⟨p, ys, rfl, n, h1, r2⟩ := r1.b3
    refine ⟨p, ys, rfl, .inl (SqL.of h1), ?_⟩
    rw [r2.len]
    exact q.pure o (.int _)
  · cases e
    obtain ⟨v, rfl, r1⟩ := r.one
    obtain ⟨p, ys, rfl, h1, r2⟩ := r1.dm
    refine ⟨p, ys, rfl, .inr h1.sq, ?_⟩
    rw [r2.len]
    exact q.pure o (.int _)
  · cases e
theorem kI : CbS C (fun xs H Q => (∃ i, xs = [.int i] ∧ Q (.int i) H) ∨ ∃ k, xs = [.bl k] ∧ Q (.int (if k then 1 else 0)) H) kG := by
  intro av s H vs ds c Q o r e q
  unfold kG at e
  split at e
  · cases e
    obtain ⟨v, rfl, r1⟩ := r.one
    exact .inl ⟨_, by rw [r1.bS], q.pure o (.int _)⟩
  · cases e
    obtain ⟨v, rfl, r1⟩ := r.one
    exact .inr ⟨_, by rw [r1.dA], q.pure o (.int _)⟩
  · cases e
theorem gK : CbS C (fun xs H Q => ∃ p ys, xs = [.ref p] ∧ ((SqL C.K H p ys ∧ ∀ l, H l = none → Q (.ref l) (upd H l (.tup ys))) ∨ (SqT C.K H p ys ∧ Q (.ref p) H))) e9 := by
  intro av s H vs ds c Q o r e q
  unfold e9 at e
  split at e
  · cases e
    obtain ⟨v, rfl, r1⟩ := r.one
    obtain ⟨p, ys, rfl, n, h1, r2⟩ := r1.b3
    exact ⟨p, ys, rfl, .inl ⟨SqL.of h1, fun l hl => q.qp o hl r2⟩⟩
  · cases e
    obtain ⟨v, rfl, r1⟩ := r.one
    obtain ⟨p, ys, rfl, h1, r2⟩ := r1.dm
    exact ⟨p, ys, rfl, .inr ⟨h1.sq, q.pure o r1⟩⟩
  · cases e
def tyD : D → Option String
  | .non => some "NoneType"
  | .bl _ => some "bool"
  | .int _ => some "int"
  | .str _ => some "str"
  | .lst _ => some "list"
  | .tup _ => some "tuple"
  | .dic _ _ => some "dict"
  | .obj _ _ _ => none
  | .exc _ _ _ => none
  | .drw => some "list"
  | .mob _ => none
  | .kdc _ _ => none
theorem j3 {av : Av} {s : DS} {H : Hp} {v : V} {d : D} {t : String} (o : At C av s H) (r : Rep C.K H av C.Γ v d) (e : tyD d = some t) : TyX C.K H v (.type t) := by
  cases r with
  | non => cases e; exact .base .non
  | bl b => cases e; exact .base (.bl b)
  | int b => cases e; exact .base (.int b)
  | str b => cases e; exact .base (.str b)
  | lst n h r => cases e; exact .base (.lst h)
  | tup t r =>
    cases e
    rcases t with ⟨_, h⟩ | ⟨ob, its, n, h1, h2, h3, h4, h5⟩
    · exact .base (.tup h)
    · exact .kTuple h1 h2
  | dic n h l r =>
    cases e
    rcases h with h | ⟨_, o, h⟩
    · exact .base (.dK h)
    · exact .fDict h
  | obj n q s l r => cases e
  | exc n n2 q s s2 l r => cases e
  | ex0 n q h => cases e
  | drw => cases e; exact .base (.lst o.wo.dr)
  | mob _ => cases e
  | kdc _ _ _ _ _ => cases e
def isF (T : String) (d : D) : Option D := (tyD d).bind fun t => (kitB t T).map .bl
theorem eI {W : WX} {T : String} {ta : TE} {ma : En → M D} (ha : SE C W ta ma) : SE C W (tCB (rIsi C.K) (tCons ta (tCons (tC (.ty T)) tNil))) (eUn (isF T) ma) := by
  intro av σ ρ s H r' s' Q o e q
  refine ha.bind o e q fun x s1 v H1 g1 o1 r1 e q => ?_
  obtain ⟨z, e3, rfl, rfl⟩ := aL e
  obtain ⟨t, e5, e6⟩ := cO e3
  obtain ⟨k, e7, rfl⟩ := eQ e6
  exact ⟨v, .ty T, .type t, .type T, k, rfl, .ty T, j3 o1.at_ r1 e5, kit_ty e7, q _ H1 .refl o1.wo (.bl k)⟩
end
end DM
set_option Elab.async false
set_option linter.all false
set_option maxRecDepth 100000
set_option maxHeartbeats 2000000
namespace DM
open PySem L2 Lay NdefX LamX
structure Far (av : Av) (H : Hp) (av2 : Av) (H2 : Hp) : Prop where
  nw : ∀ a, av2 a → av a ∨ H a = none
  sub : ∀ a, av a → av2 a
  kp : Kp av2 H H2
  al : ∀ a, av2 a → H2 a ≠ none
def ItOk (C : Cc) (av : Av) (J : It) (H : Hp) (ds : List D) : Prop := ∃ G Y, Walk J ds.length G Y ∧ ∀ av2 H2, Far av H av2 H2 → G H2 ∧
  ∀ i x H3, i < ds.length → Y i H2 x H3 → (H3 = H2 ∨ ∃ T o, H2 T = none ∧ H3 = upd H2 T o) ∧ ∃ d, ds[i]? = some d ∧ Rep C.K H3 av2 C.Γ x d
def rIt (C : Cc) : RG (List D) It := fun H av J ds => ItOk C av J H ds
abbrev SI (C : Cc) (W : WX) (wi : TI) (m : En → M (List D)) : Prop := SG C W (rIt C) wi m
def isL : D → Option (List D)
  | .lst xs => some xs
  | _ => none
def isT : D → Option (List D)
  | .tup xs => some xs
  | _ => none
def isS : D → Option (List D)
  | .str z => some (z.cps.toList.map fun c => .str ⟨#[c]⟩)
  | _ => none
def isR : List D → Option (List D)
  | [.int j] => if decide (-(2 ^ 62) ≤ j) && decide (j < 2 ^ 62) then some ((List.range j.toNat).map fun (i : Nat) => .int (0 + i)) else none
  | _ => none
def dU (n : Nat) : List D → List D
  | [] => []
  | d :: ds => .tup [.int (n : Int), d] :: dU (n + 1) ds
def isE : List D → Option (List D)
  | [.lst xs] => some (dU 0 xs)
  | _ => none
def iD (f : D → Option (List D)) (a : En → M D) : En → M (List D) := fun ρ s => bx (a ρ s) fun x s1 => ox (f x) s1
def iDs (f : List D → Option (List D)) (a : En → M (List D)) : En → M (List D) := fun ρ s => bx (a ρ s) fun x s1 => ox (f x) s1
theorem iu : ∀ (ds : List D) (n : Nat), (dU n ds).length = ds.length
  | [], _ => rfl
  | d :: ds, n => by simp [dU, iu ds]
theorem iw : ∀ (ds : List D) (n i : Nat) (d : D), ds[i]? = some d → (dU n ds)[i]? = some (.tup [.int ((n + i : Nat) : Int), d])
  | [], _, _, _, e => by simp at e
  | d0 :: ds, n, 0, d, e => by simp at e; subst e; simp [dU]
  | d0 :: ds, n, i + 1, d, e => by
    simp at e
    have := iw ds (n + 1) i d e
    simp only [dU, List.getElem?_cons_succ, this]
    congr 4
    omega
section
variable {C : Cc} {W : WX} {te : TE} {me : En → M D} {ta : TA} {ms : En → M (List D)}
theorem uA (he : SE C W te me) : SI C W (iList C.K te) (iD isL me) := by
  intro av σ ρ s H r s' R o e q
  refine he.bind o e q fun x s1 v H1 g1 o1 r1 e q => ?_
  obtain ⟨ds, e3, rfl, rfl⟩ := aL e
  cases x <;> simp [isL] at e3
  subst e3
  obtain ⟨a, vs, rfl, n, h1, r2⟩ := Rep.b3 r1
  refine ⟨a, rfl, ⟨vs, SqL.of h1⟩, q _ H1 .refl o1.wo ⟨_, _, by rw [← r2.len]; exact walk_list (xs := vs), fun av2 H2 f => ?_⟩⟩
  have h2 : H2 a = some (.lst vs) := f.kp a _ (fun z => by rcases f.nw a z with z | z; exact n z; rw [z] at h1; cases h1) h1
  refine ⟨SqL.of h2, fun i y H3 hi hy => ?_⟩
  obtain ⟨rfl, hy⟩ := hy
  obtain ⟨d, e1, e2⟩ := r2.lQ hy
  exact ⟨.inl rfl, d, e1, (e2.wd f.nw).kp f.kp⟩
theorem xo (he : SE C W te me) : SI C W (iTup C.K te) (iD isT me) := by
  intro av σ ρ s H r s' R o e q
  refine he.bind o e q fun x s1 v H1 g1 o1 r1 e q => ?_
  obtain ⟨ds, e3, rfl, rfl⟩ := aL e
  cases x <;> simp [isT] at e3
  subst e3
  obtain ⟨a, vs, rfl, h1, r2⟩ := Rep.dm r1
  refine ⟨a, rfl, ⟨vs, h1.sq⟩, q _ H1 .refl o1.wo ⟨_, _, by rw [← r2.len]; exact walk_tup (xs := vs), fun av2 H2 f => ?_⟩⟩
  refine ⟨((h1.wd f.nw).kp f.kp).sq, fun i y H3 hi hy => ?_⟩
  obtain ⟨rfl, hy⟩ := hy
  obtain ⟨d, e1, e2⟩ := r2.lQ hy
  exact ⟨.inl rfl, d, e1, (e2.wd f.nw).kp f.kp⟩
theorem xp (he : SE C W te me) : SI C W (iStr te) (iD isS me) := by
  intro av σ ρ s H r s' R o e q
  refine he.bind o e q fun x s1 v H1 g1 o1 r1 e q => ?_
  obtain ⟨ds, e3, rfl, rfl⟩ := aL e
  cases x <;> simp [isS] at e3
  rename_i z
  subst e3
  refine ⟨z, Rep.b9 r1, q _ H1 .refl o1.wo ⟨_, _, by simpa using walk_str (z := z), fun av2 H2 f => ⟨trivial, fun i y H3 hi hy => ?_⟩⟩⟩
  obtain ⟨rfl, c, hc, rfl⟩ := hy
  exact ⟨.inl rfl, .str ⟨#[c]⟩, by simp [hc], .str _⟩
theorem jn (he : SA C W ta ms) : SI C W (iRng1 ta) (iDs isR ms) := by
  intro av σ ρ s H r s' R o e q
  refine he.bind o e q fun x s1 v H1 g1 o1 r1 e q => ?_
  obtain ⟨ds, e3, rfl, rfl⟩ := aL e
  unfold isR at e3
  split at e3
  · split at e3
    · rename_i j hj
      simp only [Bool.and_eq_true, decide_eq_true_eq] at hj
      cases e3
      obtain ⟨v, rfl, r2⟩ := ah.one r1
      refine ⟨j, by rw [r2.bS], hj.1, hj.2, q _ H1 .refl o1.wo ⟨_, _, by rw [List.length_map, List.length_range]; exact walk_range (lo := 0) (n := j.toNat), fun av2 H2 f => ⟨trivial, fun i y H3 hi hy => ?_⟩⟩⟩
      obtain ⟨rfl, rfl⟩ := hy
      rw [List.length_map, List.length_range] at hi
      exact ⟨.inl rfl, .int (0 + i), by rw [List.getElem?_map, List.getElem?_range hi]; rfl, .int _⟩
    · cases e3
  · cases e3
theorem uB (he : SA C W ta ms) : SI C W (iEnum C.K ta) (iDs isE ms) := by
  intro av σ ρ s H r s' R o e q
  refine he.bind o e q fun x s1 v H1 g1 o1 r1 e q => ?_
  obtain ⟨ds, e3, rfl, rfl⟩ := aL e
  unfold isE at e3
  split at e3
  · rename_i xs
    cases e3
    obtain ⟨v, rfl, r2⟩ := ah.one r1
    obtain ⟨a, vs, rfl, n, h1, r2⟩ := r2.b3
    refine ⟨a, vs, rfl, SqL.of h1, q _ H1 .refl o1.wo ⟨_, _, by rw [iu, ← r2.len]; exact walk_enum (xs := vs), fun av2 H2 f => ?_⟩⟩
    have h2 : H2 a = some (.lst vs) := f.kp a _ (fun z => by rcases f.nw a z with z | z; exact n z; rw [z] at h1; cases h1) h1
    refine ⟨SqL.of h2, fun i y H3 hi hy => ?_⟩
    obtain ⟨T, u, w, rfl, hT, rfl, hu, hw⟩ := hy
    cases hu
    obtain ⟨d, e1, e2⟩ := r2.lQ hw
    have e3 := (e2.wd f.nw).kp f.kp
    refine ⟨.inr ⟨T, _, hT, rfl⟩, .tup [.int ((i : Nat) : Int), d], ?_, .tup (.inl ⟨fun z => f.al T z hT, upd_same⟩) (.cons (.int _) (.cons (e3.kp (.new hT)) .nil))⟩
    rw [iw xs 0 i d e1]
    simp
  · cases e3
def orI (w1 w2 : TI) : TI := fun σ H R => w1 σ H R ∨ w2 σ H R
theorem nT {X : Cx} {tg e : Expr} {w1 w2 : TI} (h1 : PI X tg e w1) (h2 : PI X tg e w2) : PI X tg e (orI w1 w2) := ⟨fun pins s σ H R I h => h.elim (h1.run pins s σ H R I) (h2.run pins s σ H R I)⟩
def orD (f g : D → Option (List D)) : D → Option (List D) := fun x => match f x with
  | some c => some c
  | none => g x
theorem wb {w1 w2 : TI} {f g : D → Option (List D)} (h1 : SI C W w1 (iD f me)) (h2 : SI C W w2 (iD g me)) : SI C W (orI w1 w2) (iD (orD f g) me) := by
  intro av σ ρ s H r s' R o e q
  unfold iD at e h1 h2
  cases z : me ρ s with
  | none => rw [z] at e; cases e
  | some p =>
    obtain ⟨x, s1⟩ := p
    rw [z] at e
    cases x with
    | error x => exact .inl (h1 av σ ρ s H r s' R o (by show bx (me ρ s) _ = _; rw [z]; exact e) q)
    | ok x =>
      obtain ⟨ds, e3, rfl, rfl⟩ := aL e
      unfold orD at e3
      split at e3
      · rename_i c hc
        cases e3
        exact .inl (h1 av σ ρ s H _ _ R o (by show bx (me ρ s) _ = _; rw [z]; show ox (f x) _ = _; rw [hc]; rfl) q)
      · exact .inr (h2 av σ ρ s H _ _ R o (by show bx (me ρ s) _ = _; rw [z]; show ox (g x) _ = _; rw [e3]; rfl) q)
end
inductive Tgt where
  | one (i : Nat)
  | many (ts : List Tgt)
  | unl (is : List Nat)
mutual
def Tgt.slots : Tgt → List Nat
  | .one i => [i]
  | .many ts => dq ts
  | .unl is => is
def dq : List Tgt → List Nat
  | [] => []
  | t :: ts => t.slots ++ dq ts
end
mutual
def flat : Tgt → D → Option (List D)
  | .one _, d => some [d]
  | .many ts, .tup ds => fD ts ds
  | .unl is, .lst ds => if ds.length = is.length then some ds else none
  | _, _ => none
def fD : List Tgt → List D → Option (List D)
  | [], [] => some []
  | t :: ts, d :: ds => (flat t d).bind fun a => (fD ts ds).map fun b => a ++ b
  | _, _ => none
end
def setM {α : Type} : List Nat → List α → List α → List α
  | i :: is, d :: ds, ρ => setM is ds (ρ.set i d)
  | _, _, ρ => ρ
def vals (ds : List D) : En := ds.map Sl.val
def Tgt.set (t : Tgt) (ρ : En) (d : D) : Option En := (flat t d).map fun ds => setM t.slots (vals ds) ρ
def gsU : List Nat → TGs
  | [] => gNil
  | i :: is => gCons (gName i) (gsU is)
mutual
def gOf (K : PySem.W.Frag) : Tgt → TG
  | .one i => gName i
  | .many ts => gTup K ts.length (uC K ts)
  | .unl is => gUnl K is.length (gsU is)
def uC (K : PySem.W.Frag) : List Tgt → TGs
  | [] => gNil
  | t :: ts => gCons (gOf K t) (uC K ts)
end
theorem eS {α : Type} : ∀ (is : List Nat) (ds ρ : List α), (setM is ds ρ).length = ρ.length
  | [], _, ρ => by simp [setM]
  | i :: is, [], ρ => by simp [setM]
  | i :: is, d :: ds, ρ => by simp [setM, eS is]
theorem jo {α : Type} : ∀ (is js : List Nat) (a b ρ : List α), a.length = is.length → setM (is ++ js) (a ++ b) ρ = setM js b (setM is a ρ)
  | [], js, [], b, ρ, _ => rfl
  | [], js, _ :: _, b, ρ, h => by simp at h
  | i :: is, js, [], b, ρ, h => by simp at h
  | i :: is, js, x :: a, b, ρ, h => by
    simp only [List.cons_append, setM]
    exact jo is js a b _ (by simpa using h)
theorem pw : ∀ {is : List Nat} {vs : List V} {σ : L2.St} {H : Hp} {Q : L2.St → Hp → Prop}, vs.length = is.length → Q (setM is (vs.map some) σ) H → gsU is vs σ H Q
  | [], [], σ, H, Q, _, q => ⟨rfl, q⟩
  | [], _ :: _, σ, H, Q, h, q => by simp at h
  | i :: is, [], σ, H, Q, h, q => by simp at h
  | i :: is, v :: vs, σ, H, Q, h, q => ⟨v, vs, rfl, pw (by simpa using h) q⟩
section
variable {C : Cc}
mutual
theorem px {H : Hp} {av : Av} : ∀ (tg : Tgt) {v : V} {d : D} {ds : List D}, Rep C.K H av C.Γ v d → flat tg d = some ds → ∃ vs, ah C.K H av C.Γ vs ds ∧ vs.length = tg.slots.length ∧ ∀ (σ : L2.St) (Q : L2.St → Hp → Prop), Q (setM tg.slots (vs.map some) σ) H → gOf C.K tg v σ H Q
  | .one i, v, d, ds, r, e => by
    cases e
    exact ⟨[v], .cons r .nil, rfl, fun σ Q q => q⟩
  | .many ts, v, d, ds, r, e => by
    cases d <;> simp [flat] at e
    rename_i xs
    obtain ⟨a, vs, rfl, h1, r1⟩ := r.dm
    obtain ⟨ws, h2, h3, h4, h5⟩ := lT ts r1 e
    refine ⟨ws, h2, by simpa [Tgt.slots] using h3, fun σ Q q => ?_⟩
    unfold gOf
    exact ⟨a, vs, rfl, h1.sq, h4, h5 σ Q (by simpa [Tgt.slots] using q)⟩
  | .unl is, v, d, ds, r, e => by
    cases d <;> simp [flat] at e
    obtain ⟨e1, rfl⟩ := e
    obtain ⟨a, vs, rfl, n, h1, r1⟩ := r.b3
    have hvl : vs.length = is.length := by rw [r1.len, e1]
    refine ⟨vs, r1, by simpa [Tgt.slots] using hvl, fun σ Q q => ?_⟩
    unfold gOf
    exact ⟨a, vs, rfl, SqL.of h1, hvl, pw hvl (by simpa [Tgt.slots] using q)⟩
theorem lT {H : Hp} {av : Av} : ∀ (ts : List Tgt) {us : List V} {xs ds : List D}, ah C.K H av C.Γ us xs → fD ts xs = some ds → ∃ vs, ah C.K H av C.Γ vs ds ∧ vs.length = (dq ts).length ∧ us.length = ts.length ∧ ∀ (σ : L2.St) (Q : L2.St → Hp → Prop), Q (setM (dq ts) (vs.map some) σ) H → uC C.K ts us σ H Q
  | [], us, xs, ds, r, e => by
    cases xs <;> simp [fD] at e
    subst e
    cases r
    exact ⟨[], .nil, rfl, rfl, fun σ Q q => ⟨rfl, q⟩⟩
  | t :: ts, us, xs, ds, r, e => by
    cases xs with
    | nil => simp [fD] at e
    | cons x xs =>
      cases r with
      | @cons u us _ _ a r =>
        simp only [fD, Option.bind_eq_some_iff, Option.map_eq_some_iff] at e
        obtain ⟨b, e1, c, e2, rfl⟩ := e
        obtain ⟨v1, h1, h2, h3⟩ := px t a e1
        obtain ⟨v2, k1, k2, k3, k4⟩ := lT ts r e2
        refine ⟨v1 ++ v2, h1.append k1, by simp [dq, h2, k2], by simp [k3], fun σ Q q => ?_⟩
        unfold uC
        refine ⟨u, us, rfl, h3 σ _ (k4 _ Q ?_)⟩
        rw [dq, List.map_append, jo _ _ _ _ _ (by rw [List.length_map, h2])] at q
        exact q
end
theorem aI.set {H : Hp} {av : Av} {σ : L2.St} {ρ : En} {v : V} {d : D} (hl : σ.length = ρ.length) (h : aI C H av σ ρ) (r : Rep C.K H av C.Γ v d) (i : Nat) : aI C H av (σ.set i (some v)) (ρ.set i (.val d)) := by
  refine ⟨fun j e hj => ?_, fun j k hj => ?_, fun j k hj => ?_⟩
  · by_cases hji : i = j
    · subst hji
      by_cases hi : i < ρ.length
      · rw [List.getElem?_set_self hi] at hj
        cases hj
        exact ⟨v, by rw [List.getElem?_set_self (by rw [hl]; exact hi)], r⟩
      · rw [List.getElem?_eq_none (by simpa using hi)] at hj
        cases hj
    · rw [List.getElem?_set_ne hji] at hj ⊢
      exact h.val j e hj
  · by_cases hji : i = j
    · subst hji
      by_cases hi : i < ρ.length
      · rw [List.getElem?_set_self hi] at hj
        cases hj
      · rw [List.getElem?_eq_none (by simpa using hi)] at hj
        cases hj
    · rw [List.getElem?_set_ne hji] at hj ⊢
      exact h.lam j k hj
  · by_cases hji : i = j
    · subst hji
      by_cases hi : i < ρ.length
      · rw [List.getElem?_set_self hi] at hj
        cases hj
      · rw [List.getElem?_eq_none (by simpa using hi)] at hj
        cases hj
    · rw [List.getElem?_set_ne hji] at hj ⊢
      exact h.new j k hj
theorem aI.setM {H : Hp} {av : Av} : ∀ {is : List Nat} {vs : List V} {ds : List D} {σ : L2.St} {ρ : En}, σ.length = ρ.length → aI C H av σ ρ → ah C.K H av C.Γ vs ds → aI C H av (DM.setM is (vs.map some) σ) (DM.setM is (vals ds) ρ)
  | [], vs, ds, σ, ρ, hl, h, r => by simpa [DM.setM] using h
  | i :: is, _, [], σ, ρ, hl, h, r => by cases r; simpa [DM.setM, vals] using h
  | i :: is, _, d :: ds, σ, ρ, hl, h, r => by
    cases r with
    | cons a r => exact aI.setM (is := is) (by simp [hl]) (h.set hl a i) r
end
end DM
set_option Elab.async false
set_option linter.all false
set_option maxRecDepth 100000
set_option maxHeartbeats 2000000
namespace DM
open PySem L2 Lay NdefX LamX
theorem fE (σ : L2.St) : ∀ (vs : List Nat) (i : Nat), (wipe σ vs)[i]? = if i ∈ vs then (if i < σ.length then some none else none) else σ[i]?
  | [], i => by simp [wipe]
  | v :: vs, i => by
    unfold wipe
    by_cases h : v = i
    · subst h
      rw [if_pos (by simp)]
      by_cases hv : v < σ.length
      · rw [List.getElem?_set_self (by rw [wipe_length]; exact hv), if_pos hv]
      · rw [List.getElem?_eq_none (by simp only [List.length_set, wipe_length]; omega), if_neg hv]
    · rw [List.getElem?_set_ne h, fE σ vs i]
      have h' : ¬ i = v := fun e => h e.symm
      simp [h']
theorem lU {α : Type} : ∀ (is : List Nat) (ds ρ : List α) (i : Nat), i ∉ is → (setM is ds ρ)[i]? = ρ[i]?
  | [], _, ρ, i, _ => by simp [setM]
  | j :: is, [], ρ, i, _ => by simp [setM]
  | j :: is, d :: ds, ρ, i, h => by
    simp only [List.mem_cons, not_or] at h
    unfold setM
    rw [lU is ds _ i h.2, List.getElem?_set_ne (fun e => h.1 e.symm)]
theorem iy (σ : L2.St) (is : List Nat) (vs : List (Option V)) : wipe (setM is vs (wipe σ is)) is = wipe σ is := by
  apply List.ext_getElem?
  intro i
  rw [fE, fE]
  by_cases h : i ∈ is
  · rw [if_pos h, if_pos h, eS, wipe_length]
  · rw [if_neg h, if_neg h, lU is vs _ i h, fE, if_neg h]
def cJ (ρ : En) : List Nat → En
  | [] => ρ
  | v :: vs => (cJ ρ vs).set v .no
theorem dD (ρ : En) : ∀ vs : List Nat, (cJ ρ vs).length = ρ.length
  | [] => rfl
  | v :: vs => by unfold cJ; rw [List.length_set, dD ρ vs]
theorem j4 (σ : En) : ∀ (vs : List Nat) (i : Nat), (cJ σ vs)[i]? = if i ∈ vs then (if i < σ.length then some .no else none) else σ[i]?
  | [], i => by simp [cJ]
  | v :: vs, i => by
    unfold cJ
    by_cases h : v = i
    · subst h
      rw [if_pos (by simp)]
      by_cases hv : v < σ.length
      · rw [List.getElem?_set_self (by rw [dD]; exact hv), if_pos hv]
      · rw [List.getElem?_eq_none (by simp only [List.length_set, dD]; omega), if_neg hv]
    · rw [List.getElem?_set_ne h, j4 σ vs i]
      have h' : ¬ i = v := fun e => h e.symm
      simp [h']
theorem aI.wipe {C : Cc} {H : Hp} {av : Av} {σ : L2.St} {ρ : En} (h : aI C H av σ ρ) (is : List Nat) : aI C H av (L2.wipe σ is) (cJ ρ is) := by
  refine ⟨fun i d e => ?_, fun i d e => ?_, fun i d e => ?_⟩
  all_goals
    rw [j4] at e
    by_cases hm : i ∈ is
    · rw [if_pos hm] at e
      split at e <;> cases e
    · rw [if_neg hm] at e
      rw [fE, if_neg hm]
      first | exact h.val i d e | exact h.lam i d e | exact h.new i d e
/-- one target: the slots behind it -/
theorem ja {C : Cc} {tg : Tgt} {H : Hp} {av : Av} {v : V} {d : D} {σ : L2.St} {ρ ρ' : En} {Q : L2.St → Hp → Prop} (r : Rep C.K H av C.Γ v d) (hl : σ.length = ρ.length) (h : aI C H av σ ρ) (e : tg.set ρ d = some ρ')
    (q : ∀ vs ds, vs.length = tg.slots.length → ah C.K H av C.Γ vs ds → ρ' = DM.setM tg.slots (vals ds) ρ → σ.length = ρ'.length → aI C H av (DM.setM tg.slots (vs.map some) σ) ρ' → Q (DM.setM tg.slots (vs.map some) σ) H) : gOf C.K tg v σ H Q := by
  unfold Tgt.set at e
  obtain ⟨ds, e1, rfl⟩ := eQ e
  obtain ⟨vs, h1, h2, h3⟩ := px tg r e1
  exact h3 σ Q (q vs ds h2 h1 rfl (by rw [eS, hl]) (h.setM hl h1))
/-- no error -/
def okx {α β : Type} (x : Option (Except Xn α × DS)) (f : α → DS → Option β) : Option β := match x with
  | some (.ok a, s) => f a s
  | _ => none
theorem gL {α β : Type} {x : Option (Except Xn α × DS)} {f : α → DS → Option β} {z : β} (h : okx x f = some z) : ∃ a s, x = some (.ok a, s) ∧ f a s = some z := by
  unfold okx at h
  split at h
  · exact ⟨_, _, rfl, h⟩
  · cases h
def c8 (tg : Tgt) (tt : En → M Bool) (te : En → M D) (ρ : En) : List D → M (List D)
  | [], s => some (.ok [], s)
  | d :: ds, s => (tg.set ρ d).bind fun ρ1 => bx (tt ρ1 s) fun b s1 => if b = true then bx (te ρ1 s1) fun y s2 => bx (c8 tg tt te ρ ds s2) fun r s3 => some (.ok (y :: r), s3) else c8 tg tt te ρ ds s1
/-- behind the walk: a list, or an error out of it -/
def lcR (n : Nat) (x : Option (Except Xn (List D) × DS)) : Option (Except Xn D × DS) := match x with
  | none => none
  | some (.error e, s) => if n ≤ line then some (.error e, s) else none
  | some (.ok y, s) => ox (mkL y) s
def eLc (tg : Tgt) (mi : En → M (List D)) (tt : En → M Bool) (te : En → M D) : En → M D := fun ρ s => bx (mi ρ s) fun x s1 => lcR x.length (c8 tg tt te (cJ ρ tg.slots) x s1)
def wF : WX := fun _ _ _ _ => False
end DM
set_option Elab.async false
set_option linter.all false
set_option maxRecDepth 100000
set_option maxHeartbeats 2000000
namespace DM
open PySem L2 Lay NdefX LamX XK
def avO (ae : Av) (os : List Addr) : Av := fun a => ae a ∨ a ∈ os
theorem uD {w : World} {a c : Addr} {es : List Ent} {q : Str} : KxO w a es ≠ CodeO c q := fun z => by
  let oc : Obj := { cls := .none, data := .fields #[.none, .str q 0] }
  let h : Heap := { objs := Array.replicate (a + c + 1) oc }
  have hg : ∀ b, b < a + c + 1 → h.get? b = some oc := fun b hb => by
    have : h.objs[b]? = some oc := by
      show (Array.replicate (a + c + 1) oc)[b]? = some oc
      simp [hb]
    unfold Heap.get?
    rw [this]
  have e : (HO.ext (Has w a es)) = HO.ext _ := z
  injection e with e
  have : Has w a es h := by
    rw [e]
    exact ⟨oc, _, 0, hg c (Nat.lt_succ_of_le (Nat.le_add_left _ _)), rfl, rfl⟩
  obtain ⟨_, us, _, o, ds, ep, ho, _, hd, _⟩ := this
  rw [hg a (Nat.lt_succ_of_le (Nat.le_add_right _ _))] at ho
  cases ho
  cases hd
def bJ (C : Cc) (H : Hp) (av : Av) (p : Addr) : D → Prop
  | .lst ds => ∃ vs, H p = some (.lst vs) ∧ ah C.K H av C.Γ vs ds
  | .dic ks ds => ∃ vs, H p = some (.dK (cT ks vs)) ∧ ks.length = ds.length ∧ ah C.K H av C.Γ vs ds
  | .kdc ks ds => ∃ es, H p = some (KxO C.Γ.wd p es) ∧ dC ks = some (es.map (·.1)) ∧ (∀ q ∈ es, q.1.depth ≤ 8) ∧ ah C.K H av C.Γ (es.map fun q => V.ref q.2.1) ks ∧ ah C.K H av C.Γ (es.map (·.2.2)) ds
  | _ => False
theorem bJ.move {C : Cc} {H H' : Hp} {av av2 : Av} {p : Addr} {d : D} (h : bJ C H av p d) (e : ∀ o, H p = some o → H' p = some o) (f : ∀ vs ds, ah C.K H av C.Γ vs ds → ah C.K H' av2 C.Γ vs ds) : bJ C H' av2 p d := by
  cases d <;> first | exact h.elim | skip
  · obtain ⟨vs, h1, h2⟩ := h
    exact ⟨vs, e _ h1, f _ _ h2⟩
  · obtain ⟨vs, h1, h2, h3⟩ := h
    exact ⟨vs, e _ h1, h2, f _ _ h3⟩
  · obtain ⟨es, h1, h2, h3, h4, h5⟩ := h
    exact ⟨es, e _ h1, h2, h3, f _ _ h4, f _ _ h5⟩
theorem bJ.rep {C : Cc} {H : Hp} {av : Av} {p : Addr} {d : D} (h : bJ C H av p d) (n : ¬ av p) : Rep C.K H av C.Γ (.ref p) d := by
  cases d <;> first | exact h.elim | skip
  · obtain ⟨vs, h1, h2⟩ := h
    exact .lst n h1 h2
  · obtain ⟨vs, h1, h2, h3⟩ := h
    exact .dic n (.inl h1) h2 h3
  · obtain ⟨es, h1, h2, h3, h4, h5⟩ := h
    exact .kdc n h1 h2 h3 h4 h5
theorem bJ.some {C : Cc} {H : Hp} {av : Av} {p : Addr} {d : D} (h : bJ C H av p d) : H p ≠ none := by
  cases d <;> first | exact h.elim | skip
  · obtain ⟨vs, h1, h2⟩ := h
    rw [h1]; simp
  · obtain ⟨vs, h1, h2, h3⟩ := h
    rw [h1]; simp
  · obtain ⟨es, h1, h2⟩ := h
    rw [h1]; simp
theorem bJ.kJ {C : Cc} {H : Hp} {av : Av} {p : Addr} {d : D} (h : bJ C H av p d) : ∃ o, H p = Option.some o ∧ ∀ c q, o ≠ CodeO c q := by
  cases d <;> first | exact h.elim | skip
  · obtain ⟨vs, h1, h2⟩ := h
    exact ⟨_, h1, fun _ _ z => by cases z⟩
  · obtain ⟨vs, h1, h2, h3⟩ := h
    exact ⟨_, h1, fun _ _ z => by cases z⟩
  · obtain ⟨es, h1, h2⟩ := h
    exact ⟨_, h1, fun _ _ z => uD z⟩
mutual
inductive OT (C : Cc) (H : Hp) (av : Av) : List Addr → V → OD → Prop
  | val {v : V} {d : D} : Rep C.K H av C.Γ v d → OT C H av [] v (.val d)
  | lst {a : Addr} {vs : List V} {S : List Addr} {xs : List OD} : H a = some (.lst vs) → OTs C H av S vs xs → OT C H av (a :: S) (.ref a) (.lst xs)
  | tup {a : Addr} {vs : List V} {S : List Addr} {xs : List OD} : TupAt C.K H av a vs → OTs C H av S vs xs → OT C H av S (.ref a) (.tup xs)
  | dic {a : Addr} {ks : List Str} {vs : List V} {S : List Addr} {xs : List OD} : H a = some (.dK (cT ks vs)) → ks.length = xs.length → OTs C H av S vs xs → OT C H av (a :: S) (.ref a) (.dic ks xs)
  | kdc {a : Addr} {es : List Ent} {ks : List D} {S : List Addr} {xs : List OD} : H a = some (KxO C.Γ.wd a es) → dC ks = some (es.map (·.1)) → (∀ p ∈ es, p.1.depth ≤ 8) → ah C.K H av C.Γ (es.map fun p => V.ref p.2.1) ks → OTs C H av S (es.map (·.2.2)) xs → OT C H av (a :: S) (.ref a) (.kdc ks xs)
inductive OTs (C : Cc) (H : Hp) (av : Av) : List Addr → List V → List OD → Prop
  | nil : OTs C H av [] [] []
  | cons {S S' : List Addr} {v : V} {vs : List V} {o : OD} {xs : List OD} : OT C H av S v o → OTs C H av S' vs xs → OTs C H av (S ++ S') (v :: vs) (o :: xs)
end
section
variable {C C' : Cc} {H H' : Hp} {av av2 : Av}
mutual
theorem OT.gk (hw : C'.Γ.wd = C.Γ.wd) (f : ∀ vs ds, ah C.K H av C.Γ vs ds → ah C'.K H' av2 C'.Γ vs ds) (g : ∀ a vs, TupAt C.K H av a vs → TupAt C'.K H' av2 a vs) : ∀ (o : OD) (S : List Addr) (v : V), (∀ q ∈ S, ∀ ob, H q = some ob → H' q = some ob) → OT C H av S v o → OT C' H' av2 S v o
  | .val d, _, _, e, h => by
    cases h with
    | val r => exact .val (by cases f _ _ (ah.cons r .nil) with | cons a _ => exact a)
  | .lst xs, _, _, e, h => by
    cases h with
    | lst s r => exact .lst (e _ List.mem_cons_self _ s) (OTs.gk hw f g xs _ _ (fun q hq => e q (List.mem_cons_of_mem _ hq)) r)
  | .tup xs, _, _, e, h => by
    cases h with
    | tup t r => exact .tup (g _ _ t) (OTs.gk hw f g xs _ _ e r)
  | .dic ks xs, _, _, e, h => by
    cases h with
    | dic s l r => exact .dic (e _ List.mem_cons_self _ s) l (OTs.gk hw f g xs _ _ (fun q hq => e q (List.mem_cons_of_mem _ hq)) r)
  | .kdc ks xs, _, _, e, h => by
    cases h with
    | kdc s k dp rk r => exact .kdc (by rw [hw]; exact e _ List.mem_cons_self _ s) k dp (f _ _ rk) (OTs.gk hw f g xs _ _ (fun q hq => e q (List.mem_cons_of_mem _ hq)) r)
theorem OTs.gk (hw : C'.Γ.wd = C.Γ.wd) (f : ∀ vs ds, ah C.K H av C.Γ vs ds → ah C'.K H' av2 C'.Γ vs ds) (g : ∀ a vs, TupAt C.K H av a vs → TupAt C'.K H' av2 a vs) : ∀ (xs : List OD) (S : List Addr) (vs : List V), (∀ q ∈ S, ∀ ob, H q = some ob → H' q = some ob) → OTs C H av S vs xs → OTs C' H' av2 S vs xs
  | [], _, _, e, h => by
    cases h
    exact .nil
  | x :: xs, _, _, e, h => by
    cases h with
    | cons a r => exact .cons (OT.gk hw f g x _ _ (fun q hq => e q (List.mem_append_left _ hq)) a) (OTs.gk hw f g xs _ _ (fun q hq => e q (List.mem_append_right _ hq)) r)
end
theorem OT.move {o : OD} {S : List Addr} {v : V} (h : OT C H av S v o) (hw : C'.Γ.wd = C.Γ.wd) (f : ∀ vs ds, ah C.K H av C.Γ vs ds → ah C'.K H' av2 C'.Γ vs ds) (g : ∀ a vs, TupAt C.K H av a vs → TupAt C'.K H' av2 a vs) (e : ∀ q ∈ S, ∀ ob, H q = some ob → H' q = some ob) : OT C' H' av2 S v o := OT.gk hw f g o S v e h
/-- as it was, fewer or other objects to be kept clear of -/
theorem OT.kw {o : OD} {S : List Addr} {v : V} (h : OT C H av S v o) (k : Kp av H H') (w : ∀ a, av2 a → av a ∨ H' a = none) (e : ∀ q ∈ S, ∀ ob, H q = some ob → H' q = some ob) : OT C H' av2 S v o := h.move rfl (fun vs ds r => (r.kp k).wd w) (fun a vs t => (t.kp k).wd w) e
/-- as it was, before something new stood -/
theorem OT.wk {o : OD} {S : List Addr} {v : V} (h : OT C H av S v o) (w : ∀ a, av2 a → av a ∨ H a = none) (k : Kp av2 H H') (e : ∀ q ∈ S, ∀ ob, H q = some ob → H' q = some ob) : OT C H' av2 S v o := h.move rfl (fun vs ds r => (r.wd w).kp k) (fun a vs t => (t.wd w).kp k) e
end
theorem aO {ρ : En} {i j : Nat} {sl sl' : Sl} (h : (ρ.set i sl)[j]? = some sl') (n : sl ≠ sl') : i ≠ j ∧ ρ[j]? = some sl' := by
  by_cases hji : i = j
  · subst hji
    by_cases hi : i < ρ.length
    · rw [List.getElem?_set_self hi] at h
      exact absurd (Option.some.inj h) n
    · rw [List.getElem?_eq_none (by simpa using hi)] at h
      cases h
  · rw [List.getElem?_set_ne hji] at h
    exact ⟨hji, h⟩
/-- slots of what is new, and of a tree of one's own -/
structure TX (C : Cc) (E0 : Hp) (ae : Av) (os : List Addr) (σ : L2.St) (ρ : En) (H : Hp) : Prop where
  nws : ∀ (i : Nat) (d : D) (p : Addr), ρ[i]? = some (Sl.new d) → σ[i]? = some (some (.ref p)) → E0 p = none
  tre : ∀ (i : Nat) (o : OD), ρ[i]? = some (Sl.tre o) → ∃ v S, σ[i]? = some (some v) ∧ OT C H (avO ae os) S v o ∧ (∀ q ∈ S, q ∈ os) ∧ S.Nodup ∧ ∀ (j : Nat) (d : D) (p : Addr), ρ[j]? = some (Sl.own d) → σ[j]? = some (some (.ref p)) → p ∉ S
  tr1 : ∀ (i j : Nat) (o o' : OD), ρ[i]? = some (Sl.tre o) → ρ[j]? = some (Sl.tre o') → i = j
theorem TX.gen {C C' : Cc} {E0 E0' : Hp} {ae ae' : Av} {os os' : List Addr} {σ σ' : L2.St} {ρ ρ' : En} {H H' : Hp} (x : TX C E0 ae os σ ρ H)
    (hn : ∀ (i : Nat) (d : D), ρ'[i]? = some (Sl.new d) → ρ[i]? = some (Sl.new d) ∧ σ'[i]? = σ[i]?) (he : ∀ p, E0 p = none → E0' p = none)
    (ht : ∀ (i : Nat) (o : OD), ρ'[i]? = some (Sl.tre o) → ρ[i]? = some (Sl.tre o) ∧ σ'[i]? = σ[i]?)
    (ho : ∀ (j : Nat) (d : D) (p : Addr), ρ'[j]? = some (Sl.own d) → σ'[j]? = some (some (.ref p)) → (∃ d', ρ[j]? = some (Sl.own d') ∧ σ[j]? = some (some (.ref p))) ∨ p ∉ os)
    (hm : ∀ S v o, (∀ q ∈ S, q ∈ os) → (∀ (j : Nat) (d : D) (p : Addr), ρ[j]? = some (Sl.own d) → σ[j]? = some (some (.ref p)) → p ∉ S) → OT C H (avO ae os) S v o → OT C' H' (avO ae' os') S v o ∧ ∀ q ∈ S, q ∈ os') : TX C' E0' ae' os' σ' ρ' H' := by
  refine ⟨fun i d p h1 h2 => ?_, fun i o h1 => ?_, fun i j o o' h1 h2 => x.tr1 i j o o' (ht i o h1).1 (ht j o' h2).1⟩
  · obtain ⟨g1, g2⟩ := hn i d h1
    exact he p (x.nws i d p g1 (by rw [← g2]; exact h2))
  · obtain ⟨g1, g2⟩ := ht i o h1
    obtain ⟨v, S, a1, a2, a3, a4, a5⟩ := x.tre i o g1
    obtain ⟨b1, b2⟩ := hm S v o a3 a5 a2
    refine ⟨v, S, by rw [g2]; exact a1, b1, b2, a4, fun j d p c1 c2 => ?_⟩
    rcases ho j d p c1 c2 with ⟨d', e1, e2⟩ | e
    · exact a5 j d' p e1 e2
    · exact fun z => e (a3 p z)
theorem TX.none {C : Cc} {E0 : Hp} {ae : Av} {os : List Addr} {σ : L2.St} {ρ : En} {H : Hp} (h1 : ∀ (i : Nat) (d : D), ρ[i]? ≠ some (Sl.new d)) (h2 : ∀ (i : Nat) (o : OD), ρ[i]? ≠ some (Sl.tre o)) : TX C E0 ae os σ ρ H :=
  ⟨fun i d p e => absurd e (h1 i d), fun i o e => absurd e (h2 i o), fun i j o o' e => absurd e (h2 i o)⟩
/-- a slot that is no value -/
theorem aI.off {C : Cc} {H : Hp} {av : Av} {σ σ' : L2.St} {ρ : En} {sl : Sl} (h : aI C H av σ ρ) (i : Nat) (hv : ∀ d, sl ≠ .val d) (hm : ∀ k, sl ≠ .lam k) (hn : ∀ d, sl ≠ .new d) (hσ : ∀ j : Nat, i ≠ j → σ'[j]? = σ[j]?) : aI C H av σ' (ρ.set i sl) := by
  refine ⟨fun j d hj => ?_, fun j d hj => ?_, fun j d hj => ?_⟩
  all_goals
    by_cases hji : i = j
    · subst hji
      by_cases hi : i < ρ.length
      · rw [List.getElem?_set_self hi] at hj
        first | exact absurd (Option.some.inj hj) (hv _) | exact absurd (Option.some.inj hj) (hm _) | exact absurd (Option.some.inj hj) (hn _)
      · rw [List.getElem?_eq_none (by simpa using hi)] at hj
        cases hj
    · rw [List.getElem?_set_ne hji] at hj
      rw [hσ j hji]
      first | exact h.val j d hj | exact h.lam j d hj | exact h.new j d hj
structure Ok (C : Cc) (E0 : Hp) (ae : Av) (os : List Addr) (σ : L2.St) (ρ : En) (s : DS) (H : Hp) : Prop where
  go : Go C.Γ E0 H
  len : σ.length = ρ.length
  wo : Wo C.K C.Γ (avO ae os) H s
  ad : ∀ a, C.Γ.ch a → ae a
  al : ∀ a, ae a → E0 a ≠ none
  ow : ∀ p ∈ os, E0 p = none ∧ H p ≠ none
  nc : ∀ a, avO ae os a → ∀ c q, H a ≠ some (CodeO c q)
  sl : aI C H (avO ae os) σ ρ
  own : ∀ (i : Nat) (d : D), ρ[i]? = some (Sl.own d) → ∃ p, σ[i]? = some (some (.ref p)) ∧ p ∈ os ∧ bJ C H (avO ae os) p d
  dis : ∀ (i j : Nat) (d e : D) (p : Addr), i ≠ j → ρ[i]? = some (Sl.own d) → ρ[j]? = some (Sl.own e) → σ[i]? = some (some (.ref p)) → σ[j]? ≠ some (some (.ref p))
  tx : TX C E0 ae os σ ρ H
structure Fr (ae : Av) (os : List Addr) (H : Hp) (os' : List Addr) (H' : Hp) : Prop where
  kp : Kp (avO ae os) H H'
  nw : ∀ p ∈ os', p ∈ os ∨ H p = none
  lv : Lv H H'
theorem Fr.refl {ae : Av} {os : List Addr} {H : Hp} : Fr ae os H os H := ⟨.refl, fun _ h => .inl h, .refl⟩
theorem Fr.trans {ae : Av} {os os1 os2 : List Addr} {H H1 H2 : Hp} (a : Fr ae os H os1 H1) (b : Fr ae os1 H1 os2 H2) : Fr ae os H os2 H2 := by
  refine ⟨fun x o n h => b.kp x o (fun z => ?_) (a.kp x o n h), fun p hp => ?_, a.lv.trans b.lv⟩
  · rcases z with z | z
    · exact n (.inl z)
    · rcases a.nw x z with z | z
      · exact n (.inr z)
      · rw [z] at h; cases h
  · rcases b.nw p hp with z | z
    · exact a.nw p z
    · exact .inr (by
        cases e : H p with
        | none => rfl
        | some o => exact absurd z (a.lv p (by rw [e]; simp)))
section
variable {C : Cc} {E0 : Hp} {ae : Av} {os : List Addr} {σ : L2.St} {ρ : En} {s s' : DS} {H H' : Hp}
theorem Go.fr (g : Go C.Γ H H') (ad : ∀ a, C.Γ.ch a → ae a) : Fr ae os H os H' := ⟨g.kp.mono fun a z => .inl (ad a z), fun _ h => .inl h, g.lv⟩
theorem Ok.toE (o : Ok C E0 ae os σ ρ s H) : OkE C (avO ae os) σ ρ s H :=
  ⟨o.len, o.wo, fun a z => .inl (o.ad a z), fun a z => by rcases z with z | z; exact o.go.lv a (o.al a z); exact (o.ow a z).2, o.nc, o.sl⟩
theorem Ok.kK (o : Ok C E0 ae os σ ρ s H) {p : Addr} (h : p ∈ os) : ¬ C.Γ.ch p := fun e => o.al p (o.ad p e) (o.ow p h).1
theorem Ok.xq (o : Ok C E0 ae os σ ρ s H) {p : Addr} (h : p ∈ os) : ¬ ae p := fun e => o.al p e (o.ow p h).1
theorem Ok.step (o : Ok C E0 ae os σ ρ s H) (g : Go C.Γ H H') (d : Wo C.K C.Γ (avO ae os) H' s') : Ok C E0 ae os σ ρ s' H' :=
  have k : Kp (avO ae os) H H' := g.kp.mono fun a z => .inl (o.ad a z)
  ⟨o.go.trans g, o.len, d, o.ad, o.al, fun p h => ⟨(o.ow p h).1, g.lv p (o.ow p h).2⟩, fun a z => g.nc d (o.toE.al a z) (o.nc a z), o.sl.kp k, fun i x e => by
    obtain ⟨p, h1, h2, h3⟩ := o.own i x e
    exact ⟨p, h1, h2, h3.move (fun ob z => g.kp p ob (o.kK h2) z) fun vs ds r => r.kp k⟩, o.dis, o.tx.gen (fun _ _ h => ⟨h, rfl⟩) (fun _ h => h) (fun _ _ h => ⟨h, rfl⟩) (fun j d p h1 h2 => .inl ⟨d, h1, h2⟩) fun S v x hS _ h => ⟨h.kw k (fun _ z => .inl z) fun q hq ob z => g.kp q ob (o.kK (hS q hq)) z, hS⟩⟩
/-- a slot set to a value -/
theorem Ok.rJ {v : V} {d : D} (o : Ok C E0 ae os σ ρ s H) (r : Rep C.K H (avO ae os) C.Γ v d) (i : Nat) : Ok C E0 ae os (σ.set i (some v)) (ρ.set i (.val d)) s H := by
  have gt : ∀ (j : Nat) (e : D), (ρ.set i (Sl.val d))[j]? = some (Sl.own e) → i ≠ j ∧ ρ[j]? = some (Sl.own e) := fun j e hj => by
    by_cases hji : i = j
    · subst hji
      by_cases hi : i < ρ.length
      · rw [List.getElem?_set_self hi] at hj
        cases hj
      · rw [List.getElem?_eq_none (by simpa using hi)] at hj
        cases hj
    · rw [List.getElem?_set_ne hji] at hj
      exact ⟨hji, hj⟩
  refine ⟨o.go, by simp [o.len], o.wo, o.ad, o.al, o.ow, o.nc, o.sl.set o.len r i, fun j e hj => ?_, fun j l e f p hn h1 h2 h3 => ?_, o.tx.gen (fun j e h => ?_) (fun _ h => h) (fun j e h => ?_) (fun j e p h1 h2 => ?_) fun S v x hS _ h => ⟨h, hS⟩⟩
  rotate_left 2
  · obtain ⟨n, h⟩ := aO h (by simp)
    exact ⟨h, List.getElem?_set_ne n⟩
  · obtain ⟨n, h⟩ := aO h (by simp)
    exact ⟨h, List.getElem?_set_ne n⟩
  · obtain ⟨n, h1⟩ := gt j e h1
    rw [List.getElem?_set_ne n] at h2
    exact .inl ⟨e, h1, h2⟩
  · obtain ⟨n, hj⟩ := gt j e hj
    obtain ⟨p, h1, h2, h3⟩ := o.own j e hj
    exact ⟨p, by rw [List.getElem?_set_ne n]; exact h1, h2, h3⟩
  · obtain ⟨n1, h1⟩ := gt j e h1
    obtain ⟨n2, h2⟩ := gt l f h2
    rw [List.getElem?_set_ne n1] at h3
    rw [List.getElem?_set_ne n2]
    exact o.dis j l e f p hn h1 h2 h3
theorem Ok.wc : ∀ {is : List Nat} {vs : List V} {ds : List D} {σ : L2.St} {ρ : En}, Ok C E0 ae os σ ρ s H → ah C.K H (avO ae os) C.Γ vs ds → Ok C E0 ae os (DM.setM is (vs.map some) σ) (DM.setM is (vals ds) ρ) s H
  | [], vs, ds, σ, ρ, o, r => by simpa [DM.setM] using o
  | i :: is, _, [], σ, ρ, o, r => by cases r; simpa [DM.setM, vals] using o
  | i :: is, _, d :: ds, σ, ρ, o, r => by
    cases r with
    | cons a r => exact Ok.wc (is := is) (o.rJ a i) r
/-- one target -/
theorem Ok.tgt {tg : Tgt} {v : V} {d : D} {ρ' : En} {Q : L2.St → Hp → Prop} (o : Ok C E0 ae os σ ρ s H) (r : Rep C.K H (avO ae os) C.Γ v d) (e : tg.set ρ d = some ρ') (q : ∀ σ', Ok C E0 ae os σ' ρ' s H → Q σ' H) : gOf C.K tg v σ H Q :=
  ja r o.len o.sl e fun vs ds hl ra hρ _ _ => q _ (by rw [hρ]; exact o.wc ra)
/-- an own object changed -/
theorem Ok.chg {p : Addr} {ob : HO} {d d' : D} {i : Nat} (o : Ok C E0 ae os σ ρ s H) (hi : ρ[i]? = some (Sl.own d)) (hσ : σ[i]? = some (some (.ref p))) (ho : bJ C (upd H p ob) (avO ae os) p d') : Ok C E0 ae os σ (ρ.set i (.own d')) s (upd H p ob) := by
  obtain ⟨p', h1, h2, h3⟩ := o.own i d hi
  rw [hσ] at h1
  cases h1
  have nd := o.kK h2
  have k : Kp (avO ae os) H (upd H p ob) := .upd (.inr h2)
  have hlt : i < ρ.length := by
    by_cases h : i < ρ.length
    · exact h
    · rw [List.getElem?_eq_none (by simpa using h)] at hi
      cases hi
  refine ⟨⟨fun a u n e => ?_, o.go.lv.trans .upd⟩, by simp [o.len], ?_, o.ad, o.al, fun q hq => ⟨(o.ow q hq).1, Lv.upd q (o.ow q hq).2⟩, fun a z => ?_, (o.sl.kp k).off i (fun _ z => by cases z) (fun _ z => by cases z) (fun _ z => by cases z) fun j hj => rfl, fun j e hj => ?_, fun j l e f q hn g1 g2 g3 => ?_, o.tx.gen (fun j e h => ⟨(aO h (by simp)).2, rfl⟩) (fun _ h => h) (fun j e h => ⟨(aO h (by simp)).2, rfl⟩) (fun j e q h1 h2 => ?_) fun S v x hS hn h => ⟨h.kw k (fun _ z => .inl z) fun q hq ob z => by rw [upd_ne fun z => hn i d p hi hσ (by rw [← z]; exact hq)]; exact z, hS⟩⟩
  rotate_left 5
  · by_cases n : i = j
    · subst n
      exact .inl ⟨d, hi, h2⟩
    · rw [List.getElem?_set_ne n] at h1
      exact .inl ⟨e, h1, h2⟩
  · rw [upd_ne (fun z => by rw [z, (o.ow p h2).1] at e; cases e)]
    exact o.go.kp a u n e
  · obtain ⟨ho', he1, he2⟩ := h3.kJ
    exact o.wo.own (.inr h2) nd he1 he2
  · by_cases e : a = p
    · subst e
      obtain ⟨u, e1, e2⟩ := ho.kJ
      rw [e1]
      exact fun c q z => e2 c q (Option.some.inj z)
    · rw [upd_ne e]
      exact o.nc a z
  · by_cases hji : i = j
    · subst hji
      rw [List.getElem?_set_self hlt] at hj
      cases hj
      exact ⟨p, hσ, h2, ho⟩
    · rw [List.getElem?_set_ne hji] at hj
      obtain ⟨q, g1, g2, g3⟩ := o.own j e hj
      have hq : q ≠ p := fun z => o.dis i j d e p hji hi hj hσ (by rw [← z]; exact g1)
      exact ⟨q, g1, g2, g3.move (fun u z => by rw [upd_ne hq]; exact z) fun vs ds r => r.kp k⟩
  · have back : ∀ (m : Nat) (x : D), (ρ.set i (Sl.own d'))[m]? = some (Sl.own x) → ∃ y, ρ[m]? = some (Sl.own y) := fun m x hm => by
      by_cases hmi : i = m
      · subst hmi
        exact ⟨d, hi⟩
      · rw [List.getElem?_set_ne hmi] at hm
        exact ⟨x, hm⟩
    obtain ⟨e', g1⟩ := back j e g1
    obtain ⟨f', g2⟩ := back l f g2
    exact o.dis j l e' f' q hn g1 g2 g3
/-- no longer one's own -/
theorem Ok.xr {d : D} {i : Nat} (o : Ok C E0 ae os σ ρ s H) (hi : ρ[i]? = some (Sl.own d)) : ∃ os' p, (Ok C E0 ae os' σ (ρ.set i (.val d)) s H ∧ Fr ae os H os' H) ∧ σ[i]? = some (some (.ref p)) ∧ p ∈ os ∧ bJ C H (avO ae os) p d ∧ ∀ q ∈ os, q ∈ os' ∨ q = p := by
  obtain ⟨p, h1, h2, h3⟩ := o.own i d hi
  have hlt : i < ρ.length := by
    by_cases h : i < ρ.length
    · exact h
    · rw [List.getElem?_eq_none (by simpa using h)] at hi
      cases hi
  have hm : ∀ q, q ∈ os.filter (fun q => decide (q ≠ p)) ↔ q ∈ os ∧ q ≠ p := fun q => by simp
  have nw : ∀ a, avO ae (os.filter fun q => decide (q ≠ p)) a → avO ae os a ∨ H a = none := fun a z => by
    rcases z with z | z
    · exact .inl (.inl z)
    · exact .inl (.inr ((hm a).mp z).1)
  refine ⟨os.filter fun q => decide (q ≠ p), p, ?_, h1, h2, h3, fun q hq => by
    by_cases e : q = p
    · exact .inr e
    · exact .inl ((hm q).mpr ⟨hq, e⟩)⟩
  refine ⟨⟨o.go, by simp [o.len], o.wo.wd nw, o.ad, o.al, fun q hq => o.ow q ((hm q).mp hq).1, fun a z => o.nc a (z.elim .inl fun z => .inr ((hm a).mp z).1), ?_, fun j e hj => ?_, fun j l e f q hn g1 g2 g3 => ?_, o.tx.gen (fun j e h => ⟨(aO h (by simp)).2, rfl⟩) (fun _ h => h) (fun j e h => ⟨(aO h (by simp)).2, rfl⟩) (fun j e q g1 g2 => .inl ⟨e, (aO g1 (by simp)).2, g2⟩) fun S v x hS hn h => ⟨h.kw .refl nw fun _ _ _ z => z, fun q hq => (hm q).mpr ⟨hS q hq, fun z => hn i d p hi h1 (by rw [← z]; exact hq)⟩⟩⟩, ⟨.refl, fun q hq => .inl ((hm q).mp hq).1, .refl⟩⟩
  · have hset : σ.set i (some (.ref p)) = σ := by
      apply List.ext_getElem?
      intro j
      by_cases hj : i = j
      · subst hj
        rw [List.getElem?_set_self (by rw [o.len]; exact hlt), h1]
      · rw [List.getElem?_set_ne hj]
    have := (o.sl.wd nw).set (v := .ref p) (d := d) o.len (bJ.rep (h3.move (fun _ z => z) fun vs ds r => r.wd nw) fun z => by
      rcases z with z | z
      · exact o.xq h2 z
      · exact ((hm p).mp z).2 rfl) i
    rw [hset] at this
    exact this
  · by_cases hji : i = j
    · subst hji
      rw [List.getElem?_set_self hlt] at hj
      cases hj
    · rw [List.getElem?_set_ne hji] at hj
      obtain ⟨q, g1, g2, g3⟩ := o.own j e hj
      have hq : q ≠ p := fun z => o.dis i j d e p hji hi hj h1 (by rw [← z]; exact g1)
      exact ⟨q, g1, (hm q).mpr ⟨g2, hq⟩, g3.move (fun _ z => z) fun vs ds r => r.wd nw⟩
  · have back : ∀ (m : Nat) (x : D), (ρ.set i (Sl.val d))[m]? = some (Sl.own x) → ρ[m]? = some (Sl.own x) := fun m x hm => by
      by_cases hmi : i = m
      · subst hmi
        rw [List.getElem?_set_self hlt] at hm
        cases hm
      · rw [List.getElem?_set_ne hmi] at hm
        exact hm
    exact o.dis j l e f q hn (back j e g1) (back l f g2) g3
theorem Ok.share {d : D} {i : Nat} (o : Ok C E0 ae os σ ρ s H) (hi : ρ[i]? = some (Sl.own d)) : ∃ os', Ok C E0 ae os' σ (ρ.set i (.val d)) s H ∧ Fr ae os H os' H := by
  obtain ⟨os', p, h, _⟩ := o.xr hi
  exact ⟨os', h⟩
end
end DM
set_option Elab.async false
set_option linter.all false
set_option maxRecDepth 100000
set_option maxHeartbeats 2000000
namespace DM
open PySem L2 Lay NdefX LamX
inductive Res where
  | nx (ρ : En)
  | rt (d : D)
  | bk (ρ : En)
  | ct (ρ : En)
  | er (ρ : En) (x : Xn)
abbrev S := En → DS → Option (Res × DS)
def iV (C : Cc) (W : WX) (fr : Bool) (E0 : Hp) (ae : Av) (De : Ends) (os : List Addr) (H : Hp) (r : Res) (s' : DS) : Prop := match r with
  | .nx ρ' => ∀ os' σ' H', Ok C E0 ae os' σ' ρ' s' H' → Fr ae os H os' H' → De.nx σ' H'
  | .rt d => if fr = true then ∀ p H', Go C.Γ E0 H' → Wo C.K C.Γ (avO ae [p]) H' s' → E0 p = none → bJ C H' (avO ae [p]) p d → De.rt (.ref p) H' else ∀ v H', Go C.Γ E0 H' → Wo C.K C.Γ ae H' s' → Rep C.K H' ae C.Γ v d → De.rt v H'
  | .bk ρ' => ∀ os' σ' H', Ok C E0 ae os' σ' ρ' s' H' → Fr ae os H os' H' → De.bk σ' H'
  | .ct ρ' => ∀ os' σ' H', Ok C E0 ae os' σ' ρ' s' H' → Fr ae os H os' H' → De.ct σ' H'
  | .er ρ' x => ∀ os' σ' H' cls dd, Ok C E0 ae os' σ' ρ' s' H' → Fr ae os H os' H' → ee C H' (avO ae os') x cls dd → W cls dd σ' H'
theorem iV.fr {C : Cc} {W : WX} {fr : Bool} {E0 : Hp} {ae : Av} {De : Ends} {os os1 : List Addr} {H H1 : Hp} {r : Res} {s' : DS} (p : iV C W fr E0 ae De os H r s') (f : Fr ae os H os1 H1) : iV C W fr E0 ae De os1 H1 r s' := by
  cases r with
  | nx ρ' => exact fun os' σ' H' o g => p os' σ' H' o (f.trans g)
  | rt d => exact p
  | bk ρ' => exact fun os' σ' H' o g => p os' σ' H' o (f.trans g)
  | ct ρ' => exact fun os' σ' H' o g => p os' σ' H' o (f.trans g)
  | er ρ' x => exact fun os' σ' H' cls dd o g => p os' σ' H' cls dd o (f.trans g)
def SS (C : Cc) (W : WX) (fr : Bool) (t : TS) (m : S) : Prop := ∀ E0 ae os σ ρ s H r s' De, Ok C E0 ae os σ ρ s H → m ρ s = some (r, s') → iV C W fr E0 ae De os H r s' → t De σ H
/-- behind an expression: an error ends the statement -/
def bs {α : Type} (ρ : En) (x : Option (Except Xn α × DS)) (f : α → DS → Option (Res × DS)) : Option (Res × DS) := match x with
  | none => none
  | some (.error e, s) => some (.er ρ e, s)
  | some (.ok a, s) => f a s
section
variable {C : Cc} {W : WX} {fr : Bool} {α γ : Type} {R : RG α γ} {t : TG' γ} {m : En → M α}
theorem SG.dJ {E0 : Hp} {ae : Av} {De : Ends} {os : List Addr} {σ : L2.St} {ρ : En} {s s' : DS} {H : Hp} {r : Res} {f : α → DS → Option (Res × DS)} {Q : γ → Hp → Prop} (h : SG C W R t m) (o : Ok C E0 ae os σ ρ s H) (e : bs ρ (m ρ s) f = some (r, s')) (p : iV C W fr E0 ae De os H r s')
    (k : ∀ a s1 v H1, Go C.Γ H H1 → Ok C E0 ae os σ ρ s1 H1 → R H1 (avO ae os) v a → f a s1 = some (r, s') → iV C W fr E0 ae De os H1 r s' → Q v H1) : t σ H Q := by
  cases z : m ρ s with
  | none => rw [z] at e; cases e
  | some pr =>
    obtain ⟨a, s1⟩ := pr
    rw [z] at e
    cases a with
    | error x =>
      cases e
      exact h _ σ ρ s H _ _ Q o.toE z fun c dd H' g w rx => p os σ H' c dd (o.step g w) (g.fr o.ad) rx
    | ok a => exact h _ σ ρ s H _ _ Q o.toE z fun v H1 g w rv => k a s1 v H1 g (o.step g w) rv e (p.fr (g.fr o.ad))
end
def kL (C : Cc) (W : WX) (av : Av) (σ : L2.St) (H : Hp) (s' : DS) (Q : VK) : Except Xn D → Prop
  | .ok d => ∀ p H', Go C.Γ H H' → Wo C.K C.Γ (avO av [p]) H' s' → H p = none → bJ C H' (avO av [p]) p d → Q (.ref p) H'
  | .error x => ∀ cls dd H', Go C.Γ H H' → Wo C.K C.Γ av H' s' → ee C H' av x cls dd → W cls dd σ H'
def SF (C : Cc) (W : WX) (t : TE) (m : En → M D) : Prop := ∀ av σ ρ s H r s' (Q : VK), OkE C av σ ρ s H → m ρ s = some (r, s') → kL C W av σ H s' Q r → t σ H Q
section
variable {C : Cc} {W : WX} {fr : Bool} {t : TE} {m : En → M D}
theorem bJ.of {H : Hp} {av av2 : Av} {p : Addr} {d : D} (h : bJ C H av p d) (f : ∀ a, av2 a → av a ∨ H a = none) : bJ C H av2 p d := h.move (fun _ z => z) fun vs ds r => r.wd f
theorem Lv.back {H H' : Hp} {p : Addr} (l : Lv H H') (h : H' p = none) : H p = none := by
  cases e : H p with
  | none => rfl
  | some o => exact absurd h (l p (by rw [e]; simp))
theorem SF.se (h : SF C W t m) : SE C W t m := by
  intro av σ ρ s H r s' Q o e q
  refine h av σ ρ s H r s' Q o e ?_
  cases r with
  | error x => exact q
  | ok d => exact fun p H' g w n ow => q (.ref p) H' g (w.wd fun a z => .inl (.inl z)) ((ow.of fun a z => .inl (.inl z)).rep fun z => o.al p z n)
theorem SF.dJ {E0 : Hp} {ae : Av} {De : Ends} {os : List Addr} {σ : L2.St} {ρ : En} {s s' : DS} {H : Hp} {r : Res} {f : D → DS → Option (Res × DS)} {Q : VK} (h : SF C W t m) (o : Ok C E0 ae os σ ρ s H) (e : bs ρ (m ρ s) f = some (r, s')) (p : iV C W fr E0 ae De os H r s')
    (k : ∀ a s1 b H1, Go C.Γ H H1 → Ok C E0 ae os σ ρ s1 H1 → Wo C.K C.Γ (avO (avO ae os) [b]) H1 s1 → H b = none → bJ C H1 (avO (avO ae os) [b]) b a → f a s1 = some (r, s') → iV C W fr E0 ae De os H1 r s' → Q (.ref b) H1) : t σ H Q := by
  cases z : m ρ s with
  | none => rw [z] at e; cases e
  | some pr =>
    obtain ⟨a, s1⟩ := pr
    rw [z] at e
    cases a with
    | error x =>
      cases e
      exact h _ σ ρ s H _ _ Q o.toE z fun c dd H' g w rx => p os σ H' c dd (o.step g w) (g.fr o.ad) rx
    | ok a => exact h _ σ ρ s H _ _ Q o.toE z fun b H1 g w n ow => k a s1 b H1 g (o.step g (w.wd fun a z => .inl (.inl z))) w n ow e (p.fr (g.fr o.ad))
end
def bO (tg : Tgt) (e : En → M D) : S := fun ρ s => bs ρ (e ρ s) fun x s1 => (tg.set ρ x).map fun ρ' => (.nx ρ', s1)
def aB (a b : S) : S := fun ρ s => (a ρ s).bind fun x => match x.1 with
  | .nx ρ' => b ρ' x.2
  | r => some (r, x.2)
def sIf (c : En → M Bool) (a b : S) : S := fun ρ s => bs ρ (c ρ s) fun x s1 => if x = true then a ρ s1 else b ρ s1
def aV (e : En → M D) : S := fun ρ s => bs ρ (e ρ s) fun x s1 => some (.rt x, s1)
def lV (i : Nat) : S := fun ρ s => match ρ[i]? with
  | some (Sl.own d) => some (.rt d, s)
  | _ => none
def aT : S := fun ρ s => some (.nx ρ, s)
def nU (i : Nat) (e : En → M D) : S := fun ρ s => bs ρ (e ρ s) fun x s1 => some (.nx (ρ.set i (.own x)), s1)
def shr (i : Nat) (ρ : En) : En := match ρ[i]? with
  | some (Sl.own d) => ρ.set i (.val d)
  | _ => ρ
def fF (i : Nat) (m : S) : S := fun ρ s => m (shr i ρ) s
def fX (i : Nat) (e : En → M D) : S := fun ρ s => match ρ[i]? with
  | some (Sl.own (.lst ds)) => bs ρ (e ρ s) fun x s1 => if ds.length < line then some (.nx (ρ.set i (.own (.lst (ds ++ [x])))), s1) else none
  | _ => none
/-- a dict of texts, one more or another -/
def putD (ks : List Str) (ds : List D) (x : Str) (d : D) : List Str × List D := if ks.any (fun k => decide (k = x)) then (ks, List.zipWith (fun k v => if k = x then d else v) ks ds) else (ks ++ [x], ds ++ [d])
def qr (i : Nat) (k v : En → M D) : S := fun ρ s => bs ρ (v ρ s) fun x s1 => match ρ[i]? with
  | some (Sl.own (.dic ks ds)) => bs ρ (k ρ s1) fun y s2 => match y with
    | .str z => if ks.length < line then some (.nx (ρ.set i (.own (.dic (putD ks ds z x).1 (putD ks ds z x).2))), s2) else none
    | _ => none
  | _ => none
def b7 (tg : Tgt) (b : S) : List D → S
  | [], ρ, s => some (.nx ρ, s)
  | d :: ds, ρ, s => (tg.set ρ d).bind fun ρ1 => (b ρ1 s).bind fun x => match x.1 with
    | .nx ρ' => b7 tg b ds ρ' x.2
    | .ct ρ' => b7 tg b ds ρ' x.2
    | .bk ρ' => some (.nx ρ', x.2)
    | r => some (r, x.2)
def iW (tg : Tgt) (mi : En → M (List D)) (b : S) : S := fun ρ s => bs ρ (mi ρ s) fun x s1 => b7 tg b x ρ s1
section
variable {C : Cc} {W : WX} {fr : Bool} {te : TE} {me : En → M D} {t u : TS} {m n : S} {c : TT} {mc : En → M Bool} {ta : TA} {ms : En → M (List D)}
theorem bt {tg : Tgt} (he : SE C W te me) : SS C W fr (tAsg te (gOf C.K tg)) (bO tg me) := by
  intro E0 ae os σ ρ s H r s' De o e p
  refine he.dJ o e p fun x s1 v H1 g1 o1 r1 e p => ?_
  obtain ⟨ρ', e2, e3⟩ := eQ e
  cases e3
  exact o1.tgt r1 e2 fun σ' o' => p os σ' H1 o' .refl
theorem az (h1 : SS C W fr t m) (h2 : SS C W fr u n) : SS C W fr (tSeq t u) (aB m n) := by
  intro E0 ae os σ ρ s H r s' De o e p
  obtain ⟨⟨x, s1⟩, e1, e⟩ := cO e
  refine h1 E0 ae os σ ρ s H x s1 _ o e1 ?_
  cases x with
  | nx ρ' => exact fun os' σ' H' o' f => h2 E0 ae os' σ' ρ' s1 H' r s' De o' e (p.fr f)
  | rt d => cases e; exact p
  | bk d => cases e; exact p
  | ct d => cases e; exact p
  | er d x => cases e; exact p
theorem bK (hc : ST C W c mc) (h1 : SS C W fr t m) (h2 : SS C W fr u n) : SS C W fr (tIfS c t u) (sIf mc m n) := by
  intro E0 ae os σ ρ s H r s' De o e p
  refine hc.dJ o e p fun b s1 v H1 g1 o1 r1 e p => ?_
  cases r1
  cases b with
  | true =>
    rw [if_pos rfl] at e ⊢
    exact h1 E0 ae os σ ρ s1 H1 r s' De o1 e p
  | false =>
    rw [if_neg (by simp)] at e ⊢
    exact h2 E0 ae os σ ρ s1 H1 r s' De o1 e p
theorem aG (he : SE C W te me) : SS C W false (tRet te) (aV me) := by
  intro E0 ae os σ ρ s H r s' De o e p
  refine he.dJ o e p fun x s1 v H1 g1 o1 r1 e p => ?_
  cases e
  exact p v H1 o1.go (o1.wo.wd fun a z => .inl (.inl z)) (Rep.wd r1 fun a z => .inl (.inl z))
theorem uE (he : SF C W te me) : SS C W true (tRet te) (aV me) := by
  intro E0 ae os σ ρ s H r s' De o e p
  refine he.dJ o e p fun x s1 b H1 g1 o1 w1 n ow e p => ?_
  cases e
  exact p b H1 o1.go (w1.wd fun a z => by
    rcases z with z | z
    · exact .inl (.inl (.inl z))
    · exact .inl (.inr z)) (o.go.lv.back n) (ow.of fun a z => by
    rcases z with z | z
    · exact .inl (.inl (.inl z))
    · exact .inl (.inr z))
theorem uF {i : Nat} : SS C W fr (tRet (tVar i)) (lV i) := by
  intro E0 ae os σ ρ s H r s' De o e p
  unfold lV at e
  split at e
  · rename_i d hd
    cases e
    obtain ⟨q, h1, h2, h3⟩ := o.own i _ hd
    have hq := (o.ow q h2).1
    refine ⟨.ref q, h1, ?_⟩
    have h4 : bJ C H (avO ae [q]) q d := h3.of fun a z => by
      rcases z with z | z
      · exact .inl (.inl z)
      · rw [List.mem_singleton] at z
        rw [z]
        exact .inl (.inr h2)
    cases fr with
    | true => exact p q H o.go (o.wo.wd fun a z => by
        rcases z with z | z
        · exact .inl (.inl z)
        · rw [List.mem_singleton] at z
          rw [z]
          exact .inl (.inr h2)) hq h4
    | false => exact p _ H o.go (o.wo.wd fun a z => .inl (.inl z)) ((h3.of fun a z => .inl (.inl z)).rep (o.xq h2))
  · cases e
theorem aP : SS C W fr tNext aT := by
  intro E0 ae os σ ρ s H r s' De o e p
  cases e
  exact p os σ H o .refl
theorem lW {i : Nat} (h : SS C W fr t m) : SS C W fr t (fF i m) := by
  intro E0 ae os σ ρ s H r s' De o e p
  unfold fF shr at e
  split at e
  · rename_i d hd
    obtain ⟨os', o', f⟩ := o.share hd
    exact h E0 ae os' σ _ s H r s' De o' e (p.fr f)
  · exact h E0 ae os σ ρ s H r s' De o e p
end
end DM
set_option Elab.async false
set_option linter.all false
set_option maxRecDepth 100000
set_option maxHeartbeats 2000000
namespace DM
open PySem L2 Lay NdefX LamX
section
variable {C : Cc} {W : WX} {fr : Bool} {te : TE} {me : En → M D} {t u : TS} {m n : S} {c : TT} {mc : En → M Bool} {ta : TA} {ms : En → M (List D)}
theorem Ok.xt {E0 : Hp} {ae : Av} {os : List Addr} {σ : L2.St} {ρ : En} {s : DS} {H H1 : Hp} {p : Addr} {d : D} (o : Ok C E0 ae os σ ρ s H1) (g : Go C.Γ H H1) (o0 : Go C.Γ E0 H) (hal : ∀ p ∈ os, H p ≠ none) (hp : H p = none) (w1 : Wo C.K C.Γ (avO (avO ae os) [p]) H1 s) (ho : bJ C H1 (avO (avO ae os) [p]) p d) (sl0 : aI C H (avO ae os) σ ρ)
    (own0 : ∀ (i : Nat) (d : D), ρ[i]? = some (Sl.own d) → ∃ p, σ[i]? = some (some (.ref p)) ∧ p ∈ os ∧ bJ C H (avO ae os) p d) (tx0 : TX C E0 ae os σ ρ H) (i : Nat) : Ok C E0 ae (p :: os) (σ.set i (some (.ref p))) (ρ.set i (.own d)) s H1 ∧ Fr ae os H (p :: os) H1 := by
  have eq : ∀ a, avO ae (p :: os) a ↔ avO (avO ae os) [p] a := fun a => by
    unfold avO
    rw [List.mem_cons, List.mem_singleton]
    constructor
    · rintro (z | z | z)
      · exact .inl (.inl z)
      · exact .inr z
      · exact .inl (.inr z)
    · rintro ((z | z) | z)
      · exact .inl z
      · exact .inr (.inr z)
      · exact .inr (.inl z)
  have ho' : bJ C H1 (avO ae (p :: os)) p d := ho.of fun a z => .inl ((eq a).mp z)
  have nw : ∀ a, avO ae (p :: os) a → avO ae os a ∨ H a = none := fun a z => by
    rcases (eq a).mp z with z | z
    · exact .inl z
    · rw [List.mem_singleton] at z; rw [z]; exact .inr hp
  have k1 : Kp (avO ae (p :: os)) H H1 := g.kp.mono fun a z => .inl (o.ad a z)
  have np : p ∉ os := fun z => hal p z hp
  have ne : ∀ {q : Addr}, q ∈ os → q ≠ p := fun hq e => np (by rw [← e]; exact hq)
  have gt : ∀ (j : Nat) (e : D), i ≠ j → (ρ.set i (Sl.own d))[j]? = some (Sl.own e) → ρ[j]? = some (Sl.own e) := fun j e hji hj => by
    rw [List.getElem?_set_ne hji] at hj
    exact hj
  refine ⟨⟨o.go, by simp [o.len], w1.wd fun a z => .inl ((eq a).mp z), o.ad, o.al, fun q hq => ?_, fun a z => ?_, ?_, fun j e hj => ?_, fun j l e f q hn h1 h2 h3 => ?_, tx0.gen (fun j e h => ?_) (fun _ h => h) (fun j e h => ?_) (fun j e q h1 h2 => ?_) fun S v x hS _ h => ⟨h.wk nw k1 fun q hq ob z => g.kp q ob (o.kK (hS q hq)) z, fun q hq => List.mem_cons_of_mem _ (hS q hq)⟩⟩, ⟨g.kp.mono fun a z => .inl (o.ad a z), fun q hq => ?_, g.lv⟩⟩
  · rcases List.mem_cons.mp hq with rfl | hq
    · exact ⟨o0.lv.back hp, ho.some⟩
    · exact o.ow q hq
  · rcases (eq a).mp z with z | z
    · exact o.nc a z
    · rw [List.mem_singleton] at z
      subst z
      obtain ⟨u, e1, e2⟩ := ho.kJ
      rw [e1]
      exact fun c q z => e2 c q (Option.some.inj z)
  · exact ((sl0.wd nw).kp k1).off i (fun _ z => by cases z) (fun _ z => by cases z) (fun _ z => by cases z) fun j hj => List.getElem?_set_ne hj
  · by_cases hji : i = j
    · subst hji
      by_cases hi : i < ρ.length
      · rw [List.getElem?_set_self hi] at hj
        cases hj
        exact ⟨p, by rw [List.getElem?_set_self (by rw [o.len]; exact hi)], List.mem_cons_self, ho'⟩
      · rw [List.getElem?_eq_none (by simpa using hi)] at hj
        cases hj
    · rw [List.getElem?_set_ne hji] at hj ⊢
      obtain ⟨q, h1, h2, h3⟩ := own0 j e hj
      exact ⟨q, h1, List.mem_cons_of_mem _ h2, h3.move (fun ob z => g.kp q ob (o.kK h2) z) fun vs ds r => (r.wd nw).kp k1⟩
  · by_cases hj : i = j
    · subst hj
      have h2' := gt l f hn h2
      obtain ⟨q', h4, h5, h6⟩ := o.own l f h2'
      rw [List.getElem?_set_ne hn, h4]
      intro e
      cases e
      by_cases hi : i < ρ.length
      · rw [List.getElem?_set_self (by rw [o.len]; exact hi)] at h3
        cases h3
        exact np h5
      · rw [List.getElem?_eq_none (by simpa using hi)] at h1
        cases h1
    · have h1' := gt j e hj h1
      by_cases hl : i = l
      · subst hl
        rw [List.getElem?_set_ne hj] at h3
        obtain ⟨q', h4, h5, h6⟩ := o.own j e h1'
        rw [h3] at h4
        cases h4
        by_cases hi : i < ρ.length
        · rw [List.getElem?_set_self (by rw [o.len]; exact hi)]
          intro e
          cases e
          exact np h5
        · rw [List.getElem?_eq_none (by simpa using hi)] at h2
          cases h2
      · rw [List.getElem?_set_ne hj] at h3
        rw [List.getElem?_set_ne hl]
        exact o.dis j l e f q hn h1' (gt l f hl h2) h3
  · obtain ⟨n, h⟩ := aO h (by simp)
    exact ⟨h, List.getElem?_set_ne n⟩
  · obtain ⟨n, h⟩ := aO h (by simp)
    exact ⟨h, List.getElem?_set_ne n⟩
  · by_cases n : i = j
    · subst n
      by_cases hi : i < σ.length
      · rw [List.getElem?_set_self hi] at h2
        cases h2
        exact .inr np
      · rw [List.getElem?_eq_none (by simpa using hi)] at h2
        cases h2
    · rw [List.getElem?_set_ne n] at h1 h2
      exact .inl ⟨e, h1, h2⟩
  · rcases List.mem_cons.mp hq with rfl | hq
    · exact .inr hp
    · exact .inl hq
theorem nV {i : Nat} (he : SF C W te me) : SS C W fr (tAsg te (gName i)) (nU i me) := by
  intro E0 ae os σ ρ s H r s' De o e p
  refine he.dJ o e p fun x s1 b H1 g1 o1 w1 n ow e p1 => ?_
  cases e
  obtain ⟨o2, f2⟩ := o1.xt g1 o.go (fun q hq => (o.ow q hq).2) n w1 ow o.sl o.own o.tx i
  exact p (b :: os) _ H1 o2 f2
theorem qt {i : Nat} (he : SE C W te me) : SS C W fr (tDrop (tBM C.K "list" rAppend (tVar i) (tCons te tNil))) (fX i me) := by
  intro E0 ae os σ ρ s H r s' De o e p
  unfold fX at e
  split at e
  · rename_i ds hd
    obtain ⟨q, h1, h2, vs, h3, h4⟩ := o.own i _ hd
    refine ⟨.ref q, h1, .inl ⟨rfl, vs, SqL.of h3⟩, ?_⟩
    refine he.dJ o e p fun x s1 v H1 g1 o1 r1 e p => ?_
    split at e
    · rename_i hl
      cases e
      obtain ⟨q', h1', h2', vs', h3', h4'⟩ := o1.own i _ hd
      rw [h1] at h1'
      cases h1'
      exact ⟨q, vs', v, rfl, rfl, h3', dY (by rw [h4'.len]; omega), p os σ _ (o1.chg hd h1 ⟨_, upd_same, (h4'.snoc r1).kp (.upd (.inr h2))⟩) ⟨.upd (.inr h2), fun _ z => .inl z, .upd⟩⟩
    · cases e
  · cases e
theorem lX {z : Str} : ∀ {ks : List Str} {vs : List V}, ks.length = vs.length → (cT ks vs).any (fun kv => decide (kv.1 = Sum.inr z)) = ks.any fun k => decide (k = z)
  | [], [], _ => rfl
  | [], _ :: _, h => by simp at h
  | _ :: _, [], h => by simp at h
  | k :: ks, v :: vs, h => by
    have ih := lX (z := z) (ks := ks) (vs := vs) (by simpa using h)
    unfold cT at ih ⊢
    rw [List.zipWith_cons_cons, List.any_cons, List.any_cons, ih]
    simp
theorem lY {H : Hp} {av : Av} {v : V} {d : D} {z : Str} (rv : Rep C.K H av C.Γ v d) : ∀ {ks : List Str} {vs : List V} {ds : List D}, ks.length = ds.length → ah C.K H av C.Γ vs ds →
    ∃ ws, (cT ks vs).map (fun kv => if kv.1 = Sum.inr z then (kv.1, v) else kv) = cT ks ws ∧ ah C.K H av C.Γ ws (List.zipWith (fun k x => if k = z then d else x) ks ds)
  | [], _, _, _, _ => ⟨[], rfl, .nil⟩
  | k :: ks, _, [], h, _ => by simp at h
  | k :: ks, _, x :: ds, h, r => by
    cases r with
    | @cons u us _ _ a r =>
      obtain ⟨ws, h1, h2⟩ := lY (z := z) rv (ks := ks) (by simpa using h) r
      by_cases hk : k = z
      · refine ⟨v :: ws, ?_, ?_⟩
        · unfold cT at h1 ⊢
          rw [List.zipWith_cons_cons, List.map_cons, h1, List.zipWith_cons_cons]
          simp [hk]
        · rw [List.zipWith_cons_cons, if_pos hk]
          exact .cons rv h2
      · refine ⟨u :: ws, ?_, ?_⟩
        · unfold cT at h1 ⊢
          rw [List.zipWith_cons_cons, List.map_cons, h1, List.zipWith_cons_cons]
          simp [hk]
        · rw [List.zipWith_cons_cons, if_neg hk]
          exact .cons a h2
theorem rK {H : Hp} {av : Av} {v : V} {d : D} {z : Str} {ks : List Str} {vs : List V} {ds : List D} (hl : ks.length = ds.length) (r : ah C.K H av C.Γ vs ds) (rv : Rep C.K H av C.Γ v d) :
    ∃ ws, putK (cT ks vs) (Sum.inr z) v = cT (putD ks ds z d).1 ws ∧ ah C.K H av C.Γ ws (putD ks ds z d).2 ∧ (putD ks ds z d).1.length = (putD ks ds z d).2.length := by
  unfold putK putD
  rw [lX (by rw [hl, r.len])]
  by_cases h : (ks.any fun k => decide (k = z)) = true
  · rw [if_pos h, if_pos h]
    obtain ⟨ws, h1, h2⟩ := lY (z := z) rv hl r
    exact ⟨ws, h1, h2, by simp [hl]⟩
  · rw [if_neg h, if_neg h]
    refine ⟨vs ++ [v], ?_, r.snoc rv, by simp [hl]⟩
    unfold cT
    rw [List.zipWith_append (by rw [hl, r.len])]
    rfl
theorem xu {i : Nat} {tk tv : TE} {mk mv : En → M D} (hk : SE C W tk mk) (hv : SE C W tv mv) : SS C W fr (sDPut (tVar i) tk tv) (qr i mk mv) := by
  intro E0 ae os σ ρ s H r s' De o e p
  refine hv.dJ o e p fun x s1 v H1 g1 o1 r1 e p => ?_
  split at e
  · rename_i ks ds hd
    obtain ⟨q, h1, h2, vs, h3, h4⟩ := o1.own i _ hd
    refine ⟨.ref q, h1, ?_⟩
    refine hk.dJ o1 e p fun y s2 w H2 g2 o2 r2 e p => ?_
    cases y <;> try (exact nomatch (show (none : Option (Res × DS)) = some (r, s') from e))
    dsimp only at e
    split at e
    · rename_i z hl
      cases e
      obtain ⟨q', h1', h2', vs', h3', h4', h5'⟩ := o2.own i _ hd
      rw [h1] at h1'
      cases h1'
      have r1' := Rep.kp r1 (g2.kp.ch o1.toE.ad)
      obtain ⟨ws, hw1, hw2, hw3⟩ := rK (z := z) h4' h5' r1'
      have hzl : (cT ks vs').length < sizeLine := by
        unfold cT
        rw [List.length_zipWith]
        exact dY (by omega)
      refine ⟨q, _, rfl, .inl ⟨cT ks vs', .inr z, h3', Rep.b9 r2, hzl, rfl⟩, ?_⟩
      rw [hw1]
      exact p os σ _ (o2.chg hd h1 ⟨ws, upd_same, hw3, hw2.kp (.upd (.inr h2))⟩) ⟨.upd (.inr h2), fun _ z => .inl z, .upd⟩
    · cases e
  · cases e
theorem iz {tg : Tgt} {wi : TI} {mi : En → M (List D)} (hi : SI C W wi mi) (hb : SS C W fr t m) : SS C W fr (tFor wi (gOf C.K tg) t) (iW tg mi m) := by
  intro E0 ae os σ ρ s H r s' De o e p
  refine hi.dJ o e p fun ds s1 J H1 g1 o1 it e p1 => ?_
  obtain ⟨G, Y, w, it⟩ := it
  have far : ∀ {osc : List Addr} {σc : L2.St} {ρc : En} {sc : DS} {Hc : Hp}, Ok C E0 ae osc σc ρc sc Hc → Fr ae os H1 osc Hc → Far (avO ae os) H1 (fun a => avO ae os a ∨ avO ae osc a) Hc := fun oc fc =>
    ⟨fun a z => by
      rcases z with z | z | z
      · exact .inl z
      · exact .inl (.inl z)
      · rcases fc.nw a z with z | z
        · exact .inl (.inr z)
        · exact .inr z, fun a z => .inl z, fc.kp.mono fun a z => .inl z, fun a z => by
      rcases z with z | z
      · exact fc.lv a (o1.toE.al a z)
      · exact oc.toE.al a z⟩
  refine for_it w (Pv := fun i σc Hc => ∃ osc ρc sc, Ok C E0 ae osc σc ρc sc Hc ∧ Fr ae os H1 osc Hc ∧ b7 tg m (ds.drop i) ρc sc = some (r, s')) ⟨os, ρ, s1, o1, .refl, e⟩ ?_ ?_ ?_
  · rintro i σc Hc _ ⟨osc, ρc, sc, oc, fc, _⟩
    exact (it _ Hc (far oc fc)).1
  · rintro i x σc Hc H' hi' ⟨osc, ρc, sc, oc, fc, eg⟩ y
    obtain ⟨hH, d0, hd0, rx⟩ := (it _ Hc (far oc fc)).2 i x H' hi' y
    have rx' : Rep C.K H' (avO ae osc) C.Γ x d0 := rx.wd fun a z => .inl (.inr z)
    have hdrop : ds.drop i = d0 :: ds.drop (i + 1) := by
      rw [List.drop_eq_getElem_cons hi']
      rw [List.getElem?_eq_getElem hi'] at hd0
      cases hd0
      rfl
    rw [hdrop] at eg
    unfold b7 at eg
    obtain ⟨ρ1, et, eg⟩ := cO eg
    obtain ⟨⟨b, s3⟩, eb, eg⟩ := cO eg
    have step : Go C.Γ Hc H' ∧ Wo C.K C.Γ (avO ae osc) H' sc := by
      rcases hH with rfl | ⟨T, ob, hT, rfl⟩
      · exact ⟨.refl, oc.wo⟩
      · exact ⟨.new hT, oc.wo.new hT⟩
    have fc' : Fr ae os H1 osc H' := fc.trans (step.1.fr o.ad)
    refine (oc.step step.1 step.2).tgt rx' et fun σ' o' => ?_
    refine hb E0 ae osc σ' ρ1 sc H' b s3 _ o' eb ?_
    cases b with
    | nx ρ' => exact fun os2 σ2 H2 o2 f2 => ⟨os2, ρ', s3, o2, fc'.trans f2, eg⟩
    | ct ρ' => exact fun os2 σ2 H2 o2 f2 => ⟨os2, ρ', s3, o2, fc'.trans f2, eg⟩
    | bk ρ' =>
      cases eg
      exact fun os2 σ2 H2 o2 f2 => p1 os2 σ2 H2 o2 (fc'.trans f2)
    | rt d =>
      cases eg
      exact p1
    | er ρ' x =>
      cases eg
      exact fun os2 σ2 H2 cls dd o2 f2 => p1 os2 σ2 H2 cls dd o2 (fc'.trans f2)
  · rintro σc Hc ⟨osc, ρc, sc, oc, fc, eg⟩
    rw [List.drop_length] at eg
    cases eg
    exact p1 osc σc Hc oc fc
end
end DM
set_option Elab.async false
set_option linter.all false
set_option maxRecDepth 100000
set_option maxHeartbeats 2000000
namespace DM
open PySem L2 Lay NdefX LamX
def j5 (C : Cc) (av : Av) (s : DS) (H : Hp) (d : D) (Q : VK) : Prop := ∀ p H', Go C.Γ H H' → Wo C.K C.Γ (avO av [p]) H' s → H p = none → bJ C H' (avO av [p]) p d → Q (.ref p) H'
def OpF (C : Cc) (r : R2) (f : D → D → Option D) : Prop := ∀ av s H x y a b c Q, At C av s H → Rep C.K H av C.Γ x a → Rep C.K H av C.Γ y b → f a b = some c → j5 C av s H c Q → r x y H Q
def CbF (C : Cc) (r : List V → Hp → VK → Prop) (f : List D → Option D) : Prop := ∀ av s H vs ds c Q, At C av s H → ah C.K H av C.Γ vs ds → f ds = some c → j5 C av s H c Q → r vs H Q
section
variable {C : Cc} {W : WX} {ta tb te : TE} {ma mb me : En → M D} {ts : TA} {ms : En → M (List D)}
theorem kL.go {av : Av} {σ : L2.St} {H H1 : Hp} {s' : DS} {Q : VK} {r : Except Xn D} (h : kL C W av σ H s' Q r) (g : Go C.Γ H H1) : kL C W av σ H1 s' Q r := by
  cases r with
  | ok a => exact fun p H' g' d n o => h p H' (g.trans g') d (g.lv.back n) o
  | error x => exact fun c d H' g' w r => h c d H' (g.trans g') w r
theorem SG.iO {α γ : Type} {R : RG α γ} {t : TG' γ} {m : En → M α} {av : Av} {σ : L2.St} {ρ : En} {s s' : DS} {H : Hp} {r : Except Xn D} {f : α → DS → Option (Except Xn D × DS)} {Q : γ → Hp → Prop} {Q' : VK} (h : SG C W R t m) (o : OkE C av σ ρ s H) (e : bx (m ρ s) f = some (r, s')) (q : kL C W av σ H s' Q' r)
    (k : ∀ a s1 v H1, Go C.Γ H H1 → OkE C av σ ρ s1 H1 → R H1 av v a → f a s1 = some (r, s') → kL C W av σ H1 s' Q' r → Q v H1) : t σ H Q := by
  cases z : m ρ s with
  | none => rw [z] at e; cases e
  | some p =>
    obtain ⟨a, s1⟩ := p
    rw [z] at e
    cases a with
    | error x =>
      cases e
      exact h av σ ρ s H _ _ Q o z fun c dd H' g w rx => q c dd H' g w rx
    | ok a => exact h av σ ρ s H _ _ Q o z fun v H1 g w rv => k a s1 v H1 g (o.step g w) rv e (q.go g)
theorem kL.done {av : Av} {σ : L2.St} {H : Hp} {s : DS} {Q : VK} {d : D} (q : kL C W av σ H s Q (.ok d)) : j5 C av s H d Q := q
theorem nw1 {av : Av} {H : Hp} {p : Addr} (h : H p = none) : ∀ a, avO av [p] a → av a ∨ H a = none := fun a z => by
  rcases z with z | z
  · exact .inl z
  · rw [List.mem_singleton] at z; rw [z]; exact .inr h
theorem j5.kE {av : Av} {p : Addr} {s : DS} {H : Hp} {vs : List V} {ds : List D} {Q : VK} (q : j5 C av s H (.lst ds) Q) (a : At C av s H) (h : H p = none) (r : ah C.K H av C.Γ vs ds) : Q (.ref p) (upd H p (.lst vs)) :=
  q p _ (.new h) ((a.wo.wd (nw1 h)).new h) h ⟨vs, upd_same, (r.wd (nw1 h)).kp (.new h)⟩
theorem yW {r : R2} {f : D → D → Option D} (hr : OpF C r f) (ha : SE C W ta ma) (hb : SE C W tb mb) : SF C W (tOp r ta tb) (eOp f ma mb) := by
  intro av σ ρ s H r' s' Q o e q
  refine ha.iO o e q fun x s1 v H1 g1 o1 r1 e q => ?_
  refine hb.iO o1 e q fun y s2 w H2 g2 o2 r2 e q => ?_
  obtain ⟨z, e3, rfl, rfl⟩ := aL e
  exact hr av _ H2 v w x y _ Q o2.at_ (Rep.kp r1 (g2.kp.ch o.ad)) r2 e3 q.done
theorem gM {r : List V → Hp → VK → Prop} {f : List D → Option D} (hr : CbF C r f) (hs : SA C W ts ms) : SF C W (tCB r ts) (eCB f ms) := by
  intro av σ ρ s H r' s' Q o e q
  refine hs.iO o e q fun x s1 vs H1 g1 o1 r1 e q => ?_
  obtain ⟨z, e3, rfl, rfl⟩ := aL e
  exact hr av _ H1 vs x _ Q o1.at_ r1 e3 q.done
theorem xw : OpF C rCat lR := by
  intro av s H x y a b z Q o ra rb e q
  cases a <;> cases b <;> simp [lR] at e
  obtain ⟨e1, rfl⟩ := e
  obtain ⟨p, vs, rfl, n, h1, r1⟩ := ra.b3
  obtain ⟨p2, ws, rfl, n2, h2, r2⟩ := rb.b3
  exact ⟨p, p2, vs, ws, rfl, rfl, h1, h2, dX (by rw [r1.len, r2.len]; exact e1), fun l hl => q.kE o hl (r1.append r2)⟩
abbrev Wat (W : WX) (σ0 : L2.St) : WX := fun c d _ H => W c d σ0 H
theorem eh {α β : Type} {x : Option (Except Xn α × DS)} {f : α → DS → Option (Except Xn β × DS)} {z : Except Xn β} {s' : DS} (h : bx x f = some (z, s')) : (∃ e, x = some (.error e, s') ∧ z = .error e) ∨ ∃ a s, x = some (.ok a, s) ∧ f a s = some (z, s') := by
  unfold bx at h
  split at h
  · cases h
  · cases h
    exact .inl ⟨_, rfl, rfl⟩
  · exact .inr ⟨_, _, rfl, h⟩
/-- over an iterator that stands -/
theorem xy {tg : Tgt} {tt : L2.St → TT} {mt : En → M Bool} {te : L2.St → TE} (ht : ∀ σ0, ST C (Wat W σ0) (tt σ0) mt) (he : ∀ σ0, SE C (Wat W σ0) (te σ0) me) {av : Av} {σ : L2.St} {ρ : En} {s1 s' : DS} {H1 : Hp} {rr : Except Xn D} {Q : VK} {ds : List D} {J : It} (o1 : OkE C av σ ρ s1 H1) (it : ∃ G Y, Walk J ds.length G Y ∧ ∀ av2 H2, Far av H1 av2 H2 → Kp (fun a => C.Γ.ch a ∨ H1 a = none) H1 H2 → G H2 ∧ ∀ i x H3, i < ds.length → Y i H2 x H3 → (H3 = H2 ∨ ∃ T o, H2 T = none ∧ H3 = upd H2 T o) ∧ ∃ d, ds[i]? = some d ∧ Rep C.K H3 av2 C.Γ x d) (e : lcR ds.length (c8 tg mt me (cJ ρ tg.slots) ds s1) = some (rr, s')) (q : kL C W av σ H1 s' Q rr) : XC.qo (fun _ H R => R J H) (gOf C.K tg) tt te tg.slots σ H1 Q := by
  have o := o1
  intro A hA
  obtain ⟨G, Y, w, it⟩ := it
  have nA : ¬ av A := fun z => o1.al A z hA
  have nd : ∀ {a}, C.Γ.ch a → A ≠ a := fun z e => nA (by rw [e]; exact o.ad _ z)
  have ncA : ¬ C.Γ.ch A := fun z => nd z rfl
  let av2 : Av := fun a => av a ∨ a = A
  let cA : Av := fun a => C.Γ.ch a ∨ a = A
  have sub : ∀ a, av a → av2 a := fun a z => .inl z
  have nw : ∀ a, av2 a → av a ∨ H1 a = none := fun a z => by
    rcases z with z | z
    · exact .inl z
    · rw [z]; exact .inr hA
  have cs : ∀ a, cA a → av2 a := fun a z => z.elim (fun z => .inl (o.ad a z)) .inr
  have far : ∀ Hc, Kp cA H1 Hc → Lv H1 Hc → Hc A ≠ none → Far av H1 av2 Hc := fun Hc k l hc =>
    ⟨nw, sub, k.mono cs, fun a z => by
      rcases z with z | z
      · exact l a (o1.al a z)
      · rw [z]; exact hc⟩
  have kg : ∀ Hc, Kp cA H1 Hc → Kp (fun a => C.Γ.ch a ∨ H1 a = none) H1 Hc := fun Hc k => k.mono fun a z => z.imp id fun z => by rw [z]; exact hA
  have goA : ∀ Hc, Kp cA H1 Hc → Lv H1 Hc → Go C.Γ H1 Hc := fun Hc k l => ⟨fun a ob n h => k a ob (fun z => by
    rcases z with z | z
    · exact n z
    · rw [z, hA] at h
      cases h) h, l⟩
  -- what the whole walk tells
  obtain ⟨R, s2, e2, eR⟩ : ∃ R s2, c8 tg mt me (cJ ρ tg.slots) ds s1 = some (R, s2) ∧ ((∃ x, R = .error x ∧ rr = .error x ∧ s2 = s' ∧ ds.length ≤ line) ∨ ∃ res, R = .ok res ∧ res.length ≤ line ∧ rr = .ok (.lst res) ∧ s2 = s') := by
    unfold lcR at e
    split at e
    · cases e
    · rename_i x s2 h1
      split at e
      · rename_i hl
        cases e
        exact ⟨_, _, h1, .inl ⟨x, rfl, rfl, rfl, hl⟩⟩
      · cases e
    · rename_i res s2 h1
      obtain ⟨z, e3, rfl, rfl⟩ := aL e
      obtain ⟨hl, rfl⟩ := jk e3
      exact ⟨_, _, h1, .inr ⟨res, rfl, hl, rfl, rfl⟩⟩
  refine lc_it w (Pv := fun i Hc => ∃ acc ds0 si rx, acc.length ≤ i ∧ Kp cA H1 Hc ∧ Lv H1 Hc ∧ Wo C.K C.Γ av2 Hc si ∧ Hc A = some (.lst acc) ∧ ah C.K Hc av2 C.Γ acc ds0 ∧ c8 tg mt me (cJ ρ tg.slots) (ds.drop i) si = some (rx, s2) ∧ ((∃ x, R = .error x ∧ rx = .error x) ∨ ∃ r, rx = .ok r ∧ R = .ok (ds0 ++ r))) ?_ ?_ ?_ ?_
  · refine ⟨[], [], s1, R, Nat.zero_le _, .new hA, .upd, (o1.wo.wd nw).new hA, upd_same, .nil, e2, ?_⟩
    rcases eR with ⟨x, h, _⟩ | ⟨res, h, _⟩
    · exact .inl ⟨x, h, h⟩
    · exact .inr ⟨res, h, h⟩
  · rintro i Hc _ ⟨acc, ds0, si, r, _, k, l, _, hc, _⟩
    exact (it av2 Hc (far Hc k l (by rw [hc]; simp)) (kg Hc k)).1
  · rintro i x Hc H' hi' ⟨acc, ds0, si, rx0, hai, k, l, dd, hc, ra, eg, er⟩ y
    have f := far Hc k l (by rw [hc]; simp)
    obtain ⟨hH, d0, hd0, rx⟩ := (it av2 Hc f (kg Hc k)).2 i x H' hi' y
    have hdrop : ds.drop i = d0 :: ds.drop (i + 1) := by
      rw [List.drop_eq_getElem_cons hi']
      rw [List.getElem?_eq_getElem hi'] at hd0
      cases hd0
      rfl
    rw [hdrop] at eg
    unfold c8 at eg
    obtain ⟨ρ1, et, eg⟩ := cO eg
    have step : Go C.Γ Hc H' := by
      rcases hH with rfl | ⟨T, ob, hT, rfl⟩
      · exact .refl
      · exact .new hT
    have dd' : Wo C.K C.Γ av2 H' si := by
      rcases hH with rfl | ⟨T, ob, hT, rfl⟩
      · exact dd
      · exact dd.new hT
    have k' : Kp cA H1 H' := k.trans (step.kp.mono fun a z => .inl z)
    have l' : Lv H1 H' := l.trans step.lv
    have hc' : H' A = some (.lst acc) := step.kp A _ ncA hc
    have f' := far H' k' l' (by rw [hc']; simp)
    have ad2 : ∀ a, C.Γ.ch a → av2 a := fun a z => .inl (o.ad a z)
    have hs0 : aI C H' av2 (L2.wipe σ tg.slots) (cJ ρ tg.slots) := ((aI.wipe o1.sl tg.slots).wd nw).kp f'.kp
    -- an error
    have bad : ∀ x' H'' cls dd'', rx0 = .error x' → Kp cA H1 H'' → Lv H1 H'' → Wo C.K C.Γ av2 H'' s2 → ee C H'' av2 x' cls dd'' → W cls dd'' σ H'' := by
      intro x' H'' cls dd'' h1 k2 l2 w2 r2
      rcases er with ⟨x2, h2, h3⟩ | ⟨r, h2, _⟩
      · rw [h1] at h3
        cases h3
        rcases eR with ⟨x3, h4, rfl, rfl, _⟩ | ⟨res, h4, _⟩
        · rw [h2] at h4
          cases h4
          exact q cls dd'' H'' (goA H'' k2 l2) (w2.wd fun a z => .inl (.inl z)) (ee.wd r2 fun a z => .inl (.inl z))
        · rw [h2] at h4
          cases h4
      · rw [h1] at h2
        cases h2
    refine ja rx (by rw [wipe_length, dD, o.len]) hs0 et fun vs dsv hvl rvs hρ hlen hs => ⟨iy σ tg.slots _, ?_⟩
    have ok : OkE C av2 (DM.setM tg.slots (vs.map some) (L2.wipe σ tg.slots)) ρ1 si H' := by
     refine ⟨by rw [eS]; exact hlen, dd', ad2, f'.al, fun a z => ?_, hs⟩
     by_cases e : a = A
     · rw [e, hc']
       intro c q z
       cases z
     · have z := z.resolve_right e
       by_cases hh : C.Γ.ch a
       · exact dd'.nc hh
       · cases e1 : H1 a with
         | none => exact absurd e1 (o1.al a z)
         | some u =>
           rw [k' a u (fun z => z.elim hh e) e1, ← e1]
           exact o1.nc a z
    rcases eh eg with ⟨xe, eb, ez⟩ | ⟨b, s3, eb, eg⟩
    · exact ht σ av2 _ ρ1 si H' (.error xe) s2 _ ok eb fun cls dd2 H3 g3 w3 r3 => bad xe H3 cls dd2 ez (k'.trans (g3.kp.mono fun a z => .inl z)) (l'.trans g3.lv) w3 r3
    refine ht σ av2 _ ρ1 si H' (.ok b) s3 _ ok eb fun b' H3 g3 d3 hb => ?_
    cases hb
    have ok3 := ok.step g3 d3
    have hc3 : H3 A = some (.lst acc) := g3.kp A _ ncA hc'
    have ra3 : ah C.K H3 av2 C.Γ acc ds0 := (ra.kp (step.kp.mono ad2)).kp (g3.kp.mono ad2)
    have k3 : Kp cA H1 H3 := k'.trans (g3.kp.mono fun a z => .inl z)
    cases b with
    | false =>
      rw [if_neg (by simp)] at eg ⊢
      exact ⟨acc, ds0, s3, rx0, Nat.le_succ_of_le hai, k3, l'.trans g3.lv, d3, hc3, ra3, eg, er⟩
    | true =>
      rw [if_pos rfl] at eg ⊢
      rcases eh eg with ⟨xe, ey, ez⟩ | ⟨yv, s4, ey, eg⟩
      · exact he σ av2 _ ρ1 s3 H3 (.error xe) s2 _ ok3 ey fun cls dd2 H4 g4 w4 r4 => bad xe H4 cls dd2 ez (k3.trans (g4.kp.mono fun a z => .inl z)) ((l'.trans g3.lv).trans g4.lv) w4 r4
      refine he σ av2 _ ρ1 s3 H3 (.ok yv) s4 _ ok3 ey fun v H4 g4 d4 r4 => ?_
      have hc4 : H4 A = some (.lst acc) := g4.kp A _ ncA hc3
      have ra4 : ah C.K H4 av2 C.Γ acc ds0 := ra3.kp (g4.kp.mono ad2)
      have ku : Kp av2 H4 (upd H4 A (.lst (acc ++ [v]))) := .upd (.inr rfl)
      have key : ∃ rx1, c8 tg mt me (cJ ρ tg.slots) (ds.drop (i + 1)) s4 = some (rx1, s2) ∧ ((∃ x, R = .error x ∧ rx1 = .error x) ∨ ∃ r, rx1 = .ok r ∧ R = .ok ((ds0 ++ [yv]) ++ r)) := by
        rcases eh eg with ⟨xe, h1, h2⟩ | ⟨r', s5, h1, h2⟩
        · refine ⟨_, h1, .inl ?_⟩
          rcases er with ⟨x2, h3, h4⟩ | ⟨r, h3, _⟩
          · rw [h2] at h4
            cases h4
            exact ⟨xe, h3, rfl⟩
          · rw [h2] at h3
            cases h3
        · cases h2
          refine ⟨_, h1, .inr ⟨r', rfl, ?_⟩⟩
          rcases er with ⟨x2, h3, h4⟩ | ⟨r, h3, h4⟩
          · cases h4
          · cases h3
            rw [h4]
            simp
      obtain ⟨rx1, e5, er1⟩ := key
      have hlen4 : acc.length < sizeLine := by
        rcases eR with ⟨x, _, _, _, hl⟩ | ⟨res, hR, hl, _⟩
        · exact Nat.lt_of_le_of_lt hai (Nat.lt_trans hi' (dY hl))
        · rcases er1 with ⟨x, h, _⟩ | ⟨r, _, h⟩
          · rw [hR] at h
            cases h
          · rw [hR] at h
            cases h
            refine dY ?_
            rw [ra4.len]
            simp only [List.length_append, List.length_cons, List.length_nil] at hl
            omega
      refine ⟨acc, hc4, hlen4, acc ++ [v], ds0 ++ [yv], s4, rx1, by rw [List.length_append]; exact Nat.succ_le_succ hai, (k3.trans (g4.kp.mono fun a z => .inl z)).trans (.upd (.inr rfl)), ((l'.trans g3.lv).trans g4.lv).trans .upd, d4.own (.inr rfl) ncA hc4 (fun _ _ z => by cases z), upd_same, (ra4.snoc r4).kp ku, e5, er1⟩
  · rintro Hc ⟨acc, ds0, si, rx0, hai, k, l, dd, hc, ra, eg, er⟩
    rw [List.drop_length] at eg
    cases eg
    rcases er with ⟨x, _, h⟩ | ⟨r, h, hR⟩
    · cases h
    cases h
    rw [List.append_nil] at hR
    rcases eR with ⟨x, h, _⟩ | ⟨res, h, hl, rfl, rfl⟩
    · rw [hR] at h
      cases h
    rw [hR] at h
    cases h
    have nw2 : ∀ a, avO av [A] a → av2 a ∨ Hc a = none := fun a z => .inl (by
      rcases z with z | z
      · exact .inl z
      · exact .inr (List.mem_singleton.mp z))
    exact q A Hc (goA Hc k l) (dd.wd nw2) hA ⟨acc, hc, ra.wd nw2⟩
theorem yX {tg : Tgt} {wi : TI} {mi : En → M (List D)} {tt : L2.St → TT} {mt : En → M Bool} {te : L2.St → TE} (hi : SI C W wi mi) (ht : ∀ σ0, ST C (Wat W σ0) (tt σ0) mt) (he : ∀ σ0, SE C (Wat W σ0) (te σ0) me) : SF C W (XC.qo wi (gOf C.K tg) tt te tg.slots) (eLc tg mi mt me) := by
  intro av σ ρ s H rr s' Q o e q
  refine hi.iO o e q fun ds s1 J H1 g1 o1 it e q => ?_
  obtain ⟨G, Y, w, f⟩ := it
  exact xy ht he o1 ⟨G, Y, w, fun av2 H2 h _ => f av2 H2 h⟩ e q
theorem dV {tg : Tgt} {wi : TI} {mi : En → M (List D)} {tt : L2.St → TT} {mt : En → M Bool} {te : L2.St → TE} (hi : SI C W wi mi) (ht : ∀ σ0, ST C (Wat W σ0) (tt σ0) mt) (he : ∀ σ0, SE C (Wat W σ0) (te σ0) me) : SE C W (XC.qo wi (gOf C.K tg) tt te tg.slots) (eLc tg mi mt me) := (yX hi ht he).se
end
end DM
set_option Elab.async false
set_option linter.all false
set_option maxRecDepth 100000
set_option maxHeartbeats 2000000
namespace GD
open PySem PySem.Spec PyProof.Rows L2
/-- as FnOk, for calls around which no repr is under way -/
structure FnG (P : Program) (w : World) (K : PySem.W.Frag) (mg : Str → Option Value) (base : Heap) (CX : CXT) (k : Nat) (f : Addr) (fd : FuncData) (ps : List Str) (sp : Sp) : Prop where
  lens : ∀ vs H Q E, sp vs H Q E → vs.length = ps.length
  runs : ∀ (A : Around) (o : List Env) (s : Shared) (H : Hp) (ar : Args) (us : List Value) (vs : List V) (Q : VK) (E : XK), A.guards = some [] → Room k A →
    Env0 P w K mg base A o s H → BindsTo s fd ar (ps.zip us) → Vals vs us → sp vs H Q E → codeAny (model P w) A (.call (.ref f) ar) (CR CX o P w H s Q E) s
section
variable {P : Program} {w : World} {K : PySem.W.Frag} {mg : Str → Option Value} {base : Heap} {CX : CXT} {k : Nat} {f : Addr} {fd : FuncData} {ps : List Str} {sp : Sp}
theorem FnG.of (F : FnOk P w K mg base CX k f fd ps sp) : FnG P w K mg base CX k f fd ps sp := ⟨F.len, fun A o s H ar us vs Q E _ hr e b r h => F.run A o s H ar us vs Q E hr e b r h⟩
theorem FnG.mono {j : Nat} (F : FnG P w K mg base CX j f fd ps sp) (h : j ≤ k) : FnG P w K mg base CX k f fd ps sp := ⟨F.lens, fun A o s H ar us vs Q E g hr => F.runs A o s H ar us vs Q E g (hr.mono h)⟩
/-- the making: from the body's walk, which may use that nothing is under way -/
theorem Fun.okG {x qual : Str} {st : Stmt} {N : List Str} (F : Fun K x qual st f fd) (S : FnScope N ps (defScope st)) (len : ∀ vs H Q E, sp vs H Q E → vs.length = ps.length)
    (hbody : ∀ (cdv : Value) (A : Around) (o : List Env) (s : Shared) (H : Hp) (vs : List V) (Q : VK) (E : XK), fd.code = cdv → A.guards = some [] → Room k (A.deeper (envOfC qual (defScope st) s.heap.objs.size f cdv)) → sp vs H Q E →
      ∃ t, PSs (cxOf CX P w K mg base N qual (defScope st) f cdv A o s H E) (defBody st) t ∧ t { nx := fun _ H' => Q .non H', rt := Q } (start N vs) H) : FnG P w K mg base CX (k + 1) f fd ps sp := by
  obtain ⟨oc, od, kV, doc, pm, an, cdv, ct, osl, rfl, lk, hcd⟩ := F.ex
  refine ⟨len, fun A o s H ar us vs Q E g hr e0 hb r hq => ?_⟩
  have hw : ∀ b ob, base.get? b = some ob → s.heap.get? b = some ob := fun b ob z => (e0.bs b ob z).1
  have inK := e0.mod.kin.keeps hw
  have noLim := e0.mod.nolimit.keeps hw
  have kinds : ∀ y ∈ ps.zip us, (defScope st).names.lookup y.1 = some .local ∨
      ((defScope st).names.lookup y.1 = some .cell ∧ ((cellsFrom (s.heap.objs.size + 1) (defScope st).names []).lookup y.1).isSome = true) := by
    intro y hy
    have hp := S.par y.1 (List.of_mem_zip (a := y.1) (b := y.2) hy).1
    rcases hp with z | z
    · exact Or.inl z
    · exact Or.inr ⟨z, PySem.W.cellsFrom_some _ _ _ (Or.inl z)⟩
  have go : ∀ bd : BindsTo s (PySem.W.fnOf x qual (defArgs st) (defBody st) (defScope st) .none kV doc pm an cdv ct) ar (ps.zip us),
      codeAny (model P w) A (.call (.ref f) ar) (CR CX o P w H s Q E) s := by
    intro bd
    refine codeAny_call_function hr.depth (inK _ _ lk) rfl S.co S.gen rfl
      (PySem.W.codeRec_of inK hcd) (bd _ _ _ _ ?_)
    refine wpAny_newFunctionEnv_cells S.kind kinds fun ev hev s2 z => ?_
    subst hev
    refine ⟨noLim.keeps z.toInCall.keep, codeAny_func ?_⟩
    obtain ⟨t, ht, hv⟩ := hbody cdv A o s H vs Q E rfl g (hr.deeper _) hq
    have J0 := inv_start (CX := CX) (E := E) S hr.hd e0 (len _ _ _ _ hq) r z
    refine wpAny_mono (ht.run [] s2 (start N vs) H _ J0 hv) (fun fl s' hs => ?_) fun _ _ q => q
    cases fl with
    | ret u => exact let ⟨v, σ', H', J, rv, q⟩ := hs; ⟨v, H', J.os, J.bare, J.base, J.hok, rv, q⟩
    | next => exact let ⟨σ', H', J, q⟩ := hs; ⟨V.non, H', J.os, J.bare, J.base, J.hok, rfl, q⟩
    | brk => exact (let ⟨_, _, _, q⟩ := hs; q.elim)
    | cont => exact (let ⟨_, _, _, q⟩ := hs; q.elim)
  exact go hb
end
end GD
set_option Elab.async false
set_option linter.all false
set_option maxRecDepth 100000
set_option maxHeartbeats 2000000
namespace DM
open PySem PySem.Spec PyProof.Rows L2 Lay NdefX LamX GD
def cb (K : PySem.W.Frag) (Γ : Wc) : Cc := ⟨K, Γ, fun _ _ _ => .lst [], fun _ => ""⟩
theorem At.b {C : Cc} {av : Av} {s : DS} {H : Hp} (a : At C av s H) : At (cb C.K C.Γ) av s H := ⟨a.wo, a.ad, a.al, a.nc⟩
theorem At.ub {C : Cc} {av : Av} {s : DS} {H : Hp} (a : At (cb C.K C.Γ) av s H) : At C av s H := ⟨a.wo, a.ad, a.al, a.nc⟩
theorem bJ.ub {C C' : Cc} {H : Hp} {av : Av} {p : Addr} {d : D} (hk : C.K = C'.K) (hg : C.Γ = C'.Γ) (h : bJ C H av p d) : bJ C' H av p d := by
  cases C; cases C'
  cases hk; cases hg
  cases d <;> exact h
def FinC (K : PySem.W.Frag) (Γ : Wc) (fr : Bool) (av : Av) (H : Hp) (s' : DS) (Q : VK) (E : XK) : Except Xn D → Prop
  | .ok d => if fr = true then j5 (cb K Γ) av s' H d Q else Done (cb K Γ) av s' H d Q
  | .error x => ∀ cls dd H', Go Γ H H' → Wo K Γ av H' s' → ee (cb K Γ) H' av x cls dd → E cls dd H'
def spF (K : PySem.W.Frag) (Γ : Wc) (fr : Bool) (n : Nat) (F : List D → M D) : Sp := fun vs H Q E => ∃ av s ds r s', At (cb K Γ) av s H ∧ ah K H av Γ vs ds ∧ ds.length = n ∧ F ds s = some (r, s') ∧ FinC K Γ fr av H s' Q E r
def aw (n : Nat) (F : List D → M D) (a : En → M (List D)) : En → M D := fun ρ s => bx (a ρ s) fun x s1 => if x.length = n then F x s1 else none
section
variable {C : Cc} {W : WX} {ts : TA} {ms : En → M (List D)}
theorem uG {n : Nat} {F : List D → M D} (hs : SA C W ts ms) : SF C W (tCallS (spF C.K C.Γ true n F) (WE W) ts) (aw n F ms) := by
  intro av σ ρ s H r s' Q o e q
  refine hs.iO o e q fun x s1 vs H1 g1 o1 r1 e q => ?_
  split at e
  · rename_i hl
    refine ⟨av, s1, x, r, s', o1.at_.b, r1, hl, e, ?_⟩
    cases r with
    | ok d => exact fun p H' g w n ow => q p H' g w n (ow.ub rfl rfl)
    | error x => exact fun cls dd H' g w rx => q cls dd H' g w rx
  · cases e
theorem aE {fr : Bool} {n : Nat} {F : List D → M D} (hs : SA C W ts ms) : SE C W (tCallS (spF C.K C.Γ fr n F) (WE W) ts) (aw n F ms) := by
  cases fr with
  | true => exact (uG hs).se
  | false =>
    intro av σ ρ s H r s' Q o e q
    refine hs.bind o e q fun x s1 vs H1 g1 o1 r1 e q => ?_
    split at e
    · rename_i hl
      refine ⟨av, s1, x, r, s', o1.at_.b, r1, hl, e, ?_⟩
      cases r with
      | ok d => exact fun v H' g w rv => q v H' g w rv
      | error x => exact fun cls dd H' g w rx => q cls dd H' g w rx
    · cases e
end
section
variable {X : Cx} {CX : CXT} {k : Nat} {f : Addr} {fd : FuncData} {ps : List Str} {sp : Sp} {E : L2.St → XK} {x : Str} {p pos : Pos} {e : Expr} {es : List Expr} {t : TA}
theorem uH {pins : List (Addr × Obj)} {σ : L2.St} {H : Hp} {s : Shared} {Q : VK} {us : List Value} {vs : List V} (F : FnG X.prog X.w X.K X.mg X.base CX k f fd ps sp) (hg : X.A.guards = some []) (hr : Room k X.A) (hb : Binds X.K fd ps []) (hx : PassesAt CX X σ (E σ))
    (I : Inv X pins σ H s) (r : Vals vs us) (h : sp vs H Q (E σ)) : wpAny (model X.prog X.w) X.A (call (.ref f) us) (EP X pins σ Q) X.xe s := by
  have hl : us.length = ps.length := r.length ▸ F.lens _ _ _ _ h
  have b := hb s us I.kIn (by rw [List.append_nil]; exact hl)
  rw [List.append_nil] at b
  refine wpAny_call (codeAny_mono (F.runs X.A X.stack s H ⟨us, []⟩ us vs Q (E σ) hg hr I.env0 b r h) fun r s' hq => ?_)
  match r, hq with
  | .error e, hq => exact hx pins H s e s' I hq
  | .ok (.ret u), hq => exact I.after hq
  | .ok .next, hq => exact False.elim hq
  | .ok .brk, hq => exact False.elim hq
  | .ok .cont, hq => exact False.elim hq
theorem aA (F : FnG X.prog X.w X.K X.mg X.base CX k f fd ps sp) (hg : X.A.guards = some []) (hr : Room k X.A) (hgl : Gl X x) (hm : X.mg x = some (.ref f)) (hk : PySem.W.keepIn X.K (.ref f) = true) (hb : Binds X.K fd ps []) (hx : ∀ σ, PassesAt CX X σ (E σ))
    (ha : PA X (e :: es) t) (hdb : (x == ("__debug__" : Str)) = false := by decide) (he : starEach (e :: es) X.env = (false, eval e X.env) :: starEach es X.env := by rfl) (hpl : (backTo pos (starEach es X.env)).any (·.1) = false := by rfl) :
    PE X (.Call (.Name x p) (e :: es) [] pos) (tCallS sp E t) := by
  refine ⟨fun pins s σ H Q I h => ?_⟩
  refine wpAny_Call_Name_kw (ld_glob I hgl hm ?_ hdb)
  refine PySem.W.callWith_K (h₀ := X.base) I.ok.mod.kin hk (thn (ha.run pos pins s σ H _ I h) fun us s1 ⟨vs, H1, I1, r, q⟩ => ⟨I1.kIn, ?_⟩) he hpl
  exact uH F hg hr hb (hx σ) I1 r q
end
def env0 (n : Nat) (ds : List D) : En := vals ds ++ List.replicate (n - ds.length) .no
/-- a def that tells a result at its end, or (z) none -/
def fnR (z : Bool) : Option (Res × DS) → Option (Except Xn D × DS)
  | some (.rt d, s) => some (.ok d, s)
  | some (.nx _, s) => if z = true then some (.ok .non, s) else none
  | some (.er _ x, s) => some (.error x, s)
  | _ => none
def nW (z : Bool) (n : Nat) (b : S) : List D → M D := fun ds s => fnR z (b (env0 n ds) s)
abbrev fnD := nW false
section
variable {P : Program} {w : World} {K : PySem.W.Frag} {Γ : Wc} {mg : Str → Option Value} {base : Heap}
theorem dt {n : Nat} {ds : List D} {i : Nat} {x : Sl} (e : (env0 n ds)[i]? = some x) : (∃ d, ds[i]? = some d ∧ x = .val d) ∨ x = .no := by
  unfold env0 vals at e
  by_cases hi : i < ds.length
  · rw [List.getElem?_append_left (by simpa using hi), List.getElem?_map] at e
    obtain ⟨d', e1, e2⟩ := eQ e
    exact .inl ⟨d', e1, e2.symm⟩
  · rw [List.getElem?_append_right (by simp; omega), List.getElem?_replicate] at e
    split at e
    · cases e
      exact .inr rfl
    · cases e
theorem aI.start {C : Cc} {H : Hp} {av : Av} {vs : List V} {ds : List D} (r : ah C.K H av C.Γ vs ds) (n : Nat) : aI C H av (vs.map some ++ List.replicate (n - vs.length) none) (env0 n ds) := by
  refine ⟨fun i d e => ?_, fun i k e => ?_, fun i k e => ?_⟩
  · rcases dt e with ⟨d', e1, e2⟩ | e2
    · cases e2
      obtain ⟨v, h1, h2⟩ := r.get e1
      refine ⟨v, ?_, h2⟩
      have hi : i < vs.length := by
        by_cases h : i < vs.length
        · exact h
        · rw [List.getElem?_eq_none (by simpa using h)] at h1
          cases h1
      rw [List.getElem?_append_left (by rw [List.length_map]; exact hi), List.getElem?_map, h1]
      rfl
    · cases e2
  · rcases dt e with ⟨d', e1, e2⟩ | e2 <;> cases e2
  · rcases dt e with ⟨d', e1, e2⟩ | e2 <;> cases e2
theorem pz {C : Cc} {E0 H : Hp} {ae : Av} {os : List Addr} {σ : L2.St} {n : Nat} {ds : List D} : TX C E0 ae os σ (env0 n ds) H :=
  .none (fun i d e => by rcases dt e with ⟨d', e1, e2⟩ | e2 <;> cases e2) (fun i d e => by rcases dt e with ⟨d', e1, e2⟩ | e2 <;> cases e2)
theorem cw {x qual : Str} {st : Stmt} {f : Addr} {fd : FuncData} {N ps : List Str} {k n a : Nat} {fr z : Bool} {body : S} (F : Fun K x qual st f fd) (Sc : FnScope N ps (defScope st)) (hn : N.length = n) (ha : ps.length = a)
    (hz : z = true → fr = false)
    (hb : ∀ (cdv : Value) (A : Around) (outer : List Env) (s : Shared) (H : Hp) (E : XK), fd.code = cdv → A.guards = some [] → Room k (A.deeper (envOfC qual (defScope st) s.heap.objs.size f cdv)) →
      ∃ lo lq t, PSs (cxOf (L2.CX P w) P w K mg base N qual (defScope st) f cdv A outer s H E) (defBody st) t ∧ SS ⟨K, Γ, lo, lq⟩ (fun cls d _ H' => E cls d H') fr t body) :
    FnG P w K mg base (L2.CX P w) (k + 1) f fd ps (spF K Γ fr a (nW z n body)) := by
  subst hn ha
  refine GD.Fun.okG F Sc (fun vs H Q E h => ?_) fun cdv A outer s H vs Q E hcv hg hr h => ?_
  · obtain ⟨av, s, ds, d, s', a, r, hl, _⟩ := h
    rw [r.len, hl]
  · obtain ⟨av, s0, ds, res, s', a, r, hl, e, q⟩ := h
    obtain ⟨lo, lq, t, h1, h2⟩ := hb cdv A outer s H E hcv hg hr
    refine ⟨t, h1, ?_⟩
    have hst : start N vs = vs.map some ++ List.replicate (N.length - vs.length) none := rfl
    rw [hst]
    have ok : Ok ⟨K, Γ, lo, lq⟩ H av [] (vs.map some ++ List.replicate (N.length - vs.length) none) (env0 N.length ds) s0 H := by
      refine ⟨.refl, ?_, a.wo.wd (fun b z => .inl (z.resolve_right (by simp))), a.ad, a.al, fun p hp => (by cases hp), fun x z => a.nc x (z.elim id fun y => by cases y), ?_, fun i d e => ?_, fun i j d e p _ h1 => ?_, pz⟩
      · unfold env0 vals
        rw [List.length_append, List.length_append, List.length_map, List.length_map, List.length_replicate, List.length_replicate, r.len]
      · exact (aI.start (C := ⟨K, Γ, lo, lq⟩) r N.length).wd fun a z => by
          rcases z with z | z
          · exact .inl z
          · cases z
      · rcases dt e with ⟨d', e1, e2⟩ | e2 <;> cases e2
      · rcases dt h1 with ⟨d', e1, e2⟩ | e2 <;> cases e2
    have nil : ∀ {a : Addr}, avO av [] a → av a := fun {a} z => z.elim id fun y => by cases y
    unfold nW at e
    cases eb : body (env0 N.length ds) s0 with
    | none => rw [eb] at e; cases e
    | some pr =>
      obtain ⟨rs, s1⟩ := pr
      rw [eb] at e
      refine h2 H av [] _ _ s0 H rs s1 _ ok eb ?_
      cases rs with
      | rt d' =>
        cases e
        cases fr with
        | true => exact fun p H' g w n ow => q p H' g w n (ow.ub rfl rfl)
        | false => exact fun v H' g w rv => q v H' g w rv
      | nx ρ' =>
        cases z with
        | false => cases e
        | true =>
          cases e
          cases hz rfl
          exact fun os' σ' H' o f => q .non H' o.go (o.wo.wd fun b z => .inl (.inl z)) .non
      | er ρ' x =>
        cases e
        exact fun os' σ' H' cls dd o f rx => q cls dd H' o.go (o.wo.wd fun b z => .inl (.inl z)) (ee.wd rx fun a z => .inl (.inl z))
      | bk ρ' => cases e
      | ct ρ' => cases e
theorem a8 {f : Addr} {fd : FuncData} {ps : List Str} {k n : Nat} {fr : Bool} {CX : CXT} : FnG P w K mg base CX k f fd ps (spF K Γ fr n fun _ _ => none) :=
  ⟨fun vs H Q E h => by
    obtain ⟨av, s, ds, d, s', a, r, hl, e, _⟩ := h
    exact (nomatch e), fun A outer s H args us vs Q E _ _ _ _ _ h => by
    obtain ⟨av, s, ds, d, s', a, r, hl, e, _⟩ := h
    exact (nomatch e)⟩
end
end DM
set_option Elab.async false
set_option linter.all false
set_option maxRecDepth 100000
set_option maxHeartbeats 2000000
namespace DM
open PySem PySem.Spec PyProof.Rows L2 Lay NdefX LamX GD
end DM
set_option Elab.async false
set_option linter.all false
set_option maxRecDepth 100000
set_option maxHeartbeats 2000000
namespace SumL
open PySem PySem.Spec PyProof.Rows L2
abbrev lob (vs : List Value) (n : Nat) : Obj := { cls := .type "list", data := .seq vs.toArray n }
section
variable {prog : Program} {w : World} {A : Around} {R : Result → Shared → Prop}
/-- the objects at these addresses are lists of these values -/
def lZ (h : Heap) : List Value → List (List Value) → Prop
  | [], [] => True
  | v :: vs, x :: xs => (∃ a n, v = .ref a ∧ h.get? a = some (lob x n)) ∧ lZ h vs xs
  | _, _ => False
theorem lZ.keep {h h' : Heap} : ∀ {vs : List Value} {xs : List (List Value)}, (∀ b, Value.ref b ∈ vs → ∀ u n, h.get? b = some (lob u n) → h'.get? b = some (lob u n)) → lZ h vs xs → lZ h' vs xs
  | [], [], _, _ => trivial
  | v :: vs, x :: xs, k, ⟨⟨a, n, e, q⟩, r⟩ => ⟨⟨a, n, e, k a (by rw [e]; exact List.mem_cons_self) x n q⟩, lZ.keep (fun b hb => k b (List.mem_cons_of_mem _ hb)) r⟩
  | [], _ :: _, _, h => h.elim
  | _ :: _, [], _, h => h.elim
end
end SumL
set_option Elab.async false
set_option linter.all false
set_option maxRecDepth 100000
set_option maxHeartbeats 2000000
set_option Elab.async false
set_option linter.all false
set_option maxRecDepth 100000
set_option maxHeartbeats 2000000
namespace DM
open PySem PySem.Spec PyProof.Rows L2 Lay NdefX LamX GD
section
variable {X : Cx}
/-- x in c, x not in c: c a list or a tuple of data -/
def xA (K : PySem.W.Frag) (neg : Bool) : R2 := fun x y H Q => ∃ d c ds, Dp K H x d ∧ Dp K H y c ∧ (c = .list ds ∨ c = .tuple ds) ∧ SeqAt.shaped d = true ∧ SeqAt.shaped c = true ∧ Q (.bl (Bool.xor neg (ds.any fun z => PyData.eqv z d))) H
theorem qu (hu : X.A.units + 65 < cLine) : OpR X (compareOp .NotIn) (xA X.K true) := by
  intro pins s σ H x y v u Q I rx ry h
  obtain ⟨d, c, ds, hd, he, hc, sd, se, q⟩ := h
  rw [Bool.true_xor] at q
  obtain ⟨as, r1⟩ := Dp.reads I d x v hd rx
  obtain ⟨bs, r2⟩ := Dp.reads I c y u he ry
  rcases hc with rfl | rfl
  · exact SeqAt.notIn_list_reads r2 r1 (SeqAt.canLay_of_shaped se) (SeqAt.canLay_of_shaped sd) (room_in_shaped sd hu) ⟨.bl _, H, I, rfl, q⟩
  · exact SeqAt.notIn_tuple_reads r2 r1 (SeqAt.canLay_of_shaped se) (SeqAt.canLay_of_shaped sd) (room_in_shaped sd hu) ⟨.bl _, H, I, rfl, q⟩
end
def oInX (neg : Bool) : D → D → Option D
  | a, .lst xs => (toP a).bind fun p => (fu xs).bind fun qs => if SeqAt.shaped p && SeqAt.shaped (.list qs) then some (.bl (Bool.xor neg (qs.any fun z => PyData.eqv z p))) else none
  | a, .tup xs => (toP a).bind fun p => (fu xs).bind fun qs => if SeqAt.shaped p && SeqAt.shaped (.tuple qs) then some (.bl (Bool.xor neg (qs.any fun z => PyData.eqv z p))) else none
  | _, _ => none
def oNi : D → D → Option D
  | a, .lst xs => if eP a && xs.all eP then some (.bl (!xs.any fun y => uw y a)) else none
  | a, .tup xs => if eP a && xs.all eP then some (.bl (!xs.any fun y => uw y a)) else none
  | _, _ => none
def oRep : D → D → Option D
  | .lst xs, .int k => if decide (-(2 ^ 63) ≤ k) && decide (k < 2 ^ 63) && decide (xs.length * k.toNat ≤ line) then some (.lst (List.replicate k.toNat xs).flatten) else none
  | _, _ => none
def rL : D → D → Option D
  | .non, .non => some (.bl true)
  | .drw, .non => none
  | .mob _, .non => none
  | .kdc _ _, .non => none
  | _, .non => some (.bl false)
  | _, _ => none
def rM : D → D → Option D
  | .non, .non => some (.bl false)
  | .drw, .non => none
  | .mob _, .non => none
  | .kdc _ _, .non => none
  | _, .non => some (.bl true)
  | _, _ => none
def rN : List D → Option D
  | [.str z] => if z.length ≤ line then some (.int z.length) else none
  | _ => none
def du : List D → Option D
  | [.lst xs] => some (.lst xs)
  | [.tup xs] => some (.lst xs)
  | _ => none
def gu : List D → Option (List Bool)
  | [] => some []
  | .bl b :: xs => (gu xs).map fun r => b :: r
  | _ => none
def rO : List D → Option D
  | [.lst xs] => (gu xs).map fun bs => .bl (bs.all id)
  | _ => none
/-- what stands in a dict of texts -/
def getD : List Str → List D → Str → Option D
  | k :: ks, d :: ds, x => if k = x then some d else getD ks ds x
  | _, _, _ => none
def qv : D → D → Option D
  | .dic ks ds, .str z => getD ks ds z
  | _, _ => none
def orL (f g : List D → Option D) : List D → Option D := fun a => match f a with
  | some c => some c
  | none => g a
section
variable {C : Cc} {W : WX} {ta tb td ty tx te : TE} {ma mb md mk mx me : En → M D} {ts : TA} {ms : En → M (List D)}
theorem yY {r1 r2 : List V → Hp → VK → Prop} {f g : List D → Option D} (h1 : CbS C r1 f) (h2 : CbS C r2 g) : CbS C (fun xs H Q => r1 xs H Q ∨ r2 xs H Q) (orL f g) := by
  intro av s H vs ds c Q o r e q
  unfold orL at e
  split at e
  · rename_i c' hc
    cases e
    exact .inl (h1 av s H vs ds _ Q o r hc q)
  · exact .inr (h2 av s H vs ds c Q o r e q)
theorem xB {neg : Bool} : OpS C (xA C.K neg) (oInX neg) := by
  intro av s H x y a b z Q o ra rb e q
  cases b <;> try (exact nomatch (show (none : Option D) = some z from e))
  all_goals
    obtain ⟨p, e1, e⟩ := cO e
    obtain ⟨qs, e2, e⟩ := cO e
    split at e
    · rename_i hs
      simp at hs
      cases e
      refine ⟨p, _, qs, ra.dp e1, rb.dp (by simp only [toP]; rw [e2]; rfl), ?_, hs.1, hs.2, q.pure o (.bl _)⟩
      first | exact .inl rfl | exact .inr rfl
    · cases e
theorem rQ : OpS C (rIn C.K true) oNi := by
  intro av s H x y a b z Q o ra rb e q
  cases b <;> try (exact nomatch (show (none : Option D) = some z from e))
  · simp only [oNi] at e
    split at e
    · rename_i hs
      simp only [Bool.and_eq_true] at hs
      cases e
      obtain ⟨p, vs, rfl, n, h1, r1⟩ := rb.b3
      refine ⟨p, vs, rfl, .inl (SqL.of h1), kH ra hs.1, jm r1 hs.2, ?_⟩
      have q' := q.pure o (.bl _)
      rw [if_pos rfl, nS ra hs.1 r1 hs.2]
      exact q'
    · cases e
  · simp only [oNi] at e
    split at e
    · rename_i hs
      simp only [Bool.and_eq_true] at hs
      cases e
      obtain ⟨p, vs, rfl, h1, r1⟩ := rb.dm
      refine ⟨p, vs, rfl, .inr h1.sq, kH ra hs.1, jm r1 hs.2, ?_⟩
      have q' := q.pure o (.bl _)
      rw [if_pos rfl, nS ra hs.1 r1 hs.2]
      exact q'
    · cases e
theorem ah.rep {av : Av} {H : Hp} {vs : List V} {ds : List D} (r : ah C.K H av C.Γ vs ds) : ∀ n : Nat, ah C.K H av C.Γ (List.replicate n vs).flatten (List.replicate n ds).flatten
  | 0 => .nil
  | n + 1 => by
    rw [List.replicate_succ, List.replicate_succ, List.flatten_cons, List.flatten_cons]
    exact r.append (ah.rep r n)
theorem rR : OpS C (fun x y H Q => y = .non ∧ Q (.bl (decide (x = .non))) H) rL := by
  intro av s H x y a b z Q o ra rb e q
  cases b <;> cases a <;> simp only [rL] at e <;> (try (cases e)) <;> refine ⟨rb.dP, ?_⟩
  all_goals
    have q' := q.pure o (.bl _)
    cases ra <;> exact q'
theorem uI : OpS C (fun x y H Q => y = .non ∧ Q (.bl (!decide (x = .non))) H) rM := by
  intro av s H x y a b z Q o ra rb e q
  cases b <;> cases a <;> simp only [rM] at e <;> (try (cases e)) <;> refine ⟨rb.dP, ?_⟩
  all_goals
    have q' := q.pure o (.bl _)
    cases ra <;> exact q'
theorem uJ : CbS C (fun xs H Q => ∃ z, xs = [.str z] ∧ z.length ≤ sizeLine ∧ Q (.int z.length) H) rN := by
  intro av s H vs ds c Q o r e q
  unfold rN at e
  split at e
  · split at e
    · rename_i hl
      cases e
      obtain ⟨v, rfl, r1⟩ := r.one
      exact ⟨_, by rw [r1.b9], dX hl, q.pure o (.int _)⟩
    · cases e
  · cases e
theorem dZ : CbF C (fun xs H Q => ∃ p ys, xs = [.ref p] ∧ (SqL C.K H p ys ∨ SqT C.K H p ys) ∧ ∀ l, H l = none → Q (.ref l) (upd H l (.lst ys))) du := by
  intro av s H vs ds c Q o r e q
  unfold du at e
  split at e
  · cases e
    obtain ⟨v, rfl, r1⟩ := r.one
    obtain ⟨p, ys, rfl, n, h1, r2⟩ := r1.b3
    exact ⟨p, ys, rfl, .inl (SqL.of h1), fun l hl => q.kE o hl r2⟩
  · cases e
    obtain ⟨v, rfl, r1⟩ := r.one
    obtain ⟨p, ys, rfl, h1, r2⟩ := r1.dm
    exact ⟨p, ys, rfl, .inr h1.sq, fun l hl => q.kE o hl r2⟩
  · cases e
theorem jq {av : Av} {H : Hp} : ∀ {vs : List V} {ds : List D} {bs : List Bool}, ah C.K H av C.Γ vs ds → gu ds = some bs → vs = bs.map V.bl
  | _, [], bs, r, e => by cases r; cases e; rfl
  | _, d :: ds, bs, r, e => by
    cases r with
    | cons a r =>
      cases d <;> simp only [gu] at e <;> try (cases e)
      obtain ⟨r', e1, rfl⟩ := eQ e
      rw [jq r e1, a.dA]
      rfl
theorem rS : CbS C (rAll C.K) rO := by
  intro av s H vs ds c Q o r e q
  unfold rO at e
  split at e
  · obtain ⟨bs, e1, rfl⟩ := eQ e
    obtain ⟨v, rfl, r1⟩ := r.one
    obtain ⟨p, ys, rfl, n, h1, r2⟩ := r1.b3
    rw [jq r2 e1] at h1
    exact ⟨p, bs, rfl, SqL.of h1, q.pure o (.bl _)⟩
  · cases e
theorem ah.two {av : Av} {H : Hp} {vs : List V} {d e : D} (r : ah C.K H av C.Γ vs [d, e]) : ∃ v w, vs = [v, w] ∧ Rep C.K H av C.Γ v d ∧ Rep C.K H av C.Γ w e := by
  cases r with
  | cons a r =>
    obtain ⟨w, rfl, b⟩ := r.one
    exact ⟨_, w, rfl, a, b⟩
theorem l7 {H : Hp} {av : Av} {z : Str} : ∀ {ks : List Str} {vs : List V} {ds : List D}, ah C.K H av C.Γ vs ds → ks.length = ds.length → match getD ks ds z with
    | some d => ∃ v, valV (cT ks vs) (Sum.inr z) = some v ∧ Rep C.K H av C.Γ v d
    | none => valV (cT ks vs) (Sum.inr z) = none
  | [], _, [], r, e => by
    cases r
    rfl
  | [], _, _ :: _, _, e => by cases e
  | k :: ks, _, [], _, e => by cases e
  | k :: ks, _, x :: ds, r, e => by
    cases r with
    | @cons u us _ _ a r =>
      unfold getD
      by_cases hk : k = z
      · rw [if_pos hk]
        exact ⟨u, by unfold cT valV; rw [List.zipWith_cons_cons, List.find?_cons]; simp [hk], a⟩
      · rw [if_neg hk]
        have ih := l7 (z := z) r (Nat.succ.inj e)
        have hv : valV (cT (k :: ks) (u :: us)) (Sum.inr z) = valV (cT ks us) (Sum.inr z) := by
          unfold cT valV
          rw [List.zipWith_cons_cons, List.find?_cons]
          simp only [Sum.inr.injEq, hk, decide_false]
        rw [hv]
        exact ih
theorem qw {a b c : D} (e : qv a b = some c) : ∃ ks ds z, a = .dic ks ds ∧ b = .str z ∧ getD ks ds z = some c := by
  cases a <;> cases b <;> simp only [qv] at e <;> try (cases e)
  exact ⟨_, _, _, rfl, rfl, e⟩
theorem uK (ha : SE C W td md) (hb : SE C W ty mk) : SE C W (tDGet td ty) (eOp qv md mk) := by
  intro av σ ρ s H r s' Q o e q
  refine ha.bind o e q fun x s1 v H1 g1 o1 r1 e q => ?_
  refine hb.bind o1 e q fun y s2 w H2 g2 o2 r2 e q => ?_
  obtain ⟨z, e3, rfl, rfl⟩ := aL e
  obtain ⟨ks, ds, z', rfl, rfl, e3⟩ := qw e3
  have r1' := Rep.kp r1 (g2.kp.ch o.ad)
  obtain ⟨p, vs, rfl, n, h1, hl, r3⟩ := r1'.xa
  have h4 := l7 (z := z') r3 hl
  rw [show getD ks ds z' = some z from e3] at h4
  obtain ⟨u, h4, h5⟩ := h4
  exact ⟨p, u, rfl, .inl ⟨_, Sum.inr _, h1.rd, Rep.b9 r2, h4.symm⟩, q u H2 .refl o2.wo h5⟩
end
end DM
set_option Elab.async false
set_option linter.all false
set_option maxRecDepth 100000
set_option maxHeartbeats 2000000
namespace DM
open PySem PySem.Spec PyProof.Rows L2 Lay NdefX LamX GD
def pick {α : Type} (is : List Nat) (zs : List α) : List α := is.filterMap fun i => zs[i]?
theorem fY {vs : List V} {us : List Value} (r : Vals vs us) : ∀ is : List Nat, Vals (pick is vs) (pick is us)
  | [] => .nil
  | i :: is => by
    unfold pick
    rw [List.filterMap_cons, List.filterMap_cons]
    cases e : vs[i]? with
    | none =>
      have e2 : us[i]? = none := by
        rw [List.getElem?_eq_none_iff] at e ⊢
        rw [← r.length]; exact e
      rw [e2]
      exact fY r is
    | some v =>
      obtain ⟨u, e2, ru⟩ := r.get e
      rw [e2]
      exact .cons ru (fY r is)
theorem fG {K : PySem.W.Frag} {H : Hp} {av : Av} {Γ : Wc} {vs : List V} {ds : List D} (r : ah K H av Γ vs ds) : ∀ is : List Nat, ah K H av Γ (pick is vs) (pick is ds)
  | [] => .nil
  | i :: is => by
    unfold pick
    rw [List.filterMap_cons, List.filterMap_cons]
    cases e : vs[i]? with
    | none =>
      have e2 : ds[i]? = none := by
        rw [List.getElem?_eq_none_iff] at e ⊢
        rw [← r.len]; exact e
      rw [e2]
      exact fG r is
    | some v =>
      obtain ⟨u, e2, ru⟩ := r.lQ e
      rw [e2]
      exact .cons ru (fG r is)
structure KBi (K : PySem.W.Frag) (fd : FuncData) (ps ks : List Str) (is : List Nat) : Prop where
  to : ∀ (s : Shared) (ws : List Value), K.In s.heap → ws.length = ks.length → BindsTo s fd ⟨[], ks.zip ws⟩ (ps.zip (pick is ws))
theorem xC {K : PySem.W.Frag} {x qual : Str} {st : Stmt} {f : Addr} {fd : FuncData} {ps ks : List Str} {is : List Nat} (F : Fun K x qual st f fd)
    (h : ∀ (kV doc pm : Value) (an : Option Addr) (cdv ct : Value) (ws : List Value), ws.length = ks.length → bindArgs (PySem.W.fnOf x qual (defArgs st) (defBody st) (defScope st) .none kV doc pm an cdv ct) ⟨[], ks.zip ws⟩ = pure (ps.zip (pick is ws))) : KBi K fd ps ks is := by
  obtain ⟨oc, od, kV, doc, pm, an, cdv, ct, osl, rfl, lk, hcd⟩ := F.ex
  exact ⟨fun s ws _ l => .of_eq (h kV doc pm an cdv ct ws l)⟩
def tCallK (n : Nat) (is : List Nat) (sp : Sp) (E : L2.St → XK) (t : TA) : TE := fun σ H Q => t σ H fun zs H1 => zs.length = n ∧ sp (pick is zs) H1 Q (E σ)
def jr (n m : Nat) (is : List Nat) (F : List D → M D) (a : En → M (List D)) : En → M D := fun ρ s => bx (a ρ s) fun x s1 => if x.length = n ∧ (pick is x).length = m then F (pick is x) s1 else none
section
variable {X : Cx} {CX : CXT} {k : Nat} {f : Addr} {fd : FuncData} {ps ks : List Str} {is : List Nat} {sp : Sp} {E : L2.St → XK} {x : Str} {p pos : Pos} {kws : List Keyword} {tk : TA}
theorem qx (F : FnG X.prog X.w X.K X.mg X.base CX k f fd ps sp) (hgu : X.A.guards = some []) (hr : Room k X.A) (hg : Gl X x) (hm : X.mg x = some (.ref f)) (hk : PySem.W.keepIn X.K (.ref f) = true) (hb : KBi X.K fd ps ks is) (hx : ∀ σ, PassesAt CX X σ (E σ)) (hkw : PK X kws tk)
    (hall : (backToKw pos (keywordEach kws X.env)).all (·.1.isSome) = true := by rfl) (hks : (backToKw pos (keywordEach kws X.env)).filterMap (·.1) = ks := by rfl) (hdb : (x == ("__debug__" : Str)) = false := by decide)
    (hpl : ((backTo pos (starEach [] X.env)).any (·.1) || (backToKw pos (keywordEach kws X.env)).any (·.1.isNone)) = false := by rfl) :
    PE X (.Call (.Name x p) [] kws pos) (tCallK ks.length is sp E tk) := by
  refine ⟨fun pins s σ H Q I h => ?_⟩
  refine wpAny_Call_Name_kw (ld_glob I hg hm ?_ hdb)
  refine PySem.W.callWith_KW0 (h₀ := X.base) I.ok.mod.kin hk hall ?_ hpl
  refine thn (hkw.run pos pins s σ H _ I h) fun ws s2 ⟨zs, H2, I2, rz, l2, q2⟩ => ⟨I2.kIn, ?_⟩
  rw [hks]
  refine wpAny_call (codeAny_mono (F.runs X.A X.stack s2 H2 ⟨[], ks.zip ws⟩ (pick is ws) (pick is zs) Q (E σ) hgu hr I2.env0 (hb.to s2 ws I2.kIn (rz.length.symm.trans l2)) (fY rz is) q2) fun r s' hq => ?_)
  match r, hq with
  | .error e, hq => exact hx σ pins H2 s2 e s' I2 hq
  | .ok (.ret u), hq => exact I2.after hq
  | .ok .next, hq => exact False.elim hq
  | .ok .brk, hq => exact False.elim hq
  | .ok .cont, hq => exact False.elim hq
end
section
variable {C : Cc} {W : WX} {ts : TA} {ms : En → M (List D)}
theorem rT {n m : Nat} {is : List Nat} {F : List D → M D} (hs : SA C W ts ms) : SF C W (tCallK n is (spF C.K C.Γ true m F) (WE W) ts) (jr n m is F ms) := by
  intro av σ ρ s H r s' Q o e q
  refine hs.iO o e q fun x s1 vs H1 g1 o1 r1 e q => ?_
  split at e
  · rename_i hl
    refine ⟨by rw [ah.len r1]; exact hl.1, av, s1, pick is x, r, s', o1.at_.b, fG r1 is, hl.2, e, ?_⟩
    cases r with
    | ok d => exact fun p H' g w n ow => q p H' g w n (ow.ub rfl rfl)
    | error x => exact fun cls dd H' g w rx => q cls dd H' g w rx
  · cases e
theorem rW {fr : Bool} {n m : Nat} {is : List Nat} {F : List D → M D} (hs : SA C W ts ms) : SE C W (tCallK n is (spF C.K C.Γ fr m F) (WE W) ts) (jr n m is F ms) := by
  cases fr with
  | true => exact (rT hs).se
  | false =>
    intro av σ ρ s H r s' Q o e q
    refine hs.bind o e q fun x s1 vs H1 g1 o1 r1 e q => ?_
    split at e
    · rename_i hl
      refine ⟨by rw [ah.len r1]; exact hl.1, av, s1, pick is x, r, s', o1.at_.b, fG r1 is, hl.2, e, ?_⟩
      cases r with
      | ok d => exact fun v H' g w rv => q v H' g w rv
      | error x => exact fun cls dd H' g w rx => q cls dd H' g w rx
    · cases e
end
theorem FnG.ex {P : Program} {w : World} {K : PySem.W.Frag} {mg : Str → Option Value} {base : Heap} {CX : CXT} {k : Nat} {f : Addr} {fd : FuncData} {ps : List Str} {ι : Type} {p : ι → Prop} {sp : ι → Sp} (h : ∀ i, p i → FnG P w K mg base CX k f fd ps (sp i)) : FnG P w K mg base CX k f fd ps (fun vs H Q E => ∃ i, p i ∧ sp i vs H Q E) :=
  ⟨fun vs H Q E ⟨i, pi, q⟩ => (h i pi).lens vs H Q E q, fun A o s H ar us vs Q E hg hr e b r ⟨i, pi, q⟩ => (h i pi).runs A o s H ar us vs Q E hg hr e b r q⟩
mutual
/-- the value u stands for the data d, in the written part -/
def wB (K : PySem.W.Frag) : Value → D → Bool
  | .none, .non => true
  | .bool b, .bl c => b == c
  | .int i _, .int j => decide (i = j)
  | .str x _, .str y => decide (x = y)
  | .ref q, .tup ds => match K.lookup q with
    | some ⟨.type c, _, .seq its _, _⟩ => decide (c = "tuple") && decide (its.size ≤ 1000) && wBs K its.toList ds
    | _ => false
  | _, _ => false
def wBs (K : PySem.W.Frag) : List Value → List D → Bool
  | [], [] => true
  | u :: us, d :: ds => wB K u d && wBs K us ds
  | _, _ => false
end
def toV : Value → V
  | .none => .non
  | .bool b => .bl b
  | .int i _ => .int i
  | .str x _ => .str x
  | .ref a => .ref a
  | _ => .non
mutual
theorem rX {K : PySem.W.Frag} {H : Hp} {av : Av} {Γ : Wc} : ∀ (d : D) (u : Value), wB K u d = true → Rep K H av Γ (toV u) d ∧ RelV (toV u) u
  | .non, u, h => by
    cases u <;> simp [wB] at h
    exact ⟨.non, rfl⟩
  | .bl b, u, h => by
    cases u <;> simp [wB] at h
    subst h
    exact ⟨.bl _, rfl⟩
  | .int b, u, h => by
    cases u <;> simp [wB] at h
    subst h
    exact ⟨.int _, ⟨_, rfl⟩⟩
  | .str b, u, h => by
    cases u <;> simp [wB] at h
    subst h
    exact ⟨.str _, ⟨_, rfl⟩⟩
  | .tup ds, u, h => by
    cases u with
    | ref q =>
      simp only [wB] at h
      split at h
      · rename_i c d its n sl e
        simp only [Bool.and_eq_true, decide_eq_true_eq] at h
        obtain ⟨⟨rfl, hz⟩, h⟩ := h
        obtain ⟨h1, h2⟩ := kM ds its.toList h
        exact ⟨.tup (.inr ⟨_, its, n, e, rfl, rfl, Nat.le_trans hz (by decide), h2⟩) h1, rfl⟩
      · cases h
    | _ => simp [wB] at h
  | .lst ds, u, h => by cases u <;> simp [wB] at h
  | .dic _ _, u, h => by cases u <;> simp [wB] at h
  | .obj _ _ _, u, h => by cases u <;> simp [wB] at h
  | .exc _ _ _, u, h => by cases u <;> simp [wB] at h
  | .drw, u, h => by cases u <;> simp [wB] at h
  | .mob _, u, h => by cases u <;> simp [wB] at h
  | .kdc _ _, u, h => by cases u <;> simp [wB] at h
theorem kM {K : PySem.W.Frag} {H : Hp} {av : Av} {Γ : Wc} : ∀ (ds : List D) (us : List Value), wBs K us ds = true → ah K H av Γ (us.map toV) ds ∧ Vals (us.map toV) us
  | [], us, h => by
    cases us with
    | nil => exact ⟨.nil, .nil⟩
    | cons u us => simp [wBs] at h
  | d :: ds, us, h => by
    cases us with
    | nil => simp [wBs] at h
    | cons u us =>
      simp only [wBs, Bool.and_eq_true] at h
      obtain ⟨a, b⟩ := rX d u h.1
      obtain ⟨c, e⟩ := kM ds us h.2
      exact ⟨.cons a c, .cons b e⟩
end
/-- a value of the module -/
theorem se_w {C : Cc} {W : WX} {a : Addr} {d : D} (h : wB C.K (.ref a) d = true) : SE C W (tC (.ref a)) (eC d) := rm fun H av => (rX d _ h).1
end DM
set_option Elab.async false
set_option linter.all false
set_option maxRecDepth 100000
set_option maxHeartbeats 2000000
namespace DM
open PySem PySem.Spec PyProof.Rows L2 Lay NdefX LamX GD
def iP : List (Str × (En → M D)) → En → M (List D)
  | [] => fun _ s => some (.ok [], s)
  | (_, m) :: r => fun ρ s => bx (m ρ s) fun x s1 => bx (iP r ρ s1) fun y s2 => some (.ok (x :: y), s2)
def mkD (ks : List Str) (xs : List D) : Option D := if decide ks.Nodup && decide (ks.length ≤ 15) then some (.dic ks xs) else none
def qy (ps : List (Str × (En → M D))) : En → M D := fun ρ s => bx (iP ps ρ s) fun x s1 => ox (mkD (ps.map (·.1)) x) s1
inductive SP (C : Cc) (W : WX) : List (TE × TE) → List (Str × (En → M D)) → Prop
  | nil : SP C W [] []
  | cons {k : Str} {t : TE} {m : En → M D} {ts : List (TE × TE)} {ms : List (Str × (En → M D))} : SE C W t m → SP C W ts ms → SP C W ((tC (.str k), t) :: ts) ((k, m) :: ms)
def rPs (C : Cc) (ks : List Str) : RG (List D) (List (V × V)) := fun H av ps ds => ∃ vs, ps = List.zipWith (fun k v => (V.str k, v)) ks vs ∧ ah C.K H av C.Γ vs ds ∧ ks.length = ds.length
theorem xD {C : Cc} {W : WX} {ts : List (TE × TE)} {ms : List (Str × (En → M D))} (h : SP C W ts ms) : SG C W (rPs C (ms.map (·.1))) (tPairs ts) (iP ms) := by
  induction h with
  | nil =>
    intro av σ ρ s H r s' Q o e q
    cases e
    exact q _ H .refl o.wo ⟨[], rfl, .nil, rfl⟩
  | cons h1 h2 ih =>
    intro av σ ρ s H r s' Q o e q
    refine h1.bind (R' := rPs C _) o e q fun x s1 v H1 g1 o1 r1 e q => ?_
    refine SG.bind (R' := rPs C _) ih o1 e q fun y s2 ps H2 g2 o2 r2 e q => ?_
    cases e
    obtain ⟨vs, rfl, r2, hl⟩ := r2
    exact q _ H2 .refl o2.wo ⟨v :: vs, rfl, .cons (Rep.kp r1 (g2.kp.ch o.ad)) r2, by simpa using hl⟩
theorem putK_new {kvs : List (Key × V)} {k : Key} {v : V} (h : ∀ p ∈ kvs, p.1 ≠ k) : putK kvs k v = kvs ++ [(k, v)] := by
  unfold putK
  rw [if_neg]
  intro z
  obtain ⟨p, hp, e⟩ := List.any_eq_true.mp z
  exact h p hp (of_decide_eq_true e)
theorem j6 : ∀ (ks : List Str) (vs : List V) (acc : List (Key × V)), ks.Nodup → (∀ p ∈ acc, ∀ k ∈ ks, p.1 ≠ Sum.inr k) → mergeK acc (cT ks vs) = acc ++ cT ks vs
  | [], vs, acc, _, _ => by simp [cT, mergeK]
  | k :: ks, [], acc, _, _ => by simp [cT, mergeK]
  | k :: ks, v :: vs, acc, nd, h => by
    have nd' := List.nodup_cons.mp nd
    have e : mergeK acc (cT (k :: ks) (v :: vs)) = mergeK (putK acc (Sum.inr k) v) (cT ks vs) := rfl
    rw [e, putK_new fun p hp => h p hp k List.mem_cons_self, j6 ks vs _ nd'.2 fun p hp k' hk => ?_]
    · rw [List.append_assoc]
      rfl
    · rcases List.mem_append.mp hp with hp | hp
      · exact h p hp k' (List.mem_cons_of_mem _ hk)
      · rw [List.mem_singleton.mp hp]
        intro z
        cases z
        exact nd'.1 hk
theorem uL {C : Cc} {W : WX} {ts : List (TE × TE)} {ms : List (Str × (En → M D))} (h : SP C W ts ms) : SF C W (tDisp ts) (qy ms) := by
  intro av σ ρ s H r s' Q o e q p hp
  let av2 : Av := fun a => av a ∨ a = p
  have nw : ∀ a, av2 a → av a ∨ H a = none := fun a z => by
    rcases z with z | z
    · exact .inl z
    · rw [z]; exact .inr hp
  have np : ¬ C.Γ.ch p := fun z => o.al p (o.ad p z) hp
  have k0 : Kp av2 H (upd H p (.dK [])) := .new hp
  have o1 : OkE C av2 σ ρ s (upd H p (.dK [])) := by
    refine ⟨o.len, (o.wo.wd nw).new hp, fun a z => .inl (o.ad a z), fun a z => ?_, fun a z => ?_, (o.sl.wd nw).kp k0⟩
    · rcases z with z | z
      · exact Lv.upd a (o.al a z)
      · rw [z, upd_same]; simp
    · by_cases e : a = p
      · rw [e, upd_same]
        intro c q z
        cases z
      · rw [upd_ne e]
        exact o.nc a (z.resolve_right e)
  cases z : iP ms ρ s with
  | none =>
    unfold qy at e
    rw [z] at e
    cases e
  | some pr =>
    obtain ⟨x, s1⟩ := pr
    unfold qy at e
    rw [z] at e
    refine xD h av2 σ ρ s _ x s1 _ o1 z ?_
    cases x with
    | error x =>
      cases e
      exact fun cls dd H' g w rx => q cls dd H' ((Go.new hp).trans g) (w.wd fun a z => .inl (.inl z)) (rx.wd fun a z => .inl (.inl z))
    | ok ds =>
      intro ps H2 g w rp
      obtain ⟨d, e3, rfl, rfl⟩ := aL e
      unfold mkD at e3
      split at e3
      · rename_i hn
        simp only [Bool.and_eq_true, decide_eq_true_eq] at hn
        cases e3
        obtain ⟨vs, rfl, ra, hl⟩ := rp
        have h2 : H2 p = some (.dK []) := g.kp p _ np upd_same
        have hz : List.zipWith (fun k v => (V.str k, v)) (ms.map (·.1)) vs = (cT (ms.map (·.1)) vs).map fun kv => (kV kv.1, kv.2) := by
          unfold cT
          rw [List.map_zipWith]
          rfl
        refine ⟨h2, cT (ms.map (·.1)) vs, hz, ?_, ?_⟩
        · unfold cT
          rw [List.length_zipWith]
          omega
        · rw [j6 _ _ _ hn.1 (fun p hp => by cases hp), List.nil_append]
          have ku : Kp av2 H2 (upd H2 p (.dK (cT (ms.map (·.1)) vs))) := .upd (.inr rfl)
          refine q p _ ⟨fun a o' n e' => ?_, ((Lv.upd (o := .dK [])).trans g.lv).trans .upd⟩ ((w.own (.inr rfl) np h2 fun c q z => by cases z).wd fun a z => .inl (z.imp id List.mem_singleton.mp)) hp ⟨vs, upd_same, hl, (ra.kp ku).wd fun a z => .inl ?_⟩
          · have n1 : a ≠ p := fun z => by rw [z, hp] at e'; cases e'
            rw [upd_ne n1]
            exact g.kp a _ n ((upd_ne n1).trans e')
          · rcases z with z | z
            · exact .inl z
            · exact .inr (List.mem_singleton.mp z)
      · cases e3
/-- the code objects of defs that make lambdas, and their tables -/
def tabAt (K : PySem.W.Frag) (x : Str) : Addr × Addr := (PySem.W.tabIn K x).getD (0, 0)
end DM
set_option Elab.async false
set_option linter.all false
set_option maxRecDepth 100000
set_option maxHeartbeats 2000000
namespace DM
open PySem PySem.Spec PyProof.Rows L2 Lay NdefX LamX GD
theorem hu65 {k : Nat} {A : Around} (r : Room k A) : A.units + 65 < cLine := by
  have := r.un
  omega
abbrev qz : D → D → Option D := oI0 fun i j => .int (i - j)
abbrev oDiv : D → D → Option D := oI rE fun i j => .int (i / j)
abbrev oMod : D → D → Option D := oI rF fun i j => .int (i % j)
abbrev uM : D → D → Option D := oI rG fun i j => .int (i ^ j.toNat)
abbrev oLe : D → D → Option D := oI0 fun i j => .bl (decide (i ≤ j))
def cP (K : PySem.W.Frag) : R2 := orR (rI0 fun i j => .int (i + j)) (orR (fun x y H Q => ∃ i j, x = .str i ∧ y = .str j ∧ i.length + j.length ≤ sizeLine ∧ Q (.str (i ++ j)) H) (orR rCat (rCatA K)))
def bw : D → D → Option D := orF (oI0 fun i j => .int (i + j)) (orF rq (orF lR rD))
def yZ (i j : Int) : Bool := decide (i.natAbs.log2 + j.natAbs.log2 < 1000000)
def y0 : D → D → Option D := orF (oI xj fun i j => .int (i * j)) (orF (oI yZ fun i j => .int (i * j)) oRep)
def dR (K : PySem.W.Frag) : R2 := orR rEq (rEqD K)
def jP (K : PySem.W.Frag) : R2 := orR rNe (rNeD K)
def cH : D → D → Option D := orF oEq uv
def eT : D → D → Option D := orF oNe nR
def xE (K : PySem.W.Frag) : R2 := orR (rIn K true) (xA K true)
def xF : D → D → Option D := orF oNi (oInX true)
section
variable {X : Cx}
theorem bz : OpR X (binaryOp .Add) (cP X.K) := fB op_add (fB op_add_str (fB op_cat op_catA))
theorem bP (hu : X.A.units + 64 < cLine) : OpR X (compareOp .Eq) (dR X.K) := fB op_eq (op_eqD hu)
theorem fH (hu : X.A.units + 64 < cLine) : OpR X (compareOp .NotEq) (jP X.K) := fB op_ne (op_neD hu)
theorem xG (hu : X.A.units + 65 < cLine) : OpR X (compareOp .NotIn) (xE X.K) := fB op_notIn_seq (qu hu)
theorem we : ∀ σ, PassesAt (L2.CX X.prog X.w) X σ (WE wF σ) := fun σ => passAt (W := wF) L2.takes0 σ
def qA (K : PySem.W.Frag) (t : TE) : TI := orI (iList K t) (orI (iTup K t) (iStr t))
theorem bT {tg e : Expr} {te : TE} (h : PE X e te) : PI X tg e (qA X.K te) := nT (pi_list h) (nT (pi_tup h) (pi_str h))
abbrev rSlX (K : PySem.W.Frag) : V → Option Int → Option Int → Hp → VK → Prop := fun x lo hi H Q => rSlL K x lo hi H Q ∨ (rSlA K x lo hi H Q ∨ rSlS x lo hi H Q)
theorem iA : SlR X (rSlX X.K) := sl_list.or (sl_tupA.or sl_str)
abbrev eB (K : PySem.W.Frag) : List V → Hp → VK → Prop := fun xs H Q => (∃ p ys, xs = [.ref p] ∧ (SqL K H p ys ∨ SqT K H p ys) ∧ Q (.int ys.length) H) ∨ (∃ z, xs = [.str z] ∧ z.length ≤ sizeLine ∧ Q (.int z.length) H)
theorem bU : CallR X (.builtin "len") (eB X.K) := call_len_seq.or call_len_str
abbrev pA (K : PySem.W.Frag) : List V → Hp → VK → Prop := fun xs H Q => ∃ p ys, xs = [.ref p] ∧ ((SqL K H p ys ∧ ∀ l, H l = none → Q (.ref l) (upd H l (.tup ys))) ∨ (SqT K H p ys ∧ Q (.ref p) H))
end
def uN (f g : D → Option Int → Option Int → Option D) : D → Option Int → Option Int → Option D := fun a l u => match f a l u with
  | some c => some c
  | none => g a l u
def slX : D → Option Int → Option Int → Option D := uN slL (uN slT slS)
def isX : D → Option (List D) := orD isL (orD isT isS)
def cK : List D → Option D := orL xg rN
section
variable {C : Cc} {W : WX} {te : TE} {me : En → M D}
theorem bA : OpS C (cP C.K) bw := iN xi (iN ux (iN xk uy))
theorem bQ : OpS C (dR C.K) cH := iN os_eq xl
theorem fI : OpS C (jP C.K) eT := iN yV xm
theorem xH : OpS C (xE C.K) xF := iN rQ xB
theorem wg {r1 r2 : V → Option Int → Option Int → Hp → VK → Prop} {f g : D → Option Int → Option Int → Option D} (h1 : SlS C r1 f) (h2 : SlS C r2 g) : SlS C (fun x lo hi H Q => r1 x lo hi H Q ∨ r2 x lo hi H Q) (uN f g) := by
  intro av s H x a l u c Q o ra e q
  unfold uN at e
  split at e
  · rename_i c' hc
    cases e
    exact .inl (h1 av s H x a l u _ Q o ra hc q)
  · exact .inr (h2 av s H x a l u c Q o ra e q)
theorem eU : SlS C (rSlX C.K) slX := wg ss_L (wg ss_T ss_S)
theorem cg (h : SE C W te me) : SI C W (qA C.K te) (iD isX me) := wb (uA h) (wb (xo h) (xp h))
theorem c5 : CbS C (eB C.K) cK := yY xn uJ
end
def eD (s : DS) : Int × DS :=
  if s.b then (s.n % 10 ^ 6, ⟨s.n / 10 ^ 6, s.k + 1, s.b, s.m⟩)
  else
    let k : Int := (s.k : Int) + 1
    let a := (s.n % 1000003 + k * k * 7919 + k) * 48271 % 2147483629
    let b := a * a % 2147483587
    (b * (b + 2) % 2147483579 / 7, ⟨s.n, s.k + 1, s.b, s.m⟩)
def lim : Nat := 1000000
def next : List D → M D
  | [.drw], s => if s.k ≤ lim then some (.ok (.int (eD s).1), (eD s).2) else none
  | _, _ => none
theorem uO (s : DS) : (eD s).2.m = s.m := by
  unfold eD
  split <;> rfl
theorem uP (s : DS) : (eD s).2.k = s.k + 1 := by
  unfold eD
  split <;> rfl
theorem rY (s : DS) : 0 ≤ (eD s).1 := by
  unfold eD
  split
  · show 0 ≤ s.n % 10 ^ 6
    omega
  · dsimp only
    generalize (_ : Int) * (_ + 2) = z
    omega
theorem rZ (s : DS) : (eD s).1 < 1073741824 := by
  unfold eD
  split
  · show s.n % 10 ^ 6 < _
    omega
  · dsimp only
    generalize (_ : Int) * (_ + 2) = z
    omega
theorem modB (a : Int) {m : Int} (h : 0 < m) (h2 : m < 2 ^ 64) : -(2 ^ 64) < a % m ∧ a % m < 2 ^ 64 := by
  have h3 := Int.emod_nonneg a (show m ≠ 0 by omega)
  have h4 := Int.emod_lt_of_pos a h
  omega
/-- what the draws' list at d holds is changed: the world stands -/
theorem Wo.draw {K : PySem.W.Frag} {Γ : Wc} {av : Av} {H : Hp} {s s' : DS} (w : Wo K Γ av H s) (hm : s'.m = s.m) (ad : av Γ.dr) : Wo K Γ av (upd H Γ.dr (.lst [.int s'.n, .int (s'.k : Int), .bl s'.b])) s' := by
  refine ⟨upd_same, fun r hr => ?_, w.nd, by rw [hm]; exact w.ml, fun i a d h1 h2 => ?_⟩
  · obtain ⟨ps, h1, h2, h3⟩ := w.tb r hr
    have n1 : r.1 ≠ Γ.dr := fun z => by
      have e := w.dr
      rw [← z, h1] at e
      cases e
    refine ⟨ps, by rw [upd_ne n1]; exact h1, h2, fun pos cv hc => ?_⟩
    obtain ⟨c, e1, e2⟩ := h3 pos cv hc
    have n2 : c ≠ Γ.dr := fun z => by
      have e := w.dr
      rw [← z, e2] at e
      cases e
    exact ⟨c, e1, by rw [upd_ne n2]; exact e2⟩
  · rw [hm] at h2
    have n1 : a ≠ Γ.dr := fun z => (List.nodup_cons.mp w.nd).1 (by rw [← z]; exact List.mem_of_getElem? h1)
    exact (w.mt i a d h1 h2).kp (.upd ad) (upd_ne n1)
theorem Go.draw {Γ : Wc} {H : Hp} {o : HO} : Go Γ H (upd H Γ.dr o) := ⟨.upd (.inl rfl), .upd⟩
end DM
set_option Elab.async false
set_option linter.all false
set_option maxRecDepth 100000
set_option maxHeartbeats 2000000
namespace DM
open PySem L2
def Wp {α : Type} (x : Option (Except Xn α × DS)) (E : Xn → DS → Prop) (P : α → DS → Prop) : Prop := (∃ a s, x = some (.ok a, s) ∧ P a s) ∨ (∃ e s, x = some (.error e, s) ∧ E e s)
def Wr (x : Option (Res × DS)) (R : Res → DS → Prop) : Prop := ∃ r s, x = some (r, s) ∧ R r s
def WO {α : Type} (x : Option α) (P : α → Prop) : Prop := ∃ a, x = some a ∧ P a
abbrev nE : Xn → DS → Prop := fun _ _ => False
section
variable {α β : Type} {E : Xn → DS → Prop}
theorem cM {a : α} {s : DS} {P : α → DS → Prop} (h : P a s) : Wp (some (.ok a, s)) E P := .inl ⟨a, s, rfl, h⟩
theorem Wp.mono {x : Option (Except Xn α × DS)} {P Q : α → DS → Prop} (h : Wp x E P) (f : ∀ a s, P a s → Q a s) : Wp x E Q := h.imp (fun ⟨a, s, e, p⟩ => ⟨a, s, e, f a s p⟩) id
theorem Wp.monoE {x : Option (Except Xn α × DS)} {E' : Xn → DS → Prop} {P : α → DS → Prop} (h : Wp x E P) (f : ∀ a s, E a s → E' a s) : Wp x E' P := h.imp id (fun ⟨a, s, e, p⟩ => ⟨a, s, e, f a s p⟩)
theorem a9 {x : Option (Except Xn α × DS)} {f : α → DS → Option (Except Xn β × DS)} {Q : β → DS → Prop} (h : Wp x E fun a s => Wp (f a s) E Q) : Wp (bx x f) E Q := by
  rcases h with ⟨a, s, rfl, h⟩ | ⟨e, s, rfl, h⟩
  · exact h
  · exact .inr ⟨e, s, rfl, h⟩
theorem eE {x : Option α} {s : DS} {Q : α → DS → Prop} (h : WO x fun a => Q a s) : Wp (ox x s) E Q := by
  obtain ⟨a, rfl, h⟩ := h
  exact .inl ⟨a, s, rfl, h⟩
theorem eV {ρ : En} {x : Option (Except Xn α × DS)} {f : α → DS → Option (Res × DS)} {R : Res → DS → Prop} (h : Wp x (fun e s => R (.er ρ e) s) fun a s => Wr (f a s) R) : Wr (bs ρ x f) R := by
  rcases h with ⟨a, s, rfl, h⟩ | ⟨e, s, rfl, h⟩
  · exact h
  · exact ⟨_, s, rfl, h⟩
theorem Wr.mono {x : Option (Res × DS)} {P Q : Res → DS → Prop} (h : Wr x P) (f : ∀ a s, P a s → Q a s) : Wr x Q := let ⟨a, s, e, p⟩ := h; ⟨a, s, e, f a s p⟩
theorem bX {r : Res} {s : DS} {R : Res → DS → Prop} (h : R r s) : Wr (some (r, s)) R := ⟨r, s, rfl, h⟩
theorem WO.mono {x : Option α} {P Q : α → Prop} (h : WO x P) (f : ∀ a, P a → Q a) : WO x Q := let ⟨a, e, p⟩ := h; ⟨a, e, f a p⟩
end
class kN (ρ : En) (i : Nat) (x : Sl) (ρ' : outParam En) : Prop where
  eq : ρ.set i x = ρ'
instance {y x : Sl} {ρ : En} : kN (y :: ρ) 0 x (x :: ρ) := ⟨rfl⟩
instance {y x : Sl} {ρ ρ' : En} {i : Nat} [h : kN ρ i x ρ'] : kN (y :: ρ) (i + 1) x (y :: ρ') := ⟨by rw [List.set_cons_succ, h.eq]⟩
class Lk (ρ : En) (i : Nat) (x : outParam Sl) : Prop where
  eq : ρ[i]? = some x
instance {y : Sl} {ρ : En} : Lk (y :: ρ) 0 y := ⟨rfl⟩
instance {y x : Sl} {ρ : En} {i : Nat} [h : Lk ρ i x] : Lk (y :: ρ) (i + 1) x := ⟨by rw [List.getElem?_cons_succ, h.eq]⟩
class Wl (ρ : En) (is : List Nat) (ρ' : outParam En) : Prop where
  eq : cJ ρ is = ρ'
instance {ρ : En} : Wl ρ [] ρ := ⟨rfl⟩
instance {ρ ρ1 ρ' : En} {i : Nat} {is : List Nat} [h : Wl ρ is ρ1] [h2 : kN ρ1 i .no ρ'] : Wl ρ (i :: is) ρ' := ⟨by unfold cJ; rw [h.eq, h2.eq]⟩
class Ev0 (n : Nat) (ds : List D) (ρ : outParam En) : Prop where
  eq : env0 n ds = ρ
instance : Ev0 0 [] [] := ⟨rfl⟩
instance {n : Nat} {ρ : En} [h : Ev0 n [] ρ] : Ev0 (n + 1) [] (.no :: ρ) := ⟨by have := h.eq; simp [env0, vals] at this ⊢; rw [List.replicate_succ, this]⟩
instance {n : Nat} {d : D} {ds : List D} {ρ : En} [h : Ev0 n ds ρ] : Ev0 (n + 1) (d :: ds) (.val d :: ρ) := ⟨by have := h.eq; simp [env0, vals] at this ⊢; exact this⟩
/-- the slots that a target has -/
class Tl (tg : Tgt) (is : outParam (List Nat)) : Prop where
  eq : tg.slots = is
class Tls (ts : List Tgt) (is : outParam (List Nat)) : Prop where
  eq : dq ts = is
class ApN (a b : List Nat) (c : outParam (List Nat)) : Prop where
  eq : a ++ b = c
instance {b : List Nat} : ApN [] b b := ⟨rfl⟩
instance {x : Nat} {a b c : List Nat} [h : ApN a b c] : ApN (x :: a) b (x :: c) := ⟨by rw [List.cons_append, h.eq]⟩
instance {i : Nat} : Tl (.one i) [i] := ⟨rfl⟩
instance {ts : List Tgt} {is : List Nat} [h : Tls ts is] : Tl (.many ts) is := ⟨h.eq⟩
instance : Tls [] [] := ⟨rfl⟩
instance {t : Tgt} {ts : List Tgt} {a b c : List Nat} [h : Tl t a] [h2 : Tls ts b] [h3 : ApN a b c] : Tls (t :: ts) c := ⟨by unfold dq; rw [h.eq, h2.eq, h3.eq]⟩
def uQ : List Nat → List D → En → (En → Prop) → Prop
  | [], [], ρ, k => k ρ
  | i :: is, d :: ds, ρ, k => uQ is ds (ρ.set i (.val d)) k
  | _, _, _, _ => False
theorem uQ.len : ∀ {is : List Nat} {ds : List D} {ρ : En} {k : En → Prop}, uQ is ds ρ k → ds.length = is.length ∧ k (setM is (vals ds) ρ)
  | [], [], ρ, k, h => ⟨rfl, h⟩
  | i :: is, d :: ds, ρ, k, h => by
    obtain ⟨h1, h2⟩ := uQ.len (is := is) (ds := ds) h
    exact ⟨by simp [h1], h2⟩
/-- what a target takes apart, one part behind the other -/
def TgK (tg : Tgt) (d : D) (ρ : En) (k : En → Prop) : Prop := WO (tg.set ρ d) k
def l8 (ts : List Tgt) (ds : List D) (ρ : En) (k : En → Prop) : Prop := WO ((fD ts ds).map fun xs => setM (dq ts) (vals xs) ρ) k
theorem uR {i : Nat} {d : D} {ρ : En} {k : En → Prop} (h : k (ρ.set i (.val d))) : TgK (.one i) d ρ k := ⟨_, rfl, h⟩
theorem r5 {ts : List Tgt} {ds : List D} {ρ : En} {k : En → Prop} (h : l8 ts ds ρ k) : TgK (.many ts) (.tup ds) ρ k := by
  obtain ⟨ρ', e, h⟩ := h
  exact ⟨ρ', e, h⟩
theorem r8 {ρ : En} {k : En → Prop} (h : k ρ) : l8 [] [] ρ k := ⟨ρ, rfl, h⟩
theorem mf : ∀ (tg : Tgt) (d : D) (xs : List D), flat tg d = some xs → xs.length = tg.slots.length
  | .one i, d, xs, e => by cases e; rfl
  | .unl is, d, xs, e => by
    cases d <;> simp only [flat] at e <;> try (cases e)
    split at e
    · rename_i h
      cases e
      exact h
    · cases e
  | .many ts, d, xs, e => by
    cases d <;> simp only [flat] at e <;> try (cases e)
    exact j7 ts _ xs e
where j7 : ∀ (ts : List Tgt) (ds : List D) (xs : List D), fD ts ds = some xs → xs.length = (dq ts).length
  | [], [], xs, e => by cases e; rfl
  | [], _ :: _, xs, e => by cases e
  | _ :: _, [], xs, e => by cases e
  | t :: ts, d :: ds, xs, e => by
    unfold fD at e
    obtain ⟨a, e1, e⟩ := cO e
    obtain ⟨b, e2, rfl⟩ := eQ e
    have h1 := mf t d a e1
    have h2 := j7 ts ds b e2
    unfold dq
    rw [List.length_append, List.length_append, h1, h2]
theorem qB {t : Tgt} {ts : List Tgt} {d : D} {ds : List D} {ρ : En} {k : En → Prop} (h : TgK t d ρ fun ρ1 => l8 ts ds ρ1 k) : l8 (t :: ts) (d :: ds) ρ k := by
  obtain ⟨ρ1, e1, ρ2, e2, h⟩ := h
  unfold Tgt.set at e1
  obtain ⟨a, f1, rfl⟩ := eQ e1
  obtain ⟨b, f2, rfl⟩ := eQ e2
  refine ⟨_, ?_, h⟩
  have : fD (t :: ts) (d :: ds) = some (a ++ b) := by unfold fD; rw [f1]; dsimp only [Option.bind]; rw [f2]; rfl
  rw [this]
  have hs : dq (t :: ts) = t.slots ++ dq ts := rfl
  have hv : vals (a ++ b) = vals a ++ vals b := List.map_append
  show some (setM (dq (t :: ts)) (vals (a ++ b)) ρ) = _
  rw [hs, hv, jo _ _ _ _ _ (by unfold vals; rw [List.length_map, mf t d a f1])]
class Short (xs : List D) (n : Nat) : Prop where
  le : xs.length ≤ n
instance {n : Nat} : Short [] n := ⟨Nat.zero_le n⟩
instance {x : D} {xs : List D} {n : Nat} [h : Short xs n] : Short (x :: xs) (n + 1) := ⟨Nat.succ_le_succ h.le⟩
class pC (xs : List D) (n : Nat) : Prop where
  eq : xs.length = n
instance : pC [] 0 := ⟨rfl⟩
instance {x : D} {xs : List D} {n : Nat} [h : pC xs n] : pC (x :: xs) (n + 1) := ⟨congrArg (· + 1) h.eq⟩
class uS (xs ys : List D) (zs : outParam (List D)) : Prop where
  eq : xs ++ ys = zs
instance {ys : List D} : uS [] ys ys := ⟨rfl⟩
instance {x : D} {xs ys zs : List D} [h : uS xs ys zs] : uS (x :: xs) ys (x :: zs) := ⟨congrArg (x :: ·) h.eq⟩
class mj (xs : List D) (n : outParam Nat) : Prop where
  eq : xs.length = n
instance : mj [] 0 := ⟨rfl⟩
instance {x : D} {xs : List D} {n : Nat} [h : mj xs n] : mj (x :: xs) (n + 1) := ⟨congrArg (· + 1) h.eq⟩
/-- one step, found by the form alone -/
class Stp (G : Prop) (N : outParam Prop) : Prop where
  go : N → G
section
variable {ρ ρ' : En} {s : DS} {E : Xn → DS → Prop} {P : D → DS → Prop} {a b e mi : En → M D} {ms is : En → M (List D)} {c mt mu : En → M Bool} {f : D → D → Option D} {g1 : D → Option D} {gl : List D → Option D} {R : Res → DS → Prop} {m n m1 m2 : S} {QL : List D → DS → Prop} {QB : Bool → DS → Prop} {QO : Option Int → DS → Prop} {Q : D → Prop} {d d1 : D} {ds xs ys : List D} {A B : Prop} {ii jj : Nat} {il : List Nat} {rf : D → En} {rl : List D → En} {tg : Tgt}
instance [h : Lk ρ ii (.val d)] : Stp (Wp (ai ii ρ s) E P) (P d s) := ⟨fun p => .inl ⟨d, s, by unfold ai; rw [h.eq], p⟩⟩
instance : Stp (Wp (eC d ρ s) E P) (P d s) := ⟨cM⟩
instance : Stp (Wp (eOp f a b ρ s) E P) (Wp (a ρ s) E fun x s1 => Wp (b ρ s1) E fun y s2 => WO (f x y) fun z => P z s2) := ⟨fun h => a9 (h.mono fun _ _ h => a9 (h.mono fun _ _ h => eE h))⟩
instance : Stp (Wp (eUn g1 a ρ s) E P) (Wp (a ρ s) E fun x s1 => WO (g1 x) fun z => P z s1) := ⟨fun h => a9 (h.mono fun _ _ h => eE h)⟩
instance : Stp (Wp (eCB gl ms ρ s) E P) (Wp (ms ρ s) E fun xs s1 => WO (gl xs) fun z => P z s1) := ⟨fun h => a9 (h.mono fun _ _ h => eE h)⟩
instance : Stp (Wp (ab a ms ρ s) E QL) (Wp (a ρ s) E fun x s1 => Wp (ms ρ s1) E fun xs s2 => QL (x :: xs) s2) := ⟨fun h => a9 (h.mono fun _ _ h => a9 (h.mono fun _ _ h => cM h))⟩
instance : Stp (Wp (ak ρ s) E QL) (QL [] s) := ⟨cM⟩
instance : Stp (Wp (c3 ms ρ s) E P) (Wp (ms ρ s) E fun xs s1 => xs.length ≤ line ∧ P (.tup xs) s1) := ⟨fun h => a9 (h.mono fun _ _ h => eE ⟨_, by unfold mkT; rw [if_pos h.1], h.2⟩)⟩
instance : Stp (Wp (bE ms ρ s) E P) (Wp (ms ρ s) E fun xs s1 => xs.length ≤ line ∧ P (.lst xs) s1) := ⟨fun h => a9 (h.mono fun _ _ h => eE ⟨_, by unfold mkL; rw [if_pos h.1], h.2⟩)⟩
instance {k : Nat} {F : List D → M D} : Stp (Wp (aw k F ms ρ s) E P) (Wp (ms ρ s) E fun xs s1 => xs.length = k ∧ Wp (F xs s1) E P) := ⟨fun h => a9 (h.mono fun _ _ h => by rw [if_pos h.1]; exact h.2)⟩
instance {k l : Nat} {F : List D → M D} : Stp (Wp (jr k l il F ms ρ s) E P) (Wp (ms ρ s) E fun xs s1 => xs.length = k ∧ (pick il xs).length = l ∧ Wp (F (pick il xs) s1) E P) := ⟨fun h => a9 (h.mono fun _ _ h => by rw [if_pos ⟨h.1, h.2.1⟩]; exact h.2.2)⟩
instance : Stp (Wp (tB' a ρ s) E QB) (Wp (a ρ s) E fun x s1 => ∃ k, x = .bl k ∧ QB k s1) := ⟨fun h => a9 (h.mono fun x _ ⟨k, e, h⟩ => eE ⟨k, by rw [e]; rfl, h⟩)⟩
instance : Stp (Wp (pj mt mu ρ s) E QB) (Wp (mt ρ s) E fun x s1 => (x = true → Wp (mu ρ s1) E QB) ∧ (x = false → QB false s1)) := ⟨fun h => a9 (h.mono fun x _ h => by
  cases x with
  | true => exact h.1 rfl
  | false => exact cM (h.2 rfl))⟩
instance : Stp (Wp (dQ mt mu ρ s) E QB) (Wp (mt ρ s) E fun x s1 => (x = true → QB true s1) ∧ (x = false → Wp (mu ρ s1) E QB)) := ⟨fun h => a9 (h.mono fun x _ h => by
  cases x with
  | true => exact cM (h.1 rfl)
  | false => exact h.2 rfl)⟩
instance : Stp (Wp (bW mt ρ s) E QB) (Wp (mt ρ s) E fun x s1 => QB (!x) s1) := ⟨fun h => a9 (h.mono fun _ _ h => cM h)⟩
instance : Stp (Wp (a6 ρ s) E QB) (QB true s) := ⟨cM⟩
instance : Stp (Wp (nQ a b ρ s) E P) (Wp (a ρ s) E fun x s1 => ∃ k, x = .bl k ∧ ((k = true → Wp (b ρ s1) E P) ∧ (k = false → P (.bl false) s1))) := ⟨fun h => a9 (h.mono fun x _ ⟨k, e, h⟩ => by
  subst e
  cases k with
  | true => exact h.1 rfl
  | false => exact cM (h.2 rfl))⟩
instance : Stp (Wp (eIf c a b ρ s) E P) (Wp (c ρ s) E fun x s1 => (x = true → Wp (a ρ s1) E P) ∧ (x = false → Wp (b ρ s1) E P)) := ⟨fun h => a9 (h.mono fun x _ h => by
  cases x with
  | true => exact h.1 rfl
  | false => exact h.2 rfl)⟩
instance : Stp (Wp (cq ρ s) E QO) (QO none s) := ⟨cM⟩
instance : Stp (Wp (cu a ρ s) E QO) (Wp (a ρ s) E fun x s1 => ∃ i, x = .int i ∧ QO (some i) s1) := ⟨fun h => a9 (h.mono fun x _ ⟨k, e, h⟩ => eE ⟨some k, by rw [e]; rfl, h⟩)⟩
instance {g : D → Option Int → Option Int → Option D} {l u : En → M (Option Int)} : Stp (Wp (eSl g a l u ρ s) E P) (Wp (a ρ s) E fun x s1 => Wp (l ρ s1) E fun y s2 => Wp (u ρ s2) E fun z s3 => WO (g x y z) fun w => P w s3) := ⟨fun h => a9 (h.mono fun _ _ h => a9 (h.mono fun _ _ h => a9 (h.mono fun _ _ h => eE h)))⟩
theorem xI {n : Nat} {x : Option (Except Xn (List D) × DS)} (h : Wp x (fun e s => n ≤ line ∧ E e s) fun ys s2 => ys.length ≤ line ∧ P (.lst ys) s2) : Wp (lcR n x) E P := by
  rcases h with ⟨ys, s2, rfl, hl, p⟩ | ⟨e, s2, rfl, hl, p⟩
  · exact eE ⟨_, by unfold mkL; rw [if_pos hl], p⟩
  · exact .inr ⟨e, s2, by unfold lcR; dsimp only; rw [if_pos hl], p⟩
instance [h1 : Tl tg il] [h2 : Wl ρ il ρ'] : Stp (Wp (eLc tg is mt e ρ s) E P) (Wp (is ρ s) E fun xs s1 => Wp (c8 tg mt e ρ' xs s1) (fun x s => xs.length ≤ line ∧ E x s) fun ys s2 => ys.length ≤ line ∧ P (.lst ys) s2) := ⟨fun h => a9 (h.mono fun xs s1 h => xI (by rw [h1.eq, h2.eq]; exact h))⟩
theorem gN (h : QL [] s) : Wp (c8 tg mt e ρ [] s) E QL := cM h
theorem j8 (h : TgK tg d ρ fun ρ1 => Wp (mt ρ1 s) E fun k s1 => (k = true → Wp (e ρ1 s1) E fun y s2 => Wp (c8 tg mt e ρ ds s2) E fun ys s3 => QL (y :: ys) s3) ∧ (k = false → Wp (c8 tg mt e ρ ds s1) E QL)) : Wp (c8 tg mt e ρ (d :: ds) s) E QL := by
  obtain ⟨ρ1, e0, h⟩ := h
  unfold c8
  rw [e0]
  refine a9 (h.mono fun k s1 h => ?_)
  cases k with
  | true => exact a9 ((h.1 rfl).mono fun _ _ h => a9 (h.mono fun _ _ h => cM h))
  | false => exact h.2 rfl
instance : Stp (Wp (c8 tg mt e ρ (d :: ds) s) E QL) (TgK tg d ρ fun ρ1 => Wp (mt ρ1 s) E fun k s1 => (k = true → Wp (e ρ1 s1) E fun y s2 => Wp (c8 tg mt e ρ ds s2) E fun ys s3 => QL (y :: ys) s3) ∧ (k = false → Wp (c8 tg mt e ρ ds s1) E QL)) := ⟨j8⟩
instance {g : D → Option (List D)} : Stp (Wp (iD g a ρ s) E QL) (Wp (a ρ s) E fun x s1 => WO (g x) fun xs => QL xs s1) := ⟨fun h => a9 (h.mono fun _ _ h => eE h)⟩
instance {g : List D → Option (List D)} : Stp (Wp (iDs g ms ρ s) E QL) (Wp (ms ρ s) E fun x s1 => WO (g x) fun xs => QL xs s1) := ⟨fun h => a9 (h.mono fun _ _ h => eE h)⟩
instance [h : kN ρ ii (.val d) ρ'] {k : En → Prop} : Stp (TgK (.one ii) d ρ k) (k ρ') := ⟨fun g => uR (by rw [h.eq]; exact g)⟩
instance {k : En → Prop} {ts : List Tgt} : Stp (TgK (.many ts) (.tup ds) ρ k) (l8 ts ds ρ k) := ⟨r5⟩
instance {k : En → Prop} : Stp (l8 [] [] ρ k) (k ρ) := ⟨r8⟩
instance {k : En → Prop} {t : Tgt} {ts : List Tgt} : Stp (l8 (t :: ts) (d :: ds) ρ k) (TgK t d ρ fun ρ1 => l8 ts ds ρ1 k) := ⟨qB⟩
def j9 (R : Res → DS → Prop) (b : S) : Res → DS → Prop
  | .nx ρ', s1 => Wr (b ρ' s1) R
  | r, s1 => R r s1
theorem xJ (h : Wr (m ρ s) (j9 R n)) : Wr (aB m n ρ s) R := by
  obtain ⟨r, s1, e1, h⟩ := h
  unfold aB
  rw [e1]
  cases r with
  | nx ρ' => exact h
  | rt d => exact bX h
  | bk d => exact bX h
  | ct d => exact bX h
  | er d x => exact bX h
instance : Stp (Wr (aB m n ρ s) R) (Wr (m ρ s) (j9 R n)) := ⟨xJ⟩
instance : Stp (j9 R n (.nx ρ) s) (Wr (n ρ s) R) := ⟨fun h => h⟩
instance : Stp (j9 R n (.rt d) s) (R (.rt d) s) := ⟨fun h => h⟩
instance : Stp (Wr (bO tg e ρ s) R) (Wp (e ρ s) (fun x s => R (.er ρ x) s) fun d s1 => TgK tg d ρ fun ρ' => R (.nx ρ') s1) := ⟨fun h => eV (h.mono fun d s1 ⟨ρ', e, h⟩ => ⟨_, s1, by rw [e]; rfl, h⟩)⟩
instance : Stp (Wr (sIf c m1 m2 ρ s) R) (Wp (c ρ s) (fun x s => R (.er ρ x) s) fun x s1 => (x = true → Wr (m1 ρ s1) R) ∧ (x = false → Wr (m2 ρ s1) R)) := ⟨fun h => eV (h.mono fun x s1 h => by
  cases x with
  | true => exact h.1 rfl
  | false => exact h.2 rfl)⟩
instance : Stp (Wr (aV e ρ s) R) (Wp (e ρ s) (fun x s => R (.er ρ x) s) fun d s1 => R (.rt d) s1) := ⟨fun h => eV (h.mono fun _ _ h => bX h)⟩
instance [h : Lk ρ ii (.own d)] : Stp (Wr (lV ii ρ s) R) (R (.rt d) s) := ⟨fun g => ⟨_, s, by unfold lV; rw [h.eq], g⟩⟩
instance : Stp (Wr (aT ρ s) R) (R (.nx ρ) s) := ⟨bX⟩
instance [h : ∀ d, kN ρ ii (.own d) (rf d)] : Stp (Wr (nU ii e ρ s) R) (Wp (e ρ s) (fun x s => R (.er ρ x) s) fun d s1 => R (.nx (rf d)) s1) := ⟨fun g => eV (g.mono fun d s1 q => ⟨_, s1, rfl, by rw [(h d).eq]; exact q⟩)⟩
/-- a slot shared: own or not -/
class Shr (ρ : En) (i : Nat) (ρ' : outParam En) : Prop where
  eq : shr i ρ = ρ'
class ShS (x : Sl) (y : outParam Sl) : Prop where
  eq : (match x with | .own d => Sl.val d | x => x) = y
instance : ShS (.own d) (.val d) := ⟨rfl⟩
instance {x y : Sl} [h : ShS x y] : Shr (x :: ρ) 0 (y :: ρ) := ⟨by
  have e := h.eq
  cases x <;> (unfold shr; simp only [List.getElem?_cons_zero]; subst e; rfl)⟩
instance {x : Sl} [h : Shr ρ ii ρ'] : Shr (x :: ρ) (ii + 1) (x :: ρ') := ⟨by
  have e := h.eq
  subst e
  unfold shr
  rw [List.getElem?_cons_succ]
  cases z : ρ[ii]? with
  | none => rfl
  | some y => cases y <;> rfl⟩
instance [h : Shr ρ ii ρ'] : Stp (Wr (fF ii m ρ s) R) (Wr (m ρ' s) R) := ⟨fun g => by unfold fF; rw [h.eq]; exact g⟩
instance [h1 : Lk ρ ii (.own (.lst ds))] [h : ∀ x, kN ρ ii (.own (.lst (ds ++ [x]))) (rf x)] : Stp (Wr (fX ii e ρ s) R) (Wp (e ρ s) (fun x s => R (.er ρ x) s) fun x s1 => ds.length < line ∧ R (.nx (rf x)) s1) := ⟨fun g => by
  unfold fX
  rw [h1.eq]
  exact eV (g.mono fun x s1 ⟨hl, q⟩ => ⟨_, s1, by rw [if_pos hl, (h x).eq], q⟩)⟩
theorem xK {k v : En → M D} {ks : List Str} [h1 : Lk ρ ii (.own (.dic ks ds))] (g : Wp (v ρ s) (fun x s => R (.er ρ x) s) fun x s1 => Wp (k ρ s1) (fun x s => R (.er ρ x) s) fun y s2 => ∃ z, y = .str z ∧ ks.length < line ∧ R (.nx (ρ.set ii (.own (.dic (putD ks ds z x).1 (putD ks ds z x).2)))) s2) : Wr (qr ii k v ρ s) R := by
  unfold qr
  refine eV (g.mono fun x s1 g => ?_)
  rw [h1.eq]
  exact eV (g.mono fun y s2 ⟨z, e, hl, q⟩ => ⟨_, s2, by subst e; dsimp only; rw [if_pos hl], q⟩)
instance {k v : En → M D} {ks : List Str} {rp : List Str × List D → En} [h1 : Lk ρ ii (.own (.dic ks ds))] [h : ∀ p : List Str × List D, kN ρ ii (.own (.dic p.1 p.2)) (rp p)] : Stp (Wr (qr ii k v ρ s) R) (Wp (v ρ s) (fun x s => R (.er ρ x) s) fun x s1 => Wp (k ρ s1) (fun x s => R (.er ρ x) s) fun y s2 => ∃ z, y = .str z ∧ ks.length < line ∧ R (.nx (rp (putD ks ds z x))) s2) := ⟨fun g => xK (ks := ks) (ds := ds) (g.mono fun x s1 g => g.mono fun y s2 ⟨z, e, hl, q⟩ => ⟨z, e, hl, by rw [(h (putD ks ds z x)).eq]; exact q⟩)⟩
def goR (tg : Tgt) (m : S) (ds : List D) (R : Res → DS → Prop) : Res → DS → Prop
  | .nx ρ', s1 => Wr (b7 tg m ds ρ' s1) R
  | .ct ρ', s1 => Wr (b7 tg m ds ρ' s1) R
  | .bk ρ', s1 => R (.nx ρ') s1
  | r, s1 => R r s1
theorem fZ (h : R (.nx ρ) s) : Wr (b7 tg m [] ρ s) R := bX h
theorem nX (h : TgK tg d ρ fun ρ1 => Wr (m ρ1 s) (goR tg m ds R)) : Wr (b7 tg m (d :: ds) ρ s) R := by
  obtain ⟨ρ1, e0, r, s1, e1, h⟩ := h
  unfold b7
  rw [e0]
  dsimp only [Option.bind]
  rw [e1]
  cases r with
  | nx ρ' => exact h
  | ct ρ' => exact h
  | bk ρ' => exact bX h
  | rt d => exact bX h
  | er d x => exact bX h
instance : Stp (Wr (iW tg is m ρ s) R) (Wp (is ρ s) (fun x s => R (.er ρ x) s) fun xs s1 => Wr (b7 tg m xs ρ s1) R) := ⟨fun h => eV h⟩
instance : Stp (Wr (b7 tg m [] ρ s) R) (R (.nx ρ) s) := ⟨fZ⟩
instance : Stp (Wr (b7 tg m (d :: ds) ρ s) R) (TgK tg d ρ fun ρ1 => Wr (m ρ1 s) (goR tg m ds R)) := ⟨nX⟩
instance : Stp (goR tg m ds R (.nx ρ) s) (Wr (b7 tg m ds ρ s) R) := ⟨fun h => h⟩
def mn (E : Xn → DS → Prop) (P : D → DS → Prop) : Res → DS → Prop
  | .rt d, s => P d s
  | .er _ x, s => E x s
  | _, _ => False
instance : Stp (mn E P (.rt d) s) (P d s) := ⟨fun h => h⟩
theorem bo {k : Nat} [h : Ev0 k ds ρ] (g : Wr (m ρ s) (mn E P)) : Wp (fnD k m ds s) E P := by
  obtain ⟨r, s1, e1, g⟩ := g
  show Wp (fnR false (m (env0 k ds) s)) E P
  rw [h.eq, e1]
  cases r with
  | rt d => exact cM g
  | nx d => exact g.elim
  | bk d => exact g.elim
  | ct d => exact g.elim
  | er d x => exact .inr ⟨x, s1, rfl, g⟩
theorem r9 (h : s.k ≤ lim) (p : ∀ r s', 0 ≤ r → r < 1073741824 → s'.k = s.k + 1 → P (.int r) s') : Wp (next [.drw] s) E P :=
  .inl ⟨_, _, by show (if s.k ≤ lim then _ else _) = _; rw [if_pos h], p _ _ (rY s) (rZ s) (uP s)⟩
end
end DM
set_option Elab.async false
set_option linter.all false
set_option maxRecDepth 100000
set_option maxHeartbeats 2000000
namespace DM
open PySem L2
mutual
def pl : D → Bool
  | .non => true
  | .bl _ => true
  | .int _ => true
  | .str x => PyData.strOk x
  | .lst xs => pls xs
  | .tup xs => pls xs
  | _ => false
def pls : List D → Bool
  | [] => true
  | x :: xs => pl x && pls xs
end
mutual
def dep : D → Nat
  | .lst xs => mq xs + 1
  | .tup xs => mq xs + 1
  | _ => 0
def mq : List D → Nat
  | [] => 0
  | x :: xs => max (dep x) (mq xs)
end
mutual
def eqD : D → D → Bool
  | .non, .non => true
  | .bl a, .bl b => a == b
  | .bl a, .int j => (if a then 1 else 0) == j
  | .int i, .bl b => i == (if b then 1 else 0)
  | .int i, .int j => i == j
  | .str x, .str y => x == y
  | .lst xs, .lst ys => jt xs ys
  | .tup xs, .tup ys => jt xs ys
  | _, _ => false
def jt : List D → List D → Bool
  | [], [] => true
  | x :: xs, y :: ys => eqD x y && jt xs ys
  | _, _ => false
end
theorem gO : ∀ {xs : List D}, pls xs = true ↔ ∀ x ∈ xs, pl x = true
  | [] => by simp [pls]
  | x :: xs => by simp [pls, gO (xs := xs)]
theorem gQ {n : Nat} : ∀ {xs : List D}, mq xs ≤ n ↔ ∀ x ∈ xs, dep x ≤ n
  | [] => by simp [mq]
  | x :: xs => by simp [mq, Nat.max_le, gQ (xs := xs)]
mutual
theorem sf : ∀ (d : D), pl d = true → ∃ p, toP d = some p ∧ p.canLay0 = true ∧ p.depth = dep d
  | .non, _ => ⟨.none, rfl, rfl, rfl⟩
  | .bl b, _ => ⟨.bool b, rfl, rfl, rfl⟩
  | .int b, _ => ⟨.int b, rfl, rfl, rfl⟩
  | .str x, h => ⟨.str x, rfl, h, rfl⟩
  | .dic _ _, h => by simp [pl] at h
  | .drw, h => by simp [pl] at h
  | .mob _, h => by simp [pl] at h
  | .kdc _ _, h => by simp [pl] at h
  | .obj _ _ _, h => by simp [pl] at h
  | .exc _ _ _, h => by simp [pl] at h
  | .lst xs, h => by
    obtain ⟨ps, e1, e2, e3⟩ := kO xs (by simpa [pl] using h)
    exact ⟨.list ps, by simp [toP, e1], by simpa [PyData.canLay0] using e2, by simp [PyData.depth, dep, e3]⟩
  | .tup xs, h => by
    obtain ⟨ps, e1, e2, e3⟩ := kO xs (by simpa [pl] using h)
    exact ⟨.tuple ps, by simp [toP, e1], by simpa [PyData.canLay0] using e2, by simp [PyData.depth, dep, e3]⟩
theorem kO : ∀ (xs : List D), pls xs = true → ∃ ps, fu xs = some ps ∧ PyData.canLayAll0 ps = true ∧ PyData.depthAll ps = mq xs
  | [], _ => ⟨[], rfl, rfl, rfl⟩
  | x :: xs, h => by
    simp only [pls, Bool.and_eq_true] at h
    obtain ⟨p, e1, e2, e3⟩ := sf x h.1
    obtain ⟨ps, f1, f2, f3⟩ := kO xs h.2
    exact ⟨p :: ps, by simp [fu, e1, f1], by simp [PyData.canLayAll0, e2, f2], by simp [PyData.depthAll, mq, e3, f3]⟩
end
mutual
theorem gR : ∀ (d e : D) (p q : PyData), toP d = some p → toP e = some q → PyData.eqv p q = eqD d e
  | .non, e, p, q, h, h2 => by
    cases e <;> simp [toP] at h h2 <;> first | (obtain ⟨w, hw, hh⟩ := h2; subst hh; subst h; simp [PyData.eqv, eqD]) | (subst h2; subst h; simp [PyData.eqv, eqD])
  | .bl b, e, p, q, h, h2 => by
    cases e <;> simp [toP] at h h2 <;> first | (obtain ⟨w, hw, hh⟩ := h2; subst hh; subst h; simp [PyData.eqv, eqD]) | (subst h2; subst h; simp [PyData.eqv, eqD])
  | .int b, e, p, q, h, h2 => by
    cases e <;> simp [toP] at h h2 <;> first | (obtain ⟨w, hw, hh⟩ := h2; subst hh; subst h; simp [PyData.eqv, eqD]) | (subst h2; subst h; simp [PyData.eqv, eqD])
  | .str b, e, p, q, h, h2 => by
    cases e <;> simp [toP] at h h2 <;> first | (obtain ⟨w, hw, hh⟩ := h2; subst hh; subst h; simp [PyData.eqv, eqD]) | (subst h2; subst h; simp [PyData.eqv, eqD])
  | .dic _ _, e, p, q, h, h2 => by simp [toP] at h
  | .drw, e, p, q, h, h2 => by simp [toP] at h
  | .mob _, e, p, q, h, h2 => by simp [toP] at h
  | .kdc _ _, e, p, q, h, h2 => by simp [toP] at h
  | .obj _ _ _, e, p, q, h, h2 => by simp [toP] at h
  | .exc _ _ _, e, p, q, h, h2 => by simp [toP] at h
  | .lst xs, e, p, q, h, h2 => by
    cases e <;> simp [toP] at h h2 <;> obtain ⟨ps, h, rfl⟩ := h
    case lst ys =>
      obtain ⟨qs, h2, rfl⟩ := h2
      simp only [PyData.eqv, eqD]
      exact ju xs ys ps qs h h2
    case tup ys =>
      obtain ⟨qs, h2, rfl⟩ := h2
      simp [PyData.eqv, eqD]
    all_goals subst h2; simp [PyData.eqv, eqD]
  | .tup xs, e, p, q, h, h2 => by
    cases e <;> simp [toP] at h h2 <;> obtain ⟨ps, h, rfl⟩ := h
    case tup ys =>
      obtain ⟨qs, h2, rfl⟩ := h2
      simp only [PyData.eqv, eqD]
      exact ju xs ys ps qs h h2
    case lst ys =>
      obtain ⟨qs, h2, rfl⟩ := h2
      simp [PyData.eqv, eqD]
    all_goals subst h2; simp [PyData.eqv, eqD]
theorem ju : ∀ (d e : List D) (p q : List PyData), fu d = some p → fu e = some q → PyData.eqvAll p q = jt d e
  | [], [], p, q, h, h2 => by
    simp [fu] at h h2
    subst h h2
    simp [PyData.eqvAll, jt]
  | [], y :: ys, p, q, h, h2 => by
    simp only [fu, Option.bind_eq_some_iff, Option.map_eq_some_iff] at h2
    obtain ⟨q1, _, qs, _, rfl⟩ := h2
    simp [fu] at h
    subst h
    simp [PyData.eqvAll, jt]
  | x :: xs, [], p, q, h, h2 => by
    simp only [fu, Option.bind_eq_some_iff, Option.map_eq_some_iff] at h
    obtain ⟨q1, _, qs, _, rfl⟩ := h
    simp [fu] at h2
    subst h2
    simp [PyData.eqvAll, jt]
  | x :: xs, y :: ys, p, q, h, h2 => by
    simp only [fu, Option.bind_eq_some_iff, Option.map_eq_some_iff] at h h2
    obtain ⟨q1, h1, qs, h3, rfl⟩ := h
    obtain ⟨r1, h4, rs, h5, rfl⟩ := h2
    simp [PyData.eqvAll, jt, gR x y q1 r1 h1 h4, ju xs ys qs rs h3 h5]
end
/-- comparable -/
def fJ (d : D) : Prop := pl d = true ∧ dep d ≤ 60
theorem fJ.toP {d : D} (h : fJ d) : ∃ p, toP d = some p ∧ SeqAt.shaped p = true := by
  obtain ⟨p, e1, e2, e3⟩ := sf d h.1
  exact ⟨p, e1, by have := h.2; simp [SeqAt.shaped, e2, e3]; omega⟩
section
variable {Q : D → Prop} {a b : D}
theorem xM (ha : fJ a) (hb : fJ b) (h : Q (.bl (eqD a b))) : WO (uv a b) Q := by
  obtain ⟨p, e1, e2⟩ := ha.toP
  obtain ⟨q, f1, f2⟩ := hb.toP
  exact ⟨_, by simp [uv, e1, f1, e2, f2, gR a b p q e1 f1], h⟩
theorem xN (ha : fJ a) (hb : fJ b) (h : Q (.bl (!eqD a b))) : WO (nR a b) Q := by
  obtain ⟨p, e1, e2⟩ := ha.toP
  obtain ⟨q, f1, f2⟩ := hb.toP
  exact ⟨_, by simp [nR, e1, f1, e2, f2, gR a b p q e1 f1], h⟩
end
theorem fK : fJ (.lst []) := ⟨rfl, by decide⟩
theorem kP {xs : List D} : eqD (.lst xs) (.lst []) = decide (xs = []) := by cases xs <;> simp [eqD, jt]
mutual
def shw : D → Str
  | .non => "None"
  | .bl b => if b then "True" else "False"
  | .int i => toString i
  | .str x => reprText x
  | .lst xs => listText (jv xs)
  | .tup xs => tupleText (jv xs)
  | _ => ""
def jv : List D → List Str
  | [] => []
  | x :: xs => shw x :: jv xs
end
end DM
set_option Elab.async false
set_option linter.all false
set_option maxRecDepth 100000
set_option maxHeartbeats 2000000
namespace DM
open PySem L2
section
variable {α : Type} {Q : D → Prop} {f g : D → D → Option D} {a b : D}
theorem iB (h : WO (f a b) Q) : WO (orF f g a b) Q := by
  obtain ⟨c, e, q⟩ := h
  exact ⟨c, by unfold orF; rw [e], q⟩
theorem kQ (h0 : f a b = none) (h : WO (g a b) Q) : WO (orF f g a b) Q := by
  unfold orF
  rw [h0]
  exact h
/-- a truth as a number -/
def b2i (k : Bool) : Int := if k then 1 else 0
end
section
variable {Q : D → Prop} {i j : Int} {y z : Str} {xs ys : List D} {k : Bool} {d : D}
instance : Stp (WO (bw (.int i) (.int j)) Q) (Q (.int (i + j))) := ⟨fun h => iB ⟨_, rfl, h⟩⟩
theorem cX (hl : xs.length + ys.length ≤ line) (h : Q (.lst (xs ++ ys))) : WO (bw (.lst xs) (.lst ys)) Q := kQ rfl (kQ rfl (iB ⟨_, by show (if _ then _ else _) = _; rw [if_pos hl], h⟩))
theorem xO (hl : xs.length + ys.length ≤ line) (h : Q (.lst (xs ++ ys))) : WO (lR (.lst xs) (.lst ys)) Q := ⟨_, by show (if _ then _ else _) = _; rw [if_pos hl], h⟩
instance {zs : List D} [h : uS xs ys zs] [h2 : Short zs 64] : Stp (WO (bw (.lst xs) (.lst ys)) Q) (Q (.lst zs)) := ⟨fun q => cX (by rw [← List.length_append, h.eq]; exact Nat.le_trans h2.le (by decide)) (by rw [h.eq]; exact q)⟩
theorem cY (hj : (-(2 ^ 64) < i ∧ i < 2 ^ 64) ∨ (-(2 ^ 64) < j ∧ j < 2 ^ 64)) (h : Q (.int (i * j))) : WO (y0 (.int i) (.int j)) Q := iB ⟨_, by show (if xj i j = true then _ else _) = _; rw [if_pos (by simpa only [xj, Bool.or_eq_true, Bool.and_eq_true, decide_eq_true_eq] using hj)], h⟩
instance : Stp (WO (qz (.int i) (.int j)) Q) (Q (.int (i - j))) := ⟨fun h => ⟨_, rfl, h⟩⟩
theorem dE (hj : 0 < j) (h : Q (.int (i % j))) : WO (oMod (.int i) (.int j)) Q := ⟨_, by show (if rF i j = true then _ else _) = _; rw [if_pos (by simpa [rF] using hj)], h⟩
theorem dF (hj : 0 < j ∧ j < 1073741824) (h : Q (.int (i / j))) : WO (oDiv (.int i) (.int j)) Q := ⟨_, by show (if rE i j = true then _ else _) = _; rw [if_pos (by simpa [rE] using hj)], h⟩
theorem dG (hj : 0 ≤ j ∧ j ≤ 1000000 ∧ i.natAbs < 2 ^ 64) (h : Q (.int (i ^ j.toNat))) : WO (uM (.int i) (.int j)) Q := ⟨_, by show (if rG i j = true then _ else _) = _; rw [if_pos (by simpa only [rG, Bool.and_eq_true, decide_eq_true_eq, and_assoc] using hj)], h⟩
theorem cj (h : Q (.int 10000000000000000000)) : WO (uM (.int 10) (.int 19)) Q := ⟨_, congrArg (fun z => some (D.int z)) (by decide +kernel : (10 : Int) ^ Int.toNat 19 = 10000000000000000000), h⟩
instance : Stp (WO (cH (.int i) (.int j)) Q) (Q (.bl (decide (i = j)))) := ⟨fun h => iB ⟨_, rfl, h⟩⟩
instance : Stp (WO (cH (.str y) (.str z)) Q) (Q (.bl (decide (y = z)))) := ⟨fun h => iB ⟨_, rfl, h⟩⟩
instance : Stp (WO (eT (.int i) (.int j)) Q) (Q (.bl (!decide (i = j)))) := ⟨fun h => iB ⟨_, rfl, h⟩⟩
theorem fb (ha : fJ (.lst xs)) (hb : fJ (.lst ys)) (h : Q (.bl (eqD (.lst xs) (.lst ys)))) : WO (cH (.lst xs) (.lst ys)) Q := kQ rfl (xM ha hb h)
theorem sg (ha : fJ (.lst xs)) (hb : fJ (.lst ys)) (h : Q (.bl (!eqD (.lst xs) (.lst ys)))) : WO (eT (.lst xs) (.lst ys)) Q := kQ rfl (xN ha hb h)
theorem gS {j : Nat} (e : xs[j]? = some d) (h : Q d) : WO (oIx (.lst xs) (.int (j : Nat))) Q := ⟨d, atI_nat e, h⟩
theorem pD {j : Nat} (e : xs[j]? = some d) (h : Q d) : WO (oIx (.tup xs) (.int (j : Nat))) Q := ⟨d, atI_nat e, h⟩
variable {x x1 x2 x3 : D}
instance : Stp (WO (oIx (.tup (x :: xs)) (.int 0)) Q) (Q x) := ⟨pD (j := 0) rfl⟩
instance : Stp (WO (oIx (.tup (x :: x1 :: xs)) (.int 1)) Q) (Q x1) := ⟨pD (j := 1) rfl⟩
instance : Stp (WO (oIx (.lst [x, x1]) (.int (b2i k))) Q) ((k = true → Q x1) ∧ (k = false → Q x)) := ⟨fun q => by
  cases k with
  | true => exact gS (j := 1) rfl (q.1 rfl)
  | false => exact gS (j := 0) rfl (q.2 rfl)⟩
theorem sh {α : Type} {xs : List α} {i : Int} (h0 : 0 ≤ i) (h1 : i < xs.length) : ∃ (j : Nat) (d : α), i = j ∧ xs[j]? = some d ∧ atI xs i = some d := by
  obtain ⟨j, rfl⟩ := Int.eq_ofNat_of_zero_le h0
  have hj : j < xs.length := by omega
  exact ⟨j, xs[j], rfl, List.getElem?_eq_getElem hj, atI_nat (List.getElem?_eq_getElem hj)⟩
theorem sj (h0 : 0 ≤ i) (h1 : i < xs.length) (h : ∀ (j : Nat) d, i = j → xs[j]? = some d → Q d) : WO (oIx (.lst xs) (.int i)) Q := by
  obtain ⟨j, d, e1, e2, e3⟩ := sh h0 h1
  exact ⟨d, e3, h j d e1 e2⟩
theorem fL (h0 : 0 ≤ i) (h1 : i < xs.length) (h : ∀ d ∈ xs, Q d) : WO (oIx (.lst xs) (.int i)) Q := sj h0 h1 fun j d _ e => h d (List.mem_of_getElem? e)
/-- all items of a written list -/
inductive kc (Q : D → Prop) : List D → Prop
  | nil : kc Q []
  | cons {d : D} {ds : List D} : Q d → kc Q ds → kc Q (d :: ds)
theorem kc.mem {Q : D → Prop} : ∀ {xs : List D}, kc Q xs → ∀ d ∈ xs, Q d
  | _, .nil, d, h => by cases h
  | _, .cons a r, d, h => by
    rcases List.mem_cons.mp h with rfl | h
    · exact a
    · exact r.mem d h
theorem nY (I : D → Prop) (h0 : 0 ≤ i) (h1 : i < xs.length) (ha : kc I xs) (h : ∀ d, I d → Q d) : WO (oIx (.lst xs) (.int i)) Q := fL h0 h1 fun d hd => h d (ha.mem d hd)
instance : Stp (WO (kG [.bl k]) Q) (Q (.int (b2i k))) := ⟨fun h => ⟨_, rfl, h⟩⟩
instance (priority := low) : Stp (WO (cK [.lst xs]) Q) (Q (.int xs.length)) := ⟨fun h => ⟨_, rfl, h⟩⟩
instance {k : Nat} [h : mj xs k] : Stp (WO (cK [.tup xs]) Q) (Q (.int k)) := ⟨fun q => ⟨_, rfl, by rw [h.eq]; exact q⟩⟩
instance : Stp (WO (du [.lst xs]) Q) (Q (.lst xs)) := ⟨fun h => ⟨_, rfl, h⟩⟩
instance : Stp (WO (e9 [.lst xs]) Q) (Q (.tup xs)) := ⟨fun h => ⟨_, rfl, h⟩⟩
class Bls (xs : List D) (bs : outParam (List Bool)) : Prop where
  eq : gu xs = some bs
instance {α : Type} {l : List α} {f : α → Bool} : Bls (l.map fun a => D.bl (f a)) (l.map f) := ⟨by
  induction l with
  | nil => rfl
  | cons a l ih => show (gu _).map _ = _; rw [ih]; rfl⟩
variable {QL : List D → Prop}
instance : Stp (WO (isX (.lst xs)) QL) (QL xs) := ⟨fun h => ⟨_, rfl, h⟩⟩
instance : Stp (WO (isX (.str z)) QL) (QL (z.cps.toList.map fun c => .str ⟨#[c]⟩)) := ⟨fun h => ⟨_, rfl, h⟩⟩
instance : Stp (WO (isR [.int 2]) QL) (QL [.int 0, .int 1]) := ⟨fun h => ⟨_, rfl, h⟩⟩
/-- xs[:n] -/
theorem gT {n : Nat} (h : Q (.lst (xs.take n))) : WO (slX (.lst xs) none (some (n : Int))) Q := by
  refine ⟨_, rfl, ?_⟩
  have e : cutD xs none (some (n : Int)) = xs.take n := by
    have h0 : ¬ ((n : Int) < 0) := by omega
    unfold cutD
    simp [HT.sIx, h0]
  rw [e]
  exact h
instance {ks : List Str} : Stp (WO (qv (.dic ks xs) (.str z)) Q) (WO (getD ks xs z) Q) := ⟨fun h => h⟩
variable {A B : Prop}
instance {k : Bool} {Q : Bool → Prop} : Stp (∃ j, D.bl k = D.bl j ∧ Q j) (Q k) := ⟨fun h => ⟨k, rfl, h⟩⟩
instance {k : Int} {Q : Int → Prop} : Stp (∃ j, D.int k = D.int j ∧ Q j) (Q k) := ⟨fun h => ⟨k, rfl, h⟩⟩
instance {k : Str} {Q : Str → Prop} : Stp (∃ j, D.str k = D.str j ∧ Q j) (Q k) := ⟨fun h => ⟨k, rfl, h⟩⟩
instance : Stp ((true = true → A) ∧ (true = false → B)) A := ⟨fun a => ⟨fun _ => a, fun h => (nomatch h)⟩⟩
instance : Stp ((false = true → A) ∧ (false = false → B)) B := ⟨fun a => ⟨fun h => (nomatch h), fun _ => a⟩⟩
instance [h : Short xs 64] : Stp (xs.length ≤ line ∧ A) A := ⟨fun a => ⟨Nat.le_trans h.le (by decide), a⟩⟩
instance {k : Nat} [h : pC xs k] : Stp (xs.length = k ∧ A) A := ⟨fun a => ⟨h.eq, a⟩⟩
theorem fM {p : Prop} [Decidable p] (a : p → A) (b : ¬ p → B) : (decide p = true → A) ∧ (decide p = false → B) := ⟨fun h => a (of_decide_eq_true h), fun h => b (of_decide_eq_false h)⟩
theorem fe {k : Bool} (h : k = true) (a : A) : (k = true → A) ∧ (k = false → B) := ⟨fun _ => a, fun z => (by rw [h] at z; cases z)⟩
theorem dj {k : Bool} (h : k = false) (b : B) : (k = true → A) ∧ (k = false → B) := ⟨fun z => (by rw [h] at z; cases z), fun _ => b⟩
end
section
variable {ρ : En} {s : DS} {E : Xn → DS → Prop} {mt : En → M Bool} {e : En → M D} {tg : Tgt}
/-- over what stands for a list of things: a test and what is made -/
theorem c9 {α : Type} {Q : List D → DS → Prop} (u : α → D) (t : α → Bool) (v : α → D) : ∀ (l : List α), (∀ a ∈ l, TgK tg (u a) ρ fun ρ1 => Wp (mt ρ1 s) E fun k s1 => k = t a ∧ s = s1 ∧ (k = true → Wp (e ρ1 s) E fun y s2 => y = v a ∧ s = s2)) → Q ((l.filter t).map v) s → Wp (c8 tg mt e ρ (l.map u) s) E Q
  | [], _, q => gN q
  | a :: l, h, q => by
    refine j8 ?_
    obtain ⟨ρ1, e0, h1⟩ := h a (by simp)
    refine ⟨ρ1, e0, h1.mono fun k s1 h2 => ?_⟩
    obtain ⟨rfl, rfl, h3⟩ := h2
    refine ⟨fun hk => (h3 hk).mono fun y s2 h5 => ?_, fun hk => ?_⟩
    · obtain ⟨rfl, rfl⟩ := h5
      exact c9 (Q := fun ys s => Q (v a :: ys) s) u t v l (fun x hx => h x (by simp [hx])) (by rw [List.filter_cons_of_pos hk] at q; exact q)
    · exact c9 u t v l (fun x hx => h x (by simp [hx])) (by rw [List.filter_cons_of_neg (by rw [hk]; simp)] at q; exact q)
end
end DM
set_option Elab.async false
set_option linter.all false
set_option maxRecDepth 100000
set_option maxHeartbeats 2000000
namespace DM
open PySem PySem.Spec PyProof.Rows L2 Lay NdefX LamX GD
theorem xP {K : PySem.W.Frag} {Γ : Wc} {n : Nat} {F : List D → M D} {vs : List V} {ds : List D} {H : Hp} {av : Av} {s : DS} {Q : VK} {E : XK} {P : D → DS → Prop} (a : At (cb K Γ) av s H) (r : ah K H av Γ vs ds) (hl : ds.length = n) (hw : Wp (F ds s) nE P)
    (q : ∀ d s' v H', P d s' → Go Γ H H' → Wo K Γ av H' s' → Rep K H' av Γ v d → Q v H') : spF K Γ false n F vs H Q E := by
  rcases hw with ⟨d, s', e, p⟩ | ⟨_, _, _, p⟩
  · refine ⟨av, s, ds, _, s', a, r, hl, e, ?_⟩
    show Done (cb K Γ) av s' H d Q
    exact fun v H' g wo rr => q d s' v H' p g wo rr
  · exact p.elim
theorem items_int {ns : List Int} {k : Int} {i : Nat} {y : V} (h : (cutV (ns.map V.int) none (some k) ++ [V.int 0])[i]? = some y) : ∃ c, y = .int c := by
  have hm := List.mem_of_getElem? h
  rcases List.mem_append.mp hm with h | h
  · unfold cutV at h
    have h2 := List.mem_of_mem_drop (List.mem_of_mem_take h)
    obtain ⟨c, _, rfl⟩ := List.mem_map.mp h2
    exact ⟨c, rfl⟩
  · exact ⟨0, List.mem_singleton.mp h⟩
/-- the world of a cell: its draws and the tables alone may change -/
theorem at0 {K : PySem.W.Frag} {Γ : Wc} {s : DS} {H : Hp} (w : Wo K Γ Γ.ch H s) : At (cb K Γ) Γ.ch s H := ⟨w, fun _ z => z, fun _ z => w.al z, fun _ z => w.nc z⟩
/-- a list that is no table and not the draws stays -/
theorem stays {K : PySem.W.Frag} {Γ : Wc} {av : Av} {H H' : Hp} {p : Addr} {xs : List V} {s : DS} (w : Wo K Γ av H s) (g : Go Γ H H') (n : p ≠ Γ.dr) (nm : ¬ p ∈ Γ.mu) (h : H p = some (.lst xs)) : H' p = some (.lst xs) := by
  refine g.kp p _ (fun z => ?_) h
  rcases z with z | ⟨r, hr, z⟩ | z
  · exact n z
  · obtain ⟨ps, e, _⟩ := w.tb r hr
    rw [z, h] at e
    cases e
  · exact nm z
end DM
set_option Elab.async false
set_option linter.all false
set_option maxRecDepth 100000
set_option maxHeartbeats 2000000
namespace DM
open PySem PySem.Spec PyProof.Rows L2 Lay NdefX LamX GD
/-- what the __init__ of an own exception leaves: its fields -/
def spX (A : Addr) (ns : List Str) : Sp := fun vs H Q _ => ∃ (a : Addr) (xs : List V), vs = .ref a :: xs ∧ xs.length = ns.length ∧ H a = some (exo a A none) ∧
  ∀ dx H', H dx = none → dx ≠ a → (∀ b, b ≠ a → b ≠ dx → H' b = H b) → H' dx = some (exd dx (List.zip ns xs)) → H' a = some (exo a A (some dx)) → Q .non H'
def fg (c : Str) (ns : List Str) (ms : En → M (List D)) : S := fun ρ s => bs ρ (ms ρ s) fun xs s1 => if xs.length = ns.length ∧ ns.length ≤ 900 then some (.er ρ ⟨c, ns, xs⟩, s1) else none
theorem su {H H' : Hp} {a dx : Addr} {fs : List (Str × V)} (na : H a = none) (hb : ∀ b, b ≠ a → b ≠ dx → H' b = H b) (ne : dx ≠ a) : upd (del H' a) dx (.xd fs) = upd H dx (.xd fs) := by
  funext b
  by_cases h1 : b = dx
  · subst h1
    rw [upd_same, upd_same]
  · rw [upd_ne h1, upd_ne h1]
    by_cases h2 : b = a
    · subst h2
      rw [del_same, na]
    · rw [del_ne h2, hb b h2 h1]
section
variable {C : Cc} {W : WX} {fr : Bool} {ts : TA} {ms : En → M (List D)}
theorem gU {A : Addr} {c : Str} {ns : List Str} (hc : C.Γ.cl c = some A) (hs : SA C W ts ms) : SS C W fr (fun _ σ H => tMkO A (spX A ns) [] ts σ H fun cls d H' => W cls d σ H') (fg c ns ms) := by
  intro E0 ae os σ ρ s H r s' De o e p
  refine hs.dJ o e p fun x s1 vs H1 g1 o1 r1 e p => ?_
  split at e
  · rename_i hl
    cases e
    have hv : vs.length = ns.length := r1.len.trans hl.1
    refine ⟨by omega, fun a na => ?_⟩
    refine ⟨a, vs, by rw [List.append_nil], hv, upd_same, fun dx H' nd ne hb hdx ha => ⟨rfl, dx, List.zip ns vs, ha, hdx, ?_, ?_⟩⟩
    · rw [upd_ne ne] at nd
      exact nd
    · rw [upd_ne ne] at nd
      rw [su na (fun b h1 h2 => (hb b h1 h2).trans (upd_ne h1)) ne]
      have g : Go C.Γ H1 (upd H1 dx (.xd (List.zip ns vs))) := .new nd
      refine p os σ _ _ _ (o1.step g (o1.wo.new nd)) (g.fr o1.ad) (.inl ⟨A, hc, rfl, .inr ⟨dx, vs, rfl, fun z => ?_, upd_same, hl.1.symm, r1.kp (.new nd)⟩⟩)
      exact o1.toE.al dx z nd
  · cases e
/-- does the clause take an error of that class -/
abbrev Mt := Str → Option Bool
theorem Ok.wh {E0 : Hp} {ae : Av} {os : List Addr} {σ : L2.St} {ρ : En} {s : DS} {H : Hp} (o : Ok C E0 ae os σ ρ s H) (i : Nat) : Ok C E0 ae os (σ.set i none) (ρ.set i .no) s H := by
  refine ⟨o.go, by rw [List.length_set, List.length_set, o.len], o.wo, o.ad, o.al, o.ow, o.nc, o.sl.off i (fun _ h => by cases h) (fun _ h => by cases h) (fun _ h => by cases h) fun j hj => List.getElem?_set_ne hj, fun k d hk => ?_, fun j k d e p n h1 h2 h3 => ?_, o.tx.gen (fun j e h => ?_) (fun _ h => h) (fun j e h => ?_) (fun j e p h1 h2 => ?_) fun S v x hS _ h => ⟨h, hS⟩⟩
  rotate_left 2
  · obtain ⟨n, h⟩ := aO h (by simp)
    exact ⟨h, List.getElem?_set_ne n⟩
  · obtain ⟨n, h⟩ := aO h (by simp)
    exact ⟨h, List.getElem?_set_ne n⟩
  · obtain ⟨n, h1⟩ := aO h1 (by simp)
    rw [List.getElem?_set_ne n] at h2
    exact .inl ⟨e, h1, h2⟩
  · by_cases z : i = k
    · subst z
      rw [List.getElem?_set_self'] at hk
      cases y : ρ[i]? with
      | none => rw [y] at hk; cases hk
      | some q => rw [y] at hk; cases hk
    · rw [List.getElem?_set_ne z] at hk ⊢
      exact o.own k d hk
  · have nn : ∀ {k : Nat} {d : D}, (ρ.set i Sl.no)[k]? = some (Sl.own d) → i ≠ k ∧ ρ[k]? = some (Sl.own d) := by
      intro k d hk
      by_cases z : i = k
      · subst z
        rw [List.getElem?_set_self'] at hk
        cases y : ρ[i]? with
        | none => rw [y] at hk; cases hk
        | some q => rw [y] at hk; cases hk
      · rw [List.getElem?_set_ne z] at hk
        exact ⟨z, hk⟩
    obtain ⟨n1, h1⟩ := nn h1
    obtain ⟨n2, h2⟩ := nn h2
    rw [List.getElem?_set_ne n1] at h3
    rw [List.getElem?_set_ne n2]
    exact o.dis j k d e p n h1 h2 h3
def ke (mt : Mt) (i j : Nat) (mb : S) : S := fun ρ s => (mb ρ s).bind fun x => match x.1 with
  | .er ρ' x' => (mt x'.c).bind fun b => if b = true then (if ji x'.c = none ∧ i < ρ'.length then some (.nx ((ρ'.set j (.val (.exc x'.c x'.ns x'.xs))).set i .no), x.2) else none) else some (.er ρ' x', x.2)
  | r => some (r, x.2)
end
end DM
set_option Elab.async false
set_option linter.all false
set_option maxRecDepth 100000
set_option maxHeartbeats 2000000
namespace DM
open PySem PySem.Spec PyProof.Rows L2 Lay NdefX LamX GD
inductive mr : List DictEntry → List (Str × Value) → Prop
  | nil : mr [] []
  | cons {e : DictEntry} {x : Str} {t : Tok} {es : List DictEntry} {r : List (Str × Value)} : e.key = .str x t → mr es r → mr (e :: es) ((x, e.val) :: r)
def uT (K : PySem.W.Frag) : List DictEntry → List (Str × D) → Bool
  | [], [] => true
  | e :: es, (x, d) :: r => Value.isStrOf x e.key && wB K e.val d && uT K es r
  | _, _ => false
theorem pE {K : PySem.W.Frag} : ∀ (es : List DictEntry) (tbl : List (Str × D)), uT K es tbl = true → ∃ kus : List (Str × Value), mr es kus ∧ kus.map (·.1) = tbl.map (·.1) ∧ wBs K (kus.map (·.2)) (tbl.map (·.2)) = true
  | [], [], _ => ⟨[], .nil, rfl, rfl⟩
  | [], _ :: _, h => by cases h
  | _ :: _, [], h => by cases h
  | e :: es, (x, d) :: r, h => by
    simp only [uT, Bool.and_eq_true] at h
    obtain ⟨⟨h1, h2⟩, h3⟩ := h
    obtain ⟨kus, q1, q2, q3⟩ := pE es r h3
    obtain ⟨t, ht⟩ := Value.isStrOf_shape (x := x) (v := e.key) h1
    refine ⟨(x, e.val) :: kus, .cons ht q1, by simp [q2], ?_⟩
    simp only [List.map_cons, wBs, h2, q3, Bool.and_self]
theorem mr.pairs {P : Program} {w : World} : ∀ {es : List DictEntry} {kus : List (Str × Value)}, mr es kus → Pairs (mixKind P w) es (kus.map fun p => ((Sum.inr p.1 : Key), p.2))
  | _, _, .nil => .nil
  | _, _, @mr.cons e x t _ _ h r => .cons (by show keyIs (.inr x) e.key = true; rw [h]; exact keyIs_str x t) rfl r.pairs
theorem sv {P : Program} {w : World} {K : PySem.W.Frag} {h : Heap} {a : Addr} {es : Array DictEntry} {n : Nat} {kus : List (Str × Value)} (X : K.In h) (hl : K.lookup a = some ⟨.type "dict", none, .dict es n, #[]⟩) (hk : PySem.W.KeysLit w.params es.toList) (he : mr es.toList kus) (nd : (kus.map (·.1)).Nodup) :
    h.DictOf (mixKind P w) a (kus.map fun p => ((Sum.inr p.1 : Key), p.2)) := by
  refine ⟨_, es, n, X _ _ hl, ⟨rfl, rfl, rfl⟩, rfl, fun e he' => ?_, he.pairs, ?_⟩
  · obtain ⟨x, t, e1, e2⟩ := hk.all e (Array.mem_toList_iff.mpr he')
    exact ⟨.inr x, by show keyIs (.inr x) e.key = true; rw [e1]; exact keyIs_str x t, e2⟩
  · rw [List.map_map]
    have e : ((fun p : Key × Value => p.1) ∘ fun p : Str × Value => ((Sum.inr p.1 : Key), p.2)) = fun p : Str × Value => (Sum.inr p.1 : Key) := rfl
    rw [e, show (fun p : Str × Value => (Sum.inr p.1 : Key)) = (fun x : Str => (Sum.inr x : Key)) ∘ fun p => p.1 from rfl, ← List.map_map]
    exact nd.map _ fun a b hab hh => hab (Sum.inr.inj hh)
structure WAll (K : PySem.W.Frag) (w : World) (a : Addr) (tbl : List (Str × D)) : Prop where
  ex : ∃ es n, K.lookup a = some ⟨.type "dict", none, .dict es n, #[]⟩ ∧ PySem.W.KeysLit w.params es.toList ∧ uT K es.toList tbl = true
  low : (a == sysModules) = false
  nd : (tbl.map (·.1)).Nodup
  sz : tbl.length ≤ 900
section
variable {C : Cc} {W : WX} {te ta tb tc : TE} {me ma mb mc : En → M D}
def sx (f g : D → D → Option D) (a b c : En → M D) : En → M D := fun ρ s => bx (a ρ s) fun x s1 => bx (b ρ s1) fun y s2 => match f x y with
  | some (.bl true) => bx (c ρ s2) fun z s3 => ox (g y z) s3
  | some (.bl false) => some (.ok (.bl false), s2)
  | _ => none
theorem sy {r r' : R2} {f g : D → D → Option D} (hf : OpS C r f) (hg : OpS C r' g) (ha : SE C W ta ma) (hb : SE C W tb mb) (hc : SE C W tc mc) : SE C W (tChain r r' ta tb tc) (sx f g ma mb mc) := by
  intro av σ ρ s H r s' Q o e q
  refine ha.bind o e q fun x s1 v H1 g1 o1 r1 e q => ?_
  refine hb.bind o1 e q fun y s2 v2 H2 g2 o2 r2 e q => ?_
  have r1' := r1.kp (g2.kp.mono o1.ad)
  cases z : f x y with
  | none => rw [z] at e; cases e
  | some d =>
    refine hf av s2 H2 v v2 x y d _ o2.at_ r1' r2 z fun v3 H3 g3 w3 r3 => ?_
    rw [z] at e
    obtain ⟨k, rfl⟩ : ∃ k, d = .bl k := by
      cases d <;> first | exact ⟨_, rfl⟩ | cases e
    have e3 := Rep.dA r3
    subst e3
    have o3 := o2.step g3 w3
    have q3 := q.go g3
    cases k with
    | true =>
      refine ⟨true, rfl, iteT ?_⟩
      dsimp only at e
      refine hc.bind o3 e q3 fun z' s4 v4 H4 g4 o4 r4 e q => ?_
      obtain ⟨d4, e4, rfl, rfl⟩ := aL e
      exact hg av _ H4 v2 v4 y z' d4 Q o4.at_ ((r2.kp (g3.kp.mono o2.ad)).kp (g4.kp.mono o3.ad)) r4 e4 q.done
    | false =>
      dsimp only at e
      cases e
      exact ⟨false, rfl, iteF (q3 _ H3 .refl w3 (.bl false))⟩
def wj (a : En → M D) : En → M D := fun ρ s => bx (a ρ s) fun x s1 => match x with
  | .bl k => some (.ok (.bl (!k)), s1)
  | _ => none
theorem uU (ha : SE C W ta ma) : SE C W (tNotV ta) (wj ma) := by
  intro av σ ρ s H r s' Q o e q
  refine ha.bind o e q fun x s1 v H1 g1 o1 r1 e q => ?_
  obtain ⟨k, rfl⟩ : ∃ k, x = .bl k := by
    cases x <;> first | exact ⟨_, rfl⟩ | cases e
  cases e
  exact ⟨k, Rep.dA r1, q _ H1 .refl o1.wo (.bl _)⟩
end
end DM
set_option Elab.async false
set_option linter.all false
set_option maxRecDepth 100000
set_option maxHeartbeats 2000000
namespace DM
open PySem PySem.Spec PyProof.Rows L2 Lay NdefX LamX GD
def spO (A : Addr) (ns : List Str) : Sp := fun vs H Q _ => ∃ (x dx : Addr) (xs : List V), vs = .ref x :: xs ∧ xs.length = ns.length ∧ H x = some (.ins A dx []) ∧ ∀ H', (∀ b, b ≠ x → H' b = H b) → H' x = some (.ins A dx (List.zip ns xs)) → Q .non H'
def eMk (c : Str) (ns : List Str) (ms : En → M (List D)) : En → M D := fun ρ s => bx (ms ρ s) fun xs s1 => if xs.length = ns.length then some (.ok (.obj c ns xs), s1) else none
section
variable {C : Cc} {W : WX} {ts : TA} {ms : En → M (List D)} {te ta : TE} {me ma : En → M D}
theorem sA {A : Addr} {c : Str} {ns : List Str} {E : XK} (hc : C.Γ.cl c = some A) (hs : SA C W ts ms) : SE C W (tMake A (spO A ns) [] E ts) (eMk c ns ms) := by
  intro av σ ρ s H r s' Q o e q
  refine hs.bind o e q fun xs s1 vs H1 g1 o1 r1 e q => ?_
  split at e
  · rename_i hl
    cases e
    intro x dx nx nd ne
    have hv : vs.length = ns.length := r1.len.trans hl
    refine ⟨x, dx, vs, by rw [List.append_nil], hv, upd_same, fun H' hb hx => ⟨rfl, ?_⟩⟩
    have k1 : Go C.Γ H1 (upd H1 dx (.own x)) := .new nd
    have nx1 : (upd H1 dx (.own x)) x = none := by rw [upd_ne (Ne.symm ne)]; exact nx
    have k2 : Go C.Γ (upd H1 dx (.own x)) (upd (upd H1 dx (.own x)) x (.ins A dx (List.zip ns vs))) := .new nx1
    have eH : H' = upd (upd H1 dx (.own x)) x (.ins A dx (List.zip ns vs)) := by
      funext b
      by_cases h : b = x
      · subst h
        rw [hx, upd_same]
      · rw [hb b h, upd_ne h, upd_ne h]
    subst eH
    have g := k1.trans k2
    refine q (.ref x) _ g ((o1.wo.new nd).new nx1) (.obj (fun z => o1.al x z nx) hc upd_same hl.symm ?_)
    exact (r1.kp (.new nd)).kp (.new nx1)
  · cases e
def isC (tab : Str → Option Bool) : D → Option D
  | .exc c _ _ => (tab c).map .bl
  | _ => none
theorem xQ {cl : V} {u : Value} {tab : Str → Option Bool} (hk : ClsV cl u) (hE : ∀ c A b, C.Γ.cl c = some A → tab c = some b → ExcC C.K A ∧ PySem.W.kitOne C.K (.ref A) u = some b) (he : SE C W te me) : SE C W (tCB (wZ C.K) (tCons te (tCons (tC cl) tNil))) (eUn (isC tab) me) := by
  intro av σ ρ s H r s' Q o e q
  refine he.bind o e q fun x s1 v H1 g1 o1 r1 e q => ?_
  obtain ⟨z, e3, rfl, rfl⟩ := aL e
  cases x <;> simp only [isC] at e3 <;> try (cases e3; done)
  obtain ⟨b, hb, rfl⟩ := eQ e3
  rcases r1.rj with ⟨a, A, dx, vs, rfl, n1, n2, hA, h1, h2, hl, ra⟩ | ⟨a, A, rfl, n1, hA, h1, _⟩
  · obtain ⟨hx, hy⟩ := hE _ _ _ hA hb
    exact ⟨a, A, _, cl, u, b, rfl, hx, .inr ⟨dx, h1, h2⟩, hk, hy, q _ H1 .refl o1.wo (.bl b)⟩
  · obtain ⟨hx, hy⟩ := hE _ _ _ hA hb
    exact ⟨a, A, [], cl, u, b, rfl, hx, .inl ⟨rfl, h1⟩, hk, hy, q _ H1 .refl o1.wo (.bl b)⟩
def mw (f : Str) : List Str → List D → Option D
  | n :: ns, d :: ds => if n = f then some d else mw f ns ds
  | _, _ => none
theorem gV {K : PySem.W.Frag} {H : Hp} {av : Av} {Γ : Wc} {f : Str} : ∀ {ns : List Str} {vs : List V} {ds : List D} {d : D}, ah K H av Γ vs ds → mw f ns ds = some d → ∃ v, (List.zip ns vs).lookup f = some v ∧ Rep K H av Γ v d
  | [], vs, ds, d, r, e => by cases ds <;> cases e
  | n :: ns, _, [], d, r, e => by cases e
  | n :: ns, _, x :: ds, d, r, e => by
    cases r with
    | cons r1 r2 =>
      simp only [mw] at e
      simp only [List.zip_cons_cons, List.lookup_cons]
      by_cases h : n = f
      · subst h
        rw [if_pos rfl] at e
        cases e
        simp only [beq_self_eq_true]
        exact ⟨_, rfl, r1⟩
      · rw [if_neg h] at e
        have : (f == n) = false := beq_eq_false_iff_ne.mpr fun z => h z.symm
        rw [this]
        exact gV r2 e
def sC (cs : List Str) (f : Str) : D → Option D
  | .exc c ns xs => if c ∈ cs then mw f ns xs else none
  | _ => none
theorem uV {f : Str} {cs : List Str} (hX : ∀ c A, c ∈ cs → C.Γ.cl c = some A → XfC C.K A ∧ PySem.W.findIn C.K (.ref A) f = some none) (he : SE C W te me) : SE C W (tXk C.K f te) (eUn (sC cs f) me) := by
  intro av σ ρ s H r s' Q o e q
  refine he.bind o e q fun x s1 v H1 g1 o1 r1 e q => ?_
  obtain ⟨z, e3, rfl, rfl⟩ := aL e
  cases x <;> simp only [sC] at e3 <;> try (cases e3; done)
  split at e3
  · rename_i hcs
    rcases r1.rj with ⟨a, A, dx, vs, rfl, n1, n2, hA, h1, h2, hl, ra⟩ | ⟨a, A, rfl, n1, hA, h1, rfl, rfl⟩
    rotate_left
    · cases e3
    obtain ⟨u, hu, ru⟩ := gV ra e3
    obtain ⟨hx, hy⟩ := hX _ _ hcs hA
    exact ⟨a, A, dx, _, u, rfl, hx, hy, h1, h2, hu, q _ H1 .refl o1.wo ru⟩
  · cases e3
end
end DM
set_option Elab.async false
set_option linter.all false
set_option maxRecDepth 100000
set_option maxHeartbeats 2000000
namespace DM
open PySem PySem.Spec PyProof.Rows L2 Lay NdefX LamX GD
section
variable {C : Cc}
abbrev xR : R2 := fun x y H Q => ∃ i j, x = .str i ∧ y = .str j ∧ Q (.bl (!(Builtin.Str.occurrences j i 0 j.length 1).isEmpty)) H
abbrev rNiZ : R2 := fun x y H Q => ∃ i j, x = .str i ∧ y = .str j ∧ Q (.bl (!(!(Builtin.Str.occurrences j i 0 j.length 1).isEmpty))) H
def hasZ (i j : Str) : Bool := !(Builtin.Str.occurrences j i 0 j.length 1).isEmpty
def nZ (neg : Bool) : D → D → Option D
  | .str i, .str j => some (.bl (Bool.xor neg (hasZ i j)))
  | _, _ => none
theorem sD : OpS C xR (nZ false) := by
  intro av s H x y a b c Q o ra rb e q
  cases a <;> cases b <;> simp only [nZ] at e <;> try (cases e; done)
  cases e
  refine ⟨_, _, Rep.b9 ra, Rep.b9 rb, q _ H .refl o.wo ?_⟩
  rw [Bool.false_xor]
  exact .bl _
theorem xS : OpS C rNiZ (nZ true) := by
  intro av s H x y a b c Q o ra rb e q
  cases a <;> cases b <;> simp only [nZ] at e <;> try (cases e; done)
  cases e
  refine ⟨_, _, Rep.b9 ra, Rep.b9 rb, q _ H .refl o.wo ?_⟩
  rw [Bool.true_xor]
  exact .bl _
def xT : D → D → Option D
  | .str z, .int i => if z.length ≤ line then (atI z.cps.toList i).map fun c => .str ⟨#[c]⟩ else none
  | _, _ => none
theorem xU : OpS C (rIx C.K) xT := by
  intro av s H x y a b c Q o ra rb e q
  cases a <;> cases b <;> simp only [xT] at e <;> try (cases e; done)
  split at e
  · rename_i hl
    obtain ⟨z, e1, rfl⟩ := eQ e
    exact .inr (.inr ⟨_, _, z, Rep.b9 ra, Rep.bS rb, dX hl, e1, q _ H .refl o.wo (.str _)⟩)
  · cases e
end
end DM
set_option Elab.async false
set_option linter.all false
set_option maxRecDepth 100000
set_option maxHeartbeats 4000000
namespace PySem
end PySem
namespace L2
open PySem PySem.Spec PyProof.Rows
end L2
set_option Elab.async false
set_option linter.all false
set_option maxRecDepth 100000
set_option maxHeartbeats 2000000
namespace DM
open PySem L2
section
variable {ρ ρ' : En} {s : DS} {E : Xn → DS → Prop} {P : D → DS → Prop} {a b c e : En → M D} {ms : En → M (List D)} {f g : D → D → Option D} {R : Res → DS → Prop} {m n m1 m2 : S} {Q : D → Prop} {d : D} {ds xs ys : List D} {i j : Nat}
instance {cl : Str} {ns : List Str} : Stp (Wp (eMk cl ns ms ρ s) E P) (Wp (ms ρ s) E fun xs s1 => xs.length = ns.length ∧ P (.obj cl ns xs) s1) := ⟨fun h => a9 (h.mono fun x s1 h => by rw [if_pos h.1]; exact cM h.2)⟩
theorem sE {cl : Str} {ns : List Str} (h : Wp (ms ρ s) (fun x s => R (.er ρ x) s) fun xs s1 => (xs.length = ns.length ∧ ns.length ≤ 900) ∧ R (.er ρ ⟨cl, ns, xs⟩) s1) : Wr (fg cl ns ms ρ s) R := eV (h.mono fun x s1 h => by rw [if_pos h.1]; exact bX h.2)
instance {cl : Str} {ns : List Str} : Stp (Wr (fg cl ns ms ρ s) R) (Wp (ms ρ s) (fun x s => R (.er ρ x) s) fun xs s1 => (xs.length = ns.length ∧ ns.length ≤ 900) ∧ R (.er ρ ⟨cl, ns, xs⟩) s1) := ⟨sE⟩
def tryK (mt : Mt) (i j : Nat) (R : Res → DS → Prop) : Res → DS → Prop
  | .er ρ' x', s1 => WO (mt x'.c) fun b => (b = true → (ji x'.c = none ∧ i < ρ'.length) ∧ R (.nx ((ρ'.set j (.val (.exc x'.c x'.ns x'.xs))).set i .no)) s1) ∧ (b = false → R (.er ρ' x') s1)
  | r, s1 => R r s1
theorem uW {mt : Mt} (h : Wr (m ρ s) (tryK mt i j R)) : Wr (ke mt i j m ρ s) R := by
  obtain ⟨r, s1, e1, h⟩ := h
  unfold ke
  rw [e1]
  cases r with
  | er ρ' x =>
    obtain ⟨b, e2, h1, h2⟩ := h
    show Wr ((mt x.c).bind fun b => if b = true then (if ji x.c = none ∧ i < ρ'.length then some (.nx ((ρ'.set j (.val (.exc x.c x.ns x.xs))).set i .no), s1) else none) else some (.er ρ' x, s1)) R
    rw [e2]
    cases b with
    | true =>
      show Wr (if ji x.c = none ∧ i < ρ'.length then some (.nx ((ρ'.set j (.val (.exc x.c x.ns x.xs))).set i .no), s1) else none) R
      rw [if_pos (h1 rfl).1]
      exact bX (h1 rfl).2
    | false => exact bX (h2 rfl)
  | nx ρ' => exact bX h
  | rt d => exact bX h
  | bk d => exact bX h
  | ct d => exact bX h
instance {mt : Mt} : Stp (Wr (ke mt i j m ρ s) R) (Wr (m ρ s) (tryK mt i j R)) := ⟨uW⟩
/-- what a def that may end without return leaves -/
def retZ (E : Xn → DS → Prop) (P : D → DS → Prop) : Res → DS → Prop
  | .rt d, s => P d s
  | .nx _, s => P .non s
  | .er _ x, s => E x s
  | _, _ => False
theorem jb {k : Nat} [h : Ev0 k ds ρ] (g : Wr (m ρ s) (retZ E P)) : Wp (nW true k m ds s) E P := by
  obtain ⟨r, s1, e1, g⟩ := g
  show Wp (fnR true (m (env0 k ds) s)) E P
  rw [h.eq, e1]
  cases r with
  | rt d => exact cM g
  | nx d => exact cM g
  | bk d => exact g.elim
  | ct d => exact g.elim
  | er d x => exact .inr ⟨x, s1, rfl, g⟩
instance {i : Str} : Stp (WO (isF "str" (.str i)) Q) (Q (.bl true)) := ⟨fun h => ⟨_, rfl, h⟩⟩
instance : Stp (WO (isF "tuple" (.tup xs)) Q) (Q (.bl true)) := ⟨fun h => ⟨_, rfl, h⟩⟩
instance : Stp (WO (isF "list" (.lst xs)) Q) (Q (.bl true)) := ⟨fun h => ⟨_, rfl, h⟩⟩
instance {bs : List Bool} [h : Bls xs bs] : Stp (WO (rO [.lst xs]) Q) (Q (.bl (bs.all id))) := ⟨fun q => ⟨_, by show (gu xs).map _ = _; rw [h.eq]; rfl, q⟩⟩
instance {A : Prop} {ns : List Str} {k : Nat} [h : mj xs k] : Stp ((xs.length = ns.length ∧ ns.length ≤ 900) ∧ A) ((k = ns.length ∧ ns.length ≤ 900) ∧ A) := ⟨fun q => ⟨⟨h.eq.trans q.1.1, q.1.2⟩, q.2⟩⟩
end
section
variable {ρ : En} {s : DS} {E : Xn → DS → Prop} {P : D → DS → Prop} {QL : List D → DS → Prop} {a : En → M D} {k : Str} {r : List (Str × (En → M D))}
instance : Stp (Wp (qy r ρ s) E P) (Wp (iP r ρ s) E fun xs s1 => WO (mkD (r.map (·.1)) xs) fun z => P z s1) := ⟨fun h => a9 (h.mono fun _ _ h => eE h)⟩
instance : Stp (Wp (iP [] ρ s) E QL) (QL [] s) := ⟨cM⟩
instance : Stp (Wp (iP ((k, a) :: r) ρ s) E QL) (Wp (a ρ s) E fun x s1 => Wp (iP r ρ s1) E fun y s2 => QL (x :: y) s2) := ⟨fun h => a9 (h.mono fun _ _ h => a9 (h.mono fun _ _ h => cM h))⟩
end
theorem bF {α : Type} {x : Option (Except Xn α × DS)} {a : α} {s : DS} {E : Xn → DS → Prop} {P : α → DS → Prop} (e : x = some (.ok a, s)) (h : P a s) : Wp x E P := by rw [e]; exact cM h
theorem cZ {α : Type} {x : Option (Except Xn α × DS)} {a : α} {s : DS} (h : Wp x nE fun b s' => b = a ∧ s' = s) : x = some (.ok a, s) := by
  rcases h with ⟨b, s', e, rfl, rfl⟩ | ⟨_, _, _, h⟩
  · exact e
  · exact h.elim
end DM
set_option Elab.async false
set_option linter.all false
set_option maxRecDepth 100000
set_option maxHeartbeats 2000000
namespace DM
open PySem PySem.Spec PyProof.Rows L2 Lay NdefX LamX GD
def pF : List D → Option D
  | [.int i, .int j] => some (.int (if j > i then j else i))
  | _ => none
section
variable {C : Cc} {W : WX} {ta tb te : TE} {ma mb me : En → M D} {ts : TA} {ms : En → M (List D)}
theorem uX : CbS C (fun xs H Q => ∃ i j, xs = [.int i, .int j] ∧ Q (.int (if j > i then j else i)) H) pF := by
  intro av s H vs ds c Q o r e q
  unfold pF at e
  split at e
  · cases e
    obtain ⟨v, w, rfl, r1, r2⟩ := r.two
    exact ⟨_, _, by rw [r1.bS, r2.bS], q.pure o (.int _)⟩
  · cases e
theorem pG {f : Str} {cs : List Str} (hX : ∀ c A, c ∈ cs → C.Γ.cl c = some A → Cls C.K A ∧ NoAttr C.K A f) (he : SE C W te me) : SE C W (tFld C.K te f) (eUn (fun d => match d with | .obj c ns xs => if c ∈ cs then mw f ns xs else none | _ => none) me) := by
  intro av σ ρ s H r s' Q o e q
  refine he.bind o e q fun x s1 v H1 g1 o1 r1 e q => ?_
  obtain ⟨z, e3, rfl, rfl⟩ := aL e
  cases x <;> simp only [] at e3 <;> try (cases e3; done)
  split at e3
  · rename_i hcs
    obtain ⟨a, A, dx, vs, rfl, n1, hA, h1, hl, ra⟩ := Rep.fA r1
    obtain ⟨u, hu, ru⟩ := gV ra e3
    obtain ⟨hx, hy⟩ := hX _ _ hcs hA
    exact ⟨a, A, dx, _, u, rfl, h1, hx, hy, hu, q _ H1 .refl o1.wo ru⟩
  · cases e3
end
def wm (cs : List Str) (f : Str) : D → Option D
  | .obj c ns xs => if c ∈ cs then mw f ns xs else none
  | _ => none
end DM
set_option Elab.async false
set_option linter.all false
set_option maxRecDepth 100000
set_option maxHeartbeats 2000000
namespace Lay
open PySem PySem.Spec PyProof.Rows L2
section
variable {X : Cx} {n : Nat} {f : Addr} {fd : FuncData} {ps : List Str} {sp : Sp} {E : XK}
theorem jw (F : FnOk X.prog X.w X.K X.mg X.base CX0 n f fd ps sp) (hb : Binds X.K fd ps []) {A : Around} (hr : Room n A) (hfr : A.frames = X.A.frames) {pins : List (Addr × Obj)} {σ : L2.St} {H : Hp} {s : Shared} {x y : V} {u v : Value} {R : V → Hp → Prop} {E' : Value → Shared → Prop}
    (I : Inv X pins σ H s) (rx : RelV x u) (ry : RelV y v) (hsp : sp [x, y] H R E) : wpAny (model X.prog X.w) A (call (.ref f) [u, v]) (EP X pins σ R) E' s := by
  have e0 : Env0 X.prog X.w X.K X.mg X.base A X.stack s H := by
    have e := I.env0
    exact ⟨by rw [hfr]; exact e.frames, e.mod, e.bs, e.bsz, e.funs, e.frf, e.hok, e.bare⟩
  have hl := F.len _ _ _ _ hsp
  have r2 : Vals [x, y] [u, v] := .cons rx (.cons ry .nil)
  have bd := hb s [u, v] I.kIn (by simpa using hl)
  refine wpAny_call (codeAny_mono (F.run A X.stack s H ⟨[u, v], []⟩ [u, v] [x, y] _ E hr e0 (by simpa using bd) r2 hsp) fun r s' hq => ?_)
  cases r with
  | error e => exact (show False from hq).elim
  | ok fl =>
    cases fl with
    | ret w => exact I.after hq
    | next => exact False.elim hq
    | brk => exact False.elim hq
    | cont => exact False.elim hq
/-- what such an item is: flat, or an object of C whose __eq__ tells False of None -/
def y1 (K : PySem.W.Frag) (H : Hp) (C : Addr) (sp : Sp) (E : XK) (x : V) : Prop := flatV x = true ∨ ∃ a dx fs, x = .ref a ∧ H a = some (.ins C dx fs) ∧ PySem.W.notFirst K C (.type "NoneType") = true ∧ sp [x, .non] H (fun v H' => v = .bl false ∧ H' = H) E
def sF : V → Bool
  | .non => true
  | _ => false
theorem xV {C : Addr} (F : FnOk X.prog X.w X.K X.mg X.base CX0 n f fd ps sp) (hs : PySem.W.findIn X.K (.ref C) "__eq__" = some (some (.ref f))) (hf : PySem.W.isFn X.K (.ref f) = true) (hb : Binds X.K fd ps []) {A : Around} (hr : Room n A) (hfr : A.frames = X.A.frames)
    {pins : List (Addr × Obj)} {σ : L2.St} {H : Hp} {s : Shared} {x : V} {u : Value} {Q : Bool → Shared → Prop} {E' : Value → Shared → Prop} (I : Inv X pins σ H s) (rx : RelV x u) (hx : y1 X.K H C sp E x) (q : ∀ s', Inv X pins σ H s' → Q (sF x) s') :
    wpAny (model X.prog X.w) A (eqBool u .none) Q E' s := by
  rcases hx with hx | ⟨a, dx, fs, rfl, ha, hn, hsp⟩
  · have e := eqAt_V (A := A) (s := s) rx (show RelV V.non Value.none from rfl) hx rfl
    refine e X.prog X.w E' Q ?_
    have : eqV x .non = sF x := by cases x <;> first | rfl | (exact absurd hx (by decide))
    rw [this]
    exact q s I
  · cases rx
    obtain ⟨mA, J, _⟩ := ins_get I.hok ha
    obtain ⟨od, J, _⟩ := J.look
    obtain ⟨m, hF⟩ := I.fr
    unfold eqBool
    refine wpAny_holding ?_
    rw [if_neg (by simp)]
    refine wpAny_bind (PySem.W.cmp_K (op := .Eq) (tb := .type "NoneType") hr.units0 hF I.ok.mod.kin J (PySem.W.Looks.of_pure rfl) hn hs hf ?_)
    refine wpAny_mono (jw (x := V.ref a) (u := Value.ref a) F hb hr hfr I rfl (show RelV V.non Value.none from rfl) hsp) (fun r s' z => ?_) fun _ _ e => e
    obtain ⟨z1, H', I', rz, rfl, rfl⟩ := z
    cases rz
    exact wpAny_truthy_bool (q s' I')
/-- the items as they stand in the heap -/
theorem eF {pins : List (Addr × Obj)} {σ : L2.St} {H : Hp} {s : Shared} {p : Addr} {xs : List V} (I : Inv X pins σ H s) (h : H p = some (.lst xs)) : ∃ (its : List Value) (m : Nat), Vals xs its ∧ s.heap.get? p = some { cls := .type "list", dict := none, data := .seq its.toArray m, slots := #[] } := by
  obtain ⟨hz, its, m, r, e⟩ := I.hok p _ h
  exact ⟨its, m, r, e⟩
end
end Lay
set_option Elab.async false
set_option linter.all false
set_option maxRecDepth 100000
set_option maxHeartbeats 2000000
namespace DM
open PySem PySem.Spec PyProof.Rows L2 Lay NdefX LamX GD
/-- what the top tells of such a class -/
structure my (K : PySem.W.Frag) (C : Addr) (f : Str) : Prop where
  cl : Cls K C
  na : NoAttr K C f
  cls : PySem.W.findIn K (.ref C) "__class__" = some (some (.builtin "object.__class__"))
  get : PySem.W.specialIn K (.builtin "object.__class__") "__get__" = some (some (.builtin "getset_descriptor.__get__"))
  tak : PySem.W.takesIn K (.builtin "object.__class__") = some true
  mro : PySem.W.mroIn K C (.type "object") = some true
  pH : PySem.W.kitOne K (.type "NoneType") (.ref C) = some false
  y3 : PySem.W.kitOne K (.type "bool") (.ref C) = some false
  kint : PySem.W.kitOne K (.type "int") (.ref C) = some false
  kstr : PySem.W.kitOne K (.type "str") (.ref C) = some false
  ktup : PySem.W.kitOne K (.type "tuple") (.ref C) = some false
  klst : PySem.W.kitOne K (.type "list") (.ref C) = some false
  wq : PySem.W.notFirst K C (.type "NoneType") = true
  fint : PySem.W.notFirst K C (.type "int") = true
  fstr : PySem.W.notFirst K C (.type "str") = true
  wt : PySem.W.notFirst K C (.ref C) = true
/-- an object of the class with the number n stands at p -/
def iQ (C : Addr) (f : Str) (H : Hp) (p : Addr) (n : Int) : Prop := ∃ dx, H p = some (.ins C dx [(f, .int n)])
/-- what its == tells -/
def spEq (K : PySem.W.Frag) (C : Addr) (f : Str) : Sp := fun vs H Q _ => ∃ (p : Addr) (n : Int) (y : V), vs = [.ref p, y] ∧ iQ C f H p n ∧
  ((∃ b m, y = .ref b ∧ iQ C f H b m ∧ Q (.bl (decide (n = m))) H) ∨ (∃ t, TyX K H y t ∧ PySem.W.kitOne K t (.ref C) = some false ∧ Q (.bl false) H))
def uY (c f : Str) : D → D → Option D
  | .obj c1 [f1] [.int i], .obj c2 [f2] [.int j] => if c1 = c ∧ c2 = c ∧ f1 = f ∧ f2 = f then some (.bl (decide (i = j))) else none
  | .obj c1 [f1] [.int i], .non => if c1 = c ∧ f1 = f then some (.bl false) else none
  | .obj c1 [f1] [.int i], .int _ => if c1 = c ∧ f1 = f then some (.bl false) else none
  | .obj c1 [f1] [.int i], .str _ => if c1 = c ∧ f1 = f then some (.bl false) else none
  | _, _ => none
section
variable {C : Cc} {W : WX} {ta tb te : TE} {ma mb me : En → M D} {A : Addr} {c f : Str}
theorem ei {H : Hp} {av : Av} {v : V} {i : Int} (hA : C.Γ.cl c = some A) (r : Rep C.K H av C.Γ v (.obj c [f] [.int i])) : ∃ p, v = .ref p ∧ iQ A f H p i := by
  obtain ⟨a, B, dx, vs, rfl, n, hB, h1, hl, ra⟩ := r.fA
  rw [hA] at hB
  cases hB
  obtain ⟨w, rfl, rw1⟩ := ra.one
  cases rw1.bS
  exact ⟨a, rfl, dx, h1⟩
theorem xW (hA : C.Γ.cl c = some A) (N : my C.K A f) : OpS C (wY C.K A (spEq C.K A f) E0 id) (uY c f) := by
  intro av s H x y a b z Q o ra rb e q
  unfold uY at e
  split at e
  · split at e
    · rename_i h
      obtain ⟨rfl, rfl, rfl, rfl⟩ := h
      cases e
      obtain ⟨p, rfl, dx, hp⟩ := ei hA ra
      obtain ⟨p2, rfl, dx2, hp2⟩ := ei hA rb
      exact ⟨p, dx, _, _, rfl, hp, .base (.ins hp2 N.cl N.cls N.get N.tak N.mro), N.wt, p, _, _, rfl, ⟨dx, hp⟩, .inl ⟨p2, _, rfl, ⟨dx2, hp2⟩, _, rfl, q.pure o (.bl _)⟩⟩
    · cases e
  · split at e
    · rename_i h
      obtain ⟨rfl, rfl⟩ := h
      cases e
      obtain ⟨p, rfl, dx, hp⟩ := ei hA ra
      cases rb.dP
      exact ⟨p, dx, _, _, rfl, hp, .base .non, N.wq, p, _, _, rfl, ⟨dx, hp⟩, .inr ⟨_, .base .non, N.pH, _, rfl, q.pure o (.bl _)⟩⟩
    · cases e
  · split at e
    · rename_i h
      obtain ⟨rfl, rfl⟩ := h
      cases e
      obtain ⟨p, rfl, dx, hp⟩ := ei hA ra
      cases rb.bS
      exact ⟨p, dx, _, _, rfl, hp, .base (.int _), N.fint, p, _, _, rfl, ⟨dx, hp⟩, .inr ⟨_, .base (.int _), N.kint, _, rfl, q.pure o (.bl _)⟩⟩
    · cases e
  · split at e
    · rename_i h
      obtain ⟨rfl, rfl⟩ := h
      cases e
      obtain ⟨p, rfl, dx, hp⟩ := ei hA ra
      cases rb.b9
      exact ⟨p, dx, _, _, rfl, hp, .base (.str _), N.fstr, p, _, _, rfl, ⟨dx, hp⟩, .inr ⟨_, .base (.str _), N.kstr, _, rfl, q.pure o (.bl _)⟩⟩
    · cases e
  · cases e
def isO (c f : Str) : D → Option D
  | .obj c1 [f1] [.int _] => if c1 = c ∧ f1 = f then some (.bl true) else none
  | .non => some (.bl false)
  | .bl _ => some (.bl false)
  | .int _ => some (.bl false)
  | .str _ => some (.bl false)
  | .tup _ => some (.bl false)
  | .lst _ => some (.bl false)
  | _ => none
theorem n6 (hA : C.Γ.cl c = some A) (N : my C.K A f) (he : SE C W te me) : SE C W (tCB (rIsi C.K) (tCons te (tCons (tC (.ref A)) tNil))) (eUn (isO c f) me) := by
  intro av σ ρ s H r s' Q o e q
  refine he.bind o e q fun x s1 v H1 g1 o1 r1 e q => ?_
  obtain ⟨z, e3, rfl, rfl⟩ := aL e
  have r1 : Rep C.K H1 av C.Γ v x := r1
  unfold isO at e3
  split at e3
  · split at e3
    · rename_i h
      obtain ⟨rfl, rfl⟩ := h
      cases e3
      obtain ⟨p, rfl, dx, hp⟩ := ei hA r1
      exact ⟨_, _, _, _, true, rfl, ClsV.own _, .base (.ins hp N.cl N.cls N.get N.tak N.mro), (if_pos (by simp) : PySem.W.kitOne C.K (.ref A) (.ref A) = some true), q _ H1 .refl o1.wo (.bl _)⟩
    · cases e3
  · cases e3
    cases r1.dP
    exact ⟨_, _, _, _, false, rfl, ClsV.own _, .base .non, N.pH, q _ H1 .refl o1.wo (.bl _)⟩
  · cases e3
    cases r1.dA
    exact ⟨_, _, _, _, false, rfl, ClsV.own _, .base (.bl _), N.y3, q _ H1 .refl o1.wo (.bl _)⟩
  · cases e3
    cases r1.bS
    exact ⟨_, _, _, _, false, rfl, ClsV.own _, .base (.int _), N.kint, q _ H1 .refl o1.wo (.bl _)⟩
  · cases e3
    cases r1.b9
    exact ⟨_, _, _, _, false, rfl, ClsV.own _, .base (.str _), N.kstr, q _ H1 .refl o1.wo (.bl _)⟩
  · cases e3
    exact ⟨_, _, _, _, false, rfl, ClsV.own _, j3 o1.at_ r1 rfl, N.ktup, q _ H1 .refl o1.wo (.bl _)⟩
  · cases e3
    exact ⟨_, _, _, _, false, rfl, ClsV.own _, j3 o1.at_ r1 rfl, N.klst, q _ H1 .refl o1.wo (.bl _)⟩
  · cases e3
end
end DM
namespace DM
open PySem PySem.Spec PyProof.Rows L2 Lay NdefX LamX GD
end DM
set_option Elab.async false
set_option linter.all false
set_option maxRecDepth 100000
set_option maxHeartbeats 2000000
namespace DM
open PySem PySem.Spec PyProof.Rows L2 Lay NdefX LamX GD
def SX (C : Cc) (W : WX) (t : TE) (m : En → M D) : Prop := ∀ E0 ae os σ ρ s H r s' (Q : VK), Ok C E0 ae os σ ρ s H → m ρ s = some (r, s') → gr C W (rV C) (avO ae os) σ H s' Q r → t σ H Q
section
variable {C : Cc} {W : WX} {fr : Bool} {t ty tk tv : TE} {m mk mv : En → M D}
theorem SX.dJ {E0 : Hp} {ae : Av} {De : Ends} {os : List Addr} {σ : L2.St} {ρ : En} {s s' : DS} {H : Hp} {r : Res} {f : D → DS → Option (Res × DS)} {Q : VK} (h : SX C W t m) (o : Ok C E0 ae os σ ρ s H) (e : bs ρ (m ρ s) f = some (r, s')) (p : iV C W fr E0 ae De os H r s')
    (k : ∀ a s1 v H1, Go C.Γ H H1 → Ok C E0 ae os σ ρ s1 H1 → Rep C.K H1 (avO ae os) C.Γ v a → f a s1 = some (r, s') → iV C W fr E0 ae De os H1 r s' → Q v H1) : t σ H Q := by
  cases z : m ρ s with
  | none => rw [z] at e; cases e
  | some pr =>
    obtain ⟨a, s1⟩ := pr
    rw [z] at e
    cases a with
    | error x =>
      cases e
      exact h E0 ae os σ ρ s H _ _ Q o z fun c dd H' g w rx => p os σ H' c dd (o.step g w) (g.fr o.ad) rx
    | ok a => exact h E0 ae os σ ρ s H _ _ Q o z fun v H1 g w rv => k a s1 v H1 g (o.step g w) rv e (p.fr (g.fr o.ad))
end
end DM
set_option Elab.async false
set_option linter.all false
set_option maxRecDepth 100000
set_option maxHeartbeats 2000000
namespace DM
open PySem L2
section
variable {ρ : En} {s : DS} {E : Xn → DS → Prop} {P : D → DS → Prop} {QB : Bool → DS → Prop} {a b : En → M D} {ms : En → M (List D)} {Q : D → Prop} {i j : Int} {z : Str} {ds : List D} {k : Nat}
instance : Stp (WO (pF [.int i, .int j]) Q) (Q (.int (if j > i then j else i))) := ⟨fun h => ⟨_, rfl, h⟩⟩
theorem aH {α : Type} {x : Option α} {a : α} {Q : α → Prop} (e : x = some a) (h : Q a) : WO x Q := ⟨a, e, h⟩
end
end DM
set_option Elab.async false
set_option linter.all false
set_option maxRecDepth 100000
set_option maxHeartbeats 2000000
namespace DM
open PySem PySem.Spec PyProof.Rows L2 Lay NdefX LamX GD
def uZ (c f : Str) (T : String) : D → Option D
  | .obj c1 [f1] [.int _] => if c1 = c ∧ f1 = f then some (.bl false) else none
  | d => isF T d
section
variable {C : Cc} {W : WX} {te : TE} {me : En → M D} {A : Addr} {c f : Str} {T : String}
theorem pI (hA : C.Γ.cl c = some A) (N : my C.K A f) (hk : PySem.W.kitOne C.K (.ref A) (.type T) = some false) (he : SE C W te me) : SE C W (tCB (rIsi C.K) (tCons te (tCons (tC (.ty T)) tNil))) (eUn (uZ c f T) me) := by
  intro av σ ρ s H r s' Q o e q
  refine he.bind o e q fun x s1 v H1 g1 o1 r1 e q => ?_
  obtain ⟨z, e3, rfl, rfl⟩ := aL e
  have r1 : Rep C.K H1 av C.Γ v x := r1
  unfold uZ at e3
  split at e3
  · split at e3
    · rename_i h
      obtain ⟨rfl, rfl⟩ := h
      cases e3
      obtain ⟨p, rfl, dx, hp⟩ := ei hA r1
      exact ⟨_, _, _, _, false, rfl, ClsV.ty _, .base (.ins hp N.cl N.cls N.get N.tak N.mro), hk, q _ H1 .refl o1.wo (.bl _)⟩
    · cases e3
  · obtain ⟨t, e5, e6⟩ := cO e3
    obtain ⟨k, e7, rfl⟩ := eQ e6
    exact ⟨v, .ty T, .type t, .type T, k, rfl, .ty T, j3 o1.at_ r1 e5, kit_ty e7, q _ H1 .refl o1.wo (.bl k)⟩
end
end DM
set_option Elab.async false
set_option linter.all false
set_option maxRecDepth 100000
set_option maxHeartbeats 2000000
namespace Lay
open PySem PySem.Spec PyProof.Rows L2
def n8 (K : PySem.W.Frag) (c : Value) (i : Nat) (ts : Addr → Value → Option Addr → TS) (Wout : WX) (D : Ends) : WX := fun cls d σ H =>
  ∃ b, PySem.W.exmOne K cls c = some b ∧ (b = true → ∀ a, H a = none → ts a cls d { nx := fun σ' H' => H' a = none → D.nx (σ'.set i none) (upd H' a (excAt a cls d)), rt := D.rt, bk := fun σ' H' => D.bk (σ'.set i none) H', ct := fun σ' H' => D.ct (σ'.set i none) H' } (σ.set i (some (.ref a))) H) ∧
    (b = false → Wout cls d σ H)
section
variable {X : Cx} {n : Str} {x : Str} {c : Value} {np : Pos} {i : Nat} {body suite : List Stmt} {b₀ : Stmt} {pos pos' : Pos} {tb : WX → TS} {ts : Addr → Value → Option Addr → TS} {Wout : WX}
theorem kT (hs : X.stack = X.env :: X.outer) (hf : X.env.frame = some X.env.locals) (hex : X.ex = []) (hN : X.N.Nodup) (hi : X.N[i]? = some n) (hln : X.env.kindOf n = some .local) (hc : Names X x c) (tk : Takes X Wout)
    (hb : ∀ (W : WX) (pn : List (Addr × Obj)) (xe : Value → Shared → Prop), Takes (X.tr pn xe) W → PassesOwn (model X.prog X.w) X.A X.env xe → PSs (X.tr pn xe) body (tb W))
    (hsu : ∀ (a : Addr) (oe : Obj) (cls : Value) (d : Option Addr) (pn : List (Addr × Obj)), Zc cls d oe → (∃ vs, oe.data = .fields vs) → PSs (X.suite a ((a, oe) :: pn)) (b₀ :: suite) (ts a cls d)) :
    PS X (.Try body [.ExceptHandler (some (.Name x np)) (some n) (b₀ :: suite) pos'] [] [] pos) (fun D σ H => tb (n8 X.K c i ts Wout D) D σ H) := by
  refine ⟨fun pins s σ H D I h => ?_⟩
  have ok := I.ok
  have hfr : X.A.frames = some (X.env :: X.outer) := by rw [ok.frames, hs]
  have hloc : Loc X.env.scope n := .inl hln
  refine wpAny_Try_except ?_
  refine wpAny_mono ((hb (n8 X.K c i ts Wout D) (X.pn ++ pins) (fun e s₁ => wpAny (model X.prog X.w) X.A (noteFrame e X.env) (fun _ s₂ => wpAny (model X.prog X.w) X.A (setFlight e none) (fun _ s₃ =>
    wpAny (model X.prog X.w) X.A (handleBy e X.env [.ExceptHandler (some (.Name x np)) (some n) (b₀ :: suite) pos']) (SP X pins D) X.xe s₃) X.xe s₂) X.xe s₁) (fun u s' xx => ?_) PassesOwn.looking).run [] s σ H D (I.toTry _) h) (fun f s1 hsp => ?_) (fun e s1 he => he)
  · -- the catch
    obtain ⟨a, B, sI, pins', σ', H', cls, d, rfl, J', nb, up, sky, na, os, ag, b, hb1, hyes, hno⟩ := xx
    have J : Inv X pins σ' H' sI := J'.ofTry ok
    have sky' : Sky B (X.env :: X.outer) a (Zc cls d) X.env.locals s'.heap := by rw [← hs]; exact sky
    show wpAny (model X.prog X.w) X.A (noteFrame (.ref a) X.env) _ _ _
    refine Sky.land Zc.steady hfr hf sky' fun h3 fl3 up3 => ?_
    have J3 : Inv X pins σ' H' { s' with heap := h3 } := J.landed nb fl3.1 (up.trans up3) os ag
    obtain ⟨oe3, vs3, he3, hz3, hd3⟩ := fl3.there
    have notFr : ∀ {h : Heap} {o : Obj} {vs : Array Value}, h.FunFrames B (X.env :: X.outer) → h.get? a = some o → o.data = .fields vs → a ∉ frs (X.env :: X.outer) := fun {h o vs} ff e dd hm => by
      obtain ⟨_, o', e', hnf⟩ := ff.mem hm
      rw [e] at e'; cases e'
      exact hnf _ dd
    have nfr := notFr fl3.2.2.1 he3 hd3
    have nL : a ≠ X.env.locals := fun z => nfr (List.mem_filterMap.mpr ⟨X.env, List.mem_cons_self, by rw [hf, z]⟩)
    have nF : a ∉ X.fs := fun hm => by
      obtain ⟨e, he, q⟩ := List.mem_filterMap.mp hm
      exact nfr (List.mem_filterMap.mpr ⟨e, List.mem_cons_of_mem _ he, q⟩)
    have nI : sI.heap.get? a = none := by
      cases q : sI.heap.get? a with
      | none => rfl
      | some o =>
        have q2 := nb a o q (by rw [hs]; exact nfr)
        rw [fl3.2.1] at q2
        cases q2
    have n0 : X.s_0.heap.get? a = none := by
      cases q : X.s_0.heap.get? a with
      | none => rfl
      | some o =>
        obtain ⟨o', q2⟩ := J.base.there a o q (by rw [hex]; simp)
        rw [nI] at q2
        cases q2
    have nC : ∀ x c, X.env.cells.lookup x = some c → c ≠ a := fun x c e z => by
      obtain ⟨v, o, ho, _⟩ := J.cell x c e
      rw [z, nI] at ho
      cases ho
    have nP : ∀ p ∈ X.pn ++ pins, p.1 ≠ a := fun p hp z => by
      have q := (J.pin p hp).1
      rw [z, nI] at q
      cases q
    have S3 := J3.suite he3 hd3 na nL nF
    refine wpAny_handleBy_cons (codeAny_handlers_test ?_) (by intro q; cases q)
    have LT : PySem.W.Looks (model X.prog X.w) h3 (typeOf (.ref a)) cls := fun A Q E s k q => wpAny_typeOf_ref (k _ _ he3) (by rw [hz3.1]; exact q)
    have LM := PySem.W.exm_one (M := model X.prog X.w) (J3.kIn) LT hb1
    have test : ∀ {Q : Value → Shared → Prop} {E : Value → Shared → Prop}, Q c { s' with heap := h3 } → wpAny (model X.prog X.w) (X.A.mark (some (.ref a))) (eval (.Name x np) X.env) Q E { s' with heap := h3 } := fun {Q E} q =>
      qi (X := X.suite a ((a, oe3) :: (X.pn ++ pins))) S3 hc q
    refine test (LM.here ?_)
    cases b with
    | true =>
      refine codeAny_handlers_suite_as ?_
      refine HandSPX.lands_againZ fl3 fun h4 fl4 up4 => ?_
      have J4 : Inv X pins σ' H' { s' with heap := h4 } := J.landed nb fl4.1 ((up.trans up3).trans up4) os ag
      obtain ⟨oe4, vs4, he4, hz4, hd4⟩ := fl4.there
      have S4 := J4.suite he4 hd4 na nL nF
      refine store_ok (X := X.suite a ((a, oe4) :: (X.pn ++ pins))) (v := .ref a) S4 hN hi hloc rfl (fun s5 S5 => ?_) (.inr hln)
      refine wpAny_mono ((hsu a oe4 cls d (X.pn ++ pins) hz4 ⟨_, hd4⟩).run [] s5 _ H' _ S5 (hyes rfl a na)) (fun f s6 hsp => ?_) (fun _ _ z => False.elim z)
      cases f with
      | next =>
        obtain ⟨σ6, H6, S6, q6⟩ := hsp
        obtain ⟨p1, p2, _, _, _⟩ := S6.pin (a, oe4) (List.mem_append_left _ List.mem_cons_self)
        have T6 := qh (S6.unsuite ok) (cls := cls) (d := d) p1 hz4 ⟨_, hd4⟩ p2 n0 nL nC nP
        exact gone_ok T6 hN hi hln fun s7 J7 => ⟨_, _, J7, q6 p2⟩
      | brk =>
        obtain ⟨σ6, H6, S6, q6⟩ := hsp
        exact gone_ok (S6.unsuite ok) hN hi hln fun s7 J7 => ⟨_, _, J7, q6⟩
      | cont =>
        obtain ⟨σ6, H6, S6, q6⟩ := hsp
        exact gone_ok (S6.unsuite ok) hN hi hln fun s7 J7 => ⟨_, _, J7, q6⟩
      | ret u =>
        obtain ⟨v6, σ6, H6, S6, r6, q6⟩ := hsp
        exact gone_ok (S6.unsuite ok) hN hi hln fun s7 J7 => ⟨_, _, _, J7, r6, q6⟩
    | false =>
      show wpAny _ X.A (handleBy (.ref a) X.env []) _ _ _
      refine wpAny_handleBy_nil ?_
      obtain ⟨k1, k2, k3, oe, vs, T, oT, ts', he, hz, hd, h1, hr⟩ := id fl3
      unfold PySem.passOn
      refine wpAny_bind (wpAny_field he hd h1 ?_)
      rw [if_neg (show ¬ ((Value.ref T == Value.none) = true) from by simp)]
      have fin : wpAny (model X.prog X.w) X.A (setFlight (.ref a) X.env.frame) (fun _ s4 => wpAny (model X.prog X.w) X.A (throw (.ref a) : Sem Flow) (SP X pins D) X.xe s4) X.xe { s' with heap := h3 } := by
        rw [hf]
        refine HandSPX.setFlight_upZ fl3 fun h4 hh4 up4 => wpAny_throw (tk _ _ ?_)
        exact ⟨a, B, sI, pins, σ', H', cls, d, rfl, J, nb, (up.trans up3).trans up4, .inr (.inr (by rw [hs]; exact hh4)), na, os, ag, hno rfl⟩
      first
        | exact wpAny_bind (wpAny_pure (wpAny_bind fin))
        | exact wpAny_bind fin
  · cases f with
    | next =>
      obtain ⟨σ', H', J', q⟩ := hsp
      exact wpAny_execs_nil ⟨σ', H', J'.ofTry ok, q⟩
    | brk =>
      obtain ⟨σ', H', J', q⟩ := hsp
      exact ⟨σ', H', J'.ofTry ok, q⟩
    | cont =>
      obtain ⟨σ', H', J', q⟩ := hsp
      exact ⟨σ', H', J'.ofTry ok, q⟩
    | ret u =>
      obtain ⟨v, σ', H', J', r, q⟩ := hsp
      exact ⟨v, σ', H', J'.ofTry ok, r, q⟩
end
end Lay
set_option Elab.async false
set_option linter.all false
set_option maxRecDepth 100000
set_option maxHeartbeats 2000000
namespace DM
open PySem PySem.Spec PyProof.Rows L2 Lay NdefX LamX GD
section
variable {C : Cc} {W : WX} {fr : Bool} {ts : TA} {ms : En → M (List D)}
theorem sG {cV : Value} {i j : Nat} {tb : WX → TS} {tsu : Addr → Value → Option Addr → TS} {mt : Mt} {mb : S} (hij : i ≠ j) (hm : ∀ c v b, ph C.Γ c v → mt c = some b → PySem.W.exmOne C.K v cV = some b)
    (hb : ∀ W', SS C W' fr (tb W') mb) (hh : ∀ a cls d (D : Ends) (σ : L2.St) (H : Hp) (v : V), σ[i]? = some (some v) → D.nx (σ.set j (some v)) H → tsu a cls d D σ H) :
    SS C W fr (fun D σ H => tb (n8 C.K cV i tsu W D) D σ H) (ke mt i j mb) := by
  intro E0 ae os σ ρ s H r s' De o e p
  unfold ke at e
  obtain ⟨⟨r1, s1⟩, e1, e⟩ := cO e
  refine hb _ E0 ae os σ ρ s H r1 s1 De o e1 ?_
  cases r1 with
  | er ρ' x =>
    intro os' σ' H' cls dd o' f' rx
    obtain ⟨b, hb', e⟩ := cO e
    refine ⟨b, hm _ _ _ rx.cls hb', fun z a na => ?_, fun z => ?_⟩
    · rw [if_pos z] at e
      split at e
      · rename_i hns
        cases e
        have hil : i < σ'.length := by rw [o'.len]; exact hns.2
        refine hh a _ dd _ _ _ (.ref a) (List.getElem?_set_self hil) (fun na' => ?_)
        rcases rx with ⟨A, hA, rfl, hrx⟩ | ⟨T, hT, _⟩
        rotate_left
        · rw [hns.1] at hT
          cases hT
        rcases hrx with ⟨z1, z2, rfl⟩ | ⟨dx, vs, rfl, nd, hdx, hl, ra⟩
        · have g : Go C.Γ H' (upd H' a (excAt a (.ref A) none)) := .new na
          have o1 := o'.step g (o'.wo.new na)
          have rr : Rep C.K (upd H' a (excAt a (.ref A) none)) (avO ae os') C.Γ (.ref a) (.exc x.c x.ns x.xs) := by
            rw [z1, z2]
            exact .ex0 (fun z => o'.toE.al a z na) hA upd_same
          have o2 := (o1.rJ rr j).wh i
          show De.nx (((σ'.set i (some (.ref a))).set j (some (.ref a))).set i none) _
          rw [List.set_comm _ _ hij, List.set_set]
          exact p _ _ _ o2 (f'.trans (g.fr o'.ad))
        have ndx : a ≠ dx := fun z => by rw [z, hdx] at na; cases na
        have g : Go C.Γ H' (upd H' a (excAt a (.ref A) (some dx))) := .new na
        have o1 := o'.step g (o'.wo.new na)
        have rr : Rep C.K (upd H' a (excAt a (.ref A) (some dx))) (avO ae os') C.Γ (.ref a) (.exc x.c x.ns x.xs) :=
          .exc (fun z => o'.toE.al a z na) nd hA upd_same (by rw [upd_ne (Ne.symm ndx)]; exact hdx) hl (ra.kp (.new na))
        have o2 := (o1.rJ rr j).wh i
        show De.nx (((σ'.set i (some (.ref a))).set j (some (.ref a))).set i none) _
        rw [List.set_comm _ _ hij, List.set_set]
        exact p _ _ _ o2 (f'.trans (g.fr o'.ad))
      · cases e
    · rw [if_neg (by rw [z]; simp)] at e
      cases e
      exact p os' σ' H' _ dd o' f' rx
  | nx ρ' => cases e; exact p
  | rt d => cases e; exact p
  | bk ρ' => cases e; exact p
  | ct ρ' => cases e; exact p
end
end DM
set_option Elab.async false
set_option linter.all false
set_option maxRecDepth 100000
set_option maxHeartbeats 2000000
namespace DM
open PySem PySem.Spec PyProof.Rows L2 Lay NdefX LamX GD
end DM
set_option Elab.async false
set_option linter.all false
set_option maxRecDepth 100000
set_option maxHeartbeats 2000000
namespace DM
open PySem PySem.Spec PyProof.Rows L2 Lay NdefX LamX GD
def Wc.lock (Γ : Wc) (p : Addr) : Wc := { Γ with fz := fun a => Γ.fz a ∨ a = p }
def Cc.lock (C : Cc) (p : Addr) : Cc := { C with Γ := C.Γ.lock p }
section
variable {K : PySem.W.Frag} {H : Hp} {av : Av} {Γ : Wc} {p : Addr} {kvs : List (Key × V)} {o : Obj}
theorem TupAt.at_ne {a : Addr} {xs : List V} {u : HO} (h : TupAt K H av a xs) (ne : ∀ xs, H p ≠ some (.tup xs)) : TupAt K (upd H p u) av a xs := by
  rcases h with ⟨n, h⟩ | h
  · exact .inl ⟨n, by rw [upd_ne fun z => ne xs (by rw [← z]; exact h)]; exact h⟩
  · exact .inr h
mutual
theorem Rep.dM (hp : H p = some (.dK kvs)) : ∀ (d : D) (v : V), Rep K H av Γ v d → Rep K (upd H p (.frz o (.dK kvs))) av (Γ.lock p) v d
  | .non, _, h => by cases h; exact .non
  | .bl b, _, h => by cases h; exact .bl b
  | .int i, _, h => by cases h; exact .int i
  | .str x, _, h => by cases h; exact .str x
  | .drw, _, h => by cases h; exact .drw (Γ := Γ.lock p)
  | .mob i, _, h => by
    cases h with
    | mob e => exact .mob (Γ := Γ.lock p) e
  | .kdc ks ds, _, h => by
    cases h with
    | kdc n s e dp rk r => exact .kdc (Γ := Γ.lock p) n (by rw [upd_ne fun z => by rw [z, hp] at s; cases s]; exact s) e dp (ah.dM hp ks _ rk) (ah.dM hp ds _ r)
  | .lst ds, _, h => by
    cases h with
    | lst n s r => exact .lst n (by rw [upd_ne fun z => by rw [z, hp] at s; cases s]; exact s) (ah.dM hp ds _ r)
  | .tup ds, _, h => by
    cases h with
    | tup t r => exact .tup (t.at_ne fun xs z => by rw [hp] at z; cases z) (ah.dM hp ds _ r)
  | .dic ks ds, _, h => by
    cases h with
    | @dic a _ vs _ n s l r =>
      refine .dic n ?_ l (ah.dM hp ds _ r)
      by_cases z : a = p
      · subst z
        rcases s with s | ⟨_, o', s⟩
        · rw [hp] at s
          cases s
          exact .inr ⟨.inr rfl, o, upd_same⟩
        · rw [hp] at s
          cases s
      · rcases s with s | ⟨f, o', s⟩
        · exact .inl (by rw [upd_ne z]; exact s)
        · exact .inr ⟨.inl f, o', by rw [upd_ne z]; exact s⟩
  | .obj c ns ds, _, h => by
    cases h with
    | obj n q s l r => exact .obj (Γ := Γ.lock p) n q (by rw [upd_ne fun z => by rw [z, hp] at s; cases s]; exact s) l (ah.dM hp ds _ r)
  | .exc c ns ds, _, h => by
    cases h with
    | exc n n2 q s s2 l r => exact .exc (Γ := Γ.lock p) n n2 q (by rw [upd_ne fun z => by rw [z, hp] at s; cases s]; exact s) (by rw [upd_ne fun z => by rw [z, hp] at s2; cases s2]; exact s2) l (ah.dM hp ds _ r)
    | ex0 n q s => exact .ex0 (Γ := Γ.lock p) n q (by rw [upd_ne fun z => by rw [z, hp] at s; cases s]; exact s)
theorem ah.dM (hp : H p = some (.dK kvs)) : ∀ (ds : List D) (vs : List V), ah K H av Γ vs ds → ah K (upd H p (.frz o (.dK kvs))) av (Γ.lock p) vs ds
  | [], _, h => by cases h; exact .nil
  | d :: ds, _, h => by
    cases h with
    | cons a r => exact .cons (Rep.dM hp d _ a) (ah.dM hp ds _ r)
end
theorem gW {T : List NTab} {u o' : HO} (h : TabsN T H) (np : ∀ r ∈ T, r.1 ≠ p) (e : H p = some o') (he : ∀ c q, o' ≠ CodeO c q) : TabsN T (upd H p u) := fun r hr => by
  obtain ⟨ps, h1, h2, h3⟩ := h r hr
  refine ⟨ps, by rw [upd_ne (np r hr)]; exact h1, h2, fun pos cv hc => ?_⟩
  obtain ⟨c, e1, e2⟩ := h3 pos cv hc
  exact ⟨c, e1, by rw [upd_ne fun z => he _ _ (Option.some.inj ((by rw [← z]; exact e2.symm : some _ = H p).trans e)).symm]; exact e2⟩
theorem Wo.lock {s : DS} (w : Wo K Γ av H s) (np : ¬ Γ.ch p) (hp : H p = some (.dK kvs)) : Wo K (Γ.lock p) av (upd H p (.frz o (.dK kvs))) s := by
  refine ⟨?_, gW w.tb (fun r hr z => np (.inr (.inl ⟨r, hr, z⟩))) hp (fun c q z => by cases z), w.nd, w.ml, fun i a d h1 h2 => ?_⟩
  · show upd H p _ Γ.dr = _
    rw [upd_ne fun z => np (.inl z.symm)]
    exact w.dr
  · have n1 : a ≠ p := fun z => np (.inr (.inr (by rw [← z]; exact List.mem_of_getElem? h1)))
    cases w.mt i a d h1 h2 with
    | lst e r => exact .lst (by rw [upd_ne n1]; exact e) (ah.dM hp _ _ r)
    | dic e l r => exact .dic (by rw [upd_ne n1]; exact e) l (ah.dM hp _ _ r)
    | obj q e l r => exact .obj (Γ := Γ.lock p) q (by rw [upd_ne n1]; exact e) l (ah.dM hp _ _ r)
end
end DM
set_option Elab.async false
set_option linter.all false
set_option maxRecDepth 100000
set_option maxHeartbeats 2000000
namespace DM
open PySem PySem.Spec PyProof.Rows L2 Lay NdefX LamX GD
section
variable {C : Cc} {W : WX} {av : Av} {σ : L2.St} {ρ : En} {s : DS} {H : Hp} {p : Addr} {kvs : List (Key × V)} {o : Obj}
/-- lambdas are no dicts -/
def wu (C : Cc) : Prop := (∀ k f c kvs, C.lo k f c ≠ .dK kvs) ∧ ∀ k f c o kvs, C.lo k f c ≠ .frz o (.dK kvs)
theorem OkE.lock (hl : wu C) (ok : OkE C av σ ρ s H) (np : ¬ C.Γ.ch p) (hp : H p = some (.dK kvs)) : OkE (C.lock p) av σ ρ s (upd H p (.frz o (.dK kvs))) := by
  refine ⟨ok.len, ok.wo.lock np hp, ok.ad, fun a z => Lv.upd a (ok.al a z), fun a z => ir (ok.nc a z) (fun c q e => by cases e), ⟨fun i d e => ?_, fun i k e => ?_, fun i d e => (let ⟨v, h1, h2⟩ := ok.sl.new i d e; ⟨v, h1, Rep.dM hp d v h2⟩)⟩⟩
  · obtain ⟨v, h1, h2⟩ := ok.sl.val i d e
    exact ⟨v, h1, Rep.dM hp d v h2⟩
  · obtain ⟨v, h1, f, c, e1, n1, n2, h2, h3⟩ := ok.sl.lam i k e
    refine ⟨v, h1, f, c, e1, n1, n2, ?_, ?_⟩
    · rw [upd_ne fun z => by rw [z, hp] at h2; exact hl.1 _ _ _ _ (Option.some.inj h2).symm]
      exact h2
    · rw [upd_ne fun z => by rw [z, hp] at h3; cases h3]
      exact h3
end
end DM
set_option Elab.async false
set_option linter.all false
set_option maxRecDepth 100000
set_option maxHeartbeats 2000000
namespace DM
open PySem PySem.Spec PyProof.Rows L2 Lay NdefX LamX GD
section
variable {C : Cc} {W : WX} {fr : Bool} {E0 : Hp} {ae : Av} {os os' : List Addr} {σ : L2.St} {ρ : En} {s : DS} {H H' : Hp} {p : Addr} {kvs : List (Key × V)} {o : Obj}
open Classical in
/-- the heap at the def's beginning, the dict locked where it was there already -/
noncomputable def iR (E0 : Hp) (p : Addr) (u : HO) : Hp := if E0 p = none then E0 else upd E0 p u
theorem mz {u : HO} {a : Addr} (h : a ≠ p) : iR E0 p u a = E0 a := by
  unfold iR
  split
  · rfl
  · exact upd_ne h
theorem mC {u : HO} {a : Addr} (h : E0 a = none) : iR E0 p u a = none := by
  unfold iR
  split
  · exact h
  · rename_i n
    rw [upd_ne fun z => n (by rw [← z]; exact h)]
    exact h
theorem n9 {u : HO} {a : Addr} (h : E0 a ≠ none) : iR E0 p u a ≠ none := by
  unfold iR
  split
  · exact h
  · exact Lv.upd a h
theorem bJ.ne {av : Av} {q : Addr} {d : D} (h : bJ C H av q d) {u : HO} (n : q ≠ p) (f : ∀ vs ds, ah C.K H av C.Γ vs ds → ah C.K (upd H p u) av (C.Γ.lock p) vs ds) : bJ (C.lock p) (upd H p u) av q d := by
  cases d <;> first | exact h.elim | skip
  · obtain ⟨vs, h1, h2⟩ := h
    exact ⟨vs, by rw [upd_ne n]; exact h1, f _ _ h2⟩
  · obtain ⟨vs, h1, h2, h3⟩ := h
    exact ⟨vs, by rw [upd_ne n]; exact h1, h2, f _ _ h3⟩
  · obtain ⟨es, h1, h2, h3, h4, h5⟩ := h
    exact ⟨es, by rw [upd_ne n]; exact h1, h2, h3, f _ _ h4, f _ _ h5⟩
theorem Ok.lock (hl : wu C) (ok : Ok C E0 ae os σ ρ s H) (hp : H p = some (.dK kvs)) (np : ¬ avO ae os p) : Ok (C.lock p) (iR E0 p (.frz o (.dK kvs))) ae os σ ρ s (upd H p (.frz o (.dK kvs))) := by
  have e := OkE.lock (o := o) hl ok.toE (fun z => np (.inl (ok.ad p z))) hp
  have no : ∀ q ∈ os, q ≠ p := fun q hq z => np (.inr (by rw [← z]; exact hq))
  refine ⟨⟨fun a u n h => ?_, fun a h => ?_⟩, e.len, e.wo, ok.ad, fun a z => n9 (ok.al a z), fun q hq => ⟨mC (ok.ow q hq).1, ?_⟩, e.nc, e.sl, fun i d hd => ?_, ok.dis, ok.tx.gen (fun _ _ h => ⟨h, rfl⟩) (fun q h => mC h) (fun _ _ h => ⟨h, rfl⟩) (fun j d q h1 h2 => .inl ⟨d, h1, h2⟩) fun S v x hS _ h => ⟨h.move (C' := C.lock p) rfl (fun vs ds r => ah.dM hp ds vs r) (fun a vs t => t.at_ne fun xs z => by rw [hp] at z; cases z) fun q hq ob z => by rw [upd_ne (no q (hS q hq))]; exact z, hS⟩⟩
  · by_cases z : a = p
    · subst z
      unfold iR at h
      split at h
      · rename_i n0
        rw [n0] at h
        cases h
      · rw [upd_same] at h
        rw [upd_same]
        exact h
    · rw [mz z] at h
      rw [upd_ne z]
      exact ok.go.kp a u n h
  · by_cases z : a = p
    · subst z
      rw [upd_same]
      simp
    · rw [mz z] at h
      rw [upd_ne z]
      exact ok.go.lv a h
  · rw [upd_ne (no q hq)]
    exact (ok.ow q hq).2
  · obtain ⟨q, h1, h2, h3⟩ := ok.own i d hd
    exact ⟨q, h1, h2, h3.ne (no q h2) fun vs ds r => ah.dM hp ds vs r⟩
end
end DM
set_option Elab.async false
set_option linter.all false
set_option maxRecDepth 100000
set_option maxHeartbeats 2000000
namespace DM
open PySem PySem.Spec PyProof.Rows L2 Lay NdefX LamX GD
end DM
set_option Elab.async false
set_option linter.all false
set_option maxRecDepth 100000
set_option maxHeartbeats 2000000
namespace DM
open PySem PySem.Spec PyProof.Rows L2 Lay NdefX LamX GD
inductive Dw where
  | keys | vals | items
def Dw.is : Dw → D → Option (List D)
  | .keys, .dic ks _ => some (ks.map D.str)
  | .vals, .dic ks ds => if ks.length = ds.length then some ds else none
  | .items, .dic ks ds => if ks.length = ds.length then some (List.zipWith (fun k d => .tup [.str k, d]) ks ds) else none
  | _, _ => none
end DM
set_option Elab.async false
set_option linter.all false
set_option maxRecDepth 100000
set_option maxHeartbeats 2000000
namespace DM
open PySem PySem.Spec PyProof.Rows L2 Lay NdefX LamX GD
/-- the draws' place, and what is locked -/
structure Zw where
  dr : Addr
  fz : Addr → Prop
  mu : List Addr
def Zw.lock (d : Zw) (p : Addr) : Zw := ⟨d.dr, fun a => d.fz a ∨ a = p, d.mu⟩
def Zw.push (d : Zw) (p : Addr) : Zw := ⟨d.dr, d.fz, d.mu ++ [p]⟩
def z0 (d : Addr) : Zw := ⟨d, fun _ => False, []⟩
/-- a promise for each of the worlds -/
def spI {ι : Type} (K : PySem.W.Frag) (Γs : ι → Wc) (fr : Bool) (n : Nat) (F : List D → M D) : Sp := fun vs H Q E => ∃ i, True ∧ spF K (Γs i) fr n F vs H Q E
end DM
set_option Elab.async false
set_option linter.all false
set_option maxRecDepth 100000
set_option maxHeartbeats 2000000
namespace DM
open PySem L2
end DM
set_option Elab.async false
set_option linter.all false
set_option maxRecDepth 100000
set_option maxHeartbeats 2000000
namespace DM
open PySem PySem.Spec PyProof.Rows L2 Lay NdefX LamX GD
end DM
set_option Elab.async false
set_option linter.all false
set_option maxRecDepth 100000
set_option maxHeartbeats 2000000
namespace XM
open PySem PySem.Spec PyProof.Rows L2 GD
def tMethS (C : Addr) (m : Str) (sp : Sp) (E : L2.St → XK) (ta : TE) (t : TA) : TE := fun σ H Q => ta σ H fun x H1 => ∃ a dx fs, x = .ref a ∧ H1 a = some (.ins C dx fs) ∧ fs.lookup m = none ∧ t σ H1 fun vs H2 => sp (x :: vs) H2 Q (E σ)
def kU (C : Addr) (sp : Sp) (E : L2.St → XK) (t : TA) : TE := fun σ H Q => t σ H fun vs H1 => ∀ x dx, H1 x = none → H1 dx = none → dx ≠ x →
  sp (.ref x :: vs) (upd (upd H1 dx (.own x)) x (.ins C dx [])) (fun v H2 => v = .non ∧ Q (.ref x) H2) (E σ)
section
variable {X : Cx} {CX : CXT} {k : Nat} {f C : Addr} {fd : FuncData} {ps : List Str} {sp : Sp} {E : L2.St → XK} {x m : Str} {p pos apos : Pos} {e o : Expr} {es : List Expr} {ta : TE} {t : TA}
theorem u5 {pins : List (Addr × Obj)} {σ : L2.St} {H : Hp} {s : Shared} {Q : VK} {us : List Value} {vs : List V} (F : FnG X.prog X.w X.K X.mg X.base CX k f fd ps sp) (hg : X.A.guards = some []) (hr : Room k X.A) (hb : Binds X.K fd ps []) (hx : PassesAt CX X σ (E σ))
    (I : Inv X pins σ H s) (r : Vals vs us) (h : sp vs H Q (E σ)) : wpAny (model X.prog X.w) X.A (call (.ref f) us) (EP X pins σ Q) X.xe s := by
  have hl : us.length = ps.length := r.length ▸ F.lens _ _ _ _ h
  have b := hb s us I.kIn (by rw [List.append_nil]; exact hl)
  rw [List.append_nil] at b
  refine wpAny_call (codeAny_mono (F.runs X.A X.stack s H ⟨us, []⟩ us vs Q (E σ) hg hr I.env0 b r h) fun r s' hq => ?_)
  match r, hq with
  | .error e, hq => exact hx pins H s e s' I hq
  | .ok (.ret u), hq => exact I.after hq
  | .ok .next, hq => exact False.elim hq
  | .ok .brk, hq => exact False.elim hq
  | .ok .cont, hq => exact False.elim hq
/-- o.m() -/
theorem d6 {pl : Sem Bool} (he : PE X o ta) (c : Cls X.K C) (hm : Meth X.K C m f) (F : FnG X.prog X.w X.K X.mg X.base CX k f fd ps sp) (hg : X.A.guards = some []) (hr : Room k X.A) (hb : Binds X.K fd ps []) (hx : ∀ σ, PassesAt CX X σ (E σ))
    (ht : eval (.Call (.Attribute o m apos) [] [] pos) X.env = (do
      let ov ← eval o X.env
      standAt apos.atName
      let (f, first) ← holding [ov] (getMethod ov m pl)
      callWith pos f first (backTo pos (starEach [] X.env)) (backToKw pos (keywordEach [] X.env))) := by rfl) :
    PE X (.Call (.Attribute o m apos) [] [] pos) (tMethS C m sp E ta tNil) := by
  refine ⟨fun pins s σ H Q I h => ?_⟩
  refine PySem.W.methodCall_KW (pl := pl) (thn (he.run pins s σ H _ I h) fun u s1 ⟨x, H1, I1, rx, a, dx, fs, ex, ea, l, q⟩ => ?_) ht
  subst ex
  obtain rfl : u = Value.ref a := rx
  refine getmeth_ok I1 ea c hm l ?_
  exact PySem.W.callWith_K0 (first := [.ref a]) I1.kIn hm.kp (u5 (us := [.ref a]) (vs := [.ref a]) F hg hr hb (hx σ) I1 (.cons rfl .nil) q)
theorem qC {pins : List (Addr × Obj)} {σ : L2.St} {H : Hp} {s : Shared} {Q : VK} {us : List Value} {vs : List V} (M : Mk X.K C f) (F : FnG X.prog X.w X.K X.mg X.base CX k f fd ps sp) (hg : X.A.guards = some []) (hr : Room (k + 1) X.A) (hb : Binds X.K fd ps [])
    (hx : ∀ σ, PassesAt CX X σ (E σ)) (I : Inv X pins σ H s) (r : Vals vs us)
    (h : ∀ x dx, H x = none → H dx = none → dx ≠ x → sp (.ref x :: vs) (upd (upd H dx (.own x)) x (.ins C dx [])) (fun v H2 => v = .non ∧ Q (.ref x) H2) (E σ)) :
    wpAny (model X.prog X.w) X.A (call (.ref C) us) (EP X pins σ Q) X.xe s := by
  have hq := h (s.heap.objs.size + 1) s.heap.objs.size (I.hok.fresh (Nat.le_succ _)) (I.hok.fresh (Nat.le_refl _)) (Nat.ne_of_lt (Nat.lt_succ_self _))
  have I2 := Inv.made (C := C) I
  have r2 : Vals (V.ref (s.heap.objs.size + 1) :: vs) (Value.ref (s.heap.objs.size + 1) :: us) := .cons rfl r
  have hl : (Value.ref (s.heap.objs.size + 1) :: us).length = ps.length := by
    have e := r2.length
    rw [F.lens _ _ _ _ hq] at e
    exact e.symm
  have b := hb _ (Value.ref (s.heap.objs.size + 1) :: us) I2.kIn (by rw [List.append_nil]; exact hl)
  rw [List.append_nil] at b
  refine wpAny_call (make_map (f := f) I.kIn M.makes M.init (beq_iff_eq.mp M.fn) (codeAny_mono (F.runs _ X.stack _ _ ⟨Value.ref (s.heap.objs.size + 1) :: us, []⟩ (Value.ref (s.heap.objs.size + 1) :: us) _ _ (E σ) hg (hr.make C us [])
    (I2.env0.make C us []) b r2 hq) fun r s' hq' => ?_))
  cases r with
  | error e => exact hx σ pins _ _ e s' I2 hq'
  | ok fl =>
    cases fl with
    | ret u =>
      obtain ⟨v, H', I3, rv, ev, q3⟩ := I2.after hq'
      subst ev
      exact ⟨rv, ⟨V.ref (s.heap.objs.size + 1), H', I3, rfl, q3⟩⟩
    | next => exact False.elim hq'
    | brk => exact False.elim hq'
    | cont => exact False.elim hq'
theorem ej (M : Mk X.K C f) (F : FnG X.prog X.w X.K X.mg X.base CX k f fd ps sp) (hgd : X.A.guards = some []) (hr : Room (k + 1) X.A) (hg : Gl X x) (hm : X.mg x = some (.ref C)) (hb : Binds X.K fd ps []) (hx : ∀ σ, PassesAt CX X σ (E σ))
    (ha : PA X (e :: es) t) (hdb : (x == ("__debug__" : Str)) = false := by decide) (he : starEach (e :: es) X.env = (false, eval e X.env) :: starEach es X.env := by rfl) (hpl : (backTo pos (starEach es X.env)).any (·.1) = false := by rfl) :
    PE X (.Call (.Name x p) (e :: es) [] pos) (kU C sp E t) := by
  refine ⟨fun pins s σ H Q I h => ?_⟩
  refine wpAny_Call_Name_kw (ld_glob I hg hm ?_ hdb)
  refine PySem.W.callWith_K (h₀ := X.base) I.ok.mod.kin M.kp (thn (ha.run pos pins s σ H _ I h) fun us s1 ⟨vs, H1, I1, r, q⟩ => ⟨I1.kIn, ?_⟩) he hpl
  exact qC M F hgd hr hb hx I1 r q
end
end XM
set_option Elab.async false
set_option linter.all false
set_option maxRecDepth 100000
set_option maxHeartbeats 2000000
namespace DM
open PySem PySem.Spec PyProof.Rows L2 Lay NdefX LamX GD
def Wc.push (Γ : Wc) (p : Addr) : Wc := { Γ with mu := Γ.mu ++ [p] }
mutual
def cln (L : Nat) : D → Bool
  | .mob i => decide (i < L)
  | .lst xs => dz L xs
  | .tup xs => dz L xs
  | .dic _ xs => dz L xs
  | .obj _ _ xs => dz L xs
  | .exc _ _ xs => dz L xs
  | .kdc ks xs => dz L ks && dz L xs
  | _ => true
def dz (L : Nat) : List D → Bool
  | [] => true
  | x :: xs => cln L x && dz L xs
end
section
variable {K : PySem.W.Frag} {H H' : Hp} {av av2 : Av} {Γ : Wc} {p : Addr}
mutual
theorem Rep.ew : ∀ (d : D) (v : V), Rep K H av Γ v d → Rep K H av (Γ.push p) v d
  | .non, _, h => by cases h; exact .non
  | .bl b, _, h => by cases h; exact .bl b
  | .int i, _, h => by cases h; exact .int i
  | .str x, _, h => by cases h; exact .str x
  | .drw, _, h => by cases h; exact .drw (Γ := Γ.push p)
  | .mob i, _, h => by
    cases h with
    | mob e => exact .mob (Γ := Γ.push p) (by
        show (Γ.mu ++ [p])[i]? = _
        rw [List.getElem?_append_left (List.getElem?_eq_some_iff.mp e).1]
        exact e)
  | .kdc ks ds, _, h => by
    cases h with
    | kdc n s e dp rk r => exact .kdc (Γ := Γ.push p) n s e dp (ah.ew ks _ rk) (ah.ew ds _ r)
  | .lst ds, _, h => by
    cases h with
    | lst n s r => exact .lst n s (ah.ew ds _ r)
  | .tup ds, _, h => by
    cases h with
    | tup t r => exact .tup t (ah.ew ds _ r)
  | .dic ks ds, _, h => by
    cases h with
    | dic n s l r => exact .dic (Γ := Γ.push p) n s l (ah.ew ds _ r)
  | .obj c ns ds, _, h => by
    cases h with
    | obj n q s l r => exact .obj (Γ := Γ.push p) n q s l (ah.ew ds _ r)
  | .exc c ns ds, _, h => by
    cases h with
    | exc n n2 q s s2 l r => exact .exc (Γ := Γ.push p) n n2 q s s2 l (ah.ew ds _ r)
    | ex0 n q s => exact .ex0 (Γ := Γ.push p) n q s
theorem ah.ew : ∀ (ds : List D) (vs : List V), ah K H av Γ vs ds → ah K H av (Γ.push p) vs ds
  | [], _, h => by cases h; exact .nil
  | d :: ds, _, h => by
    cases h with
    | cons a r => exact .cons (Rep.ew d _ a) (ah.ew ds _ r)
end
mutual
theorem Rep.gv : ∀ (d : D) (v : V), cln Γ.mu.length d = true → Rep K H av (Γ.push p) v d → Rep K H av Γ v d
  | .non, _, _, h => by cases h; exact .non
  | .bl b, _, _, h => by cases h; exact .bl b
  | .int i, _, _, h => by cases h; exact .int i
  | .str x, _, _, h => by cases h; exact .str x
  | .drw, _, _, h => by cases h; exact .drw (Γ := Γ)
  | .mob i, _, c, h => by
    cases h with
    | mob e =>
      have c : i < Γ.mu.length := by simpa [cln] using c
      exact .mob (by
        have e : (Γ.mu ++ [p])[i]? = _ := e
        rw [List.getElem?_append_left c] at e
        exact e)
  | .kdc ks ds, _, c, h => by
    cases h with
    | kdc n s e dp rk r =>
      simp only [cln, Bool.and_eq_true] at c
      exact .kdc n s e dp (ah.gv ks _ c.1 rk) (ah.gv ds _ c.2 r)
  | .lst ds, _, c, h => by
    cases h with
    | lst n s r => exact .lst n s (ah.gv ds _ c r)
  | .tup ds, _, c, h => by
    cases h with
    | tup t r => exact .tup t (ah.gv ds _ c r)
  | .dic ks ds, _, c, h => by
    cases h with
    | dic n s l r => exact .dic (Γ := Γ) n s l (ah.gv ds _ c r)
  | .obj _ ns ds, _, c, h => by
    cases h with
    | obj n q s l r => exact .obj (Γ := Γ) n q s l (ah.gv ds _ c r)
  | .exc _ ns ds, _, c, h => by
    cases h with
    | exc n n2 q s s2 l r => exact .exc (Γ := Γ) n n2 q s s2 l (ah.gv ds _ c r)
    | ex0 n q s => exact .ex0 (Γ := Γ) n q s
theorem ah.gv : ∀ (ds : List D) (vs : List V), dz Γ.mu.length ds = true → ah K H av (Γ.push p) vs ds → ah K H av Γ vs ds
  | [], _, _, h => by cases h; exact .nil
  | d :: ds, _, c, h => by
    simp only [dz, Bool.and_eq_true] at c
    cases h with
    | cons a r => exact .cons (Rep.gv d _ c.1 a) (ah.gv ds _ c.2 r)
end
theorem MAt.push {a : Addr} {d : D} (h : MAt K H av Γ a d) : MAt K H av (Γ.push p) a d := by
  cases h with
  | lst e r => exact .lst e (ah.ew _ _ r)
  | dic e l r => exact .dic e l (ah.ew _ _ r)
  | obj q e l r => exact .obj (Γ := Γ.push p) q e l (ah.ew _ _ r)
theorem MAt.pop {a : Addr} {d : D} (c : cln Γ.mu.length d = true) (h : MAt K H av (Γ.push p) a d) : MAt K H av Γ a d := by
  cases h with
  | lst e r => exact .lst e (ah.gv _ _ c r)
  | dic e l r => exact .dic e l (ah.gv _ _ c r)
  | obj q e l r => exact .obj (Γ := Γ) q e l (ah.gv _ _ c r)
theorem mD {L : Nat} : ∀ {xs : List D} {i : Nat} {d : D}, dz L xs = true → xs[i]? = some d → cln L d = true
  | [], i, d, _, e => by simp at e
  | x :: xs, 0, d, c, e => by
    simp only [dz, Bool.and_eq_true] at c
    simp at e
    subst e
    exact c.1
  | x :: xs, i + 1, d, c, e => by
    simp only [dz, Bool.and_eq_true] at c
    exact mD c.2 (by simpa using e)
def DS.push (s : DS) (d : D) : DS := { s with m := s.m ++ [d] }
def DS.pop (s : DS) (L : Nat) : DS := { s with m := s.m.take L }
theorem gX {a : Addr} : (Γ.push p).ch a ↔ Γ.ch a ∨ a = p := by
  show (a = Γ.dr ∨ (∃ q ∈ Γ.T, q.1 = a) ∨ a ∈ Γ.mu ++ [p]) ↔ (a = Γ.dr ∨ (∃ q ∈ Γ.T, q.1 = a) ∨ a ∈ Γ.mu) ∨ a = p
  rw [List.mem_append, List.mem_singleton]
  constructor
  · rintro (h | h | h | h)
    · exact .inl (.inl h)
    · exact .inl (.inr (.inl h))
    · exact .inl (.inr (.inr h))
    · exact .inr h
  · rintro ((h | h | h) | h)
    · exact .inl h
    · exact .inr (.inl h)
    · exact .inr (.inr (.inl h))
    · exact .inr (.inr (.inr h))
/-- one more object, at p, new -/
theorem Wo.push {s : DS} {d : D} (w : Wo K Γ av H s) (hp : H p = none) (sm : Same H H') (m : MAt K H' (fun a => av a ∨ a = p) (Γ.push p) p d) : Wo K (Γ.push p) (fun a => av a ∨ a = p) H' (s.push d) := by
  have w1 : Wo K Γ (fun a => av a ∨ a = p) H' s := (w.wd fun a z => z.imp id fun z => by rw [z]; exact hp).same sm
  refine ⟨w1.dr, w1.tb, ?_, ?_, fun i a d' h1 h2 => ?_⟩
  · show (Γ.dr :: (Γ.mu ++ [p])).Nodup
    rw [← List.cons_append, List.nodup_append]
    refine ⟨w.nd, by simp, fun x hx y hy e => ?_⟩
    rw [List.mem_singleton] at hy
    subst hy
    subst e
    rcases List.mem_cons.mp hx with z | z
    · exact w.al (.inl z) hp
    · exact w.al (.inr (.inr z)) hp
  · show (s.m ++ [d]).length = (Γ.mu ++ [p]).length
    rw [List.length_append, List.length_append, w.ml]
    rfl
  · have h1 : (Γ.mu ++ [p])[i]? = some a := h1
    have h2 : (s.m ++ [d])[i]? = some d' := h2
    by_cases hi : i < Γ.mu.length
    · rw [List.getElem?_append_left hi] at h1
      rw [List.getElem?_append_left (by rw [w.ml]; exact hi)] at h2
      exact (w1.mt i a d' h1 h2).push
    · have e0 : i = Γ.mu.length := by
        have := (List.getElem?_eq_some_iff.mp h1).1
        rw [List.length_append, List.length_singleton] at this
        omega
      subst e0
      rw [List.getElem?_append_right (Nat.le_refl _), Nat.sub_self] at h1
      rw [List.getElem?_append_right (by rw [w.ml]; exact Nat.le_refl _), w.ml, Nat.sub_self] at h2
      simp at h1 h2
      subst h1
      subst h2
      exact m
/-- the last object is forgotten -/
theorem Wo.pop {s : DS} (w : Wo K (Γ.push p) av2 H s) (c : dz Γ.mu.length (s.m.take Γ.mu.length) = true) (sub : ∀ a, av a → av2 a) : Wo K Γ av H (s.pop Γ.mu.length) := by
  have hl : s.m.length = Γ.mu.length + 1 := by
    have := w.ml
    simpa [Wc.push] using this
  refine ⟨w.dr, w.tb, ?_, ?_, fun i a d h1 h2 => ?_⟩
  · have h : ((Γ.dr :: Γ.mu) ++ [p]).Nodup := w.nd
    rw [List.nodup_append] at h
    exact h.1
  · show (s.m.take Γ.mu.length).length = _
    rw [List.length_take]
    omega
  · have h2 : (s.m.take Γ.mu.length)[i]? = some d := h2
    have hi : i < Γ.mu.length := (List.getElem?_eq_some_iff.mp h1).1
    have h3 : s.m[i]? = some d := by
      rw [List.getElem?_take, if_pos hi] at h2
      exact h2
    have h4 : (Γ.push p).mu[i]? = some a := by
      show (Γ.mu ++ [p])[i]? = _
      rw [List.getElem?_append_left hi]
      exact h1
    exact ((w.mt i a d h4 h3).wd fun a z => .inl (sub a z)).pop (mD c h2)
theorem Go.pop {H2 : Hp} (g : Go (Γ.push p) H' H2) (hp : H p = none) (sm : Same H H') (lv : Lv H H') : Go Γ H H2 := ⟨fun a o n e => g.kp a o (fun z => by
    rcases gX.mp z with z | z
    · exact n z
    · rw [z, hp] at e
      cases e) (sm a o e), lv.trans g.lv⟩
end
def kW (L : Nat) (c : Str) : Option (Except Xn D × DS) → Option (Except Xn D × DS)
  | some (.ok .non, s) => match s.m[L]? with
    | some (.obj c' ns ys) => if c' = c ∧ dz L ys = true ∧ dz L (s.m.take L) = true then some (.ok (.obj c ns ys), s.pop L) else none
    | _ => none
  | some (.error x, s) => if dz L x.xs = true ∧ dz L (s.m.take L) = true then some (.error x, s.pop L) else none
  | _ => none
def eNew (c : Str) (n : Nat) (F : List D → M D) (a : En → M (List D)) : En → M D := fun ρ s => bx (a ρ s) fun xs s1 => if xs.length + 1 = n then kW s1.m.length c (F (.mob s1.m.length :: xs) (s1.push (.obj c [] []))) else none
theorem kf {H H' : Hp} (k : Same H H') : Lv H H' := fun a h => by
  cases e : H a with
  | none => exact absurd e h
  | some o => rw [k a o e]; simp
section
variable {C : Cc} {W : WX} {ts : TA} {ms : En → M (List D)} {te ta tk tv : TE} {me ma mk mv : En → M D} {ι : Type} {Γs : ι → Wc} {fr : Bool}
theorem fN {A : Addr} {c : Str} {n : Nat} {F : List D → M D} (ix : Addr → ι) (hΓ : ∀ x, Γs (ix x) = C.Γ.push x) (hc : C.Γ.cl c = some A) (hs : SA C W ts ms) : SE C W (XM.kU A (spI C.K Γs false n F) (WE W) ts) (eNew c n F ms) := by
  intro av σ ρ s H r s' Q o e q
  refine hs.bind o e q fun xs s1 vs H1 g1 o1 r1 e q => ?_
  split at e
  · rename_i hl
    intro x dx nx nd ne
    refine ⟨ix x, trivial, ?_⟩
    rw [hΓ]
    have k1 : Same H1 (upd H1 dx (.own x)) := bV nd
    have nx1 : (upd H1 dx (.own x)) x = none := by rw [upd_ne (Ne.symm ne)]; exact nx
    have sm : Same H1 (upd (upd H1 dx (.own x)) x (.ins A dx [])) := fun a u h => bV nx1 a u (k1 a u h)
    have nax : ¬ av x := fun z => o1.al x z nx
    have w2 : Wo C.K (C.Γ.push x) (fun a => av a ∨ a = x) (upd (upd H1 dx (.own x)) x (.ins A dx [])) (s1.push (.obj c [] [])) :=
      o1.wo.push nx sm (.obj (Γ := C.Γ.push x) (vs := []) hc upd_same rfl .nil)
    have at2 : At (cb C.K (C.Γ.push x)) (fun a => av a ∨ a = x) (s1.push (.obj c [] [])) (upd (upd H1 dx (.own x)) x (.ins A dx [])) := by
      refine ⟨w2, fun a z => (gX.mp z).imp (o.ad a) id, fun a z => ?_, fun a z => ?_⟩
      · rcases z with z | z
        · exact kf sm a (o1.al a z)
        · rw [z, upd_same]; simp
      · rcases z with z | z
        · exact ir (ir (o1.nc a z) (fun c q e => by cases e)) (fun c q e => by cases e)
        · rw [z, upd_same]
          intro c q e
          cases e
    have rx : ah C.K (upd (upd H1 dx (.own x)) x (.ins A dx [])) (fun a => av a ∨ a = x) (C.Γ.push x) (.ref x :: vs) (.mob s1.m.length :: xs) := by
      refine .cons (.mob (Γ := C.Γ.push x) ?_) (ah.ew _ _ ((r1.wd fun a z => z.imp id fun z => by rw [z]; exact nx).kp (.of sm)))
      show (C.Γ.mu ++ [x])[s1.m.length]? = _
      rw [o1.wo.ml, List.getElem?_append_right (Nat.le_refl _), Nat.sub_self]
      rfl
    have hml := o1.wo.ml
    rw [hml] at e
    cases hF : F (.mob C.Γ.mu.length :: xs) (s1.push (.obj c [] [])) with
    | none => rw [hF] at e; cases e
    | some pr =>
      obtain ⟨r2, s2⟩ := pr
      rw [hF] at e
      refine ⟨_, _, _, r2, s2, at2, rx, by simpa using hl, by rw [hml]; exact hF, ?_⟩
      cases r2 with
      | error xe =>
        simp only [kW] at e
        split at e
        · rename_i hcl
          cases e
          intro cls dd H2 g w rxx
          refine q cls dd H2 (g.pop nx sm (kf sm)) (w.pop hcl.2 fun a z => .inl z) ?_
          rcases rxx with ⟨A2, h1, h2, h3⟩ | h
          · refine .inl ⟨A2, h1, h2, ?_⟩
            rcases h3 with h3 | ⟨d, ws, e1, n1, hd, hl2, rr⟩
            · exact .inl h3
            · exact .inr ⟨d, ws, e1, fun z => n1 (.inl z), hd, hl2, ah.gv _ _ hcl.1 (rr.wd fun a z => .inl (.inl z))⟩
          · exact .inr h
        · cases e
      | ok d =>
        cases d <;> simp only [kW] at e <;> try (cases e; done)
        split at e
        · rename_i c' ns ys hm
          split at e
          · rename_i hcl
            cases e
            intro v H2 g w rv
            refine ⟨rv.dP, ?_⟩
            obtain ⟨rfl, hcl1, hcl2⟩ := hcl
            have hm2 : (C.Γ.push x).mu[C.Γ.mu.length]? = some x := by
              show (C.Γ.mu ++ [x])[C.Γ.mu.length]? = _
              rw [List.getElem?_append_right (Nat.le_refl _), Nat.sub_self]
              rfl
            cases w.mt _ _ _ hm2 hm with
            | obj hq hi hn rr => exact q (.ref x) H2 (g.pop nx sm (kf sm)) (w.pop hcl2 fun a z => .inl z) (.obj nax hq hi hn (ah.gv _ _ hcl1 (rr.wd fun a z => .inl (.inl z))))
          · cases e
        · cases e
  · cases e
def xX (cs : List Str) (f : Str) (s : DS) : D → Option D
  | .obj c ns xs => if c ∈ cs then mw f ns xs else none
  | .mob i => match s.m[i]? with
    | some (.obj c ns xs) => if c ∈ cs then mw f ns xs else none
    | _ => none
  | _ => none
def iS (cs : List Str) (f : Str) (a : En → M D) : En → M D := fun ρ s => bx (a ρ s) fun x s1 => ox (xX cs f s1 x) s1
theorem fh {f : Str} {cs : List Str} (hX : ∀ c A, c ∈ cs → C.Γ.cl c = some A → Cls C.K A ∧ NoAttr C.K A f) (he : SE C W te me) : SE C W (tFld C.K te f) (iS cs f me) := by
  intro av σ ρ s H r s' Q o e q
  refine he.bind o e q fun x s1 v H1 g1 o1 r1 e q => ?_
  obtain ⟨z, e3, rfl, rfl⟩ := aL e
  cases x <;> simp only [xX] at e3 <;> try (cases e3; done)
  · split at e3
    · rename_i hcs
      obtain ⟨a, A, dx, vs, rfl, n1, hA, h1, hl, ra⟩ := Rep.fA r1
      obtain ⟨u, hu, ru⟩ := gV ra e3
      obtain ⟨hx, hy⟩ := hX _ _ hcs hA
      exact ⟨a, A, dx, _, u, rfl, h1, hx, hy, hu, q _ H1 .refl o1.wo ru⟩
    · cases e3
  · split at e3
    · rename_i hm
      split at e3
      · rename_i hcs
        obtain ⟨a, rfl, ha⟩ := r1.kD
        cases o1.wo.mt _ _ _ ha hm with
        | obj hA h1 hl ra =>
          obtain ⟨u, hu, ru⟩ := gV ra e3
          obtain ⟨hx, hy⟩ := hX _ _ hcs hA
          exact ⟨a, _, _, _, u, rfl, h1, hx, hy, hu, q _ H1 .refl o1.wo ru⟩
      · cases e3
    · cases e3
end
end DM
set_option Elab.async false
set_option linter.all false
set_option maxRecDepth 100000
set_option maxHeartbeats 2000000
namespace DM
open PySem PySem.Spec PyProof.Rows L2 Lay NdefX LamX GD
def DS.set (s : DS) (i : Nat) (d : D) : DS := { s with m := s.m.set i d }
section
variable {K : PySem.W.Frag} {H H' : Hp} {av : Av} {Γ : Wc} {s : DS} {a : Addr} {i : Nat} {d d' : D} {o : HO}
theorem Wo.set (w : Wo K Γ av H s) (ha : Γ.mu[i]? = some a) (ad : av a) (m : MAt K (upd H a o) av Γ a d) : Wo K Γ av (upd H a o) (s.set i d) := by
  obtain ⟨d0, hd0, m0⟩ := w.lk ha
  have am : a ∈ Γ.mu := List.mem_of_getElem? ha
  obtain ⟨o', ho'⟩ := Option.ne_none_iff_exists'.mp m0.ne
  refine ⟨?_, gW w.tb (fun r hr z => ?_) ho' (fun c q z => m0.nc c q (by rw [ho', z])), w.nd, ?_, fun j b e h1 h2 => ?_⟩
  · rw [upd_ne fun z => (List.nodup_cons.mp w.nd).1 (by rw [z]; exact am)]
    exact w.dr
  · obtain ⟨ps, h1, _⟩ := w.tb r hr
    rw [z] at h1
    exact m0.nt ps h1
  · show (s.m.set i d).length = _
    rw [List.length_set]
    exact w.ml
  · have h2 : (s.m.set i d)[j]? = some e := h2
    by_cases hj : i = j
    · subst hj
      rw [ha] at h1
      cases h1
      rw [List.getElem?_set_self (List.getElem?_eq_some_iff.mp hd0).1] at h2
      cases h2
      exact m
    · rw [List.getElem?_set_ne hj] at h2
      have nb : b ≠ a := fun z => by
        have nd := (List.nodup_cons.mp w.nd).2
        obtain ⟨l1, e1⟩ := List.getElem?_eq_some_iff.mp ha
        obtain ⟨l2, e2⟩ := List.getElem?_eq_some_iff.mp h1
        exact hj ((List.getElem_inj nd).mp (e1.trans (z.symm.trans e2.symm)))
      exact (w.mt j b e h1 h2).kp (.upd ad) (upd_ne nb)
end
def putN : List Str → List D → Str → D → List Str × List D
  | n :: ns, x :: xs, f, d => if n = f then (n :: ns, d :: xs) else (n :: (putN ns xs f d).1, x :: (putN ns xs f d).2)
  | _, _, f, d => ([f], [d])
section
variable {K : PySem.W.Frag} {H : Hp} {av : Av} {Γ : Wc}
theorem mE {f : Str} {v : V} {d : D} (rv : Rep K H av Γ v d) : ∀ {ns : List Str} {vs : List V} {xs : List D}, ns.length = xs.length → ah K H av Γ vs xs → ∃ ws, putF f v (List.zip ns vs) = List.zip (putN ns xs f d).1 ws ∧ (putN ns xs f d).1.length = (putN ns xs f d).2.length ∧ ah K H av Γ ws (putN ns xs f d).2
  | [], _, [], h, r => by
    cases r
    exact ⟨[v], rfl, rfl, .cons rv .nil⟩
  | n :: ns, _, x :: xs, h, r => by
    cases r with
    | @cons u vs _ _ r1 r2 =>
      by_cases hn : n = f
      · refine ⟨v :: vs, ?_, ?_, ?_⟩
        · simp only [List.zip_cons_cons, putF, putN]
          rw [if_pos hn, if_pos hn]
          rfl
        · simp only [putN]
          rw [if_pos hn]
          simpa using h
        · simp only [putN]
          rw [if_pos hn]
          exact .cons rv r2
      · obtain ⟨ws, h1, h2, h3⟩ := mE rv (Nat.succ.inj h) r2
        refine ⟨u :: ws, ?_, ?_, ?_⟩
        · simp only [List.zip_cons_cons, putF, putN]
          rw [if_neg hn, if_neg hn, h1]
          rfl
        · simp only [putN]
          rw [if_neg hn]
          simpa using h2
        · simp only [putN]
          rw [if_neg hn]
          exact .cons r1 h3
  | [], _, _ :: _, h, _ => by cases h
  | _ :: _, _, [], h, _ => by cases h
end
def stF (cs : List Str) (f : Str) (d : D) (s : DS) : D → Option DS
  | .mob i => match s.m[i]? with
    | some (.obj c ns xs) => if c ∈ cs ∧ ns.length < 900 then some (s.set i (.obj c (putN ns xs f d).1 (putN ns xs f d).2)) else none
    | _ => none
  | _ => none
/-- o.f = e -/
def kh (cs : List Str) (f : Str) (o e : En → M D) : S := fun ρ s => bs ρ (e ρ s) fun d s1 => bs ρ (o ρ s1) fun x s2 => (stF cs f d s2 x).map fun s3 => (.nx ρ, s3)
section
variable {C : Cc} {W : WX} {ts : TA} {ms : En → M (List D)} {te ta tk tv : TE} {me ma mk mv : En → M D} {ι : Type} {Γs : ι → Wc} {fr : Bool}
theorem Ok.mset {E0 : Hp} {ae : Av} {os : List Addr} {σ : L2.St} {ρ : En} {s : DS} {H : Hp} {a : Addr} {i : Nat} {d : D} {ob : HO} (o : Ok C E0 ae os σ ρ s H) (ha : C.Γ.mu[i]? = some a) (m : MAt C.K (upd H a ob) (avO ae os) C.Γ a d) :
    Ok C E0 ae os σ ρ (s.set i d) (upd H a ob) ∧ Fr ae os H os (upd H a ob) := by
  have ch : C.Γ.ch a := .inr (.inr (List.mem_of_getElem? ha))
  have g : Go C.Γ H (upd H a ob) := ⟨.upd ch, .upd⟩
  exact ⟨o.step g (o.wo.set ha (.inl (o.ad a ch)) m), g.fr o.ad⟩
theorem pJ {f : Str} {cs : List Str} (hX : ∀ c A, c ∈ cs → C.Γ.cl c = some A → Cls C.K A ∧ NoAttr C.K A f) (he : SE C W tv mv) (ho : SE C W ta ma) : SS C W fr (sFld C.K ta tv f) (kh cs f ma mv) := by
  intro E0 ae os σ ρ s H r s' De o e p
  refine he.dJ o e p fun d s1 v H1 g1 o1 r1 e p => ?_
  refine ho.dJ o1 e p fun x s2 u H2 g2 o2 r2 e p => ?_
  obtain ⟨s3, e3, e4⟩ := Option.map_eq_some_iff.mp e
  cases e4
  cases x <;> simp only [stF] at e3 <;> try (cases e3; done)
  split at e3
  · rename_i i c ns xs hm
    split at e3
    · rename_i hcs
      cases e3
      obtain ⟨a, rfl, ha⟩ := r2.kD
      have r1' := Rep.kp r1 (g2.kp.ch o1.toE.ad)
      cases o2.wo.mt _ _ _ ha hm with
      | @obj A dx _ _ vs _ hA h1 hl ra =>
        obtain ⟨hx, hy⟩ := hX _ _ hcs.1 hA
        obtain ⟨ws, q1, q2, q3⟩ := mE (f := f) r1' hl ra
        have ch : C.Γ.ch a := .inr (.inr (List.mem_of_getElem? ha))
        have ku : Kp (avO ae os) H2 (upd H2 a (.ins A dx (putF f v (List.zip ns vs)))) := .upd (.inl (o2.ad a ch))
        have key := o2.mset (ob := .ins A dx (putF f v (List.zip ns vs))) (d := .obj c (putN ns xs f d).1 (putN ns xs f d).2) ha (.obj hA (by rw [upd_same, q1]) q2 (q3.kp ku))
        refine ⟨a, A, dx, _, rfl, h1, hx, hy, ?_, p os σ _ key.1 key.2⟩
        rw [List.length_zip]
        omega
    · cases e3
  · cases e3
def u6 (c m : Str) (s : DS) : D → Bool
  | .obj c' ns _ => decide (c' = c) && !ns.any (fun n => decide (n = m))
  | .mob i => match s.m[i]? with
    | some (.obj c' ns _) => decide (c' = c) && !ns.any (fun n => decide (n = m))
    | _ => false
  | _ => false
theorem iC {m : Str} : ∀ {ns : List Str} {vs : List V}, ns.any (fun n => decide (n = m)) = false → (List.zip ns vs).lookup m = none
  | [], vs, _ => by simp
  | n :: ns, [], _ => by simp
  | n :: ns, v :: vs, h => by
    rw [List.any_cons, Bool.or_eq_false_iff] at h
    simp only [List.zip_cons_cons, List.lookup_cons]
    have : (m == n) = false := beq_eq_false_iff_ne.mpr fun z => of_decide_eq_false h.1 z.symm
    rw [this]
    exact iC h.2
theorem kX {av : Av} {s : DS} {H : Hp} {v : V} {d : D} {c m : Str} {A : Addr} (a : At C av s H) (hc : C.Γ.cl c = some A) (r : Rep C.K H av C.Γ v d) (e : u6 c m s d = true) : ∃ p dx fs, v = .ref p ∧ H p = some (.ins A dx fs) ∧ fs.lookup m = none := by
  cases d <;> simp only [u6] at e <;> try (cases e; done)
  · simp only [Bool.and_eq_true, decide_eq_true_eq, Bool.not_eq_true'] at e
    obtain ⟨p, A', dx, vs, rfl, n1, hA, h1, hl, ra⟩ := Rep.fA r
    rw [e.1, hc] at hA
    cases hA
    exact ⟨p, dx, _, rfl, h1, iC e.2⟩
  · split at e
    · rename_i hm
      simp only [Bool.and_eq_true, decide_eq_true_eq, Bool.not_eq_true'] at e
      obtain ⟨p, rfl, hp⟩ := r.kD
      cases a.wo.mt _ _ _ hp hm with
      | obj hA h1 hl ra =>
        rw [e.1, hc] at hA
        cases hA
        exact ⟨p, _, _, rfl, h1, iC e.2⟩
    · cases e
def dB (c m : Str) (n : Nat) (F : List D → M D) (o : En → M D) (a : En → M (List D)) : En → M D := fun ρ s => bx (o ρ s) fun x s1 => if u6 c m s1 x = true then bx (a ρ s1) fun xs s2 => if xs.length + 1 = n then F (x :: xs) s2 else none else none
theorem jc {A : Addr} {c m : Str} {n : Nat} {F : List D → M D} {fr : Bool} (hc : C.Γ.cl c = some A) (ho : SE C W ta ma) (hs : SA C W ts ms) : SE C W (XM.tMethS A m (spF C.K C.Γ fr n F) (WE W) ta ts) (dB c m n F ma ms) := by
  intro av σ ρ s H r s' Q o e q
  refine ho.bind o e q fun x s1 v H1 g1 o1 r1 e q => ?_
  split at e
  · rename_i hob
    obtain ⟨p, dx, fs, rfl, hp, hlk⟩ := kX o1.at_ hc r1 hob
    refine ⟨p, dx, fs, rfl, hp, hlk, ?_⟩
    refine hs.bind o1 e q fun xs s2 vs H2 g2 o2 r2 e q => ?_
    split at e
    · rename_i hl
      refine ⟨av, s2, x :: xs, r, s', o2.at_.b, .cons (r1.kp (g2.kp.ch o.ad)) r2, by simpa using hl, e, ?_⟩
      cases r with
      | ok d =>
        cases fr with
        | false => exact fun v H' g w rv => q v H' g w rv
        | true => exact fun p H' g w n ow => q (.ref p) H' g (w.wd fun a z => .inl (.inl z)) (((ow.ub rfl rfl : bJ C H' (avO av [p]) p d).of fun a z => .inl (.inl z)).rep fun z => o2.al p z n)
      | error x => exact fun cls dd H' g w rx => q cls dd H' g w rx
    · cases e
  · cases e
end
end DM
set_option Elab.async false
set_option linter.all false
set_option maxRecDepth 100000
set_option maxHeartbeats 2000000
namespace DM
open PySem PySem.Spec PyProof.Rows L2 Lay NdefX LamX GD
section
variable {C : Cc} {W : WX} {fr : Bool} {t t1 ty tk tv td ta te : TE} {ts : TA} {m m1 mk mv ma me : En → M D} {ms : En → M (List D)}
/-- arguments some of which look into what is one's own -/
def SXA (C : Cc) (W : WX) (t : TA) (m : En → M (List D)) : Prop := ∀ E0 ae os σ ρ s H r s' (Q : List V → Hp → Prop), Ok C E0 ae os σ ρ s H → m ρ s = some (r, s') → gr C W (rVs C) (avO ae os) σ H s' Q r → t σ H Q
theorem SX.bind {α γ : Type} {R : RG α γ} {E0 : Hp} {ae : Av} {os : List Addr} {σ : L2.St} {ρ : En} {s s' : DS} {H : Hp} {r : Except Xn α} {f : D → DS → Option (Except Xn α × DS)} {Q : VK} {Q' : γ → Hp → Prop} (h : SX C W t m) (o : Ok C E0 ae os σ ρ s H) (e : bx (m ρ s) f = some (r, s')) (q : gr C W R (avO ae os) σ H s' Q' r)
    (k : ∀ a s1 v H1, Go C.Γ H H1 → Ok C E0 ae os σ ρ s1 H1 → Rep C.K H1 (avO ae os) C.Γ v a → f a s1 = some (r, s') → gr C W R (avO ae os) σ H1 s' Q' r → Q v H1) : t σ H Q := by
  cases z : m ρ s with
  | none => rw [z] at e; cases e
  | some pr =>
    obtain ⟨a, s1⟩ := pr
    rw [z] at e
    cases a with
    | error x =>
      cases e
      exact h E0 ae os σ ρ s H _ _ Q o z fun c dd H' g w rx => q c dd H' g w rx
    | ok a => exact h E0 ae os σ ρ s H _ _ Q o z fun v H1 g w rv => k a s1 v H1 g (o.step g w) rv e (q.go g)
theorem SXA.bind {α γ : Type} {R : RG α γ} {E0 : Hp} {ae : Av} {os : List Addr} {σ : L2.St} {ρ : En} {s s' : DS} {H : Hp} {r : Except Xn α} {f : List D → DS → Option (Except Xn α × DS)} {Q : List V → Hp → Prop} {Q' : γ → Hp → Prop} (h : SXA C W ts ms) (o : Ok C E0 ae os σ ρ s H) (e : bx (ms ρ s) f = some (r, s')) (q : gr C W R (avO ae os) σ H s' Q' r)
    (k : ∀ a s1 v H1, Go C.Γ H H1 → Ok C E0 ae os σ ρ s1 H1 → ah C.K H1 (avO ae os) C.Γ v a → f a s1 = some (r, s') → gr C W R (avO ae os) σ H1 s' Q' r → Q v H1) : ts σ H Q := by
  cases z : ms ρ s with
  | none => rw [z] at e; cases e
  | some pr =>
    obtain ⟨a, s1⟩ := pr
    rw [z] at e
    cases a with
    | error x =>
      cases e
      exact h E0 ae os σ ρ s H _ _ Q o z fun c dd H' g w rx => q c dd H' g w rx
    | ok a => exact h E0 ae os σ ρ s H _ _ Q o z fun v H1 g w rv => k a s1 v H1 g (o.step g w) rv e (q.go g)
end
end DM
set_option Elab.async false
set_option linter.all false
set_option maxRecDepth 100000
set_option maxHeartbeats 2000000
namespace DM
open PySem L2
mutual
def wd : D → Nat
  | .bl _ => 5
  | .int _ => 31
  | .str x => 10 * x.length + 2
  | .lst xs => wds xs + 3
  | .tup xs => wds xs + 3
  | _ => 4
def wds : List D → Nat
  | [] => 0
  | x :: xs => wd x + 2 + wds xs
end
mutual
/-- no number is great -/
def sm : D → Bool
  | .int i => decide (i.natAbs < 1000000000000000000000000000000)
  | .lst xs => sms xs
  | .tup xs => sms xs
  | _ => true
def sms : List D → Bool
  | [] => true
  | x :: xs => sm x && sms xs
end
end DM
set_option Elab.async false
set_option linter.all false
set_option maxRecDepth 100000
set_option maxHeartbeats 2000000
namespace DM
open PySem PySem.Spec PyProof.Rows L2 Lay NdefX LamX GD
end DM
set_option Elab.async false
set_option linter.all false
set_option maxRecDepth 100000
set_option maxHeartbeats 4000000
namespace XS
open PySem PySem.Spec PyProof.Rows
theorem iE {P : Program} {w : World} {h : Heap} {a : Addr} {S S' : Str → Bool} {n n' : Nat} (x : h.SetOf (PySem.strKind P w) a S n) (e : ∀ k, S k = S' k) (en : n = n') : h.SetOf (PySem.strKind P w) a S' n' := by
  have e1 : S = S' := funext e
  rw [← e1, ← en]
  exact x
abbrev Has (P : Program) (w : World) (h : Heap) (a : Addr) (l : List Str) : Prop := h.SetOf (PySem.strKind P w) a (fun k => l.any (· == k)) l.length
theorem Has.add {P : Program} {w : World} {h : Heap} {a : Addr} {l : List Str} {x : Str} (s : h.SetOf (PySem.strKind P w) a (fun k => l.any (· == k) || decide (k = x)) (if l.any (· == x) then l.length else l.length + 1)) :
    Has P w h a (if l.any (· == x) then l else l ++ [x]) := by
  by_cases hx : l.any (· == x) = true
  · rw [if_pos hx] at s ⊢
    refine iE s (fun k => ?_) rfl
    by_cases e : k = x
    · rw [e, hx]; rfl
    · simp [e]
  · rw [if_neg hx] at s ⊢
    refine iE s (fun k => ?_) (by simp)
    rw [List.any_append]
    by_cases e : k = x
    · subst e; simp
    · have hb : (x == k) = false := beq_eq_false_iff_ne.mpr fun z => e z.symm
      simp [hb, e]
end XS
namespace DM
open PySem PySem.Spec PyProof.Rows L2 Lay NdefX LamX GD
end DM
set_option Elab.async false
set_option linter.all false
set_option maxRecDepth 100000
set_option maxHeartbeats 2000000
namespace DM
open PySem PySem.Spec PyProof.Rows L2 Lay NdefX LamX GD
def mF : List D → List D → List D := List.zipWith fun a b => .tup [a, b]
def isZ : List D → Option (List D)
  | [.lst xs, .lst ys] => some (mF xs ys)
  | _ => none
section
variable {C : Cc} {W : WX} {ta : TA} {ms : En → M (List D)}
theorem xY (he : SA C W ta ms) : SI C W (iZip C.K ta) (iDs isZ ms) := by
  intro av σ ρ s H r s' R o e q
  refine he.bind o e q fun x s1 v H1 g1 o1 r1 e q => ?_
  obtain ⟨ds, e3, rfl, rfl⟩ := aL e
  unfold isZ at e3
  split at e3
  · rename_i xs ys
    cases e3
    obtain ⟨v, w, rfl, r2, r3⟩ := ah.two r1
    obtain ⟨a, vs, rfl, n, h1, r2⟩ := r2.b3
    obtain ⟨b, ws, rfl, n2, h2, r3⟩ := r3.b3
    refine ⟨a, b, vs, ws, rfl, SqL.of h1, SqL.of h2, q _ H1 .refl o1.wo ⟨_, _, walk_zip (xs := vs) (ys := ws) (by unfold mF; rw [List.length_zipWith, r2.len, r3.len]), fun av2 H2 f => ?_⟩⟩
    have far : ∀ {c : Addr} {us : List V}, ¬ av c → H1 c = some (.lst us) → H2 c = some (.lst us) := fun n h => f.kp _ _ (fun z => by rcases f.nw _ z with z | z; exact n z; rw [z] at h; cases h) h
    refine ⟨⟨SqL.of (far n h1), SqL.of (far n2 h2)⟩, fun i y H3 hi hy => ?_⟩
    obtain ⟨T, u1, u2, rfl, hT, rfl, hu, hw⟩ := hy
    obtain ⟨d1, e1, e2⟩ := r2.lQ hu
    obtain ⟨d2, e4, e5⟩ := r3.lQ hw
    have e3 := (e2.wd f.nw).kp f.kp
    have e6 := (e5.wd f.nw).kp f.kp
    refine ⟨.inr ⟨T, _, hT, rfl⟩, .tup [d1, d2], ?_, .tup (.inl ⟨fun z => f.al T z hT, upd_same⟩) (.cons (e3.kp (.new hT)) (.cons (e6.kp (.new hT)) .nil))⟩
    unfold mF
    rw [List.getElem?_zipWith, e1, e4]
  · cases e3
end
end DM
set_option Elab.async false
set_option linter.all false
set_option maxRecDepth 100000
set_option maxHeartbeats 2000000
set_option Elab.async false
set_option linter.all false
set_option maxRecDepth 100000
set_option maxHeartbeats 2000000
namespace DM
open PySem PySem.Spec PyProof.Rows L2 Lay NdefX LamX GD
section
variable {C : Cc} {W : WX} {fr : Bool} {t te : TE} {m me : En → M D}
theorem ee.kp {H H' : Hp} {av : Av} {x : Xn} {cls : Value} {dd : Option Addr} (h : ee C H av x cls dd) (k : Kp av H H') : ee C H' av x cls dd := by
  rcases h with ⟨A, h1, h2, h3⟩ | h
  · refine .inl ⟨A, h1, h2, ?_⟩
    rcases h3 with h3 | ⟨d, vs, h4, h5, h6, h7, h8⟩
    · exact .inl h3
    · exact .inr ⟨d, vs, h4, h5, k d _ h5 h6, h7, h8.kp k⟩
  · exact .inr h
def SAx (C : Cc) (W : WX) (x : Xn) (a : Addr) (i : Nat) (cls : Value) (dd : Option Addr) (t : TA) (m : En → M (List D)) : Prop := ∀ av σ ρ s H r s' (Q : List V → Hp → Prop), OkE C av σ ρ s H → ee C H av x cls dd → σ[i]? = some (some (.ref a)) → m ρ s = some (r, s') → gr C W (rVs C) av σ H s' Q r → t σ H Q
variable {x : Xn} {a : Addr} {i : Nat} {cls : Value} {dd : Option Addr} {ta : TA} {ma : En → M (List D)} {tb : TE} {mb : En → M D}
/-- a clause: what it takes, what it raises, by what -/
structure Hd where
  mt : Str → Option Bool
  c : Str
  ns : List Str
  ms : Xn → En → M (List D)
/-- what is asked of a clause -/
structure fO (C : Cc) (W : WX) (i : Nat) (h : Hd) (c : Value) (ts : Addr → Value → Option Addr → TS) : Prop where
  m : ∀ n v b, ph C.Γ n v → h.mt n = some b → PySem.W.exmOne C.K v c = some b
  t : ∃ (A : Addr) (ta : Addr → Value → Option Addr → TA), C.Γ.cl h.c = some A ∧ (∀ a cls d, ts a cls d = fun _ σ H => tMkO A (spX A h.ns) [] (ta a cls d) σ H fun c d' H' => W c d' (σ.set i none) H') ∧ ∀ W' x a cls d, SAx C W' x a i cls d (ta a cls d) (h.ms x)
end
end DM
set_option Elab.async false
set_option linter.all false
set_option maxRecDepth 100000
set_option maxHeartbeats 2000000
namespace DM
open PySem PySem.Spec PyProof.Rows L2 Lay NdefX LamX GD
end DM
set_option Elab.async false
set_option linter.all false
set_option maxRecDepth 100000
set_option maxHeartbeats 2000000
namespace DM
open PySem PySem.Spec PyProof.Rows L2 Lay NdefX LamX GD
def ItT (K : PySem.W.Frag) (a : Addr) : It :=
  ⟨fun i H => ∃ (xs : List V) (x : V), SqT K H a xs ∧ xs[i]? = some x, fun i H v H' => ∃ T x, v = .ref T ∧ H T = none ∧ H' = upd H T (.tup [.int (i : Nat), x]) ∧ ∀ xs, SqT K H a xs → xs[i]? = some x, fun i H => ∃ xs : List V, SqT K H a xs ∧ xs.length ≤ i⟩
theorem oh {P : Program} {w : World} {K : PySem.W.Frag} {elts : List Expr} {kk : Nat} {tpos : Pos} (a e it : Addr) :
    Turn P w K (.Tuple elts kk tpos) (ItT K a) [e, it] e (fun i h => (∃ old, IsEnum h e it ((i : Nat) : Int) old) ∧ h.IsTupleIter it a i ∧ e ≠ it ∧ a ≠ e ∧ a ≠ it) where
  mem := by simp
  obj := fun i h st b hb => by
    obtain ⟨⟨old, he⟩, ⟨o, ho, hc, hd⟩, _⟩ := st
    have e' : b = e ∨ b = it := by simpa using hb
    rcases e' with z | z
    · rw [z]; exact ⟨_, he, fun v q => nomatch q⟩
    · rw [z]; exact ⟨o, ho, fun v q => by rw [hd] at q; cases q⟩
  keep := fun i h h' st k => let ⟨⟨old, he⟩, hi, hne⟩ := st; ⟨⟨old, k e (by simp) _ he⟩, hi.at fun o q => k it (by simp) o q, hne⟩
  item := by
    intro X hP hw hK hc i pins s σ H E I hf st hg
    subst hP hw hK
    obtain ⟨⟨old, he⟩, hit, hne, nae, nai⟩ := st
    obtain ⟨xs, x, hq, hx⟩ := hg
    obtain ⟨its, rv, p, hz⟩ := I.tuple hq
    obtain ⟨u, hu, ru⟩ := rv.get hx
    have p : s.heap.IsTuple a its.toArray := p
    have hu2 : its.toArray[i]? = some u := by simpa using hu
    have hil2 : i < its.toArray.size := by
      rcases Nat.lt_or_ge i its.toArray.size with z | z
      · exact z
      · rw [Array.getElem?_eq_none z] at hu2; cases hu2
    have hel : e < s.heap.objs.size := Heap.lt_size he
    have hil : it < s.heap.objs.size := by obtain ⟨_, q, _⟩ := hit; exact Heap.lt_size q
    have hid : X.A.in1.handled = none := I.ok.hd hc
    refine wpAny_pyNext_enum_itemD (Draws.tuple hid it a nai its.toArray) he ⟨hit, p⟩ hil2 hne (by simp [hne, Ne.symm nae]) fun u' h' tk hP ho hit' hT hsz hk => ?_
    obtain rfl : u' = u := by
      rw [hu2] at hP
      exact (Option.some.inj hP).symm
    refine ⟨_, rfl, wpAny_letOwnedTupleGo_enum (s := { s with heap := h', toks := tk + 1 }) ho fun h'' he' sb => ?_⟩
    have hT2 : h''.get? s.heap.objs.size = some { cls := .type "tuple", data := .seq #[.int i tk, u'] } := (sb.2 _ (Nat.ne_of_gt hel)).trans hT
    have new : ObjOk X.prog X.w (upd H s.heap.objs.size (.tup [.int (i : Nat), x])) h'' s.heap.objs.size (.tup [.int (i : Nat), x]) :=
      ⟨by show 2 ≤ sizeLine; decide, [.int i tk, u'], .cons ⟨_, rfl⟩ (.cons ru .nil), ⟨_, hT2, rfl, _, rfl⟩⟩
    have I1 : Inv X pins σ (upd H s.heap.objs.size (.tup [.int (i : Nat), x])) { s with heap := h'', toks := tk + 1 } :=
      I.turnedNew (ch := [e, it]) (fun b ob hb q => (sb.2 b (fun z => hb (by simp [z]))).trans (hk b ob (fun z => hb (by simp [z])) (fun z => hb (by simp [z])) q)) hf (Nat.le_refl _) new
    refine ⟨.ref s.heap.objs.size, _, I1, rfl, ⟨_, x, rfl, I.hok.fresh (Nat.le_refl _), rfl, fun ys hy => by rw [I.tuple_inj hy hq]; exact hx⟩, ⟨⟨u', ?_⟩, hit'.1.at fun o q => (sb.2 it (Ne.symm hne)).trans q, hne, nae, nai⟩, fun b hb => ?_⟩
    · have e1 : ((i + 1 : Nat) : Int) = (i : Int) + 1 := by omega
      rw [e1]; exact he'
    · have hb' : b < s.heap.objs.size := by
        have e' : b = e ∨ b = it := by simpa using hb
        rcases e' with z | z
        · rw [z]; exact hel
        · rw [z]; exact hil
      rw [upd_ne (Nat.ne_of_lt hb')]
      exact (hf b hb).1
  done := by
    intro X hP hw hK hc i pins s σ H E I hf st hg
    subst hP hw hK
    obtain ⟨⟨old, he⟩, hit, hne, nae, nai⟩ := st
    obtain ⟨xs, hq, hx⟩ := hg
    obtain ⟨its, rv, p, hz⟩ := I.tuple hq
    have p : s.heap.IsTuple a its.toArray := p
    obtain ⟨f0, f1, f2, f3, f4, f5⟩ := hf it (by simp)
    have hl := rv.length
    have hid : X.A.in1.handled = none := I.ok.hd hc
    have hn : its.toArray[i]? = none := Array.getElem?_eq_none (by simp; omega)
    have hT : s.TypeIs (.ref e) "enumerate" := ⟨_, he, rfl⟩
    unfold pyNext
    refine wpAny_bind (wpAny_attempt (wpAny_callSpecial?_slot (name := Str.ofString "__next__") hT F.slot_enumerate_next
      (wpAny_call_entry F.slot_enumerate_next hT F.entry_enumerate_next ?_ (F.args_enumerate_next_1 _))))
    show wpAny _ _ (field (.ref e) 2 >>= _) _ _ _
    refine wpAny_bind (wpAny_field he rfl (x := .ref it) rfl ?_)
    refine wpAny_bind ?_
    refine wpAny_nextOf_tuple_end hid hit p hn fun h' y he' hx' => ?_
    obtain ⟨o, ho, hc⟩ := hx'
    refine wpAny_bind (wpAny_isInstance (T := "StopIteration") (b := true) ⟨o, ho, hc⟩ isSubtype_stop ?_)
    exact wpAny_pure ⟨rfl, I.turned (t' := s.toks) (fun b o hb e => he' b o hb e) f0 f1 f3 f4 f5⟩
  self := fun A i s Q E st h => let ⟨⟨_, he⟩, _⟩ := st; wpAny_pyIter_enum he h
/-- enumerate(v) of what an iterator begins -/
theorem oi {v : Value} {o : Obj} {H : Heap → Prop} (B : Begins v o H) :
    Meets (Builtin.«enumerate.__new__» ⟨[.type "enumerate", v], []⟩) (fun _ R s => H s.heap ∧
      R (.ok (.ret (.ref (s.heap.push o).objs.size))) { s with heap := (s.heap.push o).push { cls := .type "enumerate", data := .fields #[.none, .bool false, .ref s.heap.objs.size, rawInt 0, .none, .none] } }) :=
  .of_wp fun prog w A R s h => by
    obtain ⟨hp, g, d, tk, os⟩ := s
    obtain ⟨h1, h⟩ := h
    have sub := sub_enumerate
    have go : ∀ {A' : Around} {E : Value → Shared → Prop} {Q : Value → Shared → Prop}, Q (.ref hp.objs.size) ⟨hp.push o, g, d, tk, os⟩ → wpAny (model prog w) A' (pyIter v) Q E ⟨hp, g, d, tk, os⟩ :=
      fun q => B.iter prog w _ _ ⟨hp, g, d, tk, os⟩ _ h1 q
    wp_walk using go
    refine wpAny_stack_any fun st => wpAny_pure ?_
    split
    · rename_i c _ _ _ _ _
      by_cases z : (c == Value.type "enumerate") = true
      · rw [z]
        wp_walk using go
        exact ⟨_, rfl, h⟩
      · rw [Bool.not_eq_true] at z
        rw [z]
        wp_walk using go
        exact ⟨_, rfl, h⟩
    · wp_walk using go
      exact ⟨_, rfl, h⟩
theorem oj {P : Program} {w : World} {A : Around} {E : Value → Shared → Prop} {s : Shared} {l : Addr} {items : Array Value} {Q : Value → Shared → Prop} (hL : s.heap.IsTuple l items)
    (h : ∀ h', IsEnum h' (s.heap.objs.size + 1) s.heap.objs.size 0 .none → h'.IsTupleIter s.heap.objs.size l 0 → h'.objs.size = s.heap.objs.size + 2 →
      (∀ b o, s.heap.get? b = some o → h'.get? b = some o) → Q (.ref (s.heap.objs.size + 1)) { s with heap := h' }) :
    wpAny (model P w) A (call (.type "enumerate") [.ref l]) Q E s := by
  refine callType_new F.called_enumerate (by decide) (F.typeCall_enumerate_1 _) (F.newCall_enumerate_1 _) (fun obj => F.args_object_init_2 obj _) F.entry_enumerate_new
    (oi (begins_tuple l items)) ⟨hL, ?_⟩
  have z1 : (s.heap.push { cls := .type "tuple_iterator", data := .fields #[.ref l, .int 0 0] }).objs.size = s.heap.objs.size + 1 := Heap.size_push ..
  show _ ∧ _
  rw [z1]
  have q1 := Heap.get?_push_size (s.heap.push { cls := .type "tuple_iterator", data := .fields #[.ref l, .int 0 0] })
    (o := { cls := .type "enumerate", data := .fields #[.none, .bool false, .ref s.heap.objs.size, rawInt 0, .none, .none] }) rfl
  rw [z1] at q1
  refine ⟨⟨_, q1, rfl⟩, h _ q1 ⟨_, Heap.get?_push_of_some _ (Heap.get?_push_size _ rfl), rfl, rfl⟩ (by rw [Heap.size_push, z1]) fun b o x => Heap.get?_push_of_some _ (Heap.get?_push_of_some _ x)⟩
def om (K : PySem.W.Frag) (ta : TA) : TI := fun σ H R => ta σ H fun vs H1 => ∃ a xs, vs = [.ref a] ∧ SqT K H1 a xs ∧ R (ItT K a) H1
theorem sH {X : Cx} {e : Expr} {ta : TA} {p pos tpos : Pos} {elts : List Expr} {kk : Nat} (hg : Gl X "enumerate") (hm : X.mg "enumerate" = none) (ha : PA X [e] ta) (hs : starEach [e] X.env = [(false, eval e X.env)] := by rfl) :
    PI X (.Tuple elts kk tpos) (.Call (.Name "enumerate" p) [e] [] pos) (om X.K ta) := by
  refine ⟨fun pins s σ H R I h => ?_⟩
  refine Call_ (ld_blt I hg hm boot_enumerate (PyProof.Rows.callWith_type1 (thn (ha.run pos pins s σ H _ I h) fun us s1 ⟨vs, H1, I1, r1, q1⟩ => ?_) hs rfl))
  obtain ⟨a, xs, ex, hq, q⟩ := q1
  subst ex
  cases r1 with
  | cons r rr =>
    cases rr
    cases r
    obtain ⟨its, rv, p', hz⟩ := I1.tuple hq
    have p' : s1.heap.IsTuple a its.toArray := p'
    have al : a < s1.heap.objs.size := by obtain ⟨_, q, _⟩ := p'; exact Heap.lt_size q
    refine oj p' fun h' he hit hsz hk => wpAny_pyIter_enum he ?_
    have I2 : Inv X pins σ H1 { s1 with heap := h' } := I1.kept (t' := s1.toks) hk
    refine ⟨s1.heap.objs.size + 1, [s1.heap.objs.size + 1, s1.heap.objs.size], _, _, H1, rfl, I2, oh a (s1.heap.objs.size + 1) s1.heap.objs.size, ⟨⟨.none, he⟩, hit, Nat.succ_ne_self _, Nat.ne_of_lt (Nat.lt_succ_of_lt al), Nat.ne_of_lt al⟩, fun b hb => ?_, q⟩
    have e' : b = s1.heap.objs.size + 1 ∨ b = s1.heap.objs.size := by simpa using hb
    have hle : s1.heap.objs.size ≤ b := by
      rcases e' with z | z
      · rw [z]; exact Nat.le_add_right _ _
      · rw [z]; exact Nat.le_refl _
    exact I1.fpOk hle (I1.hok.fresh hle)
theorem oo {K : PySem.W.Frag} {a : Addr} {xs : List V} : Walk (ItT K a) xs.length (fun H => SqT K H a xs) (YPair (fun i => some (.int (i : Nat))) (fun i => xs[i]?)) := by
  refine ⟨fun i _ hi q => ⟨xs, xs[i], q, by simp [hi]⟩, fun _ q => ⟨xs, q, Nat.le_refl _⟩, fun i H v H' _ q y => ?_⟩
  obtain ⟨T, x, h1, h2, h3, h4⟩ := y
  exact ⟨T, .int (i : Nat), x, h1, h2, h3, rfl, h4 xs q⟩
def xZ : List D → Option (List D)
  | [.tup xs] => some (dU 0 xs)
  | _ => none
section
variable {C : Cc} {W : WX} {ta : TA} {te : TE} {ms : En → M (List D)} {me : En → M D}
theorem sJ (he : SA C W ta ms) : SI C W (om C.K ta) (iDs xZ ms) := by
  intro av σ ρ s H r s' R o e q
  refine he.bind o e q fun x s1 v H1 g1 o1 r1 e q => ?_
  obtain ⟨ds, e3, rfl, rfl⟩ := aL e
  unfold xZ at e3
  split at e3
  · rename_i xs
    cases e3
    obtain ⟨v, rfl, r2⟩ := ah.one r1
    obtain ⟨a, vs, rfl, h1, r2⟩ := Rep.dm r2
    refine ⟨a, vs, rfl, h1.sq, q _ H1 .refl o1.wo ⟨_, _, by rw [iu, ← r2.len]; exact oo (xs := vs), fun av2 H2 f => ?_⟩⟩
    refine ⟨((h1.wd f.nw).kp f.kp).sq, fun i y H3 hi hy => ?_⟩
    obtain ⟨T, u, w, rfl, hT, rfl, hu, hw⟩ := hy
    cases hu
    obtain ⟨d, e1, e2⟩ := r2.lQ hw
    have e3 := (e2.wd f.nw).kp f.kp
    refine ⟨.inr ⟨T, _, hT, rfl⟩, .tup [.int ((i : Nat) : Int), d], ?_, .tup (.inl ⟨fun z => f.al T z hT, upd_same⟩) (.cons (.int _) (.cons (e3.kp (.new hT)) .nil))⟩
    rw [iw xs 0 i d e1]
    simp
  · cases e3
def qD : List D → Option (List D)
  | [.tup xs] => some (dU 0 xs)
  | [.lst xs] => some (dU 0 xs)
  | _ => none
abbrev sL (K : PySem.W.Frag) (ta : TA) : TI := orI (iEnum K ta) (om K ta)
theorem mG {X : Cx} {e : Expr} {ta : TA} {p pos tpos : Pos} {elts : List Expr} {kk : Nat} (hg : Gl X "enumerate") (hm : X.mg "enumerate" = none) (ha : PA X [e] ta) (hs : starEach [e] X.env = [(false, eval e X.env)] := by rfl) :
    PI X (.Tuple elts kk tpos) (.Call (.Name "enumerate" p) [e] [] pos) (sL X.K ta) := nT (pi_enum hg hm ha hs) (sH hg hm ha hs)
theorem mH (he : SA C W ta ms) : SI C W (sL C.K ta) (iDs qD ms) := by
  intro av σ ρ s H r s' R o e q
  have key : iDs isE ms ρ s = some (r, s') ∨ iDs xZ ms ρ s = some (r, s') := by
    unfold iDs at e ⊢
    rcases eh e with ⟨y, e1, rfl⟩ | ⟨xs, s1, e1, e⟩
    · left
      rw [e1]
      rfl
    · have e0 := e
      obtain ⟨ds, e3, rfl, rfl⟩ := aL e
      unfold qD at e3
      split at e3
      · right
        cases e3
        rw [e1]
        rfl
      · left
        cases e3
        rw [e1]
        rfl
      · cases e3
  rcases key with e | e
  · exact .inl (uB he av σ ρ s H r s' R o e q)
  · exact .inr (sJ he av σ ρ s H r s' R o e q)
variable {xs : List D} {QL : List D → Prop}
instance : Stp (WO (qD [.lst xs]) QL) (QL (dU 0 xs)) := ⟨fun h => ⟨_, rfl, h⟩⟩
variable {ρ : En} {s : DS} {E : Xn → DS → Prop} {P : D → DS → Prop}
end
end DM
set_option Elab.async false
set_option linter.all false
set_option maxRecDepth 100000
set_option maxHeartbeats 2000000
namespace DM
open PySem PySem.Spec PyProof.Rows L2 Lay NdefX LamX GD
end DM
set_option Elab.async false
set_option linter.all false
set_option maxRecDepth 100000
set_option maxHeartbeats 2000000
namespace DM
open PySem PySem.Spec PyProof.Rows L2 Lay NdefX LamX GD
end DM
set_option Elab.async false
set_option linter.all false
set_option maxRecDepth 100000
set_option maxHeartbeats 2000000
namespace DM
open PySem PySem.Spec PyProof.Rows L2 Lay NdefX LamX GD
end DM
set_option Elab.async false
set_option linter.all false
set_option maxRecDepth 100000
set_option maxHeartbeats 2000000
namespace XC
open PySem PySem.Spec PyProof.Rows L2
/-- the set of the texts l at a -/
def TxO (P : Program) (w : World) (a : Addr) (l : List Str) : HO := .ext fun h => XS.Has P w h a l
abbrev oq (w : World) : Obj := { cls := .type "set", dict := none, data := .set #[] 0 (.fresh 0 0 (!w.params.followText "set-order")) }
def jx (l : List Str) (x : Str) : List Str := if l.any (· == x) then l else l ++ [x]
theorem sM (P : Program) (w : World) {h : Heap} : XS.Has P w (h.push (oq w)) h.objs.size [] :=
  XS.iE ((PyProof.Rows.setObjOf_fresh (knd := PySem.strKind P w) (!w.params.followText "set-order")).setOf (Heap.get?_push_size _ rfl) (by unfold scanBound; omega)) (fun _ => rfl) rfl
theorem pK {P : Program} {w : World} {H : Hp} {h : Heap} {a : Addr} {l : List Str} (R : XS.Has P w h a l) : ObjOk P w H h a (TxO P w a l) := by
  have ⟨o, es, ep, t, ho, rest⟩ := R
  exact ⟨R, ⟨o, ho⟩, fun h1 h2 p k => let ⟨o, es, ep, t, ho, rest⟩ := p; ⟨o, es, ep, t, k o ho, rest⟩⟩
section
variable {X : Cx}
/-- set.add of a text -/
theorem u7 {pins : List (Addr × Obj)} {σ : L2.St} {H : Hp} {s : Shared} {E : Value → Shared → Prop} {D : Addr} {l : List Str} {x : Str} {t : Tok} {Q : Value → Shared → Prop} (I : Inv X pins σ H s) (hD : H D = some (TxO X.prog X.w D l)) (room : l.length + 1 < scanBound)
    (h : ∀ s', Inv X pins σ (upd H D (TxO X.prog X.w D (jx l x))) s' → Q .none s') : wpAny (model X.prog X.w) X.A (call (.builtin "set.add") [.ref D, .str x t]) Q E s := by
  have S : XS.Has X.prog X.w s.heap D l := (I.hok D _ hD).1
  have is : (PySem.strKind X.prog X.w).is x (.str x t) = true := by first | rfl | simp [PySem.strKind, Value.isStrOf]
  refine PySem.call_set_add (knd := PySem.strKind X.prog X.w) is rfl S room fun h' sb S2 => ?_
  have S3 : XS.Has X.prog X.w h' D (jx l x) := XS.Has.add S2
  have he : ∃ u, h'.get? D = some u := let ⟨o, _, _, _, ho, _⟩ := S3; ⟨o, ho⟩
  exact h _ (I.write (e := D) (t' := s.toks + 1) (by rw [hD]; trivial) (.inl rfl) (fun b u hb hu => (sb.2 b hb).trans hu) he (pK S3))
/-- the reading of such a comprehension -/
def tScT (P : Program) (w : World) (wi : TI) (g : TG) (tt : TT) (te : TE) (vs : List Nat) : TE := fun σ H Q => wi σ H fun J H1 => ∀ D, H1 D = none → ∃ W : Nat → Nat → Hp → Prop, (∃ m, W 0 m (upd H1 D (TxO P w D []))) ∧ ∀ i m H, W i m H →
  (J.stop i H ∧ Q (.ref D) H) ∨ (J.go i H ∧ ∃ Nx : Hp → Prop, (∀ H', Nx H' → ∃ m', m' < m ∧ W (i + 1) m' H') ∧ ∀ x H', J.yld i H x H' → g x (wipe σ vs) H' fun σ2 H2 => wipe σ2 vs = wipe σ vs ∧ tt σ2 H2 fun b H3 =>
    if b = true then te σ2 H3 fun y H4 => ∃ (l : List Str) (z : Str), y = .str z ∧ H4 D = some (TxO P w D l) ∧ l.length + 1 < scanBound ∧ Nx (upd H4 D (TxO P w D (jx l z))) else Nx H3)
def tScE (P : Program) (w : World) (wi : TI) (g : TG) (tt : L2.St → TT) (te : L2.St → TE) (vs : List Nat) : TE := fun σ H Q => tScT P w wi g (tt σ) (te σ) vs σ H Q
end
section
variable {X : Cx} {L : Addr} {W : WX}
theorem scE {pins : List (Addr × Obj)} {s : Shared} {σ : L2.St} {H : Hp} {Q : VK} {elt tg iter : Expr} {ifs : List Expr} {scope : Scope} {own : List (Str × Nat)} {pos pos' : Pos} {wi : TI} {g : TG} {tt : TT} {te : TE} {use : Option (Value → Sem Unit)} {Qf : Value → Shared → Prop}
    (hc : X.calm = true) (hN : X.N.Nodup) (fm : Fm X L) (tk : eG X L W) (I : Inv X pins σ H s) (hi : PI X tg iter wi) (ok : BlkOk X.N X.env.scope scope own)
    (hg : ∀ (s : Shared) (H : Hp) (C : Addr) (cl : List (Str × Addr)) (fp : List Addr), PG (cG X L W σ s H scope (compEnvC scope cl C X.env) fp) tg g)
    (ht : ∀ (s : Shared) (H : Hp) (C : Addr) (cl : List (Str × Addr)) (fp : List Addr), PTs (cG X L W σ s H scope (compEnvC scope cl C X.env) fp) ifs tt)
    (he : ∀ (s : Shared) (H : Hp) (C : Addr) (cl : List (Str × Addr)) (fp : List Addr), PE (cG X L W σ s H scope (compEnvC scope cl C X.env) fp) elt te)
    (hs : ∀ x, foldedSetIterable iter X.env x = pure x) (h : tScT X.prog X.w wi g tt te (own.map (·.2)) σ H Q)
    (hRR : ∀ D C s' m H', Inv X pins σ H' s' → Q (.ref D) H' → s'.heap.Ns C m → FpOk X pins H' C → pst X L use Qf (.ref D) C (.ok .next) s') :
    wpAny (model X.prog X.w) X.A (comprehension (.SetComp elt [⟨tg, iter, ifs, 0⟩] scope pos) scope X.env pos' (newSet (.type "set")) false (eval iter X.env) use) Qf X.xe s := by
  have clo : ∀ y ∈ scope.names, y.2 = .free → ∃ c, X.env.cells.lookup y.1 = some c := fun y hy e => (ok.free y hy e).elim (fun k => I.ok.has _ (.inl k)) (fun k => I.ok.has _ (.inr k))
  refine lP (use := use) fm.fr rfl hs (closure_ok clo) ok.kind (fun y hy e => by rw [ok.uniq y hy, e]) (thn (hi.run pins s σ H _ I h) fun xv s1 hx => thn hx fun itv s2 h2 => ?_)
  obtain ⟨it, fp, tn, J, H2, e, I2, T, st2, f2, q⟩ := h2
  subst e
  refine PpSet.newSet_ok (newEnv_comp ⟨fm.fr, ?_⟩)
  generalize hD : s2.heap.objs.size = D
  have hDn : H2 D = none := I2.hok.fresh (Nat.le_of_eq hD)
  obtain ⟨V, ⟨m0, w0⟩, turn⟩ := q D hDn
  generalize hs3 : ({ s2 with heap := s2.heap.push (oq X.w) } : Shared) = s3
  have h3 : s3.heap = s2.heap.push (oq X.w) := by rw [← hs3]
  have I3 : Inv X pins σ (upd H2 D (TxO X.prog X.w D [])) s3 := by
    rw [← hs3]
    refine I2.laid (t' := s2.toks) (fun b o e => Heap.get?_push_of_some _ e) (Nat.le_of_eq hD) ?_
    rw [← hD]
    exact pK (sM X.prog X.w)
  have below : ∀ b ∈ fp, b < s2.heap.objs.size := fun b hb => let ⟨o, e, _⟩ := T.obj _ _ st2 b hb; Heap.lt_size e
  have f3 : ∀ b ∈ fp, FpOk X pins (upd H2 D (TxO X.prog X.w D [])) b ∧ b < s3.heap.objs.size := fun b hb => by
    refine ⟨⟨?_, (f2 b hb).2⟩, by rw [h3, Heap.size_push]; exact Nat.lt_succ_of_lt (below b hb)⟩
    rw [upd_ne (by rw [← hD]; exact Nat.ne_of_lt (below b hb))]
    exact (f2 b hb).1
  have st3 : tn 0 s3.heap := T.keep _ _ _ st2 fun b _ o e => by rw [h3]; exact Heap.get?_push_of_some _ e
  have I4 := block_start I3 ok hN f3
  generalize hcl : cellsFrom (s3.heap.objs.size + 1) scope.names (cloFrom X.env.cells scope.names []) = cl at I4
  have pg := hg s3 (upd H2 D (TxO X.prog X.w D [])) s3.heap.objs.size cl fp
  have pt := ht s3 (upd H2 D (TxO X.prog X.w D [])) s3.heap.objs.size cl fp
  have pe := he s3 (upd H2 D (TxO X.prog X.w D [])) s3.heap.objs.size cl fp
  show codeAny _ _ (.compStart (.SetComp elt [⟨tg, iter, ifs, 0⟩] scope pos) 0 (.ref it) (.ref D) (compEnvC scope cl s3.heap.objs.size X.env)) (pst X L use Qf (.ref D) s3.heap.objs.size) { s3 with heap := pushCells (s3.heap.push { cls := .type "dict", data := .dict #[] }) scope.names }
  have nfp : ∀ b ∈ fp, (upd H2 D (TxO X.prog X.w D [])) b = none := fun b hb => (f3 b hb).1.1
  generalize hH3 : upd H2 D (TxO X.prog X.w D []) = H3 at I3 I4 pg pt pe w0 nfp f3
  generalize hce : compEnvC scope cl s3.heap.objs.size X.env = ce at I4 pg pt pe ⊢
  have cL : ce.locals = s3.heap.objs.size := by subst hce; rfl
  have cF : ce.frame = some L := by subst hce; exact fm.fr
  generalize hs4 : ({ s3 with heap := pushCells (s3.heap.push { cls := .type "dict", data := .dict #[] }) scope.names } : Shared) = s4 at I4 ⊢
  have st4 : tn 0 s4.heap := T.keep _ _ _ st3 fun b _ o e => by rw [← hs4]; exact pushCells_keeps _ _ _ _ (Heap.get?_push_of_some _ e)
  have I4' : Inv (cG X L W σ s3 H3 scope ce fp) [] (wipe σ (own.map (·.2))) H3 s4 := Inv.re I4
  have stat : ∀ {σ' : L2.St} {H' : Hp} {s' : Shared}, Inv (cG X L W σ s3 H3 scope ce fp) [] σ' H' s' → (∀ b ∈ fp, H' b = none) → ∀ b ∈ fp, FpOk (cG X L W σ s3 H3 scope ce fp) [] H' b := fun {σ' H' s'} I' hn b hb =>
    ⟨hn b hb, (I'.ok.exf b hb).1, I'.ok.exfs b hb, .inl hb, fun x c e => (I'.ok.exf b hb).2 x c e, fun p hp => absurd (show p ∈ ([] : List (Addr × Obj)) ++ [] from hp) (by simp)⟩
  have err : ∀ u s', (cG X L W σ s3 H3 scope ce fp).xe u s' → notedBy (model X.prog X.w) X.A ce (gone X s3.heap.objs.size L) u s' := fun u s' x => XEL.back (xb := fun _ _ => False) I3 fm tk cL cF f3 (fun _ _ _ _ w => w) x
  have pe0 : ∀ (u : Value) (s' : Shared), gone X s3.heap.objs.size L u s' → pst X L use Qf (.ref D) s3.heap.objs.size (.error u) s' := fun u s' z => by cases use <;> exact z
  have up : ∀ u s', notedBy (model X.prog X.w) X.A ce (gone X s3.heap.objs.size L) u s' → notedBy (model X.prog X.w) X.A ce (fun e s' => pst X L use Qf (.ref D) s3.heap.objs.size (.error e) s') u s' := fun u s' z => wpAny_mono z (fun _ t q => pe0 _ t q) fun e t q => pe0 e t q
  have loop : codeAny (model X.prog X.w) X.A (.compLoop (.SetComp elt [⟨tg, iter, ifs, 0⟩] scope pos) 0 (.ref it) (.ref D) ce) (pst X L use Qf (.ref D) s3.heap.objs.size) s4 := by
    refine PpSet.compLoopS_any (fun n s' => ∃ i H', Inv (cG X L W σ s3 H3 scope ce fp) [] (wipe σ (own.map (·.2))) H' s' ∧ tn i s'.heap ∧ (∀ b ∈ fp, H' b = none) ∧ V i n H') ?_ m0 ⟨0, H3, I4', st4, nfp, w0⟩
    rintro n s5 ⟨i, H5, I5, st5, n5, w5⟩
    rcases turn i n H5 w5 with ⟨stop, qq⟩ | ⟨go, Nx, hNx, step⟩
    · refine thnF (T.done (cG X L W σ s3 H3 scope ce fp) rfl rfl rfl hc i [] s5 _ H5 (fun _ _ => False) I5 (stat I5 n5) st5 stop) fun r s6 ⟨hr, I6⟩ => ?_
      subst hr
      have I7 : Inv X pins σ H5 s6 := I3.call' (ch := fp) I6.os I6.base I6.hok I6.bare fun b hb => ⟨(f3 b hb).1.2.2.2.1, (f3 b hb).1.2.1, (f3 b hb).1.2.2.2.2.1, (f3 b hb).1.2.2.2.2.2⟩
      have nC : H5 s3.heap.objs.size = none := by
        have z : H5 ce.locals = none := I6.free
        rwa [cL] at z
      obtain ⟨m, hn, _⟩ := I6.loc
      have hn : s6.heap.Ns ce.locals m := hn
      rw [cL] at hn
      exact hRR D s3.heap.objs.size s6 m H5 I7 qq hn (I3.fpOk (Nat.le_refl _) nC)
    · refine thnF (T.item (cG X L W σ s3 H3 scope ce fp) rfl rfl rfl hc i [] s5 _ H5 (fun _ _ => False) I5 (stat I5 n5) st5 go) fun r s6 ⟨u, hr, h6⟩ => ?_
      subst hr
      refine thnF h6 fun _ s7 ⟨x, H7, I7, r7, y7, st7, n7⟩ => ?_
      have I7' := I7.pinned (stat I7 n7) (T.obj _ _ st7)
      refine wpAny_mono (pg.run _ s7 _ H7 x u _ I7' r7 (step x H7 y7)) (fun _ s8 ⟨σ8, H8, I8, hw8, q8⟩ => ?_) fun u s' z => up u s' (err u s' z)
      refine wpAny_mono (pt.run _ s8 σ8 H8 _ I8 q8) (fun b s9 ⟨H9, I9, q9⟩ => ?_) fun u s' z => up u s' (err u s' z)
      have fin : ∀ {s' : Shared} {H' : Hp}, Inv (cG X L W σ s3 H3 scope ce fp) ([] ++ pinsAt fp s7.heap) σ8 H' s' → Nx H' → ∃ m, m < n ∧ ∃ i H', Inv (cG X L W σ s3 H3 scope ce fp) [] (wipe σ (own.map (·.2))) H' s' ∧ tn i s'.heap ∧ (∀ b ∈ fp, H' b = none) ∧ V i m H' := fun {s' H'} I' nx => by
        obtain ⟨m', hm, w'⟩ := hNx H' nx
        have pin' : ∀ b ∈ fp, ∀ o, s7.heap.get? b = some o → s'.heap.get? b = some o ∧ H' b = none := fun b hb o e =>
          let z := I'.pin (b, o) (List.mem_append_right _ (List.mem_append_right _ (mem_pinsAt hb e)))
          ⟨z.1, z.2.1⟩
        have hl : (wipe σ (own.map (·.2))).length = σ8.length := by rw [← hw8, wipe_length]
        refine ⟨m', hm, i + 1, H', (I'.unpinned (pins := [])).weak hl (fun j v e => ?_), T.keep _ _ _ st7 fun b hb o e => (pin' b hb o e).1, fun b hb => ?_, w'⟩
        · rw [← hw8] at e
          exact (wipe_some e).1
        · obtain ⟨o, e, _⟩ := T.obj _ _ st7 b hb
          exact (pin' b hb o e).2
      cases b with
      | false =>
        simp only [Bool.false_eq_true, if_false] at q9 ⊢
        exact fin I9 q9
      | true =>
        simp only [if_true] at q9 ⊢
        refine wpAny_mono (pe.run _ s9 σ8 H9 _ I9 q9) (fun z s10 ⟨yv, H10, I10, r10, l0, x0, ey, hD10, hz10, nx⟩ => ?_) fun u s' z => up u s' (err u s' z)
        subst ey
        obtain ⟨t0, rfl⟩ := r10
        exact u7 (X := cG X L W σ s3 H3 scope ce fp) I10 hD10 hz10 fun s11 I11 => fin I11 nx
  exact PpSet.codeAny_compStart_set loop (T.self X.A 0 _ _ _ st4 loop)
/-- as a value -/
theorem x6 {elt tg iter : Expr} {ifs : List Expr} {scope : Scope} {own : List (Str × Nat)} {pos : Pos} {wi : TI} {g : TG} {tt : L2.St → TT} {te : L2.St → TE} (hc : X.calm = true) (hN : X.N.Nodup) (fm : Fm X L) (tk : eG X L W) (hi : PI X tg iter wi) (ok : BlkOk X.N X.env.scope scope own)
    (hg : ∀ (σ : L2.St) (s : Shared) (H : Hp) (C : Addr) (cl : List (Str × Addr)) (fp : List Addr), PG (cG X L W σ s H scope (compEnvC scope cl C X.env) fp) tg g)
    (ht : ∀ (σ : L2.St) (s : Shared) (H : Hp) (C : Addr) (cl : List (Str × Addr)) (fp : List Addr), PTs (cG X L W σ s H scope (compEnvC scope cl C X.env) fp) ifs (tt σ))
    (he : ∀ (σ : L2.St) (s : Shared) (H : Hp) (C : Addr) (cl : List (Str × Addr)) (fp : List Addr), PE (cG X L W σ s H scope (compEnvC scope cl C X.env) fp) elt (te σ)) (hs : ∀ x, foldedSetIterable iter X.env x = pure x := by intro _; rfl) :
    PE X (.SetComp elt [⟨tg, iter, ifs, 0⟩] scope pos) (tScE X.prog X.w wi g tt te (own.map (·.2))) := by
  refine ⟨fun pins s σ H Q I h => ?_⟩
  rw [PpSet.eval_SetComp]
  refine scE hc hN fm tk I hi ok (hg σ) (ht σ) (he σ) hs h fun D C s' m H' I' q hn f => ⟨m, hn, fun h'' sb => ?_⟩
  obtain ⟨f0, f1, _, f3, f4, f5⟩ := f
  exact ⟨.ref D, H', I'.turned (t' := s'.toks) (fun b o hb e => (sb.2 b hb).trans e) f0 f1 f3 f4 f5, rfl, q⟩
end
end XC
set_option Elab.async false
set_option linter.all false
set_option maxRecDepth 100000
set_option maxHeartbeats 2000000
namespace DM
open PySem PySem.Spec PyProof.Rows L2 Lay NdefX LamX GD
/-- len of such a set -/
def ou (P : Program) (w : World) : List V → Hp → VK → Prop := fun xs H Q => ∃ (a : Addr) (l : List Str), xs = [.ref a] ∧ H a = some (XC.TxO P w a l) ∧ l.length ≤ 4000 ∧ Q (.int ((l.length : Nat) : Int)) H
theorem sN {X : Cx} : CallR X (.builtin "len") (ou X.prog X.w) := by
  intro pins s σ H xs us Q I r h
  obtain ⟨a, l, rfl, ha, hl, q⟩ := h
  obtain ⟨u, rfl, rx⟩ := vals1 r
  cases rx
  have S : XS.Has X.prog X.w s.heap a l := (I.hok a _ ha).1
  obtain ⟨o, es, ep, t, ho, hex, hd, _, _, _, hf, hn⟩ := S
  exact PySem.call_len_set ho hex hd hf (by rw [hn]; omega) ⟨.int ((l.length : Nat) : Int), H, I.tok _, ⟨_, by rw [hn]⟩, q⟩
/-- such a set is no code object -/
theorem sP {P : Program} {w : World} {a c : Addr} {l : List Str} {q : Str} : XC.TxO P w a l ≠ CodeO c q := by
  intro z
  have e : (fun h => XS.Has P w h a l) = fun h : Heap => ∃ (oc : Obj) (vs : Array Value) (t : Tok), h.get? c = some oc ∧ oc.data = .fields vs ∧ vs[1]? = some (.str q t) := HO.ext.inj z
  obtain ⟨ob, hob⟩ : ∃ ob : Obj, ob = { cls := .none, data := .fields #[.none, .str q 0] } := ⟨_, rfl⟩
  have hg : ∀ b ob', (Heap.mk (Array.replicate (c + 1) ob) {}).get? b = some ob' → ob' = ob := by
    intro b ob' h
    unfold Heap.get? at h
    dsimp only at h
    rw [Array.getElem?_replicate] at h
    by_cases hb : b < c + 1
    · rw [if_pos hb] at h
      subst hob
      exact (Option.some.inj h).symm
    · rw [if_neg hb] at h
      cases h
  have hc : (Heap.mk (Array.replicate (c + 1) ob) {}).get? c = some ob := by
    unfold Heap.get?
    dsimp only
    rw [Array.getElem?_replicate, if_pos (Nat.lt_succ_self _)]
    subst hob
    rfl
  have h2 : XS.Has P w (Heap.mk (Array.replicate (c + 1) ob) {}) a l := by
    have := congrFun e (Heap.mk (Array.replicate (c + 1) ob) {})
    rw [this]
    exact ⟨ob, #[.none, .str q 0], 0, hc, by rw [hob], by simp⟩
  obtain ⟨o, es, ep, t, ho, hex, hd, _⟩ := h2
  rw [hg _ _ ho, hob] at hd
  cases hd
def gw (tg : Tgt) (tt : En → M Bool) (te : En → M D) (ρ : En) : List D → List Str → M D
  | [], l, s => if l.length ≤ 4000 then some (.ok (.int ((l.length : Nat) : Int)), s) else none
  | d :: ds, l, s => (tg.set ρ d).bind fun ρ1 => okx (tt ρ1 s) fun b s1 => if b = true then okx (te ρ1 s1) fun y s2 => match y with
      | .str x => if l.length < 4000 then gw tg tt te ρ ds (XC.jx l x) s2 else none
      | _ => none
    else gw tg tt te ρ ds l s1
def kY (tg : Tgt) (mi : En → M (List D)) (tt : En → M Bool) (te : En → M D) : En → M D := fun ρ s => bx (mi ρ s) fun x s1 => gw tg tt te (cJ ρ tg.slots) x [] s1
theorem kZ {tg : Tgt} {tt : En → M Bool} {te : En → M D} {ρ : En} : ∀ {ds : List D} {l : List Str} {s s' : DS} {r : Except Xn D}, gw tg tt te ρ ds l s = some (r, s') → ∃ d, r = .ok d
  | [], l, s, s', r, e => by
    unfold gw at e
    split at e
    · cases e; exact ⟨_, rfl⟩
    · cases e
  | d :: ds, l, s, s', r, e => by
    unfold gw at e
    obtain ⟨ρ1, _, e⟩ := cO e
    obtain ⟨b, s1, _, e⟩ := gL e
    split at e
    · obtain ⟨y, s2, _, e⟩ := gL e
      split at e
      · split at e
        · exact kZ e
        · cases e
      · cases e
    · exact kZ e
theorem sQ {C : Cc} {W : WX} {P : Program} {w0 : World} {tg : Tgt} {wi : TI} {mi : En → M (List D)} {tt : TT} {mt : En → M Bool} {te : TE} {me : En → M D} (hi : SI C W wi mi) (ht : ST C wF tt mt) (he : SE C wF te me) :
    SE C W (tCB (ou P w0) (tCons (XC.tScE P w0 wi (gOf C.K tg) (fun _ => tt) (fun _ => te) tg.slots) tNil)) (kY tg mi mt me) := by
  intro av σ ρ s H rr s' Q o e q
  refine hi.bind o e q fun ds s1 J H1 g1 o1 it e q => fun A hA => ?_
  obtain ⟨G, Y, w, it⟩ := it
  obtain ⟨dr, rfl⟩ := kZ e
  have nA : ¬ av A := fun z => o1.al A z hA
  have nd : ∀ {a}, C.Γ.ch a → A ≠ a := fun z e => nA (by rw [e]; exact o.ad _ z)
  have ncA : ¬ C.Γ.ch A := fun z => nd z rfl
  let av2 : Av := fun a => av a ∨ a = A
  let cA : Av := fun a => C.Γ.ch a ∨ a = A
  have nw : ∀ a, av2 a → av a ∨ H1 a = none := fun a z => z.elim .inl fun z => .inr (z ▸ hA)
  have cs : ∀ a, cA a → av2 a := fun a z => z.elim (fun z => .inl (o.ad a z)) .inr
  have far : ∀ Hc, Kp cA H1 Hc → Lv H1 Hc → Hc A ≠ none → Far av H1 av2 Hc := fun Hc k l hc =>
    ⟨nw, fun a z => .inl z, k.mono cs, fun a z => z.elim (fun z => l a (o1.al a z)) fun z => z ▸ hc⟩
  have goA : ∀ Hc, Kp cA H1 Hc → Lv H1 Hc → Go C.Γ H1 Hc := fun Hc k l => ⟨fun a ob n h => k a ob (fun z => by
    rcases z with z | z
    · exact n z
    · rw [z, hA] at h
      cases h) h, l⟩
  have ad2 : ∀ a, C.Γ.ch a → av2 a := fun a z => .inl (o.ad a z)
  obtain ⟨Wk, hW⟩ : ∃ Pk : Nat → Hp → Prop, Pk = fun i Hc => ∃ ls si, Kp cA H1 Hc ∧ Lv H1 Hc ∧ Wo C.K C.Γ av2 Hc si ∧ Hc A = some (XC.TxO P w0 A ls) ∧ gw tg mt me (cJ ρ tg.slots) (ds.drop i) ls si = some (.ok dr, s') := ⟨_, rfl⟩
  refine ⟨fun i m Hc => i + m = ds.length ∧ Wk i Hc, ⟨ds.length, by simp, ?_⟩, fun i m Hc ⟨him, hP⟩ => ?_⟩
  · subst hW
    exact ⟨[], s1, .new hA, .upd, (o1.wo.wd nw).new hA, upd_same, e⟩
  have hPk := hP
  rw [hW] at hP
  obtain ⟨ls, si, k, l, dd, hc, eg⟩ := hP
  have f := far Hc k l (by rw [hc]; simp)
  have gG := (it av2 Hc f).1
  rcases Nat.lt_or_ge i ds.length with hi' | hi'
  · refine .inr ⟨w.goes i Hc hi' gG, Wk (i + 1), fun H' h' => ⟨ds.length - (i + 1), by omega, by omega, h'⟩, fun x H' y => ?_⟩
    have y := w.yields i Hc x H' hi' gG y
    obtain ⟨hH, d0, hd0, rx⟩ := (it av2 Hc f).2 i x H' hi' y
    have hdrop : ds.drop i = d0 :: ds.drop (i + 1) := by
      rw [List.drop_eq_getElem_cons hi']
      rw [List.getElem?_eq_getElem hi'] at hd0
      cases hd0
      rfl
    rw [hdrop] at eg
    unfold gw at eg
    obtain ⟨ρ1, et, eg⟩ := cO eg
    obtain ⟨b, s3, eb, eg⟩ := gL eg
    have step : Go C.Γ Hc H' := by
      rcases hH with rfl | ⟨T, ob, hT, rfl⟩
      · exact .refl
      · exact .new hT
    have dd' : Wo C.K C.Γ av2 H' si := by
      rcases hH with rfl | ⟨T, ob, hT, rfl⟩
      · exact dd
      · exact dd.new hT
    have k' : Kp cA H1 H' := k.trans (step.kp.mono fun a z => .inl z)
    have l' : Lv H1 H' := l.trans step.lv
    have hc' : H' A = some (XC.TxO P w0 A ls) := step.kp A _ ncA hc
    have f' := far H' k' l' (by rw [hc']; simp)
    have hs0 : aI C H' av2 (L2.wipe σ tg.slots) (cJ ρ tg.slots) := ((aI.wipe o1.sl tg.slots).wd nw).kp f'.kp
    refine ja rx (by rw [wipe_length, dD, o.len]) hs0 et fun us dsv hvl rvs hρ hlen hs => ⟨iy σ tg.slots _, ?_⟩
    have ok : OkE C av2 (DM.setM tg.slots (us.map some) (L2.wipe σ tg.slots)) ρ1 si H' := by
      refine ⟨by rw [eS]; exact hlen, dd', ad2, f'.al, fun a z => ?_, hs⟩
      by_cases e : a = A
      · rw [e, hc']
        intro c q z
        exact sP (Option.some.inj z)
      · have z := z.resolve_right e
        by_cases hh : C.Γ.ch a
        · exact dd'.nc hh
        · cases e1 : H1 a with
          | none => exact absurd e1 (o1.al a z)
          | some u =>
            rw [k' a u (fun z => z.elim hh e) e1, ← e1]
            exact o1.nc a z
    refine ht av2 _ ρ1 si H' (.ok b) s3 _ ok eb fun b' H3 g3 d3 hb => ?_
    cases hb
    have ok3 := ok.step g3 d3
    have hc3 : H3 A = some (XC.TxO P w0 A ls) := g3.kp A _ ncA hc'
    have k3 : Kp cA H1 H3 := k'.trans (g3.kp.mono fun a z => .inl z)
    cases b with
    | false =>
      rw [if_neg (by simp)] at eg ⊢
      rw [hW]
      exact ⟨ls, s3, k3, l'.trans g3.lv, d3, hc3, eg⟩
    | true =>
      rw [if_pos rfl] at eg ⊢
      obtain ⟨y, s4, ey, eg⟩ := gL eg
      obtain ⟨kk, rfl⟩ : ∃ kk, y = .str kk := by cases y <;> first | exact ⟨_, rfl⟩ | (cases eg; done)
      dsimp only at eg
      split at eg
      · rename_i hlen
        refine he av2 _ ρ1 s3 H3 (.ok (.str kk)) s4 _ ok3 ey fun v4 H4 g4 d4 r4 => ?_
        have hc4 : H4 A = some (XC.TxO P w0 A ls) := g4.kp A _ ncA hc3
        refine ⟨ls, kk, r4.b9, hc4, by unfold scanBound; omega, ?_⟩
        rw [hW]
        exact ⟨_, s4, (k3.trans (g4.kp.mono fun a z => .inl z)).trans (.upd (.inr rfl)), ((l'.trans g3.lv).trans g4.lv).trans .upd, d4.own (.inr rfl) ncA hc4 (fun _ _ z => sP z), upd_same, eg⟩
      · cases eg
  · obtain rfl : i = ds.length := by omega
    refine .inl ⟨w.stops Hc gG, ?_⟩
    rw [List.drop_eq_nil_of_le hi'] at eg
    unfold gw at eg
    split at eg
    · rename_i hlen
      cases eg
      refine ⟨A, ls, rfl, hc, hlen, q _ Hc (goA Hc k l) (dd.wd fun a z => .inl (.inl z)) (.int _)⟩
    · cases eg
end DM
set_option Elab.async false
set_option linter.all false
set_option maxRecDepth 100000
set_option maxHeartbeats 2000000
namespace XC
open PySem PySem.Spec PyProof.Rows L2 PySem.W
end XC
set_option Elab.async false
set_option linter.all false
set_option maxRecDepth 100000
set_option maxHeartbeats 2000000
namespace XC
open PySem PySem.Spec PyProof.Rows L2 PySem.W
end XC
set_option Elab.async false
set_option linter.all false
set_option maxRecDepth 100000
set_option maxHeartbeats 2000000
namespace DM
open PySem PySem.Spec PyProof.Rows L2 Lay NdefX LamX GD
end DM
set_option Elab.async false
set_option linter.all false
set_option maxRecDepth 100000
set_option maxHeartbeats 2000000
namespace DM
open PySem PySem.Spec PyProof.Rows L2 Lay NdefX LamX GD
/-- a key's data, told again -/
def KeyR (C : Cc) (av : Av) (H : Hp) (v : V) (p : PyData) : Prop := ∃ d, Rep C.K H av C.Γ v d ∧ toP d = some p
theorem KeyR.dp {C : Cc} {av : Av} {H : Hp} {v : V} {p : PyData} (h : KeyR C av H v p) : Dp C.K H v p := let ⟨_, r, e⟩ := h; r.dp e
end DM
set_option Elab.async false
set_option linter.all false
set_option maxRecDepth 100000
set_option maxHeartbeats 2000000
namespace DM
open PySem PySem.Spec PyProof.Rows L2 Lay NdefX LamX GD
/-- a field read, in a block as well -/
theorem d5 {X : Cx} {K : PySem.W.Frag} {e : Expr} {ta : TE} {f : Str} {pos : Pos} (hK : X.K = K) (he : PE X e ta) (hb : attributeBase e f X.env (eval e X.env) = eval e X.env) : PE X (.Attribute e f pos) (tFld K ta f) := by
  subst hK
  exact pe_fld he hb
/-- list(x) of a list or a tuple, in a block as well -/
theorem bB {X : Cx} {K : PySem.W.Frag} (hK : X.K = K) : CallR X (.type "list") (fun xs H Q => ∃ p ys, xs = [.ref p] ∧ (SqL K H p ys ∨ SqT K H p ys) ∧ ∀ l, H l = none → Q (.ref l) (upd H l (.lst ys))) := by
  subst hK
  exact call_list_of
end DM
set_option Elab.async false
set_option linter.all false
set_option maxRecDepth 100000
set_option maxHeartbeats 2000000
namespace DM
open PySem L2
section
variable {ρ ρ' : En} {s : DS} {E : Xn → DS → Prop} {P : D → DS → Prop} {R : Res → DS → Prop} {QL : List D → DS → Prop} {a b e : En → M D} {is ms : En → M (List D)} {mt : En → M Bool} {tg : Tgt} {cs : List Str} {f c mth : Str} {n i j : Nat} {F G : List D → M D} {ds xs : List D} {ks : List Str} {d : D}
instance : Stp (Wp (iS cs f a ρ s) E P) (Wp (a ρ s) E fun x s1 => WO (xX cs f s1 x) fun z => P z s1) := ⟨fun h => a9 (h.mono fun _ _ h => eE h)⟩
instance : Stp (Wr (kh cs f a b ρ s) R) (Wp (b ρ s) (fun x s => R (.er ρ x) s) fun d s1 => Wp (a ρ s1) (fun x s => R (.er ρ x) s) fun x s2 => WO (stF cs f d s2 x) fun s3 => R (.nx ρ) s3) := ⟨fun h => eV (h.mono fun _ _ h => eV (h.mono fun _ _ ⟨s3, e, h⟩ => ⟨_, s3, by rw [e]; rfl, h⟩))⟩
instance : Stp (Wp (dB c mth n F a ms ρ s) E P) (Wp (a ρ s) E fun x s1 => u6 c mth s1 x = true ∧ Wp (ms ρ s1) E fun xs s2 => xs.length + 1 = n ∧ Wp (F (x :: xs) s2) E P) := ⟨fun h => a9 (h.mono fun x s1 h => by
  rw [if_pos h.1]
  exact a9 (h.2.mono fun xs s2 h => by rw [if_pos h.1]; exact h.2))⟩
instance : Stp (Wp (eNew c n F ms ρ s) E P) (Wp (ms ρ s) E fun xs s1 => xs.length + 1 = n ∧ Wp (kW s1.m.length c (F (.mob s1.m.length :: xs) (s1.push (.obj c [] [])))) E P) := ⟨fun h => a9 (h.mono fun xs s1 h => by rw [if_pos h.1]; exact h.2)⟩
end
@[simp] theorem mI (s : DS) (d : D) : (s.push d).m[s.m.length]? = some d := by
  show (s.m ++ [d])[s.m.length]? = _
  rw [List.getElem?_append_right (Nat.le_refl _), Nat.sub_self]
  rfl
theorem sR (s : DS) (d e : D) : (s.push d).set s.m.length e = s.push e := by
  show { s with m := (s.m ++ [d]).set s.m.length e } = { s with m := s.m ++ [e] }
  rw [List.set_append_right _ _ (Nat.le_refl _), Nat.sub_self]
  rfl
theorem iF (s : DS) (d : D) : (s.push d).m.take s.m.length = s.m := by
  show (s.m ++ [d]).take s.m.length = _
  rw [List.take_append_of_le_length (Nat.le_refl _), List.take_length]
theorem mJ (s : DS) (d : D) : (s.push d).pop s.m.length = s := by
  show { s.push d with m := (s.push d).m.take s.m.length } = s
  rw [iF]
  rfl
/-- the newest object's field is set -/
theorem sS {cs : List Str} {f c : Str} {d : D} {s : DS} {ns : List Str} {xs : List D} {Q : DS → Prop} (hc : c ∈ cs) (hl : ns.length < 900) (q : Q (s.push (.obj c (putN ns xs f d).1 (putN ns xs f d).2))) : WO (stF cs f d (s.push (.obj c ns xs)) (.mob s.m.length)) Q := by
  refine ⟨s.push (.obj c (putN ns xs f d).1 (putN ns xs f d).2), ?_, q⟩
  simp only [stF]
  rw [mI]
  dsimp only
  rw [if_pos ⟨hc, hl⟩, sR]
theorem pL {c : Str} {s : DS} {x : Option (Except Xn D × DS)} {E : Xn → DS → Prop} {P : D → DS → Prop} (h : Wp x (fun e s' => s'.m.take s.m.length = s.m ∧ dz s.m.length e.xs = true ∧ E e (s'.pop s.m.length)) fun d s' => d = .non ∧ ∃ ns ys, s' = s.push (.obj c ns ys) ∧ dz s.m.length ys = true ∧ P (.obj c ns ys) s) (hm : dz s.m.length s.m = true) : Wp (kW s.m.length c x) E P := by
  rcases h with ⟨d, s', rfl, rfl, ns, ys, rfl, hy, p⟩ | ⟨e, s', rfl, h1, h2, p⟩
  · simp only [kW]
    rw [mI]
    dsimp only
    rw [if_pos ⟨rfl, hy, by rw [iF]; exact hm⟩, mJ]
    exact cM p
  · simp only [kW]
    rw [if_pos ⟨h2, by rw [h1]; exact hm⟩]
    exact .inr ⟨e, _, rfl, p⟩
end DM
set_option Elab.async false
set_option linter.all false
set_option maxRecDepth 100000
set_option maxHeartbeats 2000000
namespace DM
open PySem L2
def Ke {α : Type} (x : Option (α × DS)) (s : DS) : Prop := ∀ r s', x = some (r, s') → s'.m = s.m
theorem pM {α β : Type} {x : Option (Except Xn α × DS)} {f : α → DS → Option (Except Xn β × DS)} {s : DS} (h : Ke x s) (g : ∀ a s1, Ke (f a s1) s1) : Ke (bx x f) s := by
  intro r s' e
  unfold bx at e
  split at e
  · cases e
  · cases e
    exact h _ _ rfl
  · rename_i a s1
    rw [g _ _ _ _ e, h _ _ rfl]
theorem y4 {α : Type} {x : Option α} {s : DS} : Ke (ox x s) s := by
  intro r s' e
  unfold ox at e
  cases x with
  | none => cases e
  | some a => cases e; rfl
theorem pN {α : Type} {r : α} {s : DS} : Ke (some (r, s)) s := fun _ _ e => by cases e; rfl
theorem u9 {α : Type} {s : DS} : Ke (none : Option (α × DS)) s := fun _ _ e => by cases e
theorem ya {α : Type} {p : Prop} [Decidable p] {x y : Option (α × DS)} {s : DS} (h : Ke x s) (g : Ke y s) : Ke (if p then x else y) s := by
  split
  · exact h
  · exact g
class PmE {α : Type} (m : En → M α) : Prop where
  k : ∀ ρ s, Ke (m ρ s) s
class PmF (F : List D → M D) : Prop where
  k : ∀ ds s, Ke (F ds s) s
section
variable {a b e : En → M D} {ms is : En → M (List D)} {c c2 : En → M Bool} {l u : En → M (Option Int)} {F : List D → M D} {m m2 : S} {tg : Tgt} {i j n k : Nat}
theorem k7 [h : PmE c] [g : PmE a] {ρ : En} : ∀ (ds : List D) (s : DS), Ke (c8 tg c a ρ ds s) s
  | [], s => pN
  | d :: ds, s => by
    unfold c8
    cases tg.set ρ d with
    | none => exact u9
    | some ρ1 => exact pM (h.k _ _) fun b s1 => ya (pM (g.k _ _) fun _ _ => pM (k7 ds _) fun _ _ => pN) (k7 ds _)
instance [h : PmE is] [h2 : PmE c] [g : PmE a] : PmE (eLc tg is c a) := ⟨fun ρ s => pM (h.k _ _) fun x s1 => by
  intro r s' e
  have q := k7 (tg := tg) (c := c) (a := a) (ρ := cJ ρ tg.slots) x s1
  unfold lcR at e
  split at e
  · cases e
  · rename_i hh
    split at e
    · cases e
      exact q _ _ hh
    · cases e
  · rename_i hh
    rw [y4 _ _ e]
    exact q _ _ hh⟩
instance : PmF next := ⟨fun ds s => by
  intro r s' e
  unfold next at e
  split at e
  · split at e
    · cases e
      exact uO _
    · cases e
  · cases e⟩
end
/-- a call that leaves the objects as they are tells so -/
theorem wp_keep {F : List D → M D} {ds : List D} {s : DS} {E : Xn → DS → Prop} {P : D → DS → Prop} (h : PmF F) (p : Wp (F ds s) (fun x s' => s'.m = s.m → E x s') fun d s' => s'.m = s.m → P d s') : Wp (F ds s) E P := by
  rcases p with ⟨d, s', e, q⟩ | ⟨x, s', e, q⟩
  · exact .inl ⟨d, s', e, q (h.k _ _ _ _ e)⟩
  · exact .inr ⟨x, s', e, q (h.k _ _ _ _ e)⟩
end DM
set_option Elab.async false
set_option linter.all false
set_option maxRecDepth 100000
set_option maxHeartbeats 2000000
namespace DM
open PySem PySem.Spec PyProof.Rows L2 Lay NdefX LamX GD
def sT (K : PySem.W.Frag) (k : Bool) : R2 := fun x y H Q => ∃ l b xs ys, x = .ref l ∧ y = .ref b ∧ SqL K H l xs ∧ SqL K H b ys ∧ xs.length ≠ ys.length ∧ Q (.bl k) H
theorem yb {X : Cx} (hu : X.A.units + 64 < cLine) : OpR X (compareOp .NotEq) (sT X.K true) := by
  intro pins s σ H x y v u Q I rx ry h
  obtain ⟨l, b, xs, ys, rfl, rfl, hl, hb, hne, q⟩ := h
  cases rx
  cases ry
  obtain ⟨i1, r1, p1, _⟩ := I.list hl
  obtain ⟨i2, r2, p2, _⟩ := I.list hb
  have e1 := r1.length
  have e2 := r2.length
  show wpAny (model X.prog X.w) X.A (richCompare .NotEq (.ref l) (.ref b)) _ _ s
  exact SeqAt.RcNeAt.lists_lengths p1.isList p2.isList (by simp; omega) (by omega) X.prog X.w _ _ ⟨.bl true, H, I, rfl, q⟩
def mK (k : Bool) : D → D → Option D
  | .lst xs, .lst ys => if xs.length ≠ ys.length then some (.bl k) else none
  | _, _ => none
theorem va {C : Cc} {k : Bool} : OpS C (sT C.K k) (mK k) := by
  intro av s H x y a b z Q o ra rb e q
  cases a <;> cases b <;> simp [mK] at e
  obtain ⟨e1, rfl⟩ := e
  obtain ⟨p, vs, rfl, n, h1, r1⟩ := ra.b3
  obtain ⟨p2, ws, rfl, n2, h2, r2⟩ := rb.b3
  exact ⟨p, p2, vs, ws, rfl, rfl, .of h1, .of h2, by rw [r1.len, r2.len]; exact e1, q.pure o (.bl _)⟩
def yc (K : PySem.W.Frag) : R2 := orR (jP K) (sT K true)
def vb : D → D → Option D := orF eT (mK true)
theorem yd {X : Cx} (hu : X.A.units + 64 < cLine) : OpR X (compareOp .NotEq) (yc X.K) := fB (fH hu) (yb hu)
theorem ye {C : Cc} : OpS C (yc C.K) vb := iN fI va
/-- of a list whether it is empty, whatever it holds -/
theorem sU {xs : List D} {Q : D → Prop} (h : Q (.bl (!xs.isEmpty))) : WO (vb (.lst xs) (.lst [])) Q := by
  cases xs with
  | nil => exact aH rfl h
  | cons x xs =>
    show WO (orF eT (mK true) _ _) Q
    unfold orF
    cases e : eT (.lst (x :: xs)) (.lst []) with
    | none => exact aH (a := .bl true) (by simp [mK]) h
    | some z =>
      refine aH (a := z) rfl ?_
      have : z = .bl true := by
        have e : orF oNe nR (.lst (x :: xs)) (.lst []) = some z := e
        unfold orF at e
        rw [show oNe (.lst (x :: xs)) (.lst []) = none from rfl] at e
        have e : nR (.lst (x :: xs)) (.lst []) = some z := e
        unfold nR at e
        obtain ⟨p, e1, e⟩ := Option.bind_eq_some_iff.mp e
        obtain ⟨q, e2, e⟩ := Option.bind_eq_some_iff.mp e
        split at e
        · cases e
          have := gR _ _ _ _ e1 e2
          rw [this]
          rfl
        · cases e
      rw [this]
      exact h
end DM
set_option Elab.async false
set_option linter.all false
set_option maxRecDepth 100000
set_option maxHeartbeats 2000000
namespace XK
open PySem PySem.Spec PyProof.Rows L2 DM
section
variable (K : PySem.W.Frag) (w : World)
/-- nothing may change -/
abbrev nav : Av := fun _ => False
/-- {} as such a dict -/
def wx : TE := fun _ H Q => ∀ p, H p = none → Q (.ref p) (upd H p (KxO w p []))
/-- the dict of these entries, its keys standing -/
def KAt (H : Hp) (a : Addr) (xs : List Ent) : Prop := H a = some (KxO w a xs) ∧ dO K H nav xs
/-- the key that y is -/
def KeyV (H : Hp) (y : V) (b : Addr) (k : NestedKey) : Prop := y = .ref b ∧ NkV K H nav k (.ref b) ∧ k.depth ≤ 8
def sV (td ty tx : TE) : TE := fun σ H Q => td σ H fun x H1 => ∃ a xs0, x = .ref a ∧ H1 a = some (KxO w a xs0) ∧ ty σ H1 fun y H2 => tx σ H2 fun z H3 => ∃ xs b k, KAt K w H3 a xs ∧ KeyV K H3 y b k ∧ Q ((ft xs k).getD z) H3
def wy (td ty tv : TE) : TS := fun D σ H => tv σ H fun v H1 => td σ H1 fun x H2 => ty σ H2 fun y H3 => ∃ a xs b k, x = .ref a ∧ KAt K w H3 a xs ∧ KeyV K H3 y b k ∧ xs.length ≤ 100000 ∧ D.nx σ (upd H3 a (KxO w a (gq xs k b v)))
end
section
variable {X : Cx} {o i e f value : Expr} {pos pos' tpos apos cpos : Pos} {td ty tx tv : TE}
theorem vc : PE X (.Dict [] [] pos) (wx X.w) := ⟨fun pins s σ H Q I h =>
  wpAny_Dict_empty ⟨.ref s.heap.objs.size, _, I.laid (a := s.heap.objs.size) (o := KxO X.w s.heap.objs.size []) (t' := s.toks) (fun _ _ q => Heap.get?_push_of_some _ q) (Nat.le_refl _) (rg (qk s.heap I.big)), rfl, h _ (I.hok.fresh (Nat.le_refl _))⟩⟩
theorem sW (hu : X.A.units + 10 < cLine) (ho : PE X o td) (he : PE X e ty) (hf : PE X f tx) (m : M2 X o "get" apos e f cpos) : PE X (.Call (.Attribute o "get" apos) [e, f] [] cpos) (sV X.K X.w td ty tx) := by
  refine ⟨fun pins s σ H Q I h => ?_⟩
  refine wpAny_Call_method m.base m.few m.line PySem.F.plainAttrs_dict PySem.F.slot_dict_get PySem.F.type_dict_get (thn (ho.run pins s σ H _ I h) fun u s1 ⟨x, H1, I1, rx, a, xs0, ex, hx0, q1⟩ => ?_)
  subst ex
  obtain rfl : u = Value.ref a := rx
  obtain ⟨t1, t2⟩ := ri I1 hx0
  refine ⟨t1, t2, ?_⟩
  rw [m.trees]
  refine Calls.callWith_builtin rfl (Calls.evalArgs_plain (Calls.spliced_cons (thn (he.run pins s1 σ H1 _ I1 q1) fun iv s2 ⟨y, H2, I2, ry, q2⟩ =>
    Calls.spliced_cons (thn (hf.run pins s2 σ H2 _ I2 q2) fun fv s3 ⟨z, H3, I3, rz, xs, b, k, ⟨ha, hk⟩, ⟨ey, hn, dp⟩, q3⟩ => Calls.spliced_nil ?_))))
  subst ey
  obtain rfl : iv = Value.ref b := ry
  exact w8 hu I3 ha hk hn dp rz fun w' s4 I4 rw' => ⟨_, H3, I4, rw', q3⟩
theorem vd (hu : X.A.units + 10 < cLine) (ho : PE X o td) (hi : PE X i ty) (hv : PE X value tv) (hs : swapsWith value (some (.Subscript o i pos')) pos.line X.env = pure false) :
    PS X (.Assign [.Subscript o i pos'] value pos) (wy X.K X.w td ty tv) := by
  refine ⟨fun pins s σ H D I h => ?_⟩
  refine wpAny_Assign_Subscript (thn (hv.run pins s σ H _ I h) fun r s1 ⟨v, H1, I1, rv, q1⟩ => thn (ho.run pins s1 σ H1 _ I1 q1) fun u s2 ⟨x, H2, I2, rx, q2⟩ => thn (hi.run pins s2 σ H2 _ I2 q2) fun iv s3 ⟨y, H3, I3, ry, a, xs, b, k, ex, ⟨ha, hk⟩, ⟨ey, hn, dp⟩, hl, q3⟩ => ?_) hs
  subst ex ey
  obtain rfl : u = Value.ref a := rx
  obtain rfl : iv = Value.ref b := ry
  exact qm hu I3 ha hk hn dp rv hl fun s4 I4 => ⟨σ, _, I4, q3⟩
end
end XK
set_option Elab.async false
set_option linter.all false
set_option maxRecDepth 100000
set_option maxHeartbeats 2000000
namespace XK
open PySem PySem.Spec PyProof.Rows L2 XC DM
end XK
set_option Elab.async false
set_option linter.all false
set_option maxRecDepth 100000
set_option maxHeartbeats 2000000
namespace XK
open PySem PySem.Spec PyProof.Rows L2 DM
end XK
set_option Elab.async false
set_option linter.all false
set_option maxRecDepth 100000
set_option maxHeartbeats 2000000
namespace DM
open PySem PySem.Spec PyProof.Rows L2 Lay NdefX LamX GD XK
def gx : List D → List D → NestedKey → Option D
  | a :: ks, d :: ds, k => if kOf a = some k then some d else gx ks ds k
  | _, _, _ => none
def jy : List D → List D → NestedKey → D → List D
  | a :: ks, d :: ds, k, x => (if kOf a = some k then x else d) :: jy ks ds k x
  | _, _, _, _ => []
def k8 (ks ds : List D) (y : D) (k : NestedKey) (x : D) : List D × List D := if (gx ks ds k).isSome then (ks, jy ks ds k x) else (ks ++ [y], ds ++ [x])
/-- the key that a tuple is -/
def qE : D → Option NestedKey
  | .tup xs => (dC xs).bind fun ks => if (NestedKey.tup ks).depth ≤ 8 then some (.tup ks) else none
  | _ => none
theorem ki {d : D} {k : NestedKey} (h : qE d = some k) : kOf d = some k ∧ k.depth ≤ 8 ∧ ∃ xs, d = .tup xs := by
  cases d <;> first | (cases h; done) | skip
  rename_i xs
  have h : ((dC xs).bind fun ks => if (NestedKey.tup ks).depth ≤ 8 then some (NestedKey.tup ks) else none) = some k := h
  cases e : dC xs with
  | none => rw [e] at h; cases h
  | some ks =>
    rw [e] at h
    simp only [Option.bind_some] at h
    split at h
    · cases h
      exact ⟨by simp [kOf, e], by assumption, xs, rfl⟩
    · cases h
section
variable {K : PySem.W.Frag} {H : Hp} {av : Av} {Γ : Wc}
mutual
theorem k9 : ∀ (d : D) (v : V) (k : NestedKey), Rep K H av Γ v d → kOf d = some k → NkV K H nav k v
  | .non, v, k, h, e => by cases h; cases e; exact .none
  | .bl b, v, k, h, e => by cases h; cases e; exact .bool b
  | .int i, v, k, h, e => by cases h; cases e; exact .int i
  | .str x, v, k, h, e => by cases h; cases e; exact .text x
  | .tup xs, v, k, h, e => by
    cases h with
    | @tup a vs ds t r =>
      simp only [kOf, Option.map_eq_some_iff] at e
      obtain ⟨ks, e1, rfl⟩ := e
      refine .tup ?_ (pO xs vs ks r e1)
      rcases t with ⟨_, t⟩ | t
      · exact .inl ⟨id, t⟩
      · exact .inr t
  | .lst _, _, _, _, e => by simp [kOf] at e
  | .dic _ _, _, _, _, e => by simp [kOf] at e
  | .obj _ _ _, _, _, _, e => by simp [kOf] at e
  | .exc _ _ _, _, _, _, e => by simp [kOf] at e
  | .drw, _, _, _, e => by simp [kOf] at e
  | .mob _, _, _, _, e => by simp [kOf] at e
  | .kdc _ _, _, _, _, e => by simp [kOf] at e
theorem pO : ∀ (ds : List D) (vs : List V) (ks : List NestedKey), ah K H av Γ vs ds → dC ds = some ks → d9 K H nav ks vs
  | [], _, _, h, e => by cases h; cases e; exact .nil
  | d :: ds, _, _, h, e => by
    cases h with
    | cons r rs =>
      simp only [dC, Option.bind_eq_some_iff, Option.map_eq_some_iff] at e
      obtain ⟨k, e1, ks, e2, rfl⟩ := e
      exact .cons (k9 d _ k r e1) (pO ds _ ks rs e2)
end
theorem dh {a : D} {ks : List D} {es : List NestedKey} (h : dC (a :: ks) = some es) : ∃ k l, es = k :: l ∧ kOf a = some k ∧ dC ks = some l := by
  simp only [dC, Option.bind_eq_some_iff, Option.map_eq_some_iff] at h
  obtain ⟨k, e1, l, e2, rfl⟩ := h
  exact ⟨k, l, rfl, e1, e2⟩
theorem gY {es : List NestedKey} (h : dC [] = some es) : es = [] := by
  cases h
  rfl
theorem keysOk : ∀ {es : List Ent} {ks : List D}, ah K H av Γ (es.map fun p => V.ref p.2.1) ks → dC ks = some (es.map (·.1)) → (∀ p ∈ es, p.1.depth ≤ 8) → dO K H nav es
  | [], _, _, _, _ => fun p hp => by cases hp
  | q :: es, ks, r, e, dp => by
    cases r with
    | @cons _ _ kd ks r rs =>
      obtain ⟨k, l, e1, e2, e3⟩ := dh e
      simp only [List.map_cons, List.cons.injEq] at e1
      obtain ⟨e1, rfl⟩ := e1
      intro p hp
      rcases List.mem_cons.mp hp with rfl | hp
      · exact ⟨e1 ▸ k9 kd _ k r e2, dp _ (by simp)⟩
      · exact keysOk rs e3 (fun z hz => dp z (List.mem_cons_of_mem _ hz)) p hp
theorem jz {k : NestedKey} : ∀ {es : List Ent} {ks ds : List D}, dC ks = some (es.map (·.1)) → ah K H av Γ (es.map (·.2.2)) ds →
    (ft es k = none ∧ gx ks ds k = none) ∨ ∃ v d, ft es k = some v ∧ gx ks ds k = some d ∧ Rep K H av Γ v d
  | [], ks, ds, e, r => by
    cases r
    cases ks with
    | nil => exact .inl ⟨rfl, rfl⟩
    | cons a ks =>
      obtain ⟨k, l, e1, _⟩ := dh e
      cases e1
  | q :: es, ks, ds, e, r => by
    cases r with
    | @cons _ _ d ds r rs =>
      cases ks with
      | nil => cases gY e
      | cons a ks =>
        obtain ⟨k2, l, e1, e2, e3⟩ := dh e
        simp only [List.map_cons, List.cons.injEq] at e1
        obtain ⟨e1, rfl⟩ := e1
        by_cases h : q.1 = k
        · exact .inr ⟨q.2.2, d, by simp [ft, h], by simp [gx, e2, ← e1, h], r⟩
        · have h1 : ft (q :: es) k = ft es k := by simp [ft, h]
          have h2 : gx (a :: ks) (d :: ds) k = gx ks ds k := by
            rw [gx, if_neg (by rw [e2, ← e1]; simpa using h)]
          rw [h1, h2]
          exact jz e3 rs
theorem mL {k : NestedKey} {v : V} {x : D} (rx : Rep K H av Γ v x) : ∀ {es : List Ent} {ks ds : List D}, dC ks = some (es.map (·.1)) → ah K H av Γ (es.map (·.2.2)) ds →
    ah K H av Γ ((es.map fun q => if q.1 = k then (q.1, q.2.1, v) else q).map (·.2.2)) (jy ks ds k x)
  | [], ks, ds, e, r => by
    cases r
    cases ks with
    | nil => exact .nil
    | cons a ks =>
      obtain ⟨k, l, e1, _⟩ := dh e
      cases e1
  | q :: es, ks, ds, e, r => by
    cases r with
    | @cons _ _ d ds r rs =>
      cases ks with
      | nil => cases gY e
      | cons a ks =>
        obtain ⟨k2, l, e1, e2, e3⟩ := dh e
        simp only [List.map_cons, List.cons.injEq] at e1
        obtain ⟨e1, rfl⟩ := e1
        have ih := mL (k := k) rx e3 rs
        by_cases h : q.1 = k
        · have h2 : jy (a :: ks) (d :: ds) k x = x :: jy ks ds k x := by rw [jy, if_pos (by rw [e2, ← e1, h])]
          rw [h2]
          simp only [List.map_cons, h, if_true]
          exact .cons rx ih
        · have h2 : jy (a :: ks) (d :: ds) k x = d :: jy ks ds k x := by rw [jy, if_neg (by rw [e2, ← e1]; simpa using h)]
          rw [h2]
          simp only [List.map_cons, h, if_false]
          exact .cons r ih
theorem kj {d : D} {k : NestedKey} (hk : kOf d = some k) : ∀ {ks : List D} {es : List NestedKey}, dC ks = some es → dC (ks ++ [d]) = some (es ++ [k])
  | [], es, e => by
    cases gY e
    simp [dC, hk]
  | a :: ks, es, e => by
    obtain ⟨k2, l, rfl, e2, e3⟩ := dh e
    simp [dC, e2, kj hk e3]
/-- the dict of these keys and things, its entries -/
def KD (K : PySem.W.Frag) (H : Hp) (av : Av) (Γ : Wc) (es : List Ent) (ks ds : List D) : Prop := dC ks = some (es.map (·.1)) ∧ (∀ q ∈ es, q.1.depth ≤ 8) ∧ ah K H av Γ (es.map fun q => V.ref q.2.1) ks ∧ ah K H av Γ (es.map (·.2.2)) ds
theorem KD.nil : KD K H av Γ [] [] [] := ⟨rfl, (fun _ h => by cases h), ah.nil, ah.nil⟩
theorem KD.ok {es : List Ent} {ks ds : List D} (h : KD K H av Γ es ks ds) : dO K H nav es := keysOk h.2.2.1 h.1 h.2.1
theorem KD.get {es : List Ent} {ks ds : List D} (h : KD K H av Γ es ks ds) (k : NestedKey) : (ft es k = none ∧ gx ks ds k = none) ∨ ∃ v d, ft es k = some v ∧ gx ks ds k = some d ∧ Rep K H av Γ v d := jz h.1 h.2.2.2
theorem KD.put {es : List Ent} {ks ds : List D} (h : KD K H av Γ es ks ds) {b : Addr} {y x : D} {k : NestedKey} {v : V} (ry : Rep K H av Γ (.ref b) y) (hk : kOf y = some k) (dp : k.depth ≤ 8) (rx : Rep K H av Γ v x) :
    KD K H av Γ (gq es k b v) (k8 ks ds y k x).1 (k8 ks ds y k x).2 := by
  obtain ⟨h1, h2, h3, h4⟩ := h
  unfold gq k8
  rcases jz (k := k) h1 h4 with ⟨e1, e2⟩ | ⟨w, d, e1, e2, _⟩
  · rw [e1, e2]
    simp only [Option.isSome_none, Bool.false_eq_true, if_false]
    refine ⟨?_, fun q hq => ?_, ?_, ?_⟩
    · rw [List.map_append]
      exact kj hk h1
    · rcases List.mem_append.mp hq with hq | hq
      · exact h2 q hq
      · rw [List.mem_singleton.mp hq]
        exact dp
    · rw [List.map_append]
      exact h3.snoc ry
    · rw [List.map_append]
      exact h4.snoc rx
  · rw [e1, e2]
    simp only [Option.isSome_some, if_true]
    have m1 : ∀ l : List Ent, (l.map fun q => if q.1 = k then (q.1, q.2.1, v) else q).map (·.1) = l.map (·.1) := fun l => by
      rw [List.map_map]
      refine List.map_congr_left fun q _ => ?_
      simp only [Function.comp]
      split <;> rfl
    have m2 : ∀ l : List Ent, (l.map fun q => if q.1 = k then (q.1, q.2.1, v) else q).map (fun q => V.ref q.2.1) = l.map fun q => V.ref q.2.1 := fun l => by
      rw [List.map_map]
      refine List.map_congr_left fun q _ => ?_
      simp only [Function.comp]
      split <;> rfl
    refine ⟨by rw [m1]; exact h1, fun q hq => ?_, by rw [m2]; exact h3, mL rx h1 h4⟩
    obtain ⟨p, hp, rfl⟩ := List.mem_map.mp hq
    split
    · exact h2 p hp
    · exact h2 p hp
theorem KD.kp {H' : Hp} {es : List Ent} {ks ds : List D} (h : KD K H av Γ es ks ds) (k : Kp av H H') : KD K H' av Γ es ks ds := ⟨h.1, h.2.1, h.2.2.1.kp k, h.2.2.2.kp k⟩
theorem KD.wd {av2 : Av} {es : List Ent} {ks ds : List D} (h : KD K H av Γ es ks ds) (f : ∀ a, av2 a → av a ∨ H a = none) : KD K H av2 Γ es ks ds := ⟨h.1, h.2.1, h.2.2.1.wd f, h.2.2.2.wd f⟩
theorem KD.len {es : List Ent} {ks ds : List D} (h : KD K H av Γ es ks ds) : es.length = ks.length := by
  have := h.2.2.1.len
  simpa using this
theorem Rep.pP {v : V} {xs : List D} (h : Rep K H av Γ v (.tup xs)) : ∃ b, v = .ref b := by
  cases h
  exact ⟨_, rfl⟩
end
end DM
set_option Elab.async false
set_option linter.all false
set_option maxRecDepth 100000
set_option maxHeartbeats 2000000
namespace DM
open PySem PySem.Spec PyProof.Rows L2 Lay NdefX LamX GD XK
def qF {α γ : Type} (C : Cc) (W : WX) (R : RG α γ) (E0 : Hp) (ae : Av) (os : List Addr) (σ : L2.St) (ρ : En) (H : Hp) (s' : DS) (Q : γ → Hp → Prop) : Except Xn α → Prop
  | .ok a => ∀ v H', Go C.Γ H H' → Ok C E0 ae os σ ρ s' H' → R H' (avO ae os) v a → Q v H'
  | .error x => ∀ cls dd H', Go C.Γ H H' → Ok C E0 ae os σ ρ s' H' → ee C H' (avO ae os) x cls dd → W cls dd σ H'
theorem qF.go {α γ : Type} {C : Cc} {W : WX} {R : RG α γ} {E0 : Hp} {ae : Av} {os : List Addr} {σ : L2.St} {ρ : En} {H H1 : Hp} {s' : DS} {Q : γ → Hp → Prop} {r : Except Xn α} (h : qF C W R E0 ae os σ ρ H s' Q r) (g : Go C.Γ H H1) : qF C W R E0 ae os σ ρ H1 s' Q r := by
  cases r with
  | ok a => exact fun v H' g' d r => h v H' (g.trans g') d r
  | error x => exact fun c d H' g' w r => h c d H' (g.trans g') w r
def SL {α γ : Type} (C : Cc) (W : WX) (R : RG α γ) (t : TG' γ) (m : En → M α) : Prop := ∀ E0 ae os σ ρ s H r s' (Q : γ → Hp → Prop), Ok C E0 ae os σ ρ s H → m ρ s = some (r, s') → qF C W R E0 ae os σ ρ H s' Q r → t σ H Q
section
variable {C : Cc} {W : WX} {fr : Bool} {α β γ δ : Type} {R : RG α γ} {R' : RG β δ} {t : TG' γ} {m : En → M α}
theorem SG.sl (h : SG C W R t m) : SL C W R t m := fun E0 ae os σ ρ s H r s' Q o e q => h _ σ ρ s H r s' Q o.toE e (by
  cases r with
  | ok a => exact fun v H' g w r => q v H' g (o.step g w) r
  | error x => exact fun c d H' g w r => q c d H' g (o.step g w) r)
theorem SL.bind {E0 : Hp} {ae : Av} {os : List Addr} {σ : L2.St} {ρ : En} {s s' : DS} {H : Hp} {r : Except Xn β} {f : α → DS → Option (Except Xn β × DS)} {Q : γ → Hp → Prop} {Q' : δ → Hp → Prop} (h : SL C W R t m) (o : Ok C E0 ae os σ ρ s H) (e : bx (m ρ s) f = some (r, s')) (q : qF C W R' E0 ae os σ ρ H s' Q' r)
    (k : ∀ a s1 v H1, Go C.Γ H H1 → Ok C E0 ae os σ ρ s1 H1 → R H1 (avO ae os) v a → f a s1 = some (r, s') → qF C W R' E0 ae os σ ρ H1 s' Q' r → Q v H1) : t σ H Q := by
  cases z : m ρ s with
  | none => rw [z] at e; cases e
  | some p =>
    obtain ⟨a, s1⟩ := p
    rw [z] at e
    cases a with
    | error x =>
      cases e
      exact h E0 ae os σ ρ s H _ _ Q o z fun c dd H' g w rx => q c dd H' g w rx
    | ok a => exact h E0 ae os σ ρ s H _ _ Q o z fun v H1 g w rv => k a s1 v H1 g w rv e (q.go g)
theorem SL.dJ {E0 : Hp} {ae : Av} {De : Ends} {os : List Addr} {σ : L2.St} {ρ : En} {s s' : DS} {H : Hp} {r : Res} {f : α → DS → Option (Res × DS)} {Q : γ → Hp → Prop} (h : SL C W R t m) (o : Ok C E0 ae os σ ρ s H) (e : bs ρ (m ρ s) f = some (r, s')) (p : iV C W fr E0 ae De os H r s')
    (k : ∀ a s1 v H1, Go C.Γ H H1 → Ok C E0 ae os σ ρ s1 H1 → R H1 (avO ae os) v a → f a s1 = some (r, s') → iV C W fr E0 ae De os H1 r s' → Q v H1) : t σ H Q := by
  cases z : m ρ s with
  | none => rw [z] at e; cases e
  | some pr =>
    obtain ⟨a, s1⟩ := pr
    rw [z] at e
    cases a with
    | error x =>
      cases e
      exact h _ _ _ σ ρ s H _ _ Q o z fun c dd H' g w rx => p os σ H' c dd w (g.fr o.ad) rx
    | ok a => exact h _ _ _ σ ρ s H _ _ Q o z fun v H1 g w rv => k a s1 v H1 g w rv e (p.fr (g.fr o.ad))
end
def sY : En → M D := fun _ s => some (.ok (.kdc [] []), s)
/-- X[y] or d of a dict of one's own -/
def km (i : Nat) (mk md : En → M D) : En → M D := fun ρ s => match ρ[i]? with
  | some (Sl.own (.kdc ks ds)) => bx (mk ρ s) fun y s1 => bx (md ρ s1) fun z s2 => ox ((qE y).map fun k => (gx ks ds k).getD z) s2
  | _ => none
def jA (i : Nat) (mk mv : En → M D) : S := fun ρ s => bs ρ (mv ρ s) fun x s1 => match ρ[i]? with
  | some (Sl.own (.kdc ks ds)) => bs ρ (mk ρ s1) fun y s2 => match qE y with
    | some k => if ks.length < line then some (.nx (ρ.set i (.own (.kdc (k8 ks ds y k x).1 (k8 ks ds y k x).2))), s2) else none
    | none => none
  | _ => none
section
variable {C : Cc} {W : WX} {fr : Bool} {ta tb tk td tv te : TE} {ma mb mk md mv me : En → M D} {c : TT} {mc : En → M Bool} {t u : TS} {m n : S}
theorem ve : SF C W (wx C.Γ.wd) sY := by
  intro av σ ρ s H r s' Q o e q
  cases e
  intro p hp
  refine q p _ (.new hp) ((o.wo.wd fun a z => ?_).new hp) hp ⟨[], upd_same, KD.nil⟩
  rcases z with z | z
  · exact .inl z
  · rw [List.mem_singleton] at z
    exact .inr (z ▸ hp)
theorem mM {n : Nat} (h : n < line) : n ≤ 100000 := Nat.le_of_lt h
theorem vf {i : Nat} (hk : SE C W tk mk) (hd : SE C W td md) : SL C W (rV C) (sV C.K C.Γ.wd (tVar i) tk td) (km i mk md) := by
  intro E0 ae os σ ρ s H r s' Q o e q
  unfold km at e
  split at e
  · rename_i ks ds hi
    obtain ⟨p, h1, h2, es, h3, h4⟩ := o.own i _ hi
    refine ⟨_, h1, p, es, rfl, h3, ?_⟩
    refine hk.sl.bind o e q fun y s1 v H1 g1 o1 r1 e q => ?_
    refine hd.sl.bind o1 e q fun z s2 w H2 g2 o2 r2 e q => ?_
    obtain ⟨a, e3, rfl, rfl⟩ := aL e
    obtain ⟨k, e4, rfl⟩ := Option.map_eq_some_iff.mp e3
    obtain ⟨e5, dp, xs, rfl⟩ := ki e4
    obtain ⟨b, rfl⟩ := Rep.pP r1
    obtain ⟨p', h1', h2', es', h3', h4'⟩ := o2.own i _ hi
    rw [h1] at h1'
    cases h1'
    have r1' := Rep.kp r1 (g2.kp.ch o1.toE.ad)
    refine ⟨es', b, k, ⟨h3', KD.ok h4'⟩, ⟨rfl, k9 _ _ _ r1' e5, dp⟩, q _ H2 .refl o2 ?_⟩
    rcases KD.get h4' k with ⟨e6, e7⟩ | ⟨v, d, e6, e7, rv⟩
    · rw [e6, e7]
      exact r2
    · rw [e6, e7]
      exact rv
  · cases e
theorem y5 {r : R2} {f : D → D → Option D} (hr : OpS C r f) (ha : SL C W (rV C) ta ma) (hb : SE C W tb mb) : SL C W (rV C) (tOp r ta tb) (eOp f ma mb) := by
  intro E0 ae os σ ρ s H r' s' Q o e q
  refine ha.bind o e q fun x s1 v H1 g1 o1 r1 e q => ?_
  refine hb.sl.bind o1 e q fun y s2 w H2 g2 o2 r2 e q => ?_
  obtain ⟨z, e3, rfl, rfl⟩ := aL e
  exact hr _ _ H2 v w x y _ Q o2.toE.at_ (Rep.kp r1 (g2.kp.ch o1.toE.ad)) r2 e3 fun v H' g w r => q v H' g (o2.step g w) r
theorem vg {i : Nat} (hk : SE C W tk mk) (hv : SL C W (rV C) tv mv) : SS C W fr (wy C.K C.Γ.wd (tVar i) tk tv) (jA i mk mv) := by
  intro E0 ae os σ ρ s H r s' De o e p
  refine hv.dJ o e p fun x s1 v H1 g1 o1 r1 e p => ?_
  split at e
  · rename_i ks ds hd
    obtain ⟨q, h1, h2, es, h3, h4⟩ := o1.own i _ hd
    refine ⟨.ref q, h1, ?_⟩
    refine hk.dJ o1 e p fun y s2 w H2 g2 o2 r2 e p => ?_
    split at e
    · rename_i k hk2
      split at e
      · rename_i hl
        cases e
        obtain ⟨e5, dp, xs, rfl⟩ := ki hk2
        obtain ⟨b, rfl⟩ := Rep.pP r2
        obtain ⟨q', h1', h2', es', h3', h4'⟩ := o2.own i _ hd
        rw [h1] at h1'
        cases h1'
        have r1' := Rep.kp r1 (g2.kp.ch o1.toE.ad)
        refine ⟨q, es', b, k, rfl, ⟨h3', KD.ok h4'⟩, ⟨rfl, k9 _ _ _ r2 e5, dp⟩, mM (by rw [KD.len h4']; exact hl), ?_⟩
        have h5 := (KD.put h4' r2 e5 dp r1').kp (H' := upd H2 q (KxO C.Γ.wd q (gq es' k b v))) (.upd (.inr h2))
        exact p os σ _ (o2.chg hd h1 ⟨_, upd_same, h5⟩) ⟨.upd (.inr h2), fun _ z => .inl z, .upd⟩
      · cases e
    · cases e
  · cases e
end
end DM
set_option Elab.async false
set_option linter.all false
set_option maxRecDepth 100000
set_option maxHeartbeats 2000000
namespace DM
open PySem PySem.Spec PyProof.Rows L2 Lay NdefX LamX GD XK
end DM
set_option Elab.async false
set_option linter.all false
set_option maxRecDepth 100000
set_option maxHeartbeats 2000000
namespace DM
open PySem PySem.Spec PyProof.Rows L2 Lay NdefX LamX GD XK
section
variable {C : Cc} {W : WX} {fr : Bool} {ta : TA} {ms : En → M (List D)} {te : TE} {me : En → M D} {t u : TT} {mt mu : En → M Bool}
/-- an own slot's object, as if nothing might change it -/
theorem Ok.look {E0 : Hp} {ae : Av} {os : List Addr} {σ : L2.St} {ρ : En} {s : DS} {H : Hp} {i : Nat} {d : D} (o : Ok C E0 ae os σ ρ s H) (hd : ρ[i]? = some (Sl.own d)) :
    ∃ p, σ[i]? = some (some (.ref p)) ∧ ∃ av : Av, (∀ a, av a → avO ae os a) ∧ At C av s H ∧ Rep C.K H av C.Γ (.ref p) d := by
  obtain ⟨p, h1, h2, h3⟩ := o.own i _ hd
  refine ⟨p, h1, fun a => avO ae os a ∧ a ≠ p, fun a z => z.1, ⟨o.wo.wd fun a z => .inl z.1, fun a z => ⟨.inl (o.ad a z), fun e => o.xq h2 (e ▸ o.ad a z)⟩, fun a z => o.toE.al a z.1, fun a z => o.nc a z.1⟩, ?_⟩
  exact (h3.of (av2 := fun a => avO ae os a ∧ a ≠ p) fun a z => .inl z.1).rep fun z => z.2 rfl
end
end DM
set_option Elab.async false
set_option linter.all false
set_option maxRecDepth 100000
set_option maxHeartbeats 2000000
namespace DM
open PySem PySem.Spec PyProof.Rows L2 Lay NdefX LamX GD XK
mutual
def OD.dat : OD → D
  | .val d => d
  | .lst xs => .lst (OD.gZ xs)
  | .tup xs => .tup (OD.gZ xs)
  | .dic ks xs => .dic ks (OD.gZ xs)
  | .kdc ks xs => .kdc ks (OD.gZ xs)
def OD.gZ : List OD → List D
  | [] => []
  | x :: xs => x.dat :: OD.gZ xs
end
def odV (ds : List D) : List OD := ds.map .val
def eA : D → OD
  | .lst ds => .lst (odV ds)
  | .dic ks ds => .dic ks (odV ds)
  | .kdc ks ds => .kdc ks (odV ds)
  | d => .val d
theorem f7 : ∀ ds : List D, OD.gZ (odV ds) = ds
  | [] => rfl
  | d :: ds => by
    show d :: OD.gZ (odV ds) = d :: ds
    rw [f7 ds]
theorem sZ (d : D) : (eA d).dat = d := by
  cases d <;> first | rfl | simp [eA, OD.dat, f7]
theorem lg : ∀ xs : List OD, OD.gZ xs = xs.map OD.dat
  | [] => rfl
  | x :: xs => by rw [OD.gZ, lg xs, List.map_cons]
theorem lh (ds : List D) : OD.gZ (ds.map eA) = ds := by
  rw [lg, List.map_map]
  conv => rhs; rw [← List.map_id ds]
  exact List.map_congr_left fun d _ => sZ d
theorem tf (xs : List OD) : (OD.gZ xs).length = xs.length := by rw [lg, List.length_map]
section
variable {C : Cc} {H H' : Hp} {av av2 : Av}
theorem g0 : ∀ {ds : List D} {vs : List V}, ah C.K H av C.Γ vs ds → OTs C H av [] vs (odV ds)
  | [], _, .nil => .nil
  | d :: ds, _, .cons a r => by
    have := OTs.cons (S := []) (S' := []) (OT.val a) (g0 r)
    exact this
theorem vh (ds : List D) : (odV ds).length = ds.length := List.length_map _
theorem yf {p : Addr} {d : D} (h : bJ C H av p d) : OT C H av [p] (.ref p) (eA d) := by
  cases d <;> first | exact h.elim | skip
  · obtain ⟨vs, h1, h2⟩ := h
    exact .lst h1 (g0 h2)
  · obtain ⟨vs, h1, h2, h3⟩ := h
    exact .dic h1 (by rw [vh]; exact h2) (g0 h3)
  · obtain ⟨es, h1, h2, h3, h4, h5⟩ := h
    exact .kdc h1 h2 h3 h4 (g0 h5)
mutual
/-- no longer one's own -/
theorem OT.jQ (w : ∀ a, av2 a → av a) : ∀ (o : OD) (S : List Addr) (v : V), (∀ q ∈ S, ¬ av2 q) → OT C H av S v o → Rep C.K H av2 C.Γ v o.dat
  | .val d, _, _, n, h => by
    cases h with
    | val r => exact r.wd fun a z => .inl (w a z)
  | .lst xs, _, _, n, h => by
    cases h with
    | lst s r => exact .lst (n _ List.mem_cons_self) s (OTs.jQ w xs _ _ (fun q hq => n q (List.mem_cons_of_mem _ hq)) r)
  | .tup xs, _, _, n, h => by
    cases h with
    | tup t r => exact .tup (t.wd fun a z => .inl (w a z)) (OTs.jQ w xs _ _ n r)
  | .dic ks xs, _, _, n, h => by
    cases h with
    | dic s l r => exact .dic (n _ List.mem_cons_self) (.inl s) (by rw [tf]; exact l) (OTs.jQ w xs _ _ (fun q hq => n q (List.mem_cons_of_mem _ hq)) r)
  | .kdc ks xs, _, _, n, h => by
    cases h with
    | kdc s k dp rk r => exact .kdc (n _ List.mem_cons_self) s k dp (rk.wd fun a z => .inl (w a z)) (OTs.jQ w xs _ _ (fun q hq => n q (List.mem_cons_of_mem _ hq)) r)
theorem OTs.jQ (w : ∀ a, av2 a → av a) : ∀ (xs : List OD) (S : List Addr) (vs : List V), (∀ q ∈ S, ¬ av2 q) → OTs C H av S vs xs → ah C.K H av2 C.Γ vs (OD.gZ xs)
  | [], _, _, n, h => by
    cases h
    exact .nil
  | x :: xs, _, _, n, h => by
    cases h with
    | cons a r => exact .cons (OT.jQ w x _ _ (fun q hq => n q (List.mem_append_left _ hq)) a) (OTs.jQ w xs _ _ (fun q hq => n q (List.mem_append_right _ hq)) r)
end
theorem OTs.snoc : ∀ {xs : List OD} {S S' : List Addr} {vs : List V} {v : V} {o : OD}, OTs C H av S vs xs → OT C H av S' v o → OTs C H av (S ++ S') (vs ++ [v]) (xs ++ [o])
  | [], _, S', _, v, o, h, a => by
    cases h
    have := OTs.cons a OTs.nil
    rw [List.append_nil] at this
    exact this
  | x :: xs, _, S', _, v, o, h, a => by
    cases h with
    | cons b r =>
      have := OTs.cons b (OTs.snoc r a)
      rw [← List.append_assoc] at this
      exact this
theorem OTs.len : ∀ {xs : List OD} {S : List Addr} {vs : List V}, OTs C H av S vs xs → vs.length = xs.length
  | [], _, _, h => by
    cases h
    rfl
  | x :: xs, _, _, h => by
    cases h with
    | cons a r => simp [OTs.len r]
theorem OTs.kw {xs : List OD} {S : List Addr} {vs : List V} (h : OTs C H av S vs xs) (k : Kp av H H') (w : ∀ a, av2 a → av a ∨ H' a = none) (e : ∀ q ∈ S, ∀ ob, H q = some ob → H' q = some ob) : OTs C H' av2 S vs xs := OTs.gk rfl (fun vs ds r => (r.kp k).wd w) (fun a vs t => (t.kp k).wd w) xs S vs e h
theorem OTs.wk {xs : List OD} {S : List Addr} {vs : List V} (h : OTs C H av S vs xs) (w : ∀ a, av2 a → av a ∨ H a = none) (k : Kp av2 H H') (e : ∀ q ∈ S, ∀ ob, H q = some ob → H' q = some ob) : OTs C H' av2 S vs xs := OTs.gk rfl (fun vs ds r => (r.wd w).kp k) (fun a vs t => (t.wd w).kp k) xs S vs e h
end
/-- expressions that tell a tree of objects of one's own -/
def qG (C : Cc) (W : WX) (g : D → OD) (av : Av) (σ : L2.St) (H : Hp) (s' : DS) (Q : VK) : Except Xn D → Prop
  | .ok d => ∀ v S H', Go C.Γ H H' → Wo C.K C.Γ (avO av S) H' s' → (∀ q ∈ S, H q = none ∧ H' q ≠ none ∧ ∀ c q', H' q ≠ some (CodeO c q')) → S.Nodup → OT C H' (avO av S) S v (g d) → Q v H'
  | .error x => ∀ cls dd H', Go C.Γ H H' → Wo C.K C.Γ av H' s' → ee C H' av x cls dd → W cls dd σ H'
def SR (C : Cc) (W : WX) (g : D → OD) (t : TE) (m : En → M D) : Prop := ∀ av σ ρ s H r s' (Q : VK), OkE C av σ ρ s H → m ρ s = some (r, s') → qG C W g av σ H s' Q r → t σ H Q
theorem qG.go {C : Cc} {W : WX} {g : D → OD} {av : Av} {σ : L2.St} {H H1 : Hp} {s' : DS} {Q : VK} {r : Except Xn D} (h : qG C W g av σ H s' Q r) (g1 : Go C.Γ H H1) : qG C W g av σ H1 s' Q r := by
  cases r with
  | ok a => exact fun v S H' g' d n nd o => h v S H' (g1.trans g') d (fun q hq => ⟨g1.lv.back (n q hq).1, (n q hq).2⟩) nd o
  | error x => exact fun c d H' g' w r => h c d H' (g1.trans g') w r
section
variable {C : Cc} {W : WX} {fr : Bool} {t te : TE} {m me : En → M D}
theorem SF.sr (h : SF C W t m) : SR C W eA t m := by
  intro av σ ρ s H r s' Q o e q
  refine h av σ ρ s H r s' Q o e ?_
  cases r with
  | error x => exact q
  | ok d => exact fun p H' g w n ow => q (.ref p) [p] H' g w (fun q' hq => by
      rw [List.mem_singleton] at hq
      subst hq
      obtain ⟨u, e1, e2⟩ := ow.kJ
      exact ⟨n, by rw [e1]; simp, fun c q' z => e2 c q' (Option.some.inj (e1.symm.trans z))⟩) (by simp) (yf ow)
def odL : D → OD
  | .lst ds => .lst (ds.map eA)
  | d => .val d
theorem SG.bindR {α γ : Type} {R : RG α γ} {t : TG' γ} {m : En → M α} {g : D → OD} {av : Av} {σ : L2.St} {ρ : En} {s s' : DS} {H : Hp} {r : Except Xn D} {f : α → DS → Option (Except Xn D × DS)} {Q : γ → Hp → Prop} {Q' : VK} (h : SG C W R t m) (o : OkE C av σ ρ s H) (e : bx (m ρ s) f = some (r, s')) (q : qG C W g av σ H s' Q' r)
    (k : ∀ a s1 v H1, Go C.Γ H H1 → OkE C av σ ρ s1 H1 → R H1 av v a → f a s1 = some (r, s') → qG C W g av σ H1 s' Q' r → Q v H1) : t σ H Q := by
  cases z : m ρ s with
  | none => rw [z] at e; cases e
  | some p =>
    obtain ⟨a, s1⟩ := p
    rw [z] at e
    cases a with
    | error x =>
      cases e
      exact h av σ ρ s H _ _ Q o z fun c dd H' g w rx => q c dd H' g w rx
    | ok a => exact h av σ ρ s H _ _ Q o z fun v H1 g w rv => k a s1 v H1 g (o.step g w) rv e (q.go g)
theorem ti {tg : Tgt} {wi : TI} {mi : En → M (List D)} {tt : L2.St → TT} {mt : En → M Bool} {te : L2.St → TE} (hi : SI C W wi mi) (ht : ∀ σ0, ST C (Wat W σ0) (tt σ0) mt) (he : ∀ σ0, SR C (Wat W σ0) eA (te σ0) me) : SR C W odL (XC.qo wi (gOf C.K tg) tt te tg.slots) (eLc tg mi mt me) := by
  intro av σ ρ s H rr s' Q o e q
  refine hi.bindR o e q fun ds s1 J H1 g1 o1 it e q => fun A hA => ?_
  obtain ⟨G, Y, w, it⟩ := it
  have nA : ¬ av A := fun z => o1.al A z hA
  have nd : ∀ {a}, C.Γ.ch a → A ≠ a := fun z e => nA (by rw [e]; exact o.ad _ z)
  have ncA : ¬ C.Γ.ch A := fun z => nd z rfl
  let av2 : Av := fun a => av a ∨ a = A
  let HS : List Addr → Hp → Prop := fun S Hc => ∀ q ∈ S, H1 q = none ∧ q ≠ A ∧ Hc q ≠ none ∧ ∀ c q', Hc q ≠ some (CodeO c q')
  let cA : Av := fun a => C.Γ.ch a ∨ a = A
  have nwS : ∀ {S Hc}, HS S Hc → ∀ a, avO av2 S a → av a ∨ H1 a = none := fun h a z => by
    rcases z with (z | z) | z
    · exact .inl z
    · rw [z]; exact .inr hA
    · exact .inr (h a z).1
  have sup : ∀ {S Hc H'}, HS S Hc → Go C.Γ Hc H' → HS S H' ∧ ∀ q ∈ S, ∀ ob, Hc q = some ob → H' q = some ob := fun {S Hc H'} h g => by
    have key : ∀ q ∈ S, ∀ ob, Hc q = some ob → H' q = some ob := fun q hq ob z => g.kp q ob (fun z => o1.al q (o.ad q z) (h q hq).1) z
    refine ⟨fun q hq => ⟨(h q hq).1, (h q hq).2.1, g.lv q (h q hq).2.2.1, fun c q' z => ?_⟩, key⟩
    cases e : Hc q with
    | none => exact (h q hq).2.2.1 e
    | some ob =>
      rw [key q hq ob e] at z
      cases z
      exact (h q hq).2.2.2 _ _ e
  have cs : ∀ {S : List Addr} a, cA a → avO av2 S a := fun a z => .inl (z.elim (fun z => .inl (o.ad a z)) .inr)
  have far : ∀ S Hc, HS S Hc → Kp cA H1 Hc → Lv H1 Hc → Hc A ≠ none → Far av H1 (avO av2 S) Hc := fun S Hc hs k l hc =>
    ⟨nwS hs, fun a z => .inl (.inl z), k.mono cs, fun a z => by
      rcases z with (z | z) | z
      · exact l a (o1.al a z)
      · rw [z]; exact hc
      · exact (hs a z).2.2.1⟩
  have goA : ∀ Hc, Kp cA H1 Hc → Lv H1 Hc → Go C.Γ H1 Hc := fun Hc k l => ⟨fun a ob n h => k a ob (fun z => by
    rcases z with z | z
    · exact n z
    · rw [z, hA] at h
      cases h) h, l⟩
  -- what the whole walk tells
  obtain ⟨R, s2, e2, eR⟩ : ∃ R s2, c8 tg mt me (cJ ρ tg.slots) ds s1 = some (R, s2) ∧ ((∃ x, R = .error x ∧ rr = .error x ∧ s2 = s' ∧ ds.length ≤ line) ∨ ∃ res, R = .ok res ∧ res.length ≤ line ∧ rr = .ok (.lst res) ∧ s2 = s') := by
    unfold lcR at e
    split at e
    · cases e
    · rename_i x s2 h1
      split at e
      · rename_i hl
        cases e
        exact ⟨_, _, h1, .inl ⟨x, rfl, rfl, rfl, hl⟩⟩
      · cases e
    · rename_i res s2 h1
      obtain ⟨z, e3, rfl, rfl⟩ := aL e
      obtain ⟨hl, rfl⟩ := jk e3
      exact ⟨_, _, h1, .inr ⟨res, rfl, hl, rfl, rfl⟩⟩
  refine lc_it w (Pv := fun i Hc => ∃ acc ds0 S si rx, acc.length ≤ i ∧ Kp cA H1 Hc ∧ Lv H1 Hc ∧ Wo C.K C.Γ (avO av2 S) Hc si ∧ Hc A = some (.lst acc) ∧ (HS S Hc ∧ S.Nodup ∧ OTs C Hc (avO av2 S) S acc (ds0.map eA)) ∧ c8 tg mt me (cJ ρ tg.slots) (ds.drop i) si = some (rx, s2) ∧ ((∃ x, R = .error x ∧ rx = .error x) ∨ ∃ r, rx = .ok r ∧ R = .ok (ds0 ++ r))) ?_ ?_ ?_ ?_
  · have hs0 : HS [] (upd H1 A (.lst [])) := fun q hq => by cases hq
    refine ⟨[], [], [], s1, R, Nat.zero_le _, .new hA, .upd, (o1.wo.wd (nwS hs0)).new hA, upd_same, ⟨hs0, List.nodup_nil, .nil⟩, e2, ?_⟩
    rcases eR with ⟨x, h, _⟩ | ⟨res, h, _⟩
    · exact .inl ⟨x, h, h⟩
    · exact .inr ⟨res, h, h⟩
  · rintro i Hc _ ⟨acc, ds0, S, si, r, _, k, l, _, hc, ⟨hS, _, _⟩, _⟩
    exact (it (avO av2 S) Hc (far S Hc hS k l (by rw [hc]; simp))).1
  · rintro i x Hc H' hi' ⟨acc, ds0, S, si, rx0, hai, k, l, dd, hc, ⟨hS, hN, ra⟩, eg, er⟩ y
    have f := far S Hc hS k l (by rw [hc]; simp)
    obtain ⟨hH, d0, hd0, rx⟩ := (it (avO av2 S) Hc f).2 i x H' hi' y
    have hdrop : ds.drop i = d0 :: ds.drop (i + 1) := by
      rw [List.drop_eq_getElem_cons hi']
      rw [List.getElem?_eq_getElem hi'] at hd0
      cases hd0
      rfl
    rw [hdrop] at eg
    unfold c8 at eg
    obtain ⟨ρ1, et, eg⟩ := cO eg
    have step : Go C.Γ Hc H' := by
      rcases hH with rfl | ⟨T, ob, hT, rfl⟩
      · exact .refl
      · exact .new hT
    obtain ⟨hS', kS'⟩ := sup hS step
    have dd' : Wo C.K C.Γ (avO av2 S) H' si := by
      rcases hH with rfl | ⟨T, ob, hT, rfl⟩
      · exact dd
      · exact dd.new hT
    have k' : Kp cA H1 H' := k.trans (step.kp.mono fun a z => .inl z)
    have l' : Lv H1 H' := l.trans step.lv
    have hc' : H' A = some (.lst acc) := step.kp A _ ncA hc
    have f' := far S H' hS' k' l' (by rw [hc']; simp)
    have ad2 : ∀ {S : List Addr} a, C.Γ.ch a → avO av2 S a := fun a z => .inl (.inl (o.ad a z))
    have hs0 : aI C H' (avO av2 S) (L2.wipe σ tg.slots) (cJ ρ tg.slots) := ((aI.wipe o1.sl tg.slots).wd (nwS hS)).kp f'.kp
    -- an error
    have bad : ∀ x' H'' cls dd'', rx0 = .error x' → Kp cA H1 H'' → Lv H1 H'' → Wo C.K C.Γ (avO av2 S) H'' s2 → ee C H'' (avO av2 S) x' cls dd'' → W cls dd'' σ H'' := by
      intro x' H'' cls dd'' h1 k2 l2 w2 r2
      rcases er with ⟨x2, h2, h3⟩ | ⟨r, h2, _⟩
      · rw [h1] at h3
        cases h3
        rcases eR with ⟨x3, h4, rfl, rfl, _⟩ | ⟨res, h4, _⟩
        · rw [h2] at h4
          cases h4
          exact q cls dd'' H'' (goA H'' k2 l2) (w2.wd fun a z => .inl (.inl (.inl z))) (ee.wd r2 fun a z => .inl (.inl (.inl z)))
        · rw [h2] at h4
          cases h4
      · rw [h1] at h2
        cases h2
    refine ja rx (by rw [wipe_length, dD, o.len]) hs0 et fun vs dsv hvl rvs hρ hlen hs => ⟨iy σ tg.slots _, ?_⟩
    have ok : OkE C (avO av2 S) (DM.setM tg.slots (vs.map some) (L2.wipe σ tg.slots)) ρ1 si H' := by
     refine ⟨by rw [eS]; exact hlen, dd', fun a z => ad2 a z, f'.al, fun a z => ?_, hs⟩
     by_cases e : a = A
     · rw [e, hc']
       intro c q z
       cases z
     · by_cases hq : a ∈ S
       · exact (hS' a hq).2.2.2
       have z := (z.resolve_right hq).resolve_right e
       by_cases hh : C.Γ.ch a
       · exact dd'.nc hh
       · cases e1 : H1 a with
         | none => exact absurd e1 (o1.al a z)
         | some u =>
           rw [k' a u (fun z => z.elim hh e) e1, ← e1]
           exact o1.nc a z
    rcases eh eg with ⟨xe, eb, ez⟩ | ⟨b, s3, eb, eg⟩
    · exact ht σ (avO av2 S) _ ρ1 si H' (.error xe) s2 _ ok eb fun cls dd2 H3 g3 w3 r3 => bad xe H3 cls dd2 ez (k'.trans (g3.kp.mono fun a z => .inl z)) (l'.trans g3.lv) w3 r3
    refine ht σ (avO av2 S) _ ρ1 si H' (.ok b) s3 _ ok eb fun b' H3 g3 d3 hb => ?_
    cases hb
    have ok3 := ok.step g3 d3
    have hc3 : H3 A = some (.lst acc) := g3.kp A _ ncA hc'
    obtain ⟨hS3, kS3⟩ := sup hS' g3
    have ra3 : OTs C H3 (avO av2 S) S acc (ds0.map eA) := (ra.kw (step.kp.mono fun a z => ad2 a z) (fun _ z => .inl z) kS').kw (g3.kp.mono fun a z => ad2 a z) (fun _ z => .inl z) kS3
    have k3 : Kp cA H1 H3 := k'.trans (g3.kp.mono fun a z => .inl z)
    cases b with
    | false =>
      rw [if_neg (by simp)] at eg ⊢
      exact ⟨acc, ds0, S, s3, rx0, Nat.le_succ_of_le hai, k3, l'.trans g3.lv, d3, hc3, ⟨hS3, hN, ra3⟩, eg, er⟩
    | true =>
      rw [if_pos rfl] at eg ⊢
      rcases eh eg with ⟨xe, ey, ez⟩ | ⟨yv, s4, ey, eg⟩
      · exact he σ (avO av2 S) _ ρ1 s3 H3 (.error xe) s2 _ ok3 ey fun cls dd2 H4 g4 w4 r4 => bad xe H4 cls dd2 ez (k3.trans (g4.kp.mono fun a z => .inl z)) ((l'.trans g3.lv).trans g4.lv) w4 r4
      refine he σ (avO av2 S) _ ρ1 s3 H3 (.ok yv) s4 _ ok3 ey fun v S2 H4 g4 d4 n4 nd4 r4 => ?_
      obtain ⟨hS4, kS4⟩ := sup hS3 g4
      have l3 : Lv H1 H3 := l'.trans g3.lv
      have av4 : ∀ a, avO av2 (S ++ S2) a ↔ avO (avO av2 S) S2 a := fun a => by
        show (av2 a ∨ a ∈ S ++ S2) ↔ ((av2 a ∨ a ∈ S) ∨ a ∈ S2)
        rw [List.mem_append]
        exact or_assoc.symm
      have hS5 : HS (S ++ S2) H4 := fun q hq => by
        rcases List.mem_append.mp hq with hq | hq
        · exact hS4 q hq
        · refine ⟨l3.back (n4 q hq).1, fun z => ?_, (n4 q hq).2⟩
          have := (n4 q hq).1
          rw [z, hc3] at this
          cases this
      have hN5 : (S ++ S2).Nodup := List.nodup_append.mpr ⟨hN, nd4, fun a ha b hb z => by
        subst z
        exact (hS3 a ha).2.2.1 (n4 a hb).1⟩
      have nA5 : ∀ q ∈ S ++ S2, q ≠ A := fun q hq => (hS5 q hq).2.1
      have hc4 : H4 A = some (.lst acc) := g4.kp A _ ncA hc3
      have nw5 : ∀ a, avO av2 (S ++ S2) a → avO av2 S a ∨ H3 a = none := fun a z => by
        rcases (av4 a).mp z with z | z
        · exact .inl z
        · exact .inr (n4 a z).1
      have ra4 : OTs C H4 (avO av2 (S ++ S2)) S acc (ds0.map eA) := ra3.wk nw5 (g4.kp.mono fun a z => ad2 a z) kS4
      have rv4 : OT C H4 (avO av2 (S ++ S2)) S2 v (eA yv) := r4.kw .refl (fun a z => .inl ((av4 a).mp z)) fun _ _ _ z => z
      have ku : Kp (avO av2 (S ++ S2)) H4 (upd H4 A (.lst (acc ++ [v]))) := .upd (.inl (.inr rfl))
      have ro5 : OTs C H4 (avO av2 (S ++ S2)) (S ++ S2) (acc ++ [v]) ((ds0 ++ [yv]).map eA) := by
        rw [List.map_append]
        exact ra4.snoc rv4
      have key : ∃ rx1, c8 tg mt me (cJ ρ tg.slots) (ds.drop (i + 1)) s4 = some (rx1, s2) ∧ ((∃ x, R = .error x ∧ rx1 = .error x) ∨ ∃ r, rx1 = .ok r ∧ R = .ok ((ds0 ++ [yv]) ++ r)) := by
        rcases eh eg with ⟨xe, h1, h2⟩ | ⟨r', s5, h1, h2⟩
        · refine ⟨_, h1, .inl ?_⟩
          rcases er with ⟨x2, h3, h4⟩ | ⟨r, h3, _⟩
          · rw [h2] at h4
            cases h4
            exact ⟨xe, h3, rfl⟩
          · rw [h2] at h3
            cases h3
        · cases h2
          refine ⟨_, h1, .inr ⟨r', rfl, ?_⟩⟩
          rcases er with ⟨x2, h3, h4⟩ | ⟨r, h3, h4⟩
          · cases h4
          · cases h3
            rw [h4]
            simp
      obtain ⟨rx1, e5, er1⟩ := key
      have hlen4 : acc.length < sizeLine := by
        rcases eR with ⟨x, _, _, _, hl⟩ | ⟨res, hR, hl, _⟩
        · exact Nat.lt_of_le_of_lt hai (Nat.lt_trans hi' (dY hl))
        · rcases er1 with ⟨x, h, _⟩ | ⟨r, _, h⟩
          · rw [hR] at h
            cases h
          · rw [hR] at h
            cases h
            refine dY ?_
            rw [ra4.len, List.length_map]
            simp only [List.length_append, List.length_cons, List.length_nil] at hl
            omega
      refine ⟨acc, hc4, hlen4, acc ++ [v], ds0 ++ [yv], S ++ S2, s4, rx1, by rw [List.length_append]; exact Nat.succ_le_succ hai, (k3.trans (g4.kp.mono fun a z => .inl z)).trans (.upd (.inr rfl)), ((l'.trans g3.lv).trans g4.lv).trans .upd, (d4.wd fun a z => .inl ((av4 a).mp z)).own (.inl (.inr rfl)) ncA hc4 (fun _ _ z => by cases z), upd_same, ⟨fun q hq => ?_, hN5, ro5.kw ku (fun _ z => .inl z) fun q hq ob z => by rw [upd_ne (nA5 q hq)]; exact z⟩, e5, er1⟩
      rw [upd_ne (nA5 q hq)]
      exact hS5 q hq
  · rintro Hc ⟨acc, ds0, S, si, rx0, hai, k, l, dd, hc, ⟨hS, hN, ra⟩, eg, er⟩
    rw [List.drop_length] at eg
    cases eg
    rcases er with ⟨x, _, h⟩ | ⟨r, h, hR⟩
    · cases h
    cases h
    rw [List.append_nil] at hR
    rcases eR with ⟨x, h, _⟩ | ⟨res, h, hl, rfl, rfl⟩
    · rw [hR] at h
      cases h
    rw [hR] at h
    cases h
    have nw2 : ∀ a, avO av (A :: S) a → avO av2 S a := fun a z => by
      rcases z with z | z
      · exact .inl (.inl z)
      · rcases List.mem_cons.mp z with z | z
        · exact .inl (.inr z)
        · exact .inr z
    refine q (.ref A) (A :: S) Hc (goA Hc k l) (dd.wd fun a z => .inl (nw2 a z)) (fun q' hq => ?_) (List.nodup_cons.mpr ⟨fun z => (hS A z).2.1 rfl, hN⟩) (.lst hc (ra.kw .refl (fun a z => .inl (nw2 a z)) fun _ _ _ z => z))
    rcases List.mem_cons.mp hq with rfl | hq
    · exact ⟨hA, by rw [hc]; simp, fun c q'' z => by rw [hc] at z; cases z⟩
    · exact ⟨(hS q' hq).1, (hS q' hq).2.2⟩
end
/-- no tree of one's own -/
def pQ (ρ : En) : Bool := ρ.all fun x => match x with
  | .tre _ => false
  | _ => true
section
variable {C : Cc} {W : WX} {fr : Bool} {t te : TE} {m me : En → M D} {E0 : Hp} {ae : Av} {os : List Addr} {σ : L2.St} {ρ : En} {s s' : DS} {H H1 : Hp}
/-- a slot set to a tree of one's own; no other such -/
theorem Ok.setT {v : V} {S : List Addr} {x : OD} (o : Ok C E0 ae os σ ρ s H1) (g : Go C.Γ H H1) (o0 : Ok C E0 ae os σ ρ s' H) (w1 : Wo C.K C.Γ (avO (avO ae os) S) H1 s) (hS : ∀ q ∈ S, H q = none ∧ H1 q ≠ none ∧ ∀ c q', H1 q ≠ some (CodeO c q')) (hN : S.Nodup) (ho : OT C H1 (avO (avO ae os) S) S v x) (hn : ∀ (j : Nat) (y : OD), ρ[j]? ≠ some (Sl.tre y)) (i : Nat) :
    Ok C E0 ae (os ++ S) (σ.set i (some v)) (ρ.set i (.tre x)) s H1 ∧ Fr ae os H (os ++ S) H1 := by
  have eq : ∀ a, avO ae (os ++ S) a ↔ avO (avO ae os) S a := fun a => by
    show (ae a ∨ a ∈ os ++ S) ↔ ((ae a ∨ a ∈ os) ∨ a ∈ S)
    rw [List.mem_append]
    exact or_assoc.symm
  have nw : ∀ a, avO ae (os ++ S) a → avO ae os a ∨ H a = none := fun a z => by
    rcases (eq a).mp z with z | z
    · exact .inl z
    · exact .inr (hS a z).1
  have k1 : Kp (avO ae (os ++ S)) H H1 := g.kp.mono fun a z => .inl (o.ad a z)
  have np : ∀ {p}, p ∈ os → p ∉ S := fun hp z => (o0.ow _ hp).2 (hS _ z).1
  refine ⟨⟨o.go, by simp [o.len], w1.wd fun a z => .inl ((eq a).mp z), o.ad, o.al, fun q hq => ?_, fun a z => ?_, ?_, fun j e hj => ?_, fun j l e f q hn2 h1 h2 h3 => ?_, ⟨fun j e q h1 h2 => ?_, fun j y h => ?_, fun j l y z h1 h2 => ?_⟩⟩, ⟨g.kp.mono fun a z => .inl (o.ad a z), fun q hq => ?_, g.lv⟩⟩
  · rcases List.mem_append.mp hq with hq | hq
    · exact o.ow q hq
    · exact ⟨o0.go.lv.back (hS q hq).1, (hS q hq).2.1⟩
  · rcases (eq a).mp z with z | z
    · exact o.nc a z
    · exact (hS a z).2.2
  · exact ((o0.sl.wd nw).kp k1).off i (fun _ z => by cases z) (fun _ z => by cases z) (fun _ z => by cases z) fun j hj => List.getElem?_set_ne hj
  · obtain ⟨n, hj⟩ := aO hj (by simp)
    rw [List.getElem?_set_ne n]
    obtain ⟨q, h1, h2, h3⟩ := o0.own j e hj
    exact ⟨q, h1, List.mem_append_left _ h2, h3.move (fun ob z => g.kp q ob (o0.kK h2) z) fun vs ds r => (r.wd nw).kp k1⟩
  · obtain ⟨n1, h1⟩ := aO h1 (by simp)
    obtain ⟨n2, h2⟩ := aO h2 (by simp)
    rw [List.getElem?_set_ne n1] at h3
    rw [List.getElem?_set_ne n2]
    exact o.dis j l e f q hn2 h1 h2 h3
  · obtain ⟨n, h1⟩ := aO h1 (by simp)
    rw [List.getElem?_set_ne n] at h2
    exact o.tx.nws j e q h1 h2
  · by_cases n : i = j
    · subst n
      by_cases hi : i < ρ.length
      · rw [List.getElem?_set_self hi] at h
        cases h
        refine ⟨v, S, List.getElem?_set_self (by rw [o.len]; exact hi), ho.kw .refl (fun a z => .inl ((eq a).mp z)) fun _ _ _ z => z, fun q hq => List.mem_append_right _ hq, hN, fun l e q c1 c2 => ?_⟩
        obtain ⟨n2, c1⟩ := aO c1 (by simp)
        rw [List.getElem?_set_ne n2] at c2
        obtain ⟨q', h1, h2, h3⟩ := o.own l e c1
        rw [c2] at h1
        cases h1
        exact np h2
      · rw [List.getElem?_eq_none (by simpa using hi)] at h
        cases h
    · rw [List.getElem?_set_ne n] at h
      exact absurd h (hn j y)
  · by_cases n1 : i = j
    · by_cases n2 : i = l
      · rw [← n1, ← n2]
      · rw [List.getElem?_set_ne n2] at h2
        exact absurd h2 (hn l z)
    · rw [List.getElem?_set_ne n1] at h1
      exact absurd h1 (hn j y)
  · rcases List.mem_append.mp hq with hq | hq
    · exact .inl hq
    · exact .inr (hS q hq).1
theorem iG (h : pQ ρ = true) (j : Nat) (y : OD) : ρ[j]? ≠ some (Sl.tre y) := fun e => by
  have := List.all_eq_true.mp h _ (List.mem_of_getElem? e)
  cases this
end
end DM
set_option Elab.async false
set_option linter.all false
set_option maxRecDepth 100000
set_option maxHeartbeats 2000000
namespace DM
open PySem PySem.Spec PyProof.Rows L2 Lay NdefX LamX GD XK
mutual
/-- data in which no object that changes stands -/
def nmD : D → Bool
  | .lst xs => g7 xs
  | .tup xs => g7 xs
  | .dic _ xs => g7 xs
  | .obj _ _ xs => g7 xs
  | .exc _ _ xs => g7 xs
  | .kdc ks xs => g7 ks && g7 xs
  | .mob _ => false
  | _ => true
def g7 : List D → Bool
  | [] => true
  | x :: xs => nmD x && g7 xs
end
def Wc.iX (Γ : Wc) : Wc := ⟨Γ.dr, Γ.T, Γ.cl, Γ.fz, [], Γ.wd⟩
def Zw.iX (d : Zw) : Zw := ⟨d.dr, d.fz, []⟩
section
variable {K : PySem.W.Frag} {H : Hp} {av : Av} {Γ : Wc}
mutual
theorem Rep.toN : ∀ (d : D) (v : V), nmD d = true → Rep K H av Γ v d → Rep K H av Γ.iX v d
  | .non, _, _, h => by cases h; exact .non
  | .bl _, _, _, h => by cases h; exact .bl _
  | .int _, _, _, h => by cases h; exact .int _
  | .str _, _, _, h => by cases h; exact .str _
  | .drw, _, _, h => by cases h; exact .drw
  | .mob _, _, e, _ => by cases e
  | .lst ds, _, e, h => by
    cases h with
    | lst n s r => exact .lst n s (ah.toN ds _ e r)
  | .tup ds, _, e, h => by
    cases h with
    | tup t r => exact .tup t (ah.toN ds _ e r)
  | .dic ks ds, _, e, h => by
    cases h with
    | dic n s l r => exact .dic n s l (ah.toN ds _ e r)
  | .obj c ns ds, _, e, h => by
    cases h with
    | obj n q s l r => exact .obj (Γ := Γ.iX) n q s l (ah.toN ds _ e r)
  | .exc c ns ds, _, e, h => by
    cases h with
    | exc n n2 q s s2 l r => exact .exc (Γ := Γ.iX) n n2 q s s2 l (ah.toN ds _ e r)
    | ex0 n q s => exact .ex0 (Γ := Γ.iX) n q s
  | .kdc ks ds, _, e, h => by
    simp only [nmD, Bool.and_eq_true] at e
    cases h with
    | kdc n s k dp rk r => exact .kdc (Γ := Γ.iX) n s k dp (ah.toN ks _ e.1 rk) (ah.toN ds _ e.2 r)
theorem ah.toN : ∀ (ds : List D) (vs : List V), g7 ds = true → ah K H av Γ vs ds → ah K H av Γ.iX vs ds
  | [], _, _, h => by cases h; exact .nil
  | d :: ds, _, e, h => by
    simp only [g7, Bool.and_eq_true] at e
    cases h with
    | cons a r => exact .cons (Rep.toN d _ e.1 a) (ah.toN ds _ e.2 r)
end
end
theorem Wo.toN {K : PySem.W.Frag} {Γ : Wc} {av : Av} {H : Hp} {s : DS} (w : Wo K Γ av H s) : Wo K Γ.iX av H { s with m := [] } :=
  ⟨w.dr, w.tb, by simp [Wc.iX], rfl, fun i a d h1 h2 => by simp at h2⟩
theorem Wo.ofN {K : PySem.W.Frag} {Γ : Wc} {av : Av} {H H' : Hp} {s s' : DS} (w : Wo K Γ av H s) (g : Go Γ.iX H H') (w' : Wo K Γ.iX av H' s') (ad : ∀ a, Γ.ch a → av a) : Wo K Γ av H' { s' with m := s.m } := by
  refine ⟨w'.dr, w'.tb, w.nd, w.ml, fun i a d h1 h2 => ?_⟩
  have m := w.mt i a d h1 h2
  refine m.kp (g.kp.mono fun b z => ad b ?_) ?_
  · rcases z with z | z | z
    · exact .inl z
    · exact .inr (.inl z)
    · cases z
  · cases e1 : H a with
    | none => exact absurd e1 m.ne
    | some ob =>
      refine g.kp a ob (fun z => ?_) e1
      rcases z with z | ⟨p, hp, z⟩ | z
      · have hm : a ∈ Γ.mu := List.mem_of_getElem? h1
        have : Γ.dr ∉ Γ.mu := (List.nodup_cons.mp w.nd).1
        exact this (by rw [← show a = Γ.dr from z]; exact hm)
      · obtain ⟨ps, e2, _⟩ := w.tb p hp
        rw [z] at e2
        exact m.nt ps e2
      · cases z
end DM
set_option Elab.async false
set_option linter.all false
set_option maxRecDepth 100000
set_option maxHeartbeats 2000000
namespace DM
open PySem PySem.Spec PyProof.Rows L2 Lay NdefX LamX GD
theorem yg {k : Nat} {A : Around} (r : Room k A) : A.units + 10 < cLine := by
  have := r.un
  omega
end DM
set_option Elab.async false
set_option linter.all false
set_option maxRecDepth 100000
set_option maxHeartbeats 2000000
namespace DM
open PySem PySem.Spec PyProof.Rows L2 Lay NdefX LamX GD XK
section
variable {ρ ρ' ρ1 ρ2 ρ3 : En} {s : DS} {E : Xn → DS → Prop} {P : D → DS → Prop} {a b e mk mv : En → M D} {ms is : En → M (List D)} {f : D → D → Option D} {R : Res → DS → Prop} {m n : S} {d : D} {ds ks xs : List D} {ii jj hh : Nat} {rf : D → En} {tg : Tgt} {mt : En → M Bool}
instance : Stp (Wp (sY ρ s) E P) (P (.kdc [] []) s) := ⟨fun p => cM p⟩
instance [h : Lk ρ ii (.own (.kdc ks ds))] : Stp (Wp (km ii a b ρ s) E P) (Wp (a ρ s) E fun y s1 => Wp (b ρ s1) E fun z s2 => WO (qE y) fun k => P ((gx ks ds k).getD z) s2) := ⟨fun g => by
  unfold km
  rw [h.eq]
  exact a9 (g.mono fun y s1 g => a9 (g.mono fun z s2 ⟨k, e, q⟩ => eE ⟨_, by rw [e]; rfl, q⟩))⟩
instance {rp : List D × List D → En} [h : Lk ρ ii (.own (.kdc ks ds))] [h2 : ∀ p : List D × List D, kN ρ ii (.own (.kdc p.1 p.2)) (rp p)] : Stp (Wr (jA ii mk mv ρ s) R) (Wp (mv ρ s) (fun x s => R (.er ρ x) s) fun x s1 => Wp (mk ρ s1) (fun x s => R (.er ρ x) s) fun y s2 => WO (qE y) fun k => ks.length < line ∧ R (.nx (rp (k8 ks ds y k x))) s2) := ⟨fun g => by
  unfold jA
  refine eV (g.mono fun x s1 g => ?_)
  rw [h.eq]
  exact eV (g.mono fun y s2 ⟨k, e, hl, q⟩ => ⟨_, s2, by rw [e]; dsimp only; rw [if_pos hl, (h2 (k8 ks ds y k x)).eq], q⟩)⟩
end
end DM
set_option Elab.async false
set_option linter.all false
set_option maxRecDepth 100000
set_option maxHeartbeats 4000000
namespace TX
open PySem L2 Lay DM PyProof.Rows
/-- signs of words and names -/
def smp (c : Nat) : Bool := (decide (48 ≤ c) && decide (c ≤ 57)) || (decide (65 ≤ c) && decide (c ≤ 90)) || decide (c = 95) || (decide (97 ≤ c) && decide (c ≤ 122))
theorem smp_lt {c : Nat} (h : smp c = true) : c < 128 ∧ c ≠ 39 := by
  unfold smp at h
  simp only [Bool.or_eq_true, Bool.and_eq_true, decide_eq_true_eq] at h
  omega
theorem rc_smp : ∀ c < 128, smp c = true → Builtin.Str.reprChar 39 c = [c] := by decide +kernel
mutual
def sk : D → D
  | .int _ => .int 0
  | .bl _ => .int 0
  | .tup xs => .tup (sks xs)
  | d => d
def sks : List D → List D
  | [] => []
  | x :: xs => sk x :: sks xs
end
mutual
/-- tuples of words and numbers -/
def gd : D → Bool
  | .int _ => true
  | .bl _ => true
  | .str x => x.cps.toList.all smp
  | .tup xs => gds xs
  | _ => false
def gds : List D → Bool
  | [] => true
  | x :: xs => gd x && gds xs
end
theorem sext {x y : Str} (h : x.cps = y.cps) : x = y := by
  cases x
  cases y
  cases h
  rfl
def wr (d : D) : List Nat := (shw d).cps.toList
theorem foldl_cat (f : Nat → List Nat) : ∀ (l : List Nat) (acc : Array Nat), (∀ c ∈ l, f c = [c]) → l.foldl (fun out c => out ++ (f c).toArray) acc = acc ++ l.toArray
  | [], acc, _ => by simp
  | c :: l, acc, h => by
    rw [List.foldl_cons, foldl_cat f l _ (fun x hx => h x (List.mem_cons_of_mem _ hx)), h c List.mem_cons_self]
    simp [Array.append_assoc]
theorem wr_str {x : Str} (h : gd (.str x) = true) : wr (.str x) = 39 :: (x.cps.toList ++ [39]) := by
  have h : x.cps.toList.all smp = true := h
  rw [List.all_eq_true] at h
  have q : reprQuote x = 39 := by
    unfold reprQuote
    rw [if_neg]
    simp only [Bool.and_eq_true, not_and]
    intro e
    exact absurd rfl (smp_lt (h 39 (by simpa using e))).2
  show (reprText x).cps.toList = _
  unfold reprText
  rw [q]
  have := foldl_cat (Builtin.Str.reprChar 39) x.cps.toList #[39] fun c hc => rc_smp c (smp_lt (h c hc)).1 (h c hc)
  rw [Array.foldl_toList] at this
  simp [this]
def dgt (c : Nat) : Bool := decide (c = 45) || (decide (48 ≤ c) && decide (c ≤ 57)) || [84, 114, 117, 101, 70, 97, 108, 115].contains c
theorem wr_int {i : Int} : ∀ c ∈ wr (.int i), dgt c = true := fun c hc => by
  have hc : c ∈ ((toString i : String) : Str).cps.toList := hc
  unfold dgt
  simp only [Bool.or_eq_true, Bool.and_eq_true, decide_eq_true_eq]
  refine .inl ?_
  by_cases h : c = 45
  · exact .inl h
  · by_cases h2 : c < 48 ∨ 57 < c
    · exact absurd hc (int_text_free' c ⟨h, h2⟩ i)
    · omega
theorem wr_bl {b : Bool} : ∀ c ∈ wr (.bl b), dgt c = true := by
  have : (wr (.bl b)).all dgt = true := by cases b <;> decide +kernel
  exact List.all_eq_true.mp this
/-- numbers and truths -/
theorem wr_num {d : D} (h : sk d = .int 0) : ∀ c ∈ wr d, dgt c = true := by
  cases d <;> first | (cases h; done) | exact wr_int | exact wr_bl
/-- what stands behind the first one of a tuple -/
def tl : List D → List Nat
  | [] => [41]
  | x :: xs => 44 :: 32 :: (wr x ++ tl xs)
def tb : List D → List Nat
  | [] => [41]
  | [x] => wr x ++ [44, 41]
  | x :: y :: r => wr x ++ tl (y :: r)
theorem wr_join : ∀ (x : D) (xs : List D), (Str.join ", " (jv (x :: xs)) ++ ((")" : String) : Str)).cps.toList = wr x ++ tl xs
  | x, [] => by
    rw [cps_toList_append]
    show (Str.join ", " [shw x]).cps.toList ++ _ = _
    rw [join_one]
    rfl
  | x, y :: r => by
    have ih := wr_join y r
    rw [cps_toList_append] at ih ⊢
    show (Str.join ", " (shw x :: shw y :: jv r)).cps.toList ++ _ = _
    rw [join_cons_cons, cps_toList_append, cps_toList_append, signs_sep]
    have e : (Str.join ", " (shw y :: jv r)).cps.toList ++ (((")" : String) : Str)).cps.toList = wr y ++ tl r := ih
    simp only [List.append_assoc, tl]
    rw [e]
    rfl
theorem wr_tup : ∀ xs : List D, wr (.tup xs) = 40 :: tb xs
  | [] => by show (tupleText (jv [])).cps.toList = _; decide
  | [x] => by
    show (tupleText [shw x]).cps.toList = _
    unfold tupleText
    rw [cps_toList_append, cps_toList_append, join_one, signs_lparen]
    rfl
  | x :: y :: r => by
    have h := wr_join x (y :: r)
    show (tupleText (jv (x :: y :: r))).cps.toList = _
    unfold tupleText
    rw [if_neg (by simp [jv])]
    rw [show ((("(" : String) : Str) ++ Str.join ", " (jv (x :: y :: r)) ++ (((")" : String) : Str))) = (("(" : String) : Str) ++ (Str.join ", " (jv (x :: y :: r)) ++ (((")" : String) : Str))) by
      apply sext
      simp [Str.cps_append, Array.append_assoc]]
    rw [cps_toList_append, h, signs_lparen]
    rfl
def stop (r : List Nat) : Prop := r = [] ∨ ∃ t, r = 41 :: t ∨ r = 44 :: t
theorem cut39 : ∀ {x y r r' : List Nat}, (∀ c ∈ x, c ≠ 39) → (∀ c ∈ y, c ≠ 39) → x ++ 39 :: r = y ++ 39 :: r' → x = y ∧ r = r'
  | [], [], r, r', _, _, h => by simpa using h
  | [], c :: y, r, r', _, hy, h => by
    simp only [List.nil_append, List.cons_append, List.cons.injEq] at h
    exact absurd h.1.symm (hy c List.mem_cons_self)
  | c :: x, [], r, r', hx, _, h => by
    simp only [List.nil_append, List.cons_append, List.cons.injEq] at h
    exact absurd h.1 (hx c List.mem_cons_self)
  | c :: x, e :: y, r, r', hx, hy, h => by
    simp only [List.cons_append, List.cons.injEq] at h
    obtain ⟨a, b⟩ := cut39 (fun c hc => hx c (List.mem_cons_of_mem _ hc)) (fun c hc => hy c (List.mem_cons_of_mem _ hc)) h.2
    exact ⟨by rw [h.1, a], b⟩
theorem stop_nd {r : List Nat} (h : stop r) : ∀ c t, r = c :: t → dgt c = false := by
  rintro c t rfl
  rcases h with h | ⟨u, h | h⟩
  · cases h
  · cases h; rfl
  · cases h; rfl
theorem cutD : ∀ {x y r r' : List Nat}, (∀ c ∈ x, dgt c = true) → (∀ c ∈ y, dgt c = true) → stop r → stop r' → x ++ r = y ++ r' → r = r'
  | [], [], r, r', _, _, _, _, h => h
  | [], c :: y, r, r', _, hy, hr, _, h => by
    have := stop_nd hr c (y ++ r') (by simpa using h)
    rw [hy c List.mem_cons_self] at this
    cases this
  | c :: x, [], r, r', hx, _, _, hr, h => by
    have := stop_nd hr c (x ++ r) (by simpa using h.symm)
    rw [hx c List.mem_cons_self] at this
    cases this
  | c :: x, e :: y, r, r', hx, hy, hr, hr', h => by
    simp only [List.cons_append, List.cons.injEq] at h
    exact cutD (fun c hc => hx c (List.mem_cons_of_mem _ hc)) (fun c hc => hy c (List.mem_cons_of_mem _ hc)) hr hr' h.2
/-- how what is written of one thing begins -/
def fst (d : D) (c : Nat) : Prop := match d with
  | .str _ => c = 39
  | .tup _ => c = 40
  | _ => dgt c = true ∨ c = 41 ∨ c = 44
theorem fst_of {d : D} {r l : List Nat} {c : Nat} (hg : gd d = true) (hr : stop r) (h : wr d ++ r = c :: l) : fst d c := by
  have num : (∀ c ∈ wr d, dgt c = true) → dgt c = true ∨ c = 41 ∨ c = 44 := fun hi => by
    cases hw : wr d with
    | nil =>
      rw [hw] at h
      rcases hr with rfl | ⟨t, rfl | rfl⟩
      · cases h
      · cases h; exact .inr (.inl rfl)
      · cases h; exact .inr (.inr rfl)
    | cons a b =>
      rw [hw] at h hi
      cases h
      exact .inl (hi _ List.mem_cons_self)
  cases d <;> first | (cases hg; done) | exact num wr_int | exact num wr_bl | skip
  · rw [wr_str hg] at h
    cases h
    rfl
  · rw [wr_tup] at h
    cases h
    rfl
theorem stop_tl (xs : List D) (r : List Nat) : stop (tl xs ++ r) := by
  cases xs with
  | nil => exact .inr ⟨r, .inl rfl⟩
  | cons x xs => exact .inr ⟨_, .inr rfl⟩
mutual
theorem same : ∀ (d d' : D) (r r' : List Nat), gd d = true → gd d' = true → stop r → stop r' → wr d ++ r = wr d' ++ r' → sk d = sk d' ∧ r = r'
  | .bl i, d', r, r', h1, h2, hr, hr', e => by
    cases d' with
    | int j => exact ⟨rfl, cutD wr_bl wr_int hr hr' e⟩
    | bl j => exact ⟨rfl, cutD wr_bl wr_bl hr hr' e⟩
    | str y =>
      rw [wr_str h2] at e
      have := fst_of h1 hr e
      rcases this with z | z | z <;> cases z
    | tup ys =>
      rw [wr_tup] at e
      have := fst_of h1 hr e
      rcases this with z | z | z <;> cases z
    | _ => cases h2
  | .int i, d', r, r', h1, h2, hr, hr', e => by
    cases d' with
    | int j => exact ⟨rfl, cutD wr_int wr_int hr hr' e⟩
    | bl j => exact ⟨rfl, cutD wr_int wr_bl hr hr' e⟩
    | str y =>
      rw [wr_str h2] at e
      have := fst_of h1 hr e
      rcases this with z | z | z <;> cases z
    | tup ys =>
      rw [wr_tup] at e
      have := fst_of h1 hr e
      rcases this with z | z | z <;> cases z
    | _ => cases h2
  | .str x, d', r, r', h1, h2, hr, hr', e => by
    cases d' with
    | int j =>
      rw [wr_str h1] at e
      have := fst_of h2 hr' e.symm
      rcases this with z | z | z <;> cases z
    | bl j =>
      rw [wr_str h1] at e
      have := fst_of h2 hr' e.symm
      rcases this with z | z | z <;> cases z
    | str y =>
      rw [wr_str h1, wr_str h2] at e
      have g1 : x.cps.toList.all smp = true := h1
      have g2 : y.cps.toList.all smp = true := h2
      rw [List.all_eq_true] at g1 g2
      simp only [List.cons_append, List.append_assoc, List.cons.injEq, true_and, List.nil_append] at e
      obtain ⟨a, b⟩ := cut39 (fun c hc => (smp_lt (g1 c hc)).2) (fun c hc => (smp_lt (g2 c hc)).2) e
      refine ⟨?_, b⟩
      have : x = y := sext (Array.toList_inj.mp a)
      rw [this]
    | tup ys =>
      rw [wr_str h1, wr_tup] at e
      cases e
    | _ => cases h2
  | .tup xs, d', r, r', h1, h2, hr, hr', e => by
    cases d' with
    | int j =>
      rw [wr_tup] at e
      have := fst_of h2 hr' e.symm
      rcases this with z | z | z <;> cases z
    | bl j =>
      rw [wr_tup] at e
      have := fst_of h2 hr' e.symm
      rcases this with z | z | z <;> cases z
    | str y =>
      rw [wr_str h2, wr_tup] at e
      cases e
    | tup ys =>
      rw [wr_tup, wr_tup] at e
      simp only [List.cons_append, List.cons.injEq, true_and] at e
      obtain ⟨a, b⟩ := sames xs ys r r' h1 h2 e
      exact ⟨by simp only [sk, a], b⟩
    | _ => cases h2
  | .non, _, _, _, h, _, _, _, _ => by cases h
  | .lst _, _, _, _, h, _, _, _, _ => by cases h
  | .dic _ _, _, _, _, h, _, _, _, _ => by cases h
  | .obj _ _ _, _, _, _, h, _, _, _, _ => by cases h
  | .exc _ _ _, _, _, _, h, _, _, _, _ => by cases h
  | .drw, _, _, _, h, _, _, _, _ => by cases h
  | .mob _, _, _, _, h, _, _, _, _ => by cases h
  | .kdc _ _, _, _, _, h, _, _, _, _ => by cases h
theorem sames : ∀ (xs ys : List D) (r r' : List Nat), gds xs = true → gds ys = true → tb xs ++ r = tb ys ++ r' → sks xs = sks ys ∧ r = r'
  | [], ys, r, r', h1, h2, e => by
    cases ys with
    | nil => exact ⟨rfl, by simpa [tb] using e⟩
    | cons y ys =>
      simp only [gds, Bool.and_eq_true] at h2
      cases ys with
      | nil =>
        have e : wr y ++ ([44, 41] ++ r') = 41 :: r := by simpa [tb] using e.symm
        have q := fst_of h2.1 (.inr ⟨_, .inr rfl⟩) e
        cases y <;> first | (cases q; done) | (cases h2.1; done) | skip
        all_goals
          have := cutD (x := []) (fun _ h => by cases h) (wr_num rfl) (r := 41 :: r) (.inr ⟨r, .inl rfl⟩) (.inr ⟨_, .inr rfl⟩) e.symm
          cases this
      | cons z ys =>
        have e : wr y ++ (tl (z :: ys) ++ r') = 41 :: r := by simpa [tb, List.append_assoc] using e.symm
        have q := fst_of h2.1 (stop_tl _ _) e
        cases y <;> first | (cases q; done) | (cases h2.1; done) | skip
        all_goals
          have := cutD (x := []) (fun _ h => by cases h) (wr_num rfl) (r := 41 :: r) (.inr ⟨r, .inl rfl⟩) (stop_tl (z :: ys) r') e.symm
          cases this
  | [x], ys, r, r', h1, h2, e => by
    simp only [gds, Bool.and_eq_true] at h1
    cases ys with
    | nil =>
      have e : wr x ++ ([44, 41] ++ r) = [] ++ (41 :: r') := by simpa [tb] using e
      have q := fst_of h1.1 (.inr ⟨_, .inr rfl⟩) e
      cases x <;> first | (cases q; done) | (cases h1.1; done) | skip
      all_goals
        have := cutD (wr_num rfl) (fun _ h => by cases h) (.inr ⟨_, .inr rfl⟩) (.inr ⟨r', .inl rfl⟩) e
        cases this
    | cons y ys =>
      simp only [gds, Bool.and_eq_true] at h2
      cases ys with
      | nil =>
        obtain ⟨a, b⟩ := same x y ([44, 41] ++ r) ([44, 41] ++ r') h1.1 h2.1 (.inr ⟨_, .inr rfl⟩) (.inr ⟨_, .inr rfl⟩) (by simpa [tb] using e)
        exact ⟨by simp only [sks, a], by simpa using b⟩
      | cons z ys =>
        obtain ⟨a, b⟩ := same x y ([44, 41] ++ r) (tl (z :: ys) ++ r') h1.1 h2.1 (.inr ⟨_, .inr rfl⟩) (stop_tl _ _) (by simpa [tb, List.append_assoc] using e)
        simp [tl] at b
  | x :: y :: xs, ys, r, r', h1, h2, e => by
    simp only [gds, Bool.and_eq_true] at h1
    cases ys with
    | nil =>
      have e : wr x ++ (tl (y :: xs) ++ r) = [] ++ (41 :: r') := by simpa [tb, List.append_assoc] using e
      have q := fst_of h1.1 (stop_tl _ _) e
      cases x <;> first | (cases q; done) | (cases h1.1; done) | skip
      all_goals
        have := cutD (wr_num rfl) (fun _ h => by cases h) (stop_tl (y :: xs) r) (.inr ⟨r', .inl rfl⟩) e
        cases this
    | cons u ys =>
      simp only [gds, Bool.and_eq_true] at h2
      cases ys with
      | nil =>
        obtain ⟨a, b⟩ := same x u (tl (y :: xs) ++ r) ([44, 41] ++ r') h1.1 h2.1 (stop_tl _ _) (.inr ⟨_, .inr rfl⟩) (by simpa [tb, List.append_assoc] using e)
        simp [tl] at b
      | cons z ys =>
        obtain ⟨a, b⟩ := same x u (tl (y :: xs) ++ r) (tl (z :: ys) ++ r') h1.1 h2.1 (stop_tl _ _) (stop_tl _ _) (by simpa [tb, List.append_assoc] using e)
        obtain ⟨c, d⟩ := samet (y :: xs) (z :: ys) r r' (by simpa only [gds, Bool.and_eq_true] using h1.2) h2.2 b
        refine ⟨?_, d⟩
        show sk x :: sks (y :: xs) = sk u :: sks (z :: ys)
        rw [a, c]
theorem samet : ∀ (xs ys : List D) (r r' : List Nat), gds xs = true → gds ys = true → tl xs ++ r = tl ys ++ r' → sks xs = sks ys ∧ r = r'
  | [], [], r, r', _, _, e => ⟨rfl, by simpa [tl] using e⟩
  | [], y :: ys, r, r', _, _, e => by simp [tl] at e
  | x :: xs, [], r, r', _, _, e => by simp [tl] at e
  | x :: xs, y :: ys, r, r', h1, h2, e => by
    simp only [gds, Bool.and_eq_true] at h1 h2
    obtain ⟨a, b⟩ := same x y (tl xs ++ r) (tl ys ++ r') h1.1 h2.1 (stop_tl _ _) (stop_tl _ _) (by simpa [tl, List.append_assoc] using e)
    obtain ⟨c, d⟩ := samet xs ys r r' h1.2 h2.2 b
    exact ⟨by rw [sks, sks, a, c], d⟩
end
/-- at how many places -/
def mt (p : List Nat) : List Nat → Nat
  | [] => 0
  | c :: l => (if p.isPrefixOf (c :: l) then 1 else 0) + mt p l
section
open Builtin Builtin.Str StrLaws
def hit (s sub : Str) (hi free j : Nat) : Bool := decide (free ≤ j) && decide (j + sub.length ≤ hi) && subAt s sub j
end
end TX
set_option Elab.async false
set_option linter.all false
set_option maxRecDepth 100000
set_option maxHeartbeats 2000000
namespace DM
open PySem L2
mutual
theorem dN : ∀ d : D, pl d = true → eqD d d = true
  | .non, _ => rfl
  | .bl b, _ => by simp [eqD]
  | .int b, _ => by simp [eqD]
  | .str b, _ => by simp [eqD]
  | .lst xs, h => by
    simp only [eqD]
    exact iH xs (by simpa [pl] using h)
  | .tup xs, h => by
    simp only [eqD]
    exact iH xs (by simpa [pl] using h)
  | .dic _ _, h => by simp [pl] at h
  | .obj _ _ _, h => by simp [pl] at h
  | .exc _ _ _, h => by simp [pl] at h
  | .drw, h => by simp [pl] at h
  | .mob _, h => by simp [pl] at h
theorem iH : ∀ d : List D, pls d = true → jt d d = true
  | [], _ => rfl
  | x :: xs, h => by
    simp only [pls, Bool.and_eq_true] at h
    simp [jt, dN x h.1, iH xs h.2]
end
end DM
set_option Elab.async false
set_option linter.all false
set_option maxRecDepth 100000
set_option maxHeartbeats 2000000
namespace XK
open PySem PySem.Spec PyProof.Rows L2 DM
end XK
set_option Elab.async false
set_option linter.all false
set_option maxRecDepth 100000
set_option maxHeartbeats 2000000
namespace DM
open PySem PySem.Spec PyProof.Rows L2 Lay NdefX LamX GD XK
section
variable {C : Cc} {E0 : Hp} {ae : Av} {os : List Addr} {σ : L2.St} {ρ : En} {s s' : DS} {H H' : Hp}
/-- the slot of a tree let go; its objects are kept -/
theorem Ok.offT {x : OD} {i : Nat} (o : Ok C E0 ae os σ ρ s H) (hi : ρ[i]? = some (Sl.tre x)) : Ok C E0 ae os σ (ρ.set i .no) s H ∧ pQ (ρ.set i .no) = true := by
  refine ⟨⟨o.go, by simp [o.len], o.wo, o.ad, o.al, o.ow, o.nc, o.sl.off i (fun _ z => by cases z) (fun _ z => by cases z) (fun _ z => by cases z) fun j hj => rfl, fun j e hj => ?_, fun j l e f q hn g1 g2 g3 => ?_, ⟨fun j e q h1 h2 => ?_, fun j y g => ?_, fun j l y z h1 h2 => ?_⟩⟩, ?_⟩
  · exact o.own j e (aO hj (by simp)).2
  · exact o.dis j l e f q hn (aO g1 (by simp)).2 (aO g2 (by simp)).2 g3
  · exact o.tx.nws j e q (aO h1 (by simp)).2 h2
  · obtain ⟨n, g⟩ := aO g (by simp)
    exact absurd (o.tx.tr1 i j x y hi g) n
  · exact absurd (o.tx.tr1 i j x y hi (aO h1 (by simp)).2) (aO h1 (by simp)).1
  · refine List.all_eq_true.mpr fun y hy => ?_
    obtain ⟨j, hj⟩ := List.mem_iff_getElem?.mp hy
    cases y <;> first | rfl | skip
    obtain ⟨n, g⟩ := aO hj (by simp)
    exact absurd (o.tx.tr1 i j x _ hi g) n
/-- an object of one's own changed that stands in no slot -/
theorem Ok.vi {p : Addr} {ob o1 : HO} (o : Ok C E0 ae os σ ρ s H) (hp : p ∈ os) (ho : H p = some o1) (h1 : ∀ c q, o1 ≠ CodeO c q) (hob : ∀ c q, ob ≠ CodeO c q) (hnt : pQ ρ = true)
    (hs : ∀ (j : Nat) (d : D), ρ[j]? = some (Sl.own d) → σ[j]? ≠ some (some (.ref p))) : Ok C E0 ae os σ ρ s (upd H p ob) := by
  have nd := o.kK hp
  have k : Kp (avO ae os) H (upd H p ob) := .upd (.inr hp)
  refine ⟨⟨fun a u n e => ?_, o.go.lv.trans .upd⟩, o.len, o.wo.own (.inr hp) nd ho h1, o.ad, o.al, fun q hq => ⟨(o.ow q hq).1, Lv.upd q (o.ow q hq).2⟩, fun a z => ?_, o.sl.kp k, fun j e hj => ?_, o.dis, ⟨fun j e q h1 h2 => o.tx.nws j e q h1 h2, fun j y h => absurd h (iG hnt j y), fun j l y z h1 h2 => o.tx.tr1 j l y z h1 h2⟩⟩
  · rw [upd_ne (fun z => by rw [z, (o.ow p hp).1] at e; cases e)]
    exact o.go.kp a u n e
  · by_cases e : a = p
    · subst e
      rw [upd_same]
      exact fun c q z => hob c q (Option.some.inj z)
    · rw [upd_ne e]
      exact o.nc a z
  · obtain ⟨q, g1, g2, g3⟩ := o.own j e hj
    have hq : q ≠ p := fun z => hs j e hj (by rw [← z]; exact g1)
    exact ⟨q, g1, g2, g3.move (fun u z => by rw [upd_ne hq]; exact z) fun vs ds r => r.kp k⟩
end
end DM
set_option Elab.async false
set_option linter.all false
set_option maxRecDepth 100000
set_option maxHeartbeats 2000000
namespace DM
open PySem PySem.Spec PyProof.Rows L2 Lay NdefX LamX GD XK
end DM
set_option Elab.async false
set_option linter.all false
set_option maxRecDepth 100000
set_option maxHeartbeats 2000000
namespace XK
open PySem PySem.Calls PyProof.Rows PyProof.V PySem.Spec PySem.W
structure LzG (xs ys : Array Value) (lo : Addr) (h : Heap) (as : List Addr) : Prop where
  rise : as.Pairwise (· < ·)
  above : ∀ a ∈ as, lo < a
  pairs : ∀ (j : Nat) (a : Addr), as[j]? = some a → ∃ x y, xs[j]? = some x ∧ ys[j]? = some y ∧ IsPair h a x y
theorem LzG.there {xs ys : Array Value} {lo : Addr} {h : Heap} {as : List Addr} (g : LzG xs ys lo h as) {a : Addr} (ha : a ∈ as) : a < h.objs.size := by
  obtain ⟨j, hj⟩ := List.mem_iff_getElem?.mp ha
  obtain ⟨_, _, _, _, e⟩ := g.pairs j a hj
  exact Heap.lt_size e
theorem LzG.low {xs ys : Array Value} {lo lo' : Addr} {h : Heap} {as : List Addr} (g : LzG xs ys lo h as) (hl : lo' ≤ lo) : LzG xs ys lo' h as := ⟨g.rise, fun a ha => Nat.lt_of_le_of_lt hl (g.above a ha), g.pairs⟩
/-- the zip at z, i pairs told; S is the list that is filled -/
def yh (z TI TO i1 i2 l1 l2 S : Addr) (xs ys : Array Value) (i : Nat) (h : Heap) : Prop := IsPair h TI (.ref i1) (.ref i2) ∧ h.IsListIter i1 l1 i ∧ h.IsListIter i2 l2 i ∧ h.IsList l1 xs ∧ h.IsList l2 ys ∧
  ((IsZip h z TI TO .none ∧ ∃ a b, IsPair h TO a b) ∨ ∃ T f oT, IsZipHeld h z TI TO T f ∧ h.get? T = some oT ∧ T ≠ z ∧ T ≠ i1 ∧ T ≠ i2 ∧ T ≠ S)
structure LzA (z TI TO i1 i2 l1 l2 S : Addr) : Prop where
  D : ZipApart z TI TO i1 i2 l1 l2
  sz : S ≠ z
  sTI : S ≠ TI
  sTO : S ≠ TO
  s1 : S ≠ i1
  s2 : S ≠ i2
  sl1 : S ≠ l1
  sl2 : S ≠ l2
section
variable {prog : Program} {w : World} {A : Around} {E : Value → Shared → Prop} {s : Shared} {z TI TO i1 i2 l1 l2 S : Addr} {xs ys : Array Value}
theorem yh.frame (a : LzA z TI TO i1 i2 l1 l2 S) {i : Nat} {h h' : Heap} (st : yh z TI TO i1 i2 l1 l2 S xs ys i h) (hk : ∀ b o, b ≠ S → h.get? b = some o → h'.get? b = some o) : yh z TI TO i1 i2 l1 l2 S xs ys i h' := by
  obtain ⟨hTI, h1, h2, hl1, hl2, hz⟩ := st
  refine ⟨hk _ _ (Ne.symm a.sTI) hTI, h1.at fun o e => hk _ o (Ne.symm a.s1) e, h2.at fun o e => hk _ o (Ne.symm a.s2) e, hl1.at fun o e => hk _ o (Ne.symm a.sl1) e, hl2.at fun o e => hk _ o (Ne.symm a.sl2) e, ?_⟩
  rcases hz with ⟨hz, x, y, hTO⟩ | ⟨T, f, oT, hz, hT, r1, r2, r3, r4⟩
  · exact .inl ⟨hk _ _ (Ne.symm a.sz) hz, x, y, hk _ _ (Ne.symm a.sTO) hTO⟩
  · exact .inr ⟨T, f, oT, hk _ _ (Ne.symm a.sz) hz, hk _ _ r4 hT, r1, r2, r3, r4⟩
end
open L2 DM
end XK
namespace DM
open PySem PySem.Spec PyProof.Rows L2 Lay NdefX LamX GD XK
end DM
set_option Elab.async false
set_option linter.all false
set_option maxRecDepth 100000
set_option maxHeartbeats 2000000
namespace DM
open PySem PySem.W PySem.Spec PyProof.Rows L2 Lay NdefX LamX GD XK
end DM
set_option Elab.async false
set_option linter.all false
set_option maxRecDepth 100000
set_option maxHeartbeats 2000000
namespace XK
open PySem PySem.Calls PyProof.Rows PyProof.V PySem.Spec PySem.W L2 DM
section
variable {prog : Program} {w : World} {A : Around} {E : Value → Shared → Prop} {s : Shared}
theorem oy (n : Nat) : Builtin.Slice.sliceAdjust none none (-1) (n : Int) = ((n : Int) - 1, -1) := by
  unfold Builtin.Slice.sliceAdjust
  rfl
theorem oz (n : Nat) : Builtin.Slice.slicePlaces ((n : Int) - 1) (-1) (-1) = n := by
  unfold Builtin.Slice.slicePlaces
  have h1 : ¬ ((-1 : Int) > 0) := by decide
  simp only [h1, if_false]
  split
  · show (((n : Int) - 1 - -1 - 1) / 1 + 1).toNat = n
    rw [Int.ediv_one]
    omega
  · show (0 : Int).toNat = n
    omega
theorem mN {α β : Type} {f g : α → Option β} : ∀ (l : List α), (∀ x ∈ l, f x = g x) → l.filterMap f = l.filterMap g
  | [], _ => rfl
  | x :: l, h => by rw [List.filterMap_cons, List.filterMap_cons, h x (by simp), mN l fun y hy => h y (by simp [hy])]
theorem tj {α : Type} : ∀ (l : List α), (List.range l.length).filterMap (fun m => l[m]?) = l
  | [] => rfl
  | a :: l => by
    rw [List.length_cons, List.range_succ_eq_map, List.filterMap_cons, List.filterMap_map]
    show a :: (List.range l.length).filterMap (fun m => l[m]?) = a :: l
    rw [tj l]
theorem tm (xs : Array Value) : ((List.range xs.size).filterMap fun (m : Nat) => xs[((xs.size : Int) - 1 + (m : Int) * -1).toNat]?).toArray = xs.toList.reverse.toArray := by
  congr 1
  have h := tj xs.toList.reverse
  rw [List.length_reverse, Array.length_toList] at h
  rw [← h]
  refine mN _ fun m hm => ?_
  have hm := List.mem_range.mp hm
  rw [show ((xs.size : Int) - 1 + (m : Int) * -1).toNat = xs.size - 1 - m by omega]
  rw [List.getElem?_reverse (by simpa using hm), Array.getElem?_toList, Array.length_toList]
theorem g8 {t sl : Addr} {items : Array Value} {vl vu vs : Value} {Q : Value → Shared → Prop} (ht : IsTup s.heap t items) (hs : s.heap.IsSliceOf sl vl vu vs) (pl : IsPart vl none) (pu : IsPart vu none) (ps : IsPart vs (some (-1)))
    (h : Q (.ref s.heap.objs.size) { s with heap := s.heap.push { cls := .type "tuple", data := .seq items.toList.reverse.toArray } })
    (hsz : items.size ≤ sizeLine) : wpAny (model prog w) A (getItem (.ref t) (.ref sl)) Q E s := by
  have htake : sizeOk (.seq items.toList.reverse.toArray) := by
    show items.toList.reverse.toArray.size ≤ sizeLine
    simpa using hsz
  obtain ⟨os, hos, hcs, hds⟩ := id hs
  have hTs : s.TypeIs (.ref sl) "slice" := ⟨os, hos, hcs⟩
  unfold getItem
  try with_reducible refine wpAny_holding ?_
  first | refine wpAny_bind (wpAny_pure ?_) | skip
  refine wpAny_bind (wpAny_sequenceKey ht.typeIs (by decide) ?_)
  refine wpAny_bind (wpAny_callSpecial?_slot (name := Str.ofString "__getitem__") ht.typeIs PyProof.Rows.slot_tuple_getitem
    (wpAny_call_entry PyProof.Rows.slot_tuple_getitem ht.typeIs entry_tuple_getitem ?_ (args_tuple_getitem _ _)))
  show wpAny _ _ (Builtin.Tuple.tupleItemsOf (.ref t) >>= _) _ _ s
  refine wpAny_bind (tupleItemsOf_ ht ?_)
  refine wpAny_bind (wpAny_typeOf hTs ?_)
  rw [if_pos (by decide)]
  have sa : ∀ {Q2 : Int × Int × Nat → Shared → Prop} {E2 : Value → Shared → Prop} {A2 : Around}, Q2 ((items.size : Int) - 1, -1, items.size) s → wpAny (model prog w) A2 (Builtin.Slice.sliceApplied (.ref sl) (pure (items.size : Int))) Q2 E2 s := fun {Q2 E2 A2} h => by
    unfold Builtin.Slice.sliceApplied Builtin.Slice.sliceFields
    refine wpAny_bind (wpAny_bind (wpAny_field hos hds (x := vl) rfl (wpAny_bind (wpAny_field hos hds (x := vu) rfl (wpAny_bind (wpAny_field hos hds (x := vs) rfl (wpAny_pure ?_)))))))
    refine wpAny_bind (HT.slicePart_ ps ?_)
    show wpAny _ _ (if ((-1 : Int) == 0) = true then _ else _) _ _ s
    rw [if_neg (by decide)]
    refine wpAny_bind (HT.slicePart_ pl (wpAny_bind (HT.slicePart_ pu (wpAny_bind (wpAny_pure ?_)))))
    show wpAny _ _ (match Builtin.Slice.sliceAdjust none none (-1) (items.size : Int) with | (lo, hi) => pure (lo, (-1 : Int), Builtin.Slice.slicePlaces lo hi (-1))) _ _ s
    rw [oy]
    show wpAny _ _ (pure ((items.size : Int) - 1, (-1 : Int), Builtin.Slice.slicePlaces ((items.size : Int) - 1) (-1) (-1))) _ _ s
    rw [oz]
    exact wpAny_pure h
  refine wpAny_bind (sa ?_)
  have hno : ¬ ((((items.size : Int) - 1) == 0 && (-1 : Int) == 1 && items.size == items.size) = true) := by
    intro q
    rw [Bool.and_eq_true, Bool.and_eq_true] at q
    exact absurd q.1.2 (by decide)
  show wpAny _ _ (if (((items.size : Int) - 1) == 0 && (-1 : Int) == 1 && items.size == items.size) = true then _ else _) _ _ s
  rw [if_neg hno, tm]
  first
    | exact wpAny_bind (m := Builtin.Tuple.tupleExact _) (wpAny_newObj_type (wpAny_pure ⟨_, rfl, wpAny_pure h⟩) htake)
    | exact wpAny_bind (m := Builtin.Tuple.tupleExact _) (wpAny_newObj_type (wpAny_bind (wpAny_pure (wpAny_pure ⟨_, rfl, wpAny_pure h⟩))) htake)
    | exact wpAny_bind (wpAny_bind (m := Builtin.Tuple.tupleExact _) (wpAny_newObj_type (wpAny_pure (wpAny_pure ⟨_, rfl, wpAny_pure h⟩)) htake))
    | exact wpAny_bind (wpAny_bind (m := Builtin.Tuple.tupleExact _) (wpAny_newObj_type (wpAny_pure ⟨_, rfl, wpAny_pure h⟩) htake))
end
def wz (K : PySem.W.Frag) (te : TE) : TE := fun σ H Q => te σ H fun x H1 => ∃ a xs, x = .ref a ∧ ((SqL K H1 a xs ∧ ∀ p, H1 p = none → Q (.ref p) (upd H1 p (.lst xs.reverse))) ∨ (SqT K H1 a xs ∧ ∀ p, H1 p = none → Q (.ref p) (upd H1 p (.tup xs.reverse))))
theorem vj {X : Cx} {e : Expr} {te : TE} {k : Nat} {p1 p2 p3 pos : Pos} (he : PE X e te) : PE X (.Subscript e (.Slice none none (some (.UnaryOp .USub (.Constant (.int 1) k p1) p2)) p3) pos) (wz X.K te) := by
  refine ⟨fun pins s σ H Q I h => ?_⟩
  refine Subscript_ (thn (he.run pins s σ H _ I h) fun v s1 ⟨x, H1, I1, r1, q1⟩ => ?_)
  obtain ⟨a, xs, ex, q⟩ := q1
  subst ex
  cases r1
  have hst : PO X (some (.UnaryOp .USub (.Constant (.int 1) k p1) p2)) (tPart (tUn (rU fun i => .int (-i)) (tC (.int 1)))) := po_some (pe_un un_neg pe_int)
  refine wpAny_Slice (thn (po_none.run pins s1 σ H1 (fun o H2 => o = none ∧ H2 = H1) I1 ⟨rfl, rfl⟩) fun vl s2 ⟨l, H2, I2, pl, el, e2⟩ => ?_)
  subst el e2
  refine thn (po_none.run pins s2 σ H2 (fun o H3 => o = none ∧ H3 = H2) I2 ⟨rfl, rfl⟩) fun vu s3 ⟨u, H3, I3, pu, eu, e3⟩ => ?_
  subst eu e3
  refine thn (hst.run pins s3 σ H3 (fun o H4 => o = some (-1) ∧ H4 = H3) I3 ⟨1, rfl, -1, rfl, rfl, rfl⟩) fun vs s4 ⟨o, H4, I4, ps, eo, e4⟩ => ?_
  subst eo e4
  have I5 : Inv X pins σ H4 { s4 with heap := s4.heap.push { cls := .type "slice", data := .fields #[vl, vu, vs] } } := I4.kept (t' := s4.toks) fun b ob q => Heap.get?_push_of_some _ q
  show wpAny (model X.prog X.w) X.A (subscriptTail e (.Slice none none (some (.UnaryOp .USub (.Constant (.int 1) k p1) p2)) p3) (.ref a) (.ref s4.heap.objs.size)) (EP X pins σ Q) X.xe { s4 with heap := s4.heap.push { cls := .type "slice", data := .fields #[vl, vu, vs] } }
  rcases q with ⟨hx, q⟩ | ⟨hx, q⟩
  · obtain ⟨its, r, ht, hz⟩ := I5.list hx
    have hlen := r.length
    refine tail_any (ops := [.ref a, .ref s4.heap.objs.size]) ht.isList.typeIs (PySem.slot_list_getitem.lookup) ?_ (by with_unfolding_all rfl)
    refine wpAny_getItem_list_slice ht.isList (Heap.IsSliceOf.new _ vl vu vs) pl pu ps (by decide) ?_ (by rw [List.size_toArray]; omega)
    rw [PySem.W.krv_pick]
    refine ⟨.ref _, _, I5.laid (t' := s4.toks) (o := .lst xs.reverse) (fun b ob q => Heap.get?_push_of_some _ q) (Nat.le_refl _) ?_, rfl, q _ (I5.hok.fresh (Nat.le_refl _))⟩
    exact ⟨by rw [List.length_reverse]; exact hz, _, 0, r.reverse, Heap.get?_push_size _ rfl⟩
  · obtain ⟨its, r, ht, hz⟩ := I5.tuple hx
    have hlen := r.length
    refine tail_any (ops := [.ref a, .ref s4.heap.objs.size]) ht.typeIs (PyProof.Rows.slot_tuple_getitem.lookup) ?_ (by with_unfolding_all rfl)
    refine g8 ht (Heap.IsSliceOf.new _ vl vu vs) pl pu ps ?_ (by rw [List.size_toArray]; omega)
    refine ⟨.ref _, _, I5.laid (t' := s4.toks) (o := .tup xs.reverse) (fun b ob q => Heap.get?_push_of_some _ q) (Nat.le_refl _) ?_, rfl, q _ (I5.hok.fresh (Nat.le_refl _))⟩
    exact ⟨by rw [List.length_reverse]; exact hz, _, r.reverse, IsTup.new _ _⟩
end XK
namespace DM
open PySem PySem.Spec PyProof.Rows L2 Lay NdefX LamX GD XK
def vk : D → Option D
  | .lst xs => some (.lst xs.reverse)
  | .tup xs => some (.tup xs.reverse)
  | _ => none
section
variable {C : Cc} {W : WX} {te : TE} {me : En → M D}
theorem lj {K : PySem.W.Frag} {H : Hp} {av : Av} {Γ : Wc} : ∀ {vs : List V} {ds : List D}, ah K H av Γ vs ds → ah K H av Γ vs.reverse ds.reverse
  | _, _, .nil => .nil
  | _, _, .cons a r => by
    rw [List.reverse_cons, List.reverse_cons]
    exact (lj r).snoc a
theorem yi (he : SE C W te me) : SE C W (wz C.K te) (eUn vk me) := by
  intro av σ ρ s H r s' Q o e q
  refine he.bind o e q fun x s1 v H1 g1 o1 r1 e q => ?_
  obtain ⟨ds, e3, rfl, rfl⟩ := aL e
  cases x <;> simp [vk] at e3
  · subst e3
    obtain ⟨a, xs, rfl, n1, h1, x1⟩ := r1.b3
    refine ⟨a, xs, rfl, .inl ⟨SqL.of h1, fun p hp => ?_⟩⟩
    have np : ¬ av p := fun z => o1.al p z hp
    exact q (.ref p) _ (.new hp) (o1.wo.new hp) (.lst np upd_same ((lj x1).kp (.new hp)))
  · subst e3
    obtain ⟨a, xs, rfl, h1, x1⟩ := r1.dm
    refine ⟨a, xs, rfl, .inr ⟨h1.sq, fun p hp => ?_⟩⟩
    have np : ¬ av p := fun z => o1.al p z hp
    exact q (.ref p) _ (.new hp) (o1.wo.new hp) (.tup (.inl ⟨np, upd_same⟩) ((lj x1).kp (.new hp)))
end
end DM
namespace DM
open PySem PySem.Spec PyProof.Rows L2 Lay NdefX LamX GD XK
end DM
set_option Elab.async false
set_option linter.all false
set_option maxRecDepth 100000
set_option maxHeartbeats 2000000
namespace DM
open PySem PySem.Spec PyProof.Rows L2 Lay NdefX LamX GD XK
end DM
set_option Elab.async false
set_option linter.all false
set_option maxRecDepth 100000
set_option maxHeartbeats 2000000
namespace DM
open PySem PySem.Spec PyProof.Rows L2 Lay NdefX LamX GD
open PySem.SeqAt AutoSeq1 MeetsSeq MeetsSeq2 MeetsSeq3 SeqRoads2 in
section
/-- somewhere below the running body, with room for calls (n) and turns (j) -/
structure iY (X : Cx) (n j : Nat) (A : Around) : Prop where
  hd : A.handled = none
  dp : A.depth + 3 * n + 5 < recursionLimit
  un : A.units + j + 16 * n + 200 < cLine
  fr : A.frames = X.A.frames
theorem iY.in1 {X : Cx} {n j : Nat} {A : Around} (s : iY X n (j + 1) A) : iY X n j A.in1 := ⟨s.hd, by have := s.dp; show A.depth + 3 * n + 5 < _; omega, by have := s.un; show A.units + 1 + j + 16 * n + 200 < _; omega, s.fr⟩
theorem iY.room {X : Cx} {n j : Nat} {A : Around} (s : iY X n j A) : Room n A := ⟨s.hd, s.dp, by have := s.un; omega⟩
theorem iY.of {X : Cx} {n j : Nat} (r : Room (n + 1) X.A) (h : j ≤ 16) : iY X n j X.A := ⟨r.hd, by have := r.dp; omega, by have := r.un; omega, rfl⟩
abbrev EqR := V → V → Bool → Hp → Prop
/-- == inside a list tells what D says, and leaves all as it is -/
def EqB (X : Cx) (n j : Nat) (D : EqR) : Prop := ∀ (A : Around) (pins : List (Addr × Obj)) (s : Shared) (σ : L2.St) (H : Hp) (x y : V) (u v : Value) (b : Bool) (E : Value → Shared → Prop), iY X n j A → Inv X pins σ H s → RelV x u → RelV y v → D x y b H →
  wpAny (model X.prog X.w) A (eqBool u v) (fun r s' => r = b ∧ Inv X pins σ H s') E s
def opN (op : Bool) : CmpOp := if op = true then .NotEq else .Eq
/-- the rich comparison: op for != -/
def RcB (X : Cx) (n j : Nat) (op : Bool) (D : EqR) : Prop := ∀ (A : Around) (pins : List (Addr × Obj)) (s : Shared) (σ : L2.St) (H : Hp) (x y : V) (u v : Value) (b : Bool) (E : Value → Shared → Prop), iY X n j A → Inv X pins σ H s → RelV x u → RelV y v → D x y b H →
  wpAny (model X.prog X.w) A (richCompare (opN op) u v) (fun r s' => r = .bool (xor op b) ∧ Inv X pins σ H s') E s
/-- item by item -/
structure Itm (D : EqR) (xs ys : List V) (bs : List Bool) (H : Hp) : Prop where
  l1 : xs.length = bs.length
  l2 : ys.length = bs.length
  at_ : ∀ (i : Nat) x y b, xs[i]? = some x → ys[i]? = some y → bs[i]? = some b → D x y b H
def DL (D : EqR) : EqR := fun x y b H => ∃ l m xs ys, x = .ref l ∧ y = .ref m ∧ H l = some (.lst xs) ∧ H m = some (.lst ys) ∧ ((xs.length ≠ ys.length ∧ b = false) ∨ ∃ bs, Itm D xs ys bs H ∧ b = bs.all id)
variable {X : Cx} {n j : Nat} {D : EqR}
theorem EqB.or {D' : EqR} (h : EqB X n j D) (h' : EqB X n j D') : EqB X n j (fun x y b H => D x y b H ∨ D' x y b H) := fun A pins s σ H x y u v b E sb I rx ry d => d.elim (h A pins s σ H x y u v b E sb I rx ry) (h' A pins s σ H x y u v b E sb I rx ry)
def DFl : EqR := fun x y b _ => flatV x = true ∧ flatV y = true ∧ b = eqV x y
theorem mO : EqB X n j DFl := by
  intro A pins s σ H x y u v b E sb I rx ry ⟨fx, fy, e⟩
  subst e
  exact eqAt_V (A := A) (s := s) rx ry fx fy X.prog X.w E _ ⟨rfl, I⟩
theorem mP {l m : Addr} {pins : List (Addr × Obj)} {σ : L2.St} {H : Hp} {xs ys : List V} {bs : List Bool} (hE : EqB X n j D) (hl : H l = some (.lst xs)) (hm : H m = some (.lst ys)) (p : Itm D xs ys bs H) (op : Bool) (c : Int) (hc : (c = 2 ∧ op = false) ∨ (c = 3 ∧ op = true)) (k : Nat) :
    ∀ (i : Nat), bs.length - i = k → i ≤ bs.length → ∀ (A : Around) (R : Result → Shared → Prop) (s : Shared), iY X n (j + 1) A → Inv X pins σ H s → (∀ s', Inv X pins σ H s' → R (.ok (.ret (.bool (xor op ((bs.drop i).all id))))) s') →
      wpAny (model X.prog X.w) A.in1 (Builtin.«list.__eq__.loop» ⟨[.ref l, .ref m, rawInt i, rawInt c], []⟩) (GQ.FinOf X.prog X.w A R) (fun e s' => R (.error e) s') s := by
  induction k with
  | zero =>
    intro i hk hi A R s sb I q
    obtain ⟨its, k1, rv, hl'⟩ := eF I hl
    obtain ⟨its2, k2, rv2, hm'⟩ := eF I hm
    have q := q s I
    have e1 := rv.length
    have e2 := rv2.length
    have p1 := p.l1
    have p2 := p.l2
    have hd : bs.drop i = [] := by simp; omega
    rw [hd] at q
    have hi1 : its.toArray[((i : Nat) : Int).toNat]? = none := by simp; omega
    have hi2 : its2.toArray[((i : Nat) : Int).toNat]? = none := by simp; omega
    have hsz : its.toArray.size = its2.toArray.size := by simp; omega
    obtain ⟨hp, g, d, tk, os⟩ := s
    rcases hc with ⟨rfl, rfl⟩ | ⟨rfl, rfl⟩
    · wp_walk using wpAny_loadPart' hl', wpAny_loadPart' hm'
      rw [hi1, hi2]
      wp_walk using wpAny_loadPart' hl', wpAny_loadPart' hm'
      show R (.ok (.ret (.bool (its.toArray.size == its2.toArray.size)))) _
      rw [hsz]
      simpa using q
    · wp_walk using wpAny_loadPart' hl', wpAny_loadPart' hm'
      rw [hi1, hi2]
      wp_walk using wpAny_loadPart' hl', wpAny_loadPart' hm'
      show R (.ok (.ret (.bool (its.toArray.size != its2.toArray.size)))) _
      rw [hsz]
      simpa using q
  | succ k ih =>
    intro i hk hi A R s sb I q
    obtain ⟨its, k1, rv, hl'⟩ := eF I hl
    obtain ⟨its2, k2, rv2, hm'⟩ := eF I hm
    have e1 := rv.length
    have e2 := rv2.length
    have p1 := p.l1
    have p2 := p.l2
    have hlt : i < bs.length := by omega
    have hx : i < xs.length := by omega
    have hy : i < ys.length := by omega
    have hu : i < its.length := by omega
    have hv : i < its2.length := by omega
    have hi1 : its.toArray[((i : Nat) : Int).toNat]? = some its[i] := by simp [hu]
    have hi2 : its2.toArray[((i : Nat) : Int).toNat]? = some its2[i] := by simp [hv]
    have hcc : ((i : Int) + 1) = ((i + 1 : Nat) : Int) := by omega
    have hd : bs.drop i = bs[i] :: bs.drop (i + 1) := List.drop_eq_getElem_cons hlt
    have rx : RelV xs[i] its[i] := by
      obtain ⟨u, h1, h2⟩ := Vals.get rv (List.getElem?_eq_getElem hx)
      rw [List.getElem?_eq_getElem hu] at h1
      cases h1
      exact h2
    have ry : RelV ys[i] its2[i] := by
      obtain ⟨u, h1, h2⟩ := Vals.get rv2 (List.getElem?_eq_getElem hy)
      rw [List.getElem?_eq_getElem hv] at h1
      cases h1
      exact h2
    have dd := p.at_ i _ _ _ (List.getElem?_eq_getElem hx) (List.getElem?_eq_getElem hy) (List.getElem?_eq_getElem hlt)
    rw [hd, List.all_cons] at q
    have one : ∀ E, wpAny (model X.prog X.w) A.in1 (eqBool its[i] its2[i]) (fun r s' => r = bs[i] ∧ Inv X pins σ H s') E s := fun E => hE A.in1 pins s σ H _ _ _ _ _ E sb.in1 I rx ry dd
    have ih := fun s1 I1 q => ih (i + 1) (by omega) (by omega) A R s1 sb I1 q
    cases hb : bs[i] with
    | true =>
      rw [hb] at q one
      rcases hc with ⟨rfl, rfl⟩ | ⟨rfl, rfl⟩
      all_goals
        obtain ⟨hp, g, d, tk, os⟩ := s
        wp_walk using wpAny_loadPart' hl', wpAny_loadPart' hm'
        rw [hi1, hi2]
        refine wpAny_bind (wpAny_mono (one _) (fun r s2 h2 => ?_) fun _ _ x => x)
        obtain ⟨hr, I2⟩ := h2
        subst hr
        have hrec := ih s2 I2 q
        obtain ⟨hp2, g2, d2, tk2, os2⟩ := s2
        wp_walk
        rw [hcc]
        exact ⟨plainId_quiet plain_eq_loop _, codeAny_builtin entry_eq_loop (by
          rw [Around.under_plainId plain_eq_loop _]
          exact hrec)⟩
    | false =>
      rw [hb] at q one
      rcases hc with ⟨rfl, rfl⟩ | ⟨rfl, rfl⟩
      all_goals
        obtain ⟨hp, g, d, tk, os⟩ := s
        wp_walk using wpAny_loadPart' hl', wpAny_loadPart' hm'
        rw [hi1, hi2]
        refine wpAny_bind (wpAny_mono (one _) (fun r s2 h2 => ?_) fun _ _ x => x)
        obtain ⟨hr, I2⟩ := h2
        subst hr
        have q2 := q s2 I2
        obtain ⟨its3, k3, rv3, hl3⟩ := eF I2 hl
        obtain ⟨its4, k4, rv4, hm3⟩ := eF I2 hm
        have e3 := rv3.length
        have e4 := rv4.length
        have hi3 : its3.toArray[((i : Nat) : Int).toNat]? = some (its3[i]'(by omega)) := by simp
        have hi4 : its4.toArray[((i : Nat) : Int).toNat]? = some (its4[i]'(by omega)) := by simp
        obtain ⟨hp2, g2, d2, tk2, os2⟩ := s2
        wp_walk using wpAny_loadPart' hl3, wpAny_loadPart' hm3
        rw [hi3, hi4]
        wp_walk
        simpa using q2
theorem mQ {op : Bool} (hE : EqB X n j D) : RcB X n (j + 1) op (DL D) := by
  intro A pins s σ H x y u v b E sb I rx ry d
  obtain ⟨l, m, xs, ys, rfl, rfl, hl, hm, d⟩ := d
  cases rx
  cases ry
  obtain ⟨its, k1, rv, hl'⟩ := eF I hl
  obtain ⟨its2, k2, rv2, hm'⟩ := eF I hm
  have e1 := rv.length
  have e2 := rv2.length
  have hl0 := hl'
  have hm0 := hm'
  rcases d with ⟨hne, rfl⟩ | ⟨bs, p, rfl⟩
  · cases op with
    | false => exact SeqAt.RcAt.lists_lengths ⟨_, hl', rfl, _, rfl⟩ ⟨_, hm', rfl, _, rfl⟩ (by simp; omega) sb.room.units0 X.prog X.w _ _ ⟨rfl, I⟩
    | true => exact SeqAt.RcNeAt.lists_lengths ⟨_, hl', rfl, _, rfl⟩ ⟨_, hm', rfl, _, rfl⟩ (by simp; omega) sb.room.units0 X.prog X.w _ _ ⟨rfl, I⟩
  · have p1 := p.l1
    have p2 := p.l2
    have hne : ¬ (its.toArray.size != its2.toArray.size) = true := by simp; omega
    have f3 := AutoSeq1.sub_list_list
    cases op with
    | false =>
      have hrec := mP hE hl hm p false 2 (.inl ⟨rfl, rfl⟩) _ 0 rfl (Nat.zero_le _) A (wants (fun v s' => v ≠ .notImplemented ∧ (v = .bool (xor false (bs.all id)) ∧ Inv X pins σ H s')) E) s sb I fun s' I' => ⟨(fun x => nomatch x), rfl, I'⟩
      refine wpAny_richCompare_same_room (op := .Eq) ⟨_, hl', rfl⟩ ⟨_, hm', rfl⟩ F.slot_list_eq (GQ.call_here F.slot_list_eq ⟨_, hl', rfl⟩ F.entry_list_eq (F.args_list_eq_2 _ _) ?_) sb.room.units0
      obtain ⟨hp, g, d, tk, os⟩ := s
      wp_walk using wpAny_loadPart' hl0, wpAny_loadPart' hm0
      refine wpAny_ite_split (fun z => absurd z hne) fun _ => ?_
      wp_walk
      exact ⟨plainId_quiet plain_eq_loop _, codeAny_builtin entry_eq_loop (by
        rw [Around.under_plainId plain_eq_loop _]
        exact hrec)⟩
    | true =>
      have hrec := mP hE hl hm p true 3 (.inr ⟨rfl, rfl⟩) _ 0 rfl (Nat.zero_le _) A (wants (fun v s' => v ≠ .notImplemented ∧ (v = .bool (xor true (bs.all id)) ∧ Inv X pins σ H s')) E) s sb I fun s' I' => ⟨(fun x => nomatch x), rfl, I'⟩
      refine wpAny_richCompare_same_room (op := .NotEq) ⟨_, hl', rfl⟩ ⟨_, hm', rfl⟩ F.slot_list_ne (GQ.call_here F.slot_list_ne ⟨_, hl', rfl⟩ F.entry_list_ne (F.args_list_ne_2 _ _) ?_) sb.room.units0
      obtain ⟨hp, g, d, tk, os⟩ := s
      wp_walk using wpAny_loadPart' hl0, wpAny_loadPart' hm0
      refine wpAny_ite_split (fun z => absurd z hne) fun _ => ?_
      wp_walk
      exact ⟨plainId_quiet plain_eq_loop _, codeAny_builtin entry_eq_loop (by
        rw [Around.under_plainId plain_eq_loop _]
        exact hrec)⟩
/-- what D says of a thing and itself is yes -/
def Rfl (D : EqR) : Prop := ∀ x b H, D x x b H → b = true
theorem RcB.eqB (h : RcB X n j false D) (hr : ∀ x y b H, D x y b H → ∃ a c, x = .ref a ∧ y = .ref c) (rf : Rfl D) : EqB X n j D := by
  intro A pins s σ H x y u v b E sb I rx ry d
  obtain ⟨a, c, rfl, rfl⟩ := hr _ _ _ _ d
  cases rx
  cases ry
  by_cases hab : a = c
  · subst hab
    have := rf _ _ _ d
    subst this
    exact SeqAt.EqAt.same (A := A) (s := s) (.ref a) X.prog X.w E _ ⟨rfl, I⟩
  · refine GQ.eqBool_refG hab (wpAny_mono (h A pins s σ H (.ref a) (.ref c) _ _ b E sb I rfl rfl d) (fun r s' q => ?_) fun _ _ x => x)
    obtain ⟨rfl, q⟩ := q
    exact ⟨_, rfl, by simp, q⟩
theorem mR (rf : Rfl D) : Rfl (DL D) := by
  intro x b H d
  obtain ⟨l, m, xs, ys, rfl, h, hl, hm, d⟩ := d
  cases h
  rw [hl] at hm
  cases hm
  rcases d with ⟨h, _⟩ | ⟨bs, p, rfl⟩
  · exact absurd rfl h
  · rw [List.all_eq_true]
    intro b hb
    obtain ⟨i, hi⟩ := List.mem_iff_getElem?.mp hb
    have hlt : i < xs.length := by rw [p.l1]; exact (List.getElem?_eq_some_iff.mp hi).1
    exact rf _ _ _ (p.at_ i _ _ b (List.getElem?_eq_getElem hlt) (List.getElem?_eq_getElem hlt) hi)
theorem mS (hE : EqB X n j D) (rf : Rfl D) : EqB X n (j + 1) (DL D) := (mQ hE).eqB (fun _ _ _ _ d => let ⟨l, m, _, _, hx, hy, _⟩ := d; ⟨l, m, hx, hy⟩) (mR rf)
/-- two of a class with one whole number and an own __eq__ -/
def vm (C : Addr) (f : Str) : EqR := fun x y b H => ∃ p q i j, x = .ref p ∧ y = .ref q ∧ iQ C f H p i ∧ iQ C f H q j ∧ b = decide (i = j)
theorem vn {C f : Addr} {fl : Str} {fd : FuncData} {ps : List Str} (F : FnOk X.prog X.w X.K X.mg X.base CX0 n f fd ps (DM.spEq X.K C fl)) (N : my X.K C fl) (hs : PySem.W.findIn X.K (.ref C) "__eq__" = some (some (.ref f))) (hf : PySem.W.isFn X.K (.ref f) = true) (hb : Binds X.K fd ps []) : RcB X n j false (vm C fl) := by
  intro A pins s σ H x y u v b E sb I rx ry d
  obtain ⟨p, q, i, j, rfl, rfl, ⟨dx, hp⟩, ⟨dy, hq⟩, rfl⟩ := d
  cases rx
  cases ry
  obtain ⟨mA, J, _⟩ := ins_get I.hok hp
  obtain ⟨mB, J', _⟩ := ins_get I.hok hq
  obtain ⟨od, J, _⟩ := J.look
  obtain ⟨od', J', _⟩ := J'.look
  obtain ⟨m, hF⟩ := I.fr
  refine PySem.W.cmp_K (op := .Eq) (tb := .ref C) sb.room.units0 hF I.ok.mod.kin J J'.type N.wt hs hf ?_
  have hsp : DM.spEq X.K C fl [.ref p, .ref q] H (fun v H' => v = .bl (decide (i = j)) ∧ H' = H) (fun _ _ _ => False) := ⟨p, i, .ref q, rfl, ⟨dx, hp⟩, .inl ⟨q, j, rfl, ⟨dy, hq⟩, rfl, rfl⟩⟩
  refine wpAny_mono (jw (x := V.ref p) (u := Value.ref p) (y := V.ref q) (v := Value.ref q) F hb sb.room sb.fr I rfl rfl hsp) (fun r s' z => ?_) fun _ _ e => e
  obtain ⟨z1, H', I', rz, rfl, rfl⟩ := z
  cases rz
  exact ⟨by simp, I'⟩
theorem pR {C : Addr} {f : Str} : Rfl (vm C f) := by
  intro x b H d
  obtain ⟨p, q, i, j, rfl, h, ⟨dx, hp⟩, ⟨dy, hq⟩, rfl⟩ := d
  cases h
  rw [hp] at hq
  cases hq
  simp
theorem pS {C f : Addr} {fl : Str} {fd : FuncData} {ps : List Str} (F : FnOk X.prog X.w X.K X.mg X.base CX0 n f fd ps (DM.spEq X.K C fl)) (N : my X.K C fl) (hs : PySem.W.findIn X.K (.ref C) "__eq__" = some (some (.ref f))) (hf : PySem.W.isFn X.K (.ref f) = true) (hb : Binds X.K fd ps []) : EqB X n j (vm C fl) :=
  (vn F N hs hf hb).eqB (fun _ _ _ _ d => let ⟨p, q, _, _, hx, hy, _⟩ := d; ⟨p, q, hx, hy⟩) pR
def DIt (C : Addr) (f : Str) : EqR := fun x y b H => DFl x y b H ∨ vm C f x y b H
theorem yj {C : Addr} {f : Str} : Rfl (DIt C f) := by
  intro x b H d
  rcases d with ⟨h1, _, rfl⟩ | d
  · cases x <;> simp [flatV] at h1 <;> simp [eqV]
  · exact pR _ _ _ d
end
end DM
set_option Elab.async false
set_option linter.all false
set_option maxRecDepth 100000
set_option maxHeartbeats 2000000
namespace DM
open PySem PySem.Spec PyProof.Rows L2 Lay NdefX LamX GD XK
def fv : D → Option V
  | .non => some .non
  | .bl b => some (.bl b)
  | .int i => some (.int i)
  | .str x => some (.str x)
  | _ => none
theorem Rep.fv {K : PySem.W.Frag} {H : Hp} {av : Av} {Γ : Wc} {v w : V} {d : D} (r : Rep K H av Γ v d) (e : fv d = some w) : v = w ∧ flatV w = true := by
  cases d <;> simp [DM.fv] at e <;> subst e
  · exact ⟨r.dP, rfl⟩
  · exact ⟨r.dA, rfl⟩
  · exact ⟨r.bS, rfl⟩
  · exact ⟨r.b9, rfl⟩
def g9 (a b : D) : Option Bool := match fv a, fv b with
  | some x, some y => some (eqV x y)
  | _, _ => none
theorem ko {a b : D} {c : Bool} (h : g9 a b = some c) : ∃ x y, fv a = some x ∧ fv b = some y ∧ c = eqV x y := by
  unfold g9 at h
  split at h
  · rename_i x y e1 e2
    cases h
    exact ⟨x, y, e1, e2, rfl⟩
  · cases h
def jB (C : Cc) (R : EqR) (g : D → D → Option Bool) : Prop := ∀ H av x y a b c, Rep C.K H av C.Γ x a → Rep C.K H av C.Γ y b → g a b = some c → R x y c H
def eqI (c f : Str) (a b : D) : Option Bool := match g9 a b with
  | some r => some r
  | none => match a, b with
    | .obj c1 [f1] [.int i], .obj c2 [f2] [.int j] => if c1 = c ∧ c2 = c ∧ f1 = f ∧ f2 = f then some (decide (i = j)) else none
    | _, _ => none
def eqZ (g : D → D → Option Bool) : List D → List D → Option (List Bool)
  | [], [] => some []
  | a :: as, b :: bs => (g a b).bind fun x => (eqZ g as bs).map fun r => x :: r
  | _, _ => none
def eqL (g : D → D → Option Bool) : D → D → Option Bool
  | .lst xs, .lst ys => if xs.length = ys.length then (eqZ g xs ys).map fun bs => bs.all id else some false
  | _, _ => none
section
variable {C : Cc} {A : Addr} {c f : Str} {R : EqR} {g : D → D → Option Bool}
theorem y6 (hA : C.Γ.cl c = some A) : jB C (DIt A f) (eqI c f) := by
  intro H av x y a b r ra rb e
  unfold eqI at e
  split at e
  · rename_i r' hr
    cases e
    obtain ⟨v, w, h1, h2, rfl⟩ := ko hr
    obtain ⟨rfl, f1⟩ := ra.fv h1
    obtain ⟨rfl, f2⟩ := rb.fv h2
    exact .inl ⟨f1, f2, rfl⟩
  · split at e
    · split at e
      · rename_i h
        obtain ⟨rfl, rfl, rfl, rfl⟩ := h
        cases e
        obtain ⟨p, rfl, hp⟩ := ei hA ra
        obtain ⟨q, rfl, hq⟩ := ei hA rb
        exact .inr ⟨p, q, _, _, rfl, rfl, hp, hq, rfl⟩
      · cases e
    · cases e
theorem oA (h : jB C R g) {H : Hp} {av : Av} : ∀ {xs ys : List V} {as bs : List D} {cs : List Bool}, ah C.K H av C.Γ xs as → ah C.K H av C.Γ ys bs → eqZ g as bs = some cs → Itm R xs ys cs H
  | _, _, [], [], cs, ra, rb, e => by
    cases ra
    cases rb
    cases e
    exact ⟨rfl, rfl, fun i x y b h1 => by simp at h1⟩
  | _, _, [], b :: bs, cs, ra, rb, e => by cases e
  | _, _, a :: as, [], cs, ra, rb, e => by cases e
  | _, _, a :: as, b :: bs, cs, ra, rb, e => by
    cases ra with
    | cons a1 ra =>
      cases rb with
      | cons b1 rb =>
        obtain ⟨x, e1, e⟩ := cO e
        obtain ⟨r, e2, rfl⟩ := eQ e
        have ih := oA h ra rb e2
        refine ⟨by simp [ih.l1], by simp [ih.l2], fun i x y b h1 h2 h3 => ?_⟩
        cases i with
        | zero =>
          simp at h1 h2 h3
          subst h1 h2 h3
          exact h _ _ _ _ _ _ _ a1 b1 e1
        | succ i =>
          simp at h1 h2 h3
          exact ih.at_ i _ _ _ h1 h2 h3
theorem lp (h : jB C R g) : jB C (DL R) (eqL g) := by
  intro H av x y a b r ra rb e
  cases a <;> first | (cases e; done) | skip
  cases b <;> first | (cases e; done) | skip
  rename_i as bs
  simp only [eqL] at e
  obtain ⟨l, xs, rfl, n1, h1, x1⟩ := ra.b3
  obtain ⟨m, ys, rfl, n2, h2, x2⟩ := rb.b3
  split at e
  · obtain ⟨cs, e1, rfl⟩ := eQ e
    exact ⟨l, m, xs, ys, rfl, rfl, h1, h2, .inr ⟨cs, oA h x1 x2 e1, rfl⟩⟩
  · rename_i hn
    cases e
    exact ⟨l, m, xs, ys, rfl, rfl, h1, h2, .inl ⟨by rw [x1.len, x2.len]; exact hn, rfl⟩⟩
def vo (op : Bool) (R : EqR) : R2 := fun x y H Q => ∃ b, R x y b H ∧ Q (.bl (xor op b)) H
theorem yk {X : Cx} {n j : Nat} {op : Bool} (h : RcB X n j op R) (hj : j ≤ 16) (hr : Room (n + 1) X.A) : OpR X (compareOp (opN op)) (vo op R) := by
  intro pins s σ H x y v u Q I rx ry hq
  obtain ⟨b, d, q⟩ := hq
  have one := h X.A pins s σ H x y v u b X.xe (.of hr hj) I rx ry d
  cases op <;> exact wpAny_mono one (fun r s' z => by obtain ⟨rfl, I'⟩ := z; exact ⟨.bl _, H, I', rfl, q⟩) fun _ _ x => x
theorem vp {X : Cx} {n j : Nat} (h : RcB X n j false R) (hj : j ≤ 16) (hr : Room (n + 1) X.A) : OpR X (compareOp .Eq) (vo false R) := yk h hj hr
def tp (op : Bool) (g : D → D → Option Bool) (a b : D) : Option D := (g a b).map fun c => .bl (xor op c)
theorem yl {op : Bool} (h : jB C R g) : OpS C (vo op R) (tp op g) := by
  intro av s H x y a b z Q o ra rb e q
  obtain ⟨c, e1, rfl⟩ := eQ e
  exact ⟨c, h _ _ _ _ _ _ _ ra rb e1, q.pure o (.bl _)⟩
end
section
variable {prog : Program} {w : World} {K : Type} [DecidableEq K] {knd : HeapKind prog w K} {A : Around} {E : Value → Shared → Prop} {s : Shared}
inductive iT (prog : Program) (w : World) (A : Around) (s : Shared) (kb : List (K × Addr × Value)) : List (K × Addr × Value) → Bool → Prop
  | nil : iT prog w A s kb [] true
  | miss {k : K} {p : Addr × Value} {r : List (K × Addr × Value)} : atKey kb k = none → iT prog w A s kb ((k, p) :: r) false
  | hit {k : K} {p q : Addr × Value} {r : List (K × Addr × Value)} {e b : Bool} : atKey kb k = some q → SeqAt.EqP prog w A s p.2 q.2 e → iT prog w A s kb r b → iT prog w A s kb ((k, p) :: r) (e && b)
theorem oB {nm : String} {a b : Addr} {ka kb : List (K × Addr × Value)} {r : Bool} {Q : Bool → Shared → Prop} (hu : knd.room A) (ha : (a == sysModules) = false) (hb : (b == sysModules) = false)
    (da : s.heap.DictOfH knd a ka) (db : s.heap.DictOfH knd b kb) (hits : ka.length = kb.length → iT prog w A s kb ka r) (h : Q (ka.length == kb.length && r) s) :
    wpAny (model prog w) A (Builtin.Dict.samePairs nm a b) Q E s := by
  obtain ⟨oa, es, ep, hoa, _, hda, hea, hia, _⟩ := da
  obtain ⟨ob, es', ep', hob, _, hdb, heb, hib, hnb⟩ := db
  have hla : ka.length = es.size := (size_of_entries hea).symm
  have hlb : kb.length = es'.size := (size_of_entries heb).symm
  rw [hla, hlb] at h
  unfold Builtin.Dict.samePairs Builtin.Dict.showsAll
  rw [if_neg (show ¬ (a == sysModules) = true by rw [ha]; exact Bool.false_ne_true), if_neg (show ¬ (b == sysModules) = true by rw [hb]; exact Bool.false_ne_true)]
  refine wpAny_bind (wpAny_pure (wpAny_bind (wpAny_pure ?_)))
  refine wpAny_bind (wpAny_dictEntries hoa hda ?_)
  dsimp only
  refine wpAny_bind (wpAny_dictEntries hob hdb ?_)
  by_cases hsz : es.size = es'.size
  case neg =>
    rw [if_pos (by simpa using hsz)]
    have hbf : (es.size == es'.size) = false := by simpa using hsz
    rw [hbf, Bool.false_and] at h
    exact wpAny_bind (wpAny_rule (wpAny_pure h))
  case pos =>
    have h' : Q r s := by simpa [hsz] using h
    have hits' := hits (by rw [hla, hlb]; exact hsz)
    rw [if_neg (by rw [hsz]; simp)]
    refine wpAny_bind (wpAny_dictEpoch hoa hda ?_)
    refine wpAny_bind ?_
    rw [Std.Legacy.Range.forIn_eq_forIn_range']
    simp only [Std.Legacy.Range.size, Nat.sub_zero, Nat.add_sub_cancel, Nat.div_one]
    refine wpAny_forIn_list _
      (fun rest q s' => s' = s ∧ q = (none, ()) ∧ ∃ i, rest = List.range' i (es.size - i) ∧ i ≤ es.size ∧ iT prog w A s kb (ka.drop i) r)
      _ ?_ ?_ _ _ ⟨rfl, rfl, 0, by simp, Nat.zero_le _, hits'⟩
    · rintro x rest q s' ⟨rfl, rfl, i, hr, hi, hpre⟩
      have hlt : i < es.size := by
        rcases Nat.lt_or_ge i es.size with h | h
        · exact h
        · rw [Nat.sub_eq_zero_of_le h] at hr; simp at hr
      obtain ⟨rfl, hrest⟩ : x = i ∧ rest = List.range' (i + 1) (es.size - (i + 1)) := by
        have e : es.size - i = (es.size - (i + 1)) + 1 := by omega
        rw [e, List.range'_succ] at hr
        injection hr with h1 h2
        exact ⟨h1, h2⟩
      refine wpAny_bind (wpAny_dictEntries hoa hda ?_)
      have hlt' : x < ka.length := by rw [hla]; exact hlt
      obtain ⟨k, p, hkv⟩ : ∃ k p, ka[x] = (k, p) := ⟨_, _, rfl⟩
      have hdrop : ka.drop x = (k, p) :: ka.drop (x + 1) := by rw [← hkv]; exact List.drop_eq_getElem_cons hlt'
      have hex : es[x]? = some (entryOfKey knd (k, p)) := by rw [entry_at hea x, List.getElem?_eq_getElem hlt', hkv]; rfl
      rw [hex]
      rw [hdrop] at hpre
      have hkey := hia (k, p) (by rw [← hkv]; exact List.getElem_mem hlt')
      show wpAny _ _ (holding [_, _] _ >>= _) _ _ _
      refine wpAny_bind (wpAny_holding (wpAny_bind (wpAny_dictFind_heap hu hkey hob hdb heb hib hnb (fun hno => ?_) fun j p' hj => ?_)))
      · cases hpre with
        | miss hn =>
          refine wpAny_pure ?_
          show wpAny _ _ (if (!false) = true then _ else _) _ _ _
          rw [if_pos (by decide)]
          exact wpAny_pure (wpAny_pure h')
        | hit hy _ _ =>
          rw [atKey_none_of_get hno] at hy
          cases hy
      · have hv := atKey_of_get hnb hj
        refine wpAny_bind (wpAny_dictEntries hob hdb ?_)
        rw [entry_at heb j, hj]
        cases hpre with
        | miss hn =>
          rw [hv] at hn
          cases hn
        | @hit _ _ q _ e b' hy he hrr =>
          rw [hv] at hy
          cases hy
          refine wpAny_holding (he _ _ ?_)
          cases e with
          | false =>
            rw [Bool.false_and] at h'
            show wpAny _ _ (if (!false) = true then _ else _) _ _ _
            rw [if_pos (by decide)]
            exact wpAny_pure (wpAny_pure h')
          | true =>
            show wpAny _ _ (if (!true) = true then _ else _) _ _ _
            rw [if_neg (by decide)]
            refine wpAny_bind (wpAny_dictEpoch hoa hda ?_)
            rw [if_neg (by simp)]
            exact wpAny_pure ⟨rfl, rfl, x + 1, hrest, hlt, by rw [Bool.true_and]; exact hrr⟩
    · rintro q s' ⟨rfl, rfl, i, hr, hi, hpre⟩
      have hin : i = es.size := by
        rcases Nat.lt_or_ge i es.size with h | h
        · have e : es.size - i = (es.size - (i + 1)) + 1 := by omega
          rw [e, List.range'_succ] at hr; exact nomatch hr
        · exact Nat.le_antisymm hi h
      refine wpAny_pure ?_
      rw [hin, ← hla, List.drop_length] at hpre
      cases hpre
      exact h'
theorem qH {a b : Addr} {ka kb : List (K × Addr × Value)} {r : Bool} (hr : knd.room A.in1) (ha : (a == sysModules) = false) (hb : (b == sysModules) = false)
    (da : s.heap.DictOfH knd a ka) (db : s.heap.DictOfH knd b kb) (hu : A.units < cLine) (hits : ka.length = kb.length → iT prog w A.in1 s kb ka r) (E Q : Value → Shared → Prop) (h : Q (.bool (ka.length == kb.length && r)) s) : wpAny (model prog w) A (richCompare .Eq (.ref a) (.ref b)) Q E s := by
  refine wpAny_richCompare_same_room (op := .Eq) da.typeIs db.typeIs PySem.F.slot_dict_eq (wpAny_call_entry PySem.F.slot_dict_eq da.typeIs PySem.F.entry_dict_eq ?_ (PySem.F.args_dict_eq_2 _ _)) hu
  show wpAny _ _ (Builtin.Dict.dictSlotArgs "__eq__" ⟨[.ref a, .ref b], []⟩ >>= _) _ _ s
  refine wpAny_bind ?_
  unfold Builtin.Dict.dictSlotArgs
  refine wpAny_bind (wpAny_notOrdered_dict da.typeIs ?_)
  show wpAny _ _ (pure (Value.ref a, Value.ref b)) _ _ s
  refine wpAny_pure ?_
  refine wpAny_bind (wpAny_isInstance (T := "dict") db.typeIs PySem.F.sub_dict_dict ?_)
  simp only [Bool.not_true, Bool.false_eq_true, if_false]
  refine wpAny_bind (wpAny_pure (wpAny_bind (wpAny_pure ?_)))
  refine wpAny_bind (oB hr ha hb da db hits ?_)
  refine wpAny_pure ⟨_, rfl, ?_, ?_⟩
  · exact fun x => nomatch x
  · simpa using h
end
def iU (ls es : List D) : List D → List D → Option Bool
  | [], [] => some true
  | k :: ks, d :: ds => (kOf k).bind fun key => match gx ls es key with
    | none => some false
    | some e => (g9 d e).bind fun b => (iU ls es ks ds).map fun r => b && r
  | _, _ => none
def lr : D → D → Option Bool
  | .kdc ks ds, .kdc ls es => if ks.length = ls.length then iU ls es ks ds else some false
  | _, _ => none
def jC (K : PySem.W.Frag) (w : World) : R2 := fun x y H Q => ∃ a b xs ys us r, x = .ref a ∧ y = .ref b ∧ H a = some (KxO w a xs) ∧ H b = some (KxO w b ys) ∧ dO K H nav xs ∧ dO K H nav ys ∧ us = () ∧
  (xs.length = ys.length → qI xs ys = some r) ∧ Q (.bl (decide (xs.length = ys.length) && r)) H
where
  qI : List Ent → List Ent → Option Bool
    | [], _ => some true
    | (k, _, v) :: xs, ys => match ft ys k with
      | none => some false
      | some u => if flatV v && flatV u then (qI xs ys).map fun r => eqV v u && r else none
section
variable {X : Cx} {pins : List (Addr × Obj)} {σ : L2.St} {H : Hp} {s : Shared} {A : Around}
theorem y8 {y x : V} {u v : Value} (ry : RelV y u) (rx : RelV x v) (fy : flatV y = true) (fx : flatV x = true) : SeqAt.EqP X.prog X.w A s u v (eqV y x) := fun E Q h => eqAt_V (A := A) (s := s) ry rx fy fx X.prog X.w E Q h
theorem pT {ys : List Ent} {us2 : List (NestedKey × Addr × Value)} (r2 : Paired gI ys us2) : ∀ {xs : List Ent} {us : List (NestedKey × Addr × Value)} {r : Bool}, Paired gI xs us → jC.qI xs ys = some r → iT X.prog X.w A s us2 us r
  | _, _, r, .nil, e => by
    cases e
    exact .nil
  | _, _, r, .cons (a := a) (b := b) (l₁ := l1) (l₂ := l2) e1 rr, e => by
    obtain ⟨k, ad, v⟩ := a
    obtain ⟨k', p⟩ := b
    obtain ⟨h1, h2, h3⟩ := e1
    simp only at h1 h2 h3
    subst h1
    unfold jC.qI at e
    rcases gJ (k := k) r2 with ⟨g1, g2⟩ | ⟨u, q, g1, g2, g3⟩
    · rw [g1] at e
      cases e
      exact .miss g2
    · rw [g1] at e
      dsimp only at e
      split at e
      · rename_i hf
        rw [Bool.and_eq_true] at hf
        obtain ⟨r', e2, rfl⟩ := eQ e
        exact .hit g2 (y8 h3 g3 hf.1 hf.2) (pT r2 rr e2)
      · cases e
theorem vq {X : Cx} (hu : X.A.units + 10 < cLine) : OpR X (compareOp .Eq) (jC X.K X.w) := by
  intro pins s σ H x y v u Q I rx ry h
  obtain ⟨a, b, xs, ys, _, r, rfl, rfl, h1, h2, k1, k2, _, hh, q⟩ := h
  cases rx
  cases ry
  obtain ⟨z1, us, r1, d1⟩ := i9 I h1 k1
  obtain ⟨z2, us2, r2, d2⟩ := i9 I h2 k2
  have l1 := Paired.w7 r1
  have l2 := Paired.w7 r2
  show wpAny (model X.prog X.w) X.A (richCompare .Eq (.ref a) (.ref b)) _ _ s
  refine qH (knd := nestedKind X.prog X.w) (r := r) (by show X.A.units + 1 + 8 < cLine; omega) z1 z2 d1 d2 (by omega) (fun hl => pT r2 r1 (hh (by omega))) _ _ ⟨.bl _, H, I, ?_, q⟩
  show Value.bool _ = Value.bool _
  rw [← l1, ← l2]
  congr 2
end
section
variable {C : Cc} {H : Hp} {av : Av}
theorem pU {ys : List Ent} {ls es : List D} (k2 : KD C.K H av C.Γ ys ls es) : ∀ {xs : List Ent} {ks ds : List D} {r : Bool}, dC ks = some (xs.map (·.1)) → ah C.K H av C.Γ (xs.map (·.2.2)) ds → iU ls es ks ds = some r → jC.qI xs ys = some r
  | [], [], _, r, _, rd, e => by
    cases rd
    cases e
    rfl
  | [], k :: ks, _, r, hk, rd, e => by
    obtain ⟨_, _, z, _⟩ := dh hk
    cases z
  | x :: xs, [], _, r, hk, rd, e => by
    cases gY hk
  | (k0, ad, v) :: xs, k :: ks, ds, r, hk, rd, e => by
    obtain ⟨k', l, hz, hk1, hk2⟩ := dh hk
    simp only [List.map_cons, List.cons.injEq] at hz
    obtain ⟨rfl, rfl⟩ := hz
    cases rd with
    | @cons _ _ d ds r1 rd =>
      unfold iU at e
      rw [hk1] at e
      simp only [Option.bind_some] at e
      unfold jC.qI
      rcases k2.get k0 with ⟨g1, g2⟩ | ⟨u, e', g1, g2, g3⟩
      · rw [g2] at e
        rw [g1]
        exact e
      · rw [g2] at e
        rw [g1]
        dsimp only at e ⊢
        obtain ⟨b, e1, e⟩ := cO e
        obtain ⟨r', e2, rfl⟩ := eQ e
        obtain ⟨x, y, f1, f2, rfl⟩ := ko e1
        obtain ⟨rfl, t1⟩ := Rep.fv r1 f1
        obtain ⟨rfl, t2⟩ := g3.fv f2
        rw [t1, t2, pU k2 hk2 rd e2]
        rfl
def wA (a b : D) : Option D := (lr a b).map D.bl
theorem vr : OpS C (jC C.K C.Γ.wd) wA := by
  intro av s H x y a b z Q o ra rb e q
  obtain ⟨r, e1, rfl⟩ := eQ e
  cases a <;> first | (cases e1; done) | skip
  cases b <;> first | (cases e1; done) | skip
  rename_i ks ds ls es
  simp only [lr] at e1
  cases ra with
  | @kdc p xs _ _ n1 h1 hk1 dp1 rk1 rd1 =>
    cases rb with
    | @kdc p2 ys _ _ n2 h2 hk2 dp2 rk2 rd2 =>
      have kd1 : KD C.K H av C.Γ xs ks ds := ⟨hk1, dp1, rk1, rd1⟩
      have kd2 : KD C.K H av C.Γ ys ls es := ⟨hk2, dp2, rk2, rd2⟩
      have l1 := kd1.len
      have l2 := kd2.len
      split at e1
      · rename_i hl
        refine ⟨p, p2, xs, ys, (), r, rfl, rfl, h1, h2, kd1.ok, kd2.ok, rfl, fun _ => pU kd2 hk1 rd1 e1, ?_⟩
        rw [decide_eq_true (by omega), Bool.true_and]
        exact q.pure o (.bl _)
      · rename_i hl
        cases e1
        refine ⟨p, p2, xs, ys, (), false, rfl, rfl, h1, h2, kd1.ok, kd2.ok, rfl, fun h => absurd (by omega) hl, ?_⟩
        rw [Bool.and_false]
        exact q.pure o (.bl _)
end
def noX : XK := fun _ _ _ => False
theorem ym {X : Cx} : Passes (L2.CX X.prog X.w) X noX := fun _ _ _ _ _ _ _ h => by
  obtain ⟨_, _, _, _, _, _, _, _, _, _, _, _, h⟩ := h
  exact h.elim
def rObj (C : Addr) (sp : Sp) (g : Bool → Bool) : R2 := fun x y H Q => ∃ a b dx dy fs gs, x = .ref a ∧ y = .ref b ∧ H a = some (.ins C dx fs) ∧ H b = some (.ins C dy gs) ∧ sp [x, y] H (fun v H' => ∃ b, v = .bl b ∧ Q (.bl (g b)) H') noX
section
variable {X : Cx} {n : Nat} {C f : Addr} {fd : FuncData} {ps : List Str} {sp : Sp}
theorem jD (F : FnG X.prog X.w X.K X.mg X.base (L2.CX X.prog X.w) n f fd ps sp) (hb : Binds X.K fd ps []) {A : Around} (hg : A.guards = some []) (hr : Room n A) (hfr : A.frames = X.A.frames) {pins : List (Addr × Obj)} {σ : L2.St} {H : Hp} {s : Shared} {x y : V} {u v : Value} {R : V → Hp → Prop}
    (I : Inv X pins σ H s) (rx : RelV x u) (ry : RelV y v) (hsp : sp [x, y] H R noX) : wpAny (model X.prog X.w) A (call (.ref f) [u, v]) (EP X pins σ R) X.xe s := by
  have e0 : Env0 X.prog X.w X.K X.mg X.base A X.stack s H := by
    have e := I.env0
    exact ⟨by rw [hfr]; exact e.frames, e.mod, e.bs, e.bsz, e.funs, e.frf, e.hok, e.bare⟩
  have hl := F.lens _ _ _ _ hsp
  have r2 : Vals [x, y] [u, v] := .cons rx (.cons ry .nil)
  refine wpAny_call (codeAny_mono (F.runs A X.stack s H ⟨[u, v], []⟩ [u, v] [x, y] _ noX hg hr e0 (by
    have := hb s [u, v] I.kIn (by simpa using hl)
    simpa using this) r2 hsp) fun r s' hq => ?_)
  cases r with
  | error e => exact ym pins σ H s e s' I hq
  | ok fl =>
    cases fl with
    | ret w => exact I.after hq
    | next => exact False.elim hq
    | brk => exact False.elim hq
    | cont => exact False.elim hq
theorem hC (F : FnG X.prog X.w X.K X.mg X.base (L2.CX X.prog X.w) n f fd ps sp) (hs : PySem.W.findIn X.K (.ref C) "__eq__" = some (some (.ref f))) (hf : PySem.W.isFn X.K (.ref f) = true) (hb : Binds X.K fd ps []) (hg : X.A.guards = some []) (hr : Room n X.A) : OpR X (compareOp .Eq) (rObj C sp id) := by
  intro pins s σ H x y v u Q I rx ry hq
  obtain ⟨a, b, dx, dy, fs, gs, rfl, rfl, ha, hb', hsp⟩ := hq
  cases rx
  cases ry
  obtain ⟨mA, J, _⟩ := ins_get I.hok ha
  obtain ⟨mB, J', _⟩ := ins_get I.hok hb'
  obtain ⟨od, J, _⟩ := J.look
  obtain ⟨od', J', _⟩ := J'.look
  obtain ⟨m, hF⟩ := I.fr
  show wpAny (model X.prog X.w) X.A (richCompare .Eq (.ref a) (.ref b)) (EP X pins σ Q) X.xe s
  refine PySem.W.cmp_K (op := .Eq) (tb := .ref C) hr.units0 hF I.ok.mod.kin J J'.type (by simp [PySem.W.notFirst]) hs hf ?_
  refine wpAny_mono (jD (x := V.ref a) (u := Value.ref a) (y := V.ref b) (v := Value.ref b) F hb hg hr rfl I rfl rfl hsp) (fun r s' z => ?_) fun _ _ e => e
  obtain ⟨z1, H', I', rz, c, rfl, q⟩ := z
  cases rz
  exact ⟨.bl c, H', I', rfl, q⟩
theorem mT (F : FnG X.prog X.w X.K X.mg X.base (L2.CX X.prog X.w) n f fd ps sp) (hs : PySem.W.findIn X.K (.ref C) "__eq__" = some (some (.ref f))) (hf : PySem.W.isFn X.K (.ref f) = true) (hN : PySem.W.findIn X.K (.ref C) "__ne__" = some (some (.builtin "object.__ne__")))
    (hm : PySem.W.mroIn X.K C (.type "object") = some true) (hb : Binds X.K fd ps []) (hg : X.A.guards = some []) (hr : Room (n + 1) X.A) : OpR X (compareOp .NotEq) (rObj C sp not) := by
  intro pins s σ H x y v u Q I rx ry hq
  obtain ⟨a, b, dx, dy, fs, gs, rfl, rfl, ha, hb', hsp⟩ := hq
  cases rx
  cases ry
  obtain ⟨mA, J, _⟩ := ins_get I.hok ha
  obtain ⟨mB, J', _⟩ := ins_get I.hok hb'
  obtain ⟨od, J, _⟩ := J.look
  obtain ⟨od', J', _⟩ := J'.look
  show wpAny (model X.prog X.w) X.A (richCompare .NotEq (.ref a) (.ref b)) (EP X pins σ Q) X.xe s
  refine wX (hu_of hr) I.kIn J J'.type (by simp [PySem.W.notFirst]) hm hN hs hf ?_
  refine wpAny_mono (jD (x := V.ref a) (u := Value.ref a) (y := V.ref b) (v := Value.ref b) F hb (A := X.A.in1) hg hr.in1 rfl I rfl rfl hsp) (fun r s' z => ?_) fun _ _ e => e
  obtain ⟨z1, H', I', rz, c, rfl, q⟩ := z
  cases rz
  exact ⟨c, rfl, .bl (!c), H', I', rfl, q⟩
end
def dv (c : Str) (g : Bool → Bool) (F : List D → M D) (a b : En → M D) : En → M D := fun ρ s => bx (a ρ s) fun x s1 => bx (b ρ s1) fun y s2 => match x, y with
  | .obj c1 _ _, .obj c2 _ _ => if c1 = c ∧ c2 = c then (match F [x, y] s2 with
    | some (.ok (.bl r), s3) => some (.ok (.bl (g r)), s3)
    | _ => none) else none
  | _, _ => none
section
variable {C : Cc} {W : WX} {ta tb te : TE} {ma mb me : En → M D} {A : Addr} {c : Str}
theorem eW {g : Bool → Bool} {F : List D → M D} (hA : C.Γ.cl c = some A) (ha : SE C W ta ma) (hb : SE C W tb mb) : SE C W (tOp (rObj A (spF C.K C.Γ false 2 F) g) ta tb) (dv c g F ma mb) := by
  intro av σ ρ s H r' s' Q o e0 q0
  refine ha.bind o e0 q0 fun x s1 v H1 g1 o1 r1 e1 q1 => ?_
  refine hb.bind o1 e1 q1 fun y s2 w H2 g2 o2 r2 e q => ?_
  clear e0 e1 q0 q1
  split at e
  · split at e
    · rename_i h
      obtain ⟨rfl, rfl⟩ := h
      have r1 : Rep C.K H2 av C.Γ v _ := Rep.kp r1 (g2.kp.ch o.ad)
      have r2 : Rep C.K H2 av C.Γ w _ := r2
      obtain ⟨p, B, dx, vs, rfl, m1, hB, h1, _, _⟩ := r1.fA
      obtain ⟨p2, B2, dy, ws, rfl, m2, hB2, h2, _, _⟩ := r2.fA
      rw [hA] at hB hB2
      cases hB
      cases hB2
      split at e
      · rename_i hF
        cases e
        exact ⟨p, p2, dx, dy, _, _, rfl, rfl, h1, h2, av, s2, _, _, _, o2.at_.b, .cons r1 (.cons r2 .nil), rfl, hF, fun v H' gg ww rv => ⟨_, rv.dA, q (.bl _) H' gg ww (.bl _)⟩⟩
      · cases e
    · cases e
  · cases e
end
end DM
set_option Elab.async false
set_option linter.all false
set_option maxRecDepth 100000
set_option maxHeartbeats 2000000
namespace DM
open PySem PySem.W PySem.Spec PyProof.Rows L2 Lay NdefX LamX GD XK
end DM
set_option Elab.async false
set_option linter.all false
set_option maxRecDepth 100000
set_option maxHeartbeats 2000000
namespace DM
open PySem PySem.Spec PyProof.Rows L2 Lay NdefX LamX GD XK
open PySem.SeqAt AutoSeq1 MeetsSeq MeetsSeq2 MeetsSeq3 SeqRoads2
section
variable {X : Cx} {n j : Nat} {D : EqR}
/-- None and an object -/
def DNn (K : PySem.W.Frag) (C : Addr) (f : Str) : EqR := fun x y b H => b = false ∧ ((∃ p i, x = .ref p ∧ y = .non ∧ iQ C f H p i) ∨ ∃ q i, x = .non ∧ y = .ref q ∧ iQ C f H q i)
section
variable {C f : Addr} {fl : Str} {fd : FuncData} {ps : List Str} {A : Around} {pins : List (Addr × Obj)} {σ : L2.St} {H : Hp} {s : Shared} {q : Addr} {i : Int} {E : Value → Shared → Prop}
theorem tq (F : FnOk X.prog X.w X.K X.mg X.base CX0 n f fd ps (DM.spEq X.K C fl)) (N : my X.K C fl) (hs : PySem.W.findIn X.K (.ref C) "__eq__" = some (some (.ref f))) (hf : PySem.W.isFn X.K (.ref f) = true) (hb : Binds X.K fd ps []) (sn : PySem.W.subIn X.K (.ref C) (.type "NoneType") = some false) (sb : iY X n j A) (I : Inv X pins σ H s) (hq : iQ C fl H q i) :
    wpAny (model X.prog X.w) A (richCompare .Eq .none (.ref q)) (fun r s' => r = .bool false ∧ Inv X pins σ H s') E s := by
  obtain ⟨dx, hp⟩ := hq
  obtain ⟨mA, J, _⟩ := ins_get I.hok hp
  obtain ⟨od, J, _⟩ := J.look
  obtain ⟨m, hF⟩ := I.fr
  have hsp : DM.spEq X.K C fl [.ref q, .non] H (fun v H' => v = .bl false ∧ H' = H) (fun _ _ _ => False) := ⟨q, i, .non, rfl, ⟨dx, hp⟩, .inr ⟨_, .base .non, N.pH, rfl, rfl⟩⟩
  have own : wpAny (model X.prog X.w) A (tryCompare (.ref q) "__eq__" .none) (fun r s' => r = some (.bool false) ∧ Inv X pins σ H s') E s := by
    unfold tryCompare
    refine wpAny_bind (PySem.W.ifBound_K I.kIn J hs hf (wpAny_mono (jw (x := V.ref q) (u := Value.ref q) (y := V.non) (v := Value.none) F hb sb.room sb.fr I rfl rfl hsp) (fun r s' z => ?_) fun _ _ e => e))
    obtain ⟨z1, H', I', rz, rfl, rfl⟩ := z
    cases rz
    exact wpAny_pure ⟨rfl, I'⟩
  unfold richCompare
  refine wpAny_holding (wpAny_bind (wpAny_cRoomFor sb.room.units0 ?_))
  simp only [show oneThing? .Eq .none (.ref q) = none from rfl]
  refine wpAny_bind (wpAny_typeOf (T := "NoneType") rfl ?_)
  refine wpAny_bind (J.type.here ?_)
  rw [if_pos (by simp)]
  refine wpAny_bind ((PySem.W.looks_subIn I.kIn sn).here ?_)
  simp only [Bool.false_eq_true, if_false, Bool.not_false, if_true]
  refine wpAny_bind (m := tryCompare .none _ (.ref q)) (wpAny_tryCompare_declines (T := "NoneType") rfl PySem.F.slot_NoneType_eq (call_gives PySem.F.slot_NoneType_eq rfl PySem.F.entry_NoneType_eq (PySem.F.args_NoneType_eq_2 _ _) (PySem.SeqAt.NoneType___eq___none_ref_0 q) ⟨rfl, ?_⟩))
  refine wpAny_bind (m := tryCompare (.ref q) _ .none) (wpAny_mono own (fun r s' z => ?_) fun _ _ e => e)
  obtain ⟨rfl, I'⟩ := z
  exact wpAny_pure ⟨rfl, I'⟩
theorem tw (F : FnOk X.prog X.w X.K X.mg X.base CX0 n f fd ps (DM.spEq X.K C fl)) (N : my X.K C fl) (hs : PySem.W.findIn X.K (.ref C) "__eq__" = some (some (.ref f))) (hf : PySem.W.isFn X.K (.ref f) = true) (hb : Binds X.K fd ps []) (sn : PySem.W.subIn X.K (.ref C) (.type "NoneType") = some false) : EqB X n j (DNn X.K C fl) := by
  intro A pins s σ H x y u v b E sb I rx ry d
  obtain ⟨rfl, d⟩ := d
  rcases d with ⟨p, i, rfl, rfl, hp⟩ | ⟨q, i, rfl, rfl, hq⟩
  · have ry : v = Value.none := ry
    subst ry
    obtain ⟨dx, hp⟩ := hp
    have hsp : DM.spEq X.K C fl [.ref p, .non] H (fun v H' => v = .bl false ∧ H' = H) (fun _ _ _ => False) := ⟨p, i, .non, rfl, ⟨dx, hp⟩, .inr ⟨_, .base .non, N.pH, rfl, rfl⟩⟩
    exact xV F hs hf hb sb.room sb.fr I rx (.inr ⟨p, dx, _, rfl, hp, N.wq, hsp⟩) fun s' I' => ⟨rfl, I'⟩
  · have rx : u = Value.none := rx
    cases rx
    cases ry
    unfold eqBool
    refine wpAny_holding ?_
    rw [if_neg (by simp)]
    refine wpAny_bind (wpAny_mono (tq F N hs hf hb sn sb I hq) (fun r s' z => ?_) fun _ _ e => e)
    obtain ⟨rfl, I'⟩ := z
    exact wpAny_truthy_bool ⟨rfl, I'⟩
end
end
def eX (c f : Str) (a b : D) : Option Bool := match eqI c f a b with
  | some r => some r
  | none => match a, b with
    | .obj c1 [f1] [.int _], .non => if c1 = c ∧ f1 = f then some false else none
    | .non, .obj c1 [f1] [.int _] => if c1 = c ∧ f1 = f then some false else none
    | _, _ => none
def DI2 (K : PySem.W.Frag) (C : Addr) (f : Str) : EqR := fun x y b H => DIt C f x y b H ∨ DNn K C f x y b H
theorem tA {K : PySem.W.Frag} {C : Addr} {f : Str} : Rfl (DI2 K C f) := by
  intro x b H d
  rcases d with d | ⟨_, ⟨p, i, rfl, h, _⟩ | ⟨q, i, rfl, h, _⟩⟩
  · exact yj _ _ _ d
  · cases h
  · cases h
section
variable {C : Cc} {A : Addr} {c f : Str} {R : EqR} {g : D → D → Option Bool}
theorem wC (hA : C.Γ.cl c = some A) : jB C (DI2 C.K A f) (eX c f) := by
  intro H av x y a b r ra rb e
  unfold eX at e
  split at e
  · rename_i r' hr
    cases e
    exact .inl (y6 hA _ _ _ _ _ _ _ ra rb hr)
  · split at e
    · split at e
      · rename_i h
        obtain ⟨rfl, rfl⟩ := h
        cases e
        obtain ⟨p, rfl, hp⟩ := ei hA ra
        exact .inr ⟨rfl, .inl ⟨p, _, rfl, rb.dP, hp⟩⟩
      · cases e
    · split at e
      · rename_i h
        obtain ⟨rfl, rfl⟩ := h
        cases e
        obtain ⟨q, rfl, hq⟩ := ei hA rb
        exact .inr ⟨rfl, .inr ⟨q, _, ra.dP, rfl, hq⟩⟩
      · cases e
    · cases e
end
end DM
set_option Elab.async false
set_option linter.all false
set_option maxRecDepth 100000
set_option maxHeartbeats 2000000
namespace DM
open PySem PySem.Spec PyProof PyProof.Rows L2 Lay NdefX LamX GD
end DM
set_option Elab.async false
set_option linter.all false
set_option maxRecDepth 100000
set_option maxHeartbeats 2000000
namespace DM
open PySem PySem.Spec PyProof PyProof.Rows L2 Lay NdefX LamX GD
end DM
set_option Elab.async false
set_option linter.all false
set_option maxRecDepth 100000
set_option maxHeartbeats 2000000
namespace DM
open PySem PySem.Spec PyProof PyProof.Rows L2 Lay NdefX LamX GD
def iZ : Sl → Bool
  | .no => true
  | .val _ => true
  | _ => false
theorem yn {ρ : En} (h : ρ.all iZ = true) {i : Nat} {sl : Sl} (e : ρ[i]? = some sl) : iZ sl = true := List.all_eq_true.mp h sl (List.mem_of_getElem? e)
theorem yo {ρ : En} {i : Nat} {sl : Sl} (e : (ρ.map fun _ => Sl.no)[i]? = some sl) : sl = .no := by
  rw [List.getElem?_map] at e
  cases h : ρ[i]? with
  | none => rw [h] at e; cases e
  | some x => rw [h] at e; cases e; rfl
end DM
set_option Elab.async false
set_option linter.all false
set_option maxRecDepth 100000
set_option maxHeartbeats 2000000
namespace DM
open PySem PySem.Spec PyProof PyProof.Rows L2 Lay NdefX LamX GD
def wPs (kus : List (Str × Value)) : List (Key × Value) := kus.map fun p => ((Sum.inr p.1 : Key), p.2)
def WRd (K : PySem.W.Frag) (w : World) (a : Addr) (kus : List (Str × Value)) : Prop := (a == sysModules) = false ∧ (∀ p ∈ kus, RelV (toV p.2) p.2) ∧ kus.length ≤ 900 ∧
  ∃ n, ∀ (P : Program) (h : Heap), K.In h → h.DictAt (mixKind P w) a (wPs kus) n
theorem WAll.rd {K : PySem.W.Frag} {w : World} {a : Addr} {tbl : List (Str × D)} (W : WAll K w a tbl) : ∃ kus, WRd K w a kus ∧ kus.map (·.1) = tbl.map (·.1) ∧ wBs K (kus.map (·.2)) (tbl.map (·.2)) = true := by
  obtain ⟨es, n, hl, hk, he⟩ := W.ex
  obtain ⟨kus, q1, q2, q3⟩ := pE _ _ he
  have hlen : kus.length = tbl.length := by have := congrArg List.length q2; simpa using this
  refine ⟨kus, ⟨W.low, fun p hp => ?_, by rw [hlen]; exact W.sz, n, fun P h X => ?_⟩, q2, q3⟩
  · obtain ⟨i, hi⟩ := List.getElem?_of_mem hp
    have hv := (kM (K := K) (H := fun _ => none) (av := fun _ => False) (Γ := ⟨0, [], fun _ => none, fun _ => False, [], w⟩) _ _ q3).2
    have h1 : (kus.map (·.2) |>.map toV)[i]? = some (toV p.2) := by simp [hi]
    have h2 : (kus.map (·.2))[i]? = some p.2 := by simp [hi]
    obtain ⟨u, e1, e2⟩ := hv.get h1
    rw [h2] at e1
    cases e1
    exact e2
  · obtain ⟨o, es', ep', ho, hx, hd, r⟩ := sv (P := P) (w := w) X hl hk q1 (by rw [q2]; exact W.nd)
    have e := X _ _ hl
    rw [e] at ho
    cases ho
    cases hd
    exact ⟨_, _, e, hx, rfl, r⟩
end DM
set_option Elab.async false
set_option linter.all false
set_option maxRecDepth 100000
set_option maxHeartbeats 2000000
namespace DM
open PySem PySem.Spec PyProof PyProof.Rows L2 Lay NdefX LamX GD
section
variable {C : Cc} {W : WX} {w : World} {a : Addr} {tbl : List (Str × D)}
/-- either of two readings of an expression -/
theorem pe_or {X : Cx} {e : Expr} {t u : TE} (h1 : PE X e t) (h2 : PE X e u) : PE X e (fun σ H Q => t σ H Q ∨ u σ H Q) := ⟨fun pins s σ H Q I h => h.elim (h1.run pins s σ H Q I) (h2.run pins s σ H Q I)⟩
end
end DM
set_option Elab.async false
set_option linter.all false
set_option maxRecDepth 100000
set_option maxHeartbeats 2000000
namespace L2
open PySem PySem.Spec PyProof PyProof.Rows
end L2
namespace DM
open PySem PySem.Spec PyProof PyProof.Rows L2 Lay NdefX LamX GD
end DM
set_option Elab.async false
set_option linter.all false
set_option maxRecDepth 100000
set_option maxHeartbeats 2000000
namespace DM
open PySem PySem.Spec PyProof PyProof.Rows L2 Lay NdefX LamX GD
end DM
set_option Elab.async false
set_option linter.all false
set_option maxRecDepth 100000
set_option maxHeartbeats 2000000
namespace XC
open PySem PySem.Spec PyProof PyProof.Rows L2 DM
end XC
namespace DM
open PySem PySem.Spec PyProof PyProof.Rows L2 Lay NdefX LamX GD
end DM
set_option Elab.async false
set_option linter.all false
set_option maxRecDepth 100000
set_option maxHeartbeats 2000000
namespace DM
open PySem L2
end DM
set_option Elab.async false
set_option linter.all false
set_option maxRecDepth 100000
set_option maxHeartbeats 2000000
namespace DM
open PySem PySem.Spec PyProof.Rows L2 Lay NdefX LamX GD
structure yp (K : PySem.W.Frag) (fd : FuncData) (ps ks : List Str) (is : List Nat) : Prop where
  to : ∀ (s : Shared) (u : Value) (ws : List Value), K.In s.heap → ws.length = ks.length → BindsTo s fd ⟨[u], ks.zip ws⟩ (ps.zip (u :: pick is ws))
theorem pV {K : PySem.W.Frag} {x qual : Str} {st : Stmt} {f : Addr} {fd : FuncData} {ps ks : List Str} {is : List Nat} (F : Fun K x qual st f fd)
    (h : ∀ (kV doc pm : Value) (an : Option Addr) (cdv ct : Value) (u : Value) (ws : List Value), ws.length = ks.length → bindArgs (PySem.W.fnOf x qual (defArgs st) (defBody st) (defScope st) .none kV doc pm an cdv ct) ⟨[u], ks.zip ws⟩ = pure (ps.zip (u :: pick is ws))) : yp K fd ps ks is := by
  obtain ⟨oc, od, kV, doc, pm, an, cdv, ct, osl, rfl, lk, hcd⟩ := F.ex
  exact ⟨fun s u ws _ l => .of_eq (h kV doc pm an cdv ct u ws l)⟩
def wD (n : Nat) (is : List Nat) (t : TA) : TA := fun σ H Q => t σ H fun zs H1 => zs.length = n ∧ Q (pick is zs) H1
def mU (n : Nat) (is : List Nat) (a : En → M (List D)) : En → M (List D) := fun ρ s => bx (a ρ s) fun x s1 => if x.length = n then some (.ok (pick is x), s1) else none
section
variable {X : Cx} {CX : CXT} {k : Nat} {f C : Addr} {fd : FuncData} {ps ks : List Str} {is : List Nat} {sp : Sp} {E : L2.St → XK} {x : Str} {p pos : Pos} {kws : List Keyword} {tk : TA}
theorem oD {pins : List (Addr × Obj)} {σ : L2.St} {H : Hp} {s : Shared} {Q : VK} {ws : List Value} {zs : List V} (M : Mk X.K C f) (F : FnG X.prog X.w X.K X.mg X.base CX k f fd ps sp) (hg : X.A.guards = some []) (hr : Room (k + 1) X.A) (hb : yp X.K fd ps ks is)
    (hx : ∀ σ, PassesAt CX X σ (E σ)) (I : Inv X pins σ H s) (r : Vals zs ws) (l : zs.length = ks.length)
    (h : ∀ x dx, H x = none → H dx = none → dx ≠ x → sp (.ref x :: pick is zs) (upd (upd H dx (.own x)) x (.ins C dx [])) (fun v H2 => v = .non ∧ Q (.ref x) H2) (E σ)) :
    codeAny (model X.prog X.w) X.A (.call (.ref C) ⟨[], ks.zip ws⟩) (fun r s' => match r with | .ok (.ret u) => EP X pins σ Q u s' | .error e => X.xe e s' | _ => False) s := by
  have hq := h (s.heap.objs.size + 1) s.heap.objs.size (I.hok.fresh (Nat.le_succ _)) (I.hok.fresh (Nat.le_refl _)) (Nat.ne_of_lt (Nat.lt_succ_self _))
  have I2 := Inv.made (C := C) I
  have r2 : Vals (V.ref (s.heap.objs.size + 1) :: pick is zs) (Value.ref (s.heap.objs.size + 1) :: pick is ws) := .cons rfl (fY r is)
  have b := hb.to _ (Value.ref (s.heap.objs.size + 1)) ws I2.kIn (r.length.symm.trans l)
  refine make_map (f := f) I.kIn M.makes M.init (beq_iff_eq.mp M.fn) (codeAny_mono (F.runs _ X.stack _ _ ⟨[Value.ref (s.heap.objs.size + 1)], ks.zip ws⟩ (Value.ref (s.heap.objs.size + 1) :: pick is ws) _ _ (E σ) hg (hr.make C [] (ks.zip ws))
    (I2.env0.make C [] (ks.zip ws)) b r2 hq) fun r s' hq' => ?_)
  cases r with
  | error e => exact hx σ pins _ _ e s' I2 hq'
  | ok fl =>
    cases fl with
    | ret u =>
      obtain ⟨v, H', I3, rv, ev, q3⟩ := I2.after hq'
      subst ev
      exact ⟨rv, ⟨V.ref (s.heap.objs.size + 1), H', I3, rfl, q3⟩⟩
    | next => exact False.elim hq'
    | brk => exact False.elim hq'
    | cont => exact False.elim hq'
/-- C(b=.., a=..) -/
theorem kq (M : Mk X.K C f) (F : FnG X.prog X.w X.K X.mg X.base CX k f fd ps sp) (hgu : X.A.guards = some []) (hr : Room (k + 1) X.A) (hg : Gl X x) (hm : X.mg x = some (.ref C)) (hb : yp X.K fd ps ks is) (hx : ∀ σ, PassesAt CX X σ (E σ)) (hkw : PK X kws tk)
    (hall : (backToKw pos (keywordEach kws X.env)).all (·.1.isSome) = true := by rfl) (hks : (backToKw pos (keywordEach kws X.env)).filterMap (·.1) = ks := by rfl) (hdb : (x == ("__debug__" : Str)) = false := by decide)
    (hpl : ((backTo pos (starEach [] X.env)).any (·.1) || (backToKw pos (keywordEach kws X.env)).any (·.1.isNone)) = false := by rfl) :
    PE X (.Call (.Name x p) [] kws pos) (XM.kU C sp E (wD ks.length is tk)) := by
  refine ⟨fun pins s σ H Q I h => ?_⟩
  refine wpAny_Call_Name_kw (ld_glob I hg hm ?_ hdb)
  refine PySem.W.callWith_KW0 (h₀ := X.base) I.ok.mod.kin M.kp hall ?_ hpl
  refine thn (hkw.run pos pins s σ H _ I h) fun ws s2 ⟨zs, H2, I2, rz, l2, q2⟩ => ⟨I2.kIn, ?_⟩
  rw [hks]
  refine wpAny_call (codeAny_mono (oD M F hgu hr hb hx I2 rz l2 q2) fun r s' hq => ?_)
  match r, hq with
  | .error e, hq => exact hq
  | .ok (.ret u), hq => exact hq
  | .ok .next, hq => exact False.elim hq
  | .ok .brk, hq => exact False.elim hq
  | .ok .cont, hq => exact False.elim hq
end
section
variable {C : Cc} {W : WX} {ts : TA} {ms : En → M (List D)}
theorem pW {n : Nat} {is : List Nat} (hs : SA C W ts ms) : SA C W (wD n is ts) (mU n is ms) := by
  intro av σ ρ s H r s' Q o e q
  refine hs.bind o e q fun x s1 vs H1 g1 o1 r1 e q => ?_
  split at e
  · rename_i hl
    cases e
    exact ⟨by rw [ah.len r1]; exact hl, q _ H1 .refl o1.wo (fG r1 is)⟩
  · cases e
end
end DM
set_option Elab.async false
set_option linter.all false
set_option maxRecDepth 100000
set_option maxHeartbeats 2000000
namespace DM
open PySem PySem.Spec PyProof.Rows L2 Lay NdefX LamX GD XK
mutual
def flO : D → Bool
  | .non => true
  | .bl _ => true
  | .int _ => true
  | .str _ => true
  | .tup xs => gc xs
  | .obj _ _ xs => gc xs
  | _ => false
def gc : List D → Bool
  | [] => true
  | x :: xs => flO x && gc xs
end
section
variable {K : PySem.W.Frag} {H : Hp} {av av2 : Av} {Γ : Wc}
mutual
theorem tD (f : ∀ a, av2 a → av a ∨ H a = none ∨ ∃ vs, H a = some (.lst vs)) : ∀ (d : D) (v : V), flO d = true → Rep K H av Γ v d → Rep K H av2 Γ v d
  | .non, _, _, h => by cases h; exact .non
  | .bl _, _, _, h => by cases h; exact .bl _
  | .int _, _, _, h => by cases h; exact .int _
  | .str _, _, _, h => by cases h; exact .str _
  | .tup xs, _, e, h => by
    cases h with
    | @tup a vs ds t r =>
      refine .tup ?_ (eY f xs _ e r)
      rcases t with ⟨n, t⟩ | t
      · refine .inl ⟨fun z => ?_, t⟩
        rcases f _ z with z | z | ⟨vs, z⟩
        · exact n z
        · rw [z] at t; cases t
        · rw [z] at t; cases t
      · exact .inr t
  | .obj _ _ xs, _, e, h => by
    cases h with
    | obj n q s l r =>
      refine .obj (fun z => ?_) q s l (eY f xs _ e r)
      rcases f _ z with z | z | ⟨vs, z⟩
      · exact n z
      · rw [z] at s; cases s
      · rw [z] at s; cases s
  | .lst _, _, e, _ => by cases e
  | .dic _ _, _, e, _ => by cases e
  | .exc _ _ _, _, e, _ => by cases e
  | .drw, _, e, _ => by cases e
  | .mob _, _, e, _ => by cases e
  | .kdc _ _, _, e, _ => by cases e
theorem eY (f : ∀ a, av2 a → av a ∨ H a = none ∨ ∃ vs, H a = some (.lst vs)) : ∀ (ds : List D) (vs : List V), gc ds = true → ah K H av Γ vs ds → ah K H av2 Γ vs ds
  | [], _, _, h => by cases h; exact .nil
  | d :: ds, _, e, h => by
    simp only [gc, Bool.and_eq_true] at e
    cases h with
    | cons a r => exact .cons (tD f d _ e.1 a) (eY f ds _ e.2 r)
end
end
/-- lists of such -/
def di : List D → Bool
  | [] => true
  | .lst xs :: ds => gc xs && decide (xs.length < 1000) && di ds
  | _ :: _ => false
def FinT (K : PySem.W.Frag) (Γ : Wc) (g : D → OD) (av : Av) (H : Hp) (s' : DS) (Q : VK) (E : XK) : Except Xn D → Prop
  | .ok d => ∀ v S H', Go Γ H H' → Wo K Γ (avO av S) H' s' → (∀ q ∈ S, H q = none ∧ H' q ≠ none ∧ ∀ c q', H' q ≠ some (CodeO c q')) → S.Nodup → OT (cb K Γ) H' (avO av S) S v (g d) → Q v H'
  | .error x => ∀ cls dd H', Go Γ H H' → Wo K Γ av H' s' → ee (cb K Γ) H' av x cls dd → E cls dd H'
def spT (K : PySem.W.Frag) (Γ : Wc) (g : D → OD) (n : Nat) (F : List D → M D) : Sp := fun vs H Q E => ∃ av s ds r s', At (cb K Γ) av s H ∧ ah K H av Γ vs ds ∧ ds.length = n ∧ F ds s = some (r, s') ∧ FinT K Γ g av H s' Q E r
theorem OT.ub {C C' : Cc} {H : Hp} {av : Av} {S : List Addr} {v : V} {o : OD} (hk : C.K = C'.K) (hg : C.Γ = C'.Γ) (h : OT C H av S v o) : OT C' H av S v o :=
  h.move (by rw [hg]) (fun vs ds r => by rw [← hk, ← hg]; exact r) (fun a vs t => by rw [← hk]; exact t) fun _ _ _ z => z
section
variable {C : Cc} {W : WX} {g : D → OD} {ta : TE} {ma : En → M D} {ts : TA} {ms : En → M (List D)}
theorem vt {A : Addr} {c m : Str} {n : Nat} {F : List D → M D} (hc : C.Γ.cl c = some A) (ho : SE C W ta ma) (hs : SA C W ts ms) : SR C W g (XM.tMethS A m (spT C.K C.Γ g n F) (WE W) ta ts) (dB c m n F ma ms) := by
  intro av σ ρ s H r s' Q o e q
  refine ho.bindR o e q fun x s1 v H1 g1 o1 r1 e q => ?_
  split at e
  · rename_i hob
    obtain ⟨p, dx, fs, rfl, hp, hlk⟩ := kX o1.at_ hc r1 hob
    refine ⟨p, dx, fs, rfl, hp, hlk, ?_⟩
    refine hs.bindR o1 e q fun xs s2 vs H2 g2 o2 r2 e q => ?_
    split at e
    · rename_i hl
      refine ⟨av, s2, x :: xs, r, s', o2.at_.b, .cons (r1.kp (g2.kp.ch o.ad)) r2, by simpa using hl, e, ?_⟩
      cases r with
      | ok d => exact fun v S H' g w n nd ot => q v S H' g w n nd (OT.ub (C := cb C.K C.Γ) (C' := C) rfl rfl ot)
      | error x => exact fun cls dd H' g w rx => q cls dd H' g w rx
    · cases e
  · cases e
theorem vv {A : Addr} {c m : Str} {n : Nat} {F : List D → M D} (hc : C.Γ.cl c = some A) (ho : SE C W ta ma) (hs : SA C W ts ms) : SF C W (XM.tMethS A m (spF C.K C.Γ true n F) (WE W) ta ts) (dB c m n F ma ms) := by
  intro av σ ρ s H r s' Q o e q
  refine ho.iO o e q fun x s1 v H1 g1 o1 r1 e q => ?_
  split at e
  · rename_i hob
    obtain ⟨p, dx, fs, rfl, hp, hlk⟩ := kX o1.at_ hc r1 hob
    refine ⟨p, dx, fs, rfl, hp, hlk, ?_⟩
    refine hs.iO o1 e q fun xs s2 vs H2 g2 o2 r2 e q => ?_
    split at e
    · rename_i hl
      refine ⟨av, s2, x :: xs, r, s', o2.at_.b, .cons (r1.kp (g2.kp.ch o.ad)) r2, by simpa using hl, e, ?_⟩
      cases r with
      | ok d => exact fun p H' g w n ow => q p H' g w n (ow.ub rfl rfl)
      | error x => exact fun cls dd H' g w rx => q cls dd H' g w rx
    · cases e
  · cases e
end
section
variable {P : Program} {w : World} {K : PySem.W.Frag} {Γ : Wc} {mg : Str → Option Value} {base : Heap}
theorem mV {C : Cc} {H : Hp} {av : Av} {vs : List V} {ds : List D} {s0 : DS} (N : Nat) (a : At (cb C.K C.Γ) av s0 H) (r : ah C.K H av C.Γ vs ds) : Ok C H av [] (vs.map some ++ List.replicate (N - vs.length) none) (env0 N ds) s0 H := by
  refine ⟨.refl, ?_, a.wo.wd (fun b z => .inl (z.resolve_right (by simp))), a.ad, a.al, fun p hp => (by cases hp), fun x z => a.nc x (z.elim id fun y => by cases y), ?_, fun i d e => ?_, fun i j d e p _ h1 => ?_, pz⟩
  · unfold env0 vals
    rw [List.length_append, List.length_append, List.length_map, List.length_map, List.length_replicate, List.length_replicate, r.len]
  · exact (aI.start (C := C) r N).wd fun a z => by
      rcases z with z | z
      · exact .inl z
      · cases z
  · rcases dt e with ⟨d', e1, e2⟩ | e2 <;> cases e2
  · rcases dt h1 with ⟨d', e1, e2⟩ | e2 <;> cases e2
/-- a def of one statement: return a tree of one's own -/
theorem yq {x qual : Str} {st : Stmt} {f : Addr} {fd : FuncData} {N ps : List Str} {k n a : Nat} {g : D → OD} {me : En → M D} (F : Fun K x qual st f fd) (Sc : FnScope N ps (defScope st)) (hn : N.length = n) (ha : ps.length = a)
    (hb : ∀ (cdv : Value) (A : Around) (outer : List Env) (s : Shared) (H : Hp) (E : XK), fd.code = cdv → A.guards = some [] → Room k (A.deeper (envOfC qual (defScope st) s.heap.objs.size f cdv)) →
      ∃ lo lq te, PSs (cxOf (L2.CX P w) P w K mg base N qual (defScope st) f cdv A outer s H E) (defBody st) (tRet te) ∧ SR ⟨K, Γ, lo, lq⟩ (fun cls d _ H' => E cls d H') g te me) :
    FnG P w K mg base (L2.CX P w) (k + 1) f fd ps (spT K Γ g a (fnD n (aV me))) := by
  subst hn ha
  refine GD.Fun.okG F Sc (fun vs H Q E h => ?_) fun cdv A outer s H vs Q E hcv hg hr h => ?_
  · obtain ⟨av, s, ds, d, s', a, r, hl, _⟩ := h
    rw [r.len, hl]
  · obtain ⟨av, s0, ds, res, s', a, r, hl, e, q⟩ := h
    obtain ⟨lo, lq, te, h1, h2⟩ := hb cdv A outer s H E hcv hg hr
    refine ⟨_, h1, ?_⟩
    have hst : start N vs = vs.map some ++ List.replicate (N.length - vs.length) none := rfl
    rw [hst]
    have ok := (mV (C := ⟨K, Γ, lo, lq⟩) N.length a r).toE
    have nil : ∀ {a : Addr}, avO av [] a → av a := fun {a} z => z.elim id fun y => by cases y
    have key : ∃ r1, me (env0 N.length ds) s0 = some (r1, s') ∧ r1 = res := by
      unfold fnD nW aV at e
      cases eb : me (env0 N.length ds) s0 with
      | none => rw [eb] at e; cases e
      | some pr =>
        obtain ⟨rs, s1⟩ := pr
        rw [eb] at e
        cases rs <;> cases e <;> exact ⟨_, rfl, rfl⟩
    obtain ⟨r1, em, rfl⟩ := key
    refine h2 _ _ _ s0 H r1 s' _ ok em ?_
    cases r1 with
    | ok d => exact fun v S H' g w n nd ot => q v S H' g (w.wd fun a z => .inl (z.imp .inl id)) n nd ((OT.ub (C := ⟨K, Γ, lo, lq⟩) (C' := cb K Γ) rfl rfl ot).kw .refl (fun a z => Or.inl (z.imp Or.inl id)) fun _ _ _ z => z)
    | error x => exact fun cls dd H' g w rx => q cls dd H' g (w.wd fun a z => .inl (.inl z)) (ee.wd rx fun a z => .inl (.inl z))
end
end DM
set_option Elab.async false
set_option linter.all false
set_option maxRecDepth 100000
set_option maxHeartbeats 2000000
namespace DM
open PySem PySem.Spec PyProof.Rows L2 Lay NdefX LamX GD XK
def tE (H : Hp) (av : Av) : Av := fun a => av a ∨ ∃ vs, H a = some (.lst vs)
/-- C(hs, rs), behind which the object holds nothing of the lists handed in -/
def tF (K : PySem.W.Frag) (Γ : Wc) (A : Addr) (c f1 f2 : Str) (F : List D → M D) : Sp := fun vs H Q E => ∃ H0 x dx v0 v1 av s y z e1 e2 s', vs = [.ref x, v0, v1] ∧ H0 x = none ∧ H0 dx = none ∧ dx ≠ x ∧ H = upd (upd H0 dx (.own x)) x (.ins A dx []) ∧
  At (cb K Γ) av s H0 ∧ Γ.cl c = some A ∧ Rep K H0 av Γ v0 y ∧ Rep K H0 av Γ v1 z ∧ F [y, z] s = some (.ok (.obj c [f1, f2] [e1, e2]), s') ∧
  ∀ H' dx' v2 v3, Go Γ H0 H' → Wo K Γ av H' s' → H' x = some (.ins A dx' [(f1, v2), (f2, v3)]) → Rep K H' (tE H0 av) Γ v2 e1 → Rep K H' (tE H0 av) Γ v3 e2 → Q .non H'
def oE (c f1 f2 : Str) (n : Nat) (m : S) : List D → M D := fun ds s => match ds, s.m with
  | [x, y], [] => (match m (env0 n [.mob 0, x, y]) (s.push (.obj c [] [])) with
    | some (.nx ρ, s1) => match ρ[0]?, ρ[1]?, ρ[2]?, s1.m with
      | some (Sl.val (.mob 0)), some (Sl.val (.lst hs)), some (Sl.val (.lst rs)), [.obj c' [] []] =>
        if c' = c ∧ ρ.length = n ∧ gc hs = true ∧ di rs = true ∧ hs.length < 1000 ∧ rs.length < 1000 then some (.ok (.obj c [f1, f2] [.lst hs, .lst rs]), s1.pop 0) else none
      | _, _, _, _ => none
    | _ => none)
  | _, _ => none
theorem tG {c f1 f2 : Str} {n : Nat} {m : S} {y z : D} {s s' : DS} {r : Except Xn D} (h : oE c f1 f2 n m [y, z] s = some (r, s')) : s.m = [] ∧ ∃ ρ s1 hs rs, m (env0 n [.mob 0, y, z]) (s.push (.obj c [] [])) = some (.nx ρ, s1) ∧ ρ[0]? = some (Sl.val (.mob 0)) ∧ ρ[1]? = some (Sl.val (.lst hs)) ∧ ρ[2]? = some (Sl.val (.lst rs)) ∧
    s1.m = [.obj c [] []] ∧ ρ.length = n ∧ gc hs = true ∧ di rs = true ∧ hs.length < 1000 ∧ rs.length < 1000 ∧ r = .ok (.obj c [f1, f2] [.lst hs, .lst rs]) ∧ s' = s1.pop 0 := by
  unfold oE at h
  split at h
  · rename_i x y' h1 h2
    cases h1
    split at h
    · rename_i ρ s1 hm
      split at h
      · rename_i hs rs c' e0 e1 e2 e3
        split at h
        · rename_i hc
          obtain ⟨rfl, q⟩ := hc
          cases h
          exact ⟨h2, ρ, s1, hs, rs, hm, e0, e1, e2, e3, q.1, q.2.1, q.2.2.1, q.2.2.2.1, q.2.2.2.2, rfl, rfl⟩
        · cases h
      · cases h
    · cases h
  · cases h
mutual
theorem yr : ∀ d : D, flO d = true → nmD d = true
  | .non, _ => rfl
  | .bl _, _ => rfl
  | .int _, _ => rfl
  | .str _, _ => rfl
  | .tup xs, h => hG xs h
  | .obj _ _ xs, h => hG xs h
  | .lst _, h => by cases h
  | .dic _ _, h => by cases h
  | .exc _ _ _, h => by cases h
  | .drw, h => by cases h
  | .mob _, h => by cases h
  | .kdc _ _, h => by cases h
theorem hG : ∀ ds : List D, gc ds = true → g7 ds = true
  | [], _ => rfl
  | d :: ds, h => by
    simp only [gc, Bool.and_eq_true] at h
    simp only [g7, Bool.and_eq_true]
    exact ⟨yr d h.1, hG ds h.2⟩
end
theorem mW : ∀ ds : List D, di ds = true → g7 ds = true
  | [], _ => rfl
  | d :: ds, h => by
    cases d <;> try (cases h; done)
    simp only [di, Bool.and_eq_true] at h
    simp only [g7, Bool.and_eq_true]
    exact ⟨hG _ h.1.1, mW ds h.2⟩
section
variable {C : Cc} {H : Hp} {av av4 : Av}
theorem jd : ∀ {ds : List D} {S : List Addr} {vs : List V}, OTs C H av S vs (odV ds) → S = [] ∧ ah C.K H av C.Γ vs ds
  | [], _, _, h => by
    cases h
    exact ⟨rfl, .nil⟩
  | d :: ds, _, _, h => by
    cases h with
    | cons a r =>
      cases a with
      | val ra =>
        obtain ⟨rfl, rr⟩ := jd r
        exact ⟨rfl, .cons ra rr⟩
theorem mX (f : ∀ a, av4 a → av a ∨ H a = none ∨ ∃ vs, H a = some (.lst vs)) : ∀ {ds : List D} {S : List Addr} {vs : List V}, di ds = true → (∀ q ∈ S, ¬ av4 q) → OTs C H av S vs (ds.map eA) → ah C.K H av4 C.Γ vs ds
  | [], _, _, _, _, h => by
    cases h
    exact .nil
  | d :: ds, _, _, e, n, h => by
    cases d <;> try (cases e; done)
    simp only [di, Bool.and_eq_true] at e
    cases h with
    | cons a r =>
      cases a with
      | lst s ra =>
        obtain ⟨rfl, rr⟩ := jd ra
        exact .cons (.lst (n _ (List.mem_append_left _ List.mem_cons_self)) s (eY f _ _ e.1.1 rr)) (mX f e.2 (fun q hq => n q (List.mem_append_right _ hq)) r)
end
section
variable {P : Program} {w : World} {K : PySem.W.Frag} {Γ : Wc} {mg : Str → Option Value} {base : Heap}
theorem qJ {x : Addr} (h : Γ.mu = []) : (Γ.push x).iX = Γ := by
  cases Γ
  cases h
  rfl
theorem yt {x qual : Str} {st : Stmt} {f : Addr} {fd : FuncData} {N ps : List Str} {k n : Nat} {A : Addr} {c f1 f2 : Str} {m : S} {mh ml : En → M D} (F : Fun K x qual st f fd) (Sc : FnScope N ps (defScope st)) (hn : N.length = n) (ha : ps.length = 3) (h12 : f1 ≠ f2)
    (hX1 : Cls K A ∧ NoAttr K A f1) (hX2 : NoAttr K A f2)
    (hmh : ∀ ρ s ds, ρ[1]? = some (Sl.val (.lst ds)) → ds.length < 1000 → mh ρ s = some (.ok (.lst ds), s))
    (hml : ∀ ρ s ds, ρ.length = n → ρ[2]? = some (Sl.val (.lst ds)) → ds.length < 1000 → di ds = true → ml ρ s = some (.ok (.lst ds), s))
    (hb : ∀ (y : Addr) (cdv : Value) (A : Around) (outer : List Env) (s : Shared) (H : Hp) (E : XK), fd.code = cdv → A.guards = some [] → Room k (A.deeper (envOfC qual (defScope st) s.heap.objs.size f cdv)) →
      ∃ lo lq t1 t2 th tl, PSs (cxOf (L2.CX P w) P w K mg base N qual (defScope st) f cdv A outer s H E) (defBody st) (tSeq t1 (tSeq t2 (tSeq (sFld K (tVar 0) th f1) (sFld K (tVar 0) tl f2)))) ∧
        SS ⟨K, Γ.push y, lo, lq⟩ (fun cls d _ H' => E cls d H') false (tSeq t1 t2) m ∧ SF ⟨K, Γ, lo, lq⟩ (fun cls d _ H' => E cls d H') th mh ∧ SR ⟨K, Γ, lo, lq⟩ (fun cls d _ H' => E cls d H') odL tl ml) :
    FnG P w K mg base (L2.CX P w) (k + 1) f fd ps (tF K Γ A c f1 f2 (oE c f1 f2 n m)) := by
  subst hn
  refine GD.Fun.okG F Sc (fun vs H Q E h => ?_) fun cdv Ar outer s H vs Q E hcv hg hr h => ?_
  · obtain ⟨H0, x, dx, v0, v1, av, s, y, z, e1, e2, s', rfl, _⟩ := h
    rw [ha]
    rfl
  · obtain ⟨H0, x, dx, v0, v1, av, s0, y, z, e1, e2, s', rfl, nx, nd, ne, rfl, at0, hcl, ry, rz, hF, q⟩ := h
    obtain ⟨hm0, ρ2, s2, hs, rs, em, p0, p1, p2, hm2, lρ, hfl, hro, hl1, hl2, er, es⟩ := tG hF
    cases er
    cases es
    have hmu : Γ.mu = [] := List.eq_nil_of_length_eq_zero (by have h : s0.m.length = Γ.mu.length := at0.wo.ml; rw [← h, hm0]; rfl)
    obtain ⟨lo, lq, t1, t2, th, tl, hw, hss, hsf, hsr⟩ := hb x cdv Ar outer s _ E hcv hg hr
    refine ⟨_, hw, ?_⟩
    let av2 : Av := fun a => av a ∨ a = x
    have k1 : Same H0 (upd H0 dx (.own x)) := bV nd
    have nx1 : (upd H0 dx (.own x)) x = none := by rw [upd_ne (Ne.symm ne)]; exact nx
    have sm : Same H0 (upd (upd H0 dx (.own x)) x (.ins A dx [])) := fun a u h => bV nx1 a u (k1 a u h)
    have nax : ¬ av x := fun z => at0.al x z nx
    have w2 : Wo K (Γ.push x) av2 (upd (upd H0 dx (.own x)) x (.ins A dx [])) (s0.push (.obj c [] [])) :=
      at0.wo.push nx sm (.obj (Γ := Γ.push x) (vs := []) hcl upd_same rfl .nil)
    have at2 : At (cb K (Γ.push x)) av2 (s0.push (.obj c [] [])) (upd (upd H0 dx (.own x)) x (.ins A dx [])) := by
      refine ⟨w2, fun a z => (gX.mp z).imp (at0.ad a) id, fun a z => ?_, fun a z => ?_⟩
      · rcases z with z | z
        · exact kf sm a (at0.al a z)
        · rw [z, upd_same]; simp
      · rcases z with z | z
        · exact ir (ir (at0.nc a z) (fun c q e => by cases e)) (fun c q e => by cases e)
        · rw [z, upd_same]
          intro c q e
          cases e
    have hx0 : (Γ.push x).mu[0]? = some x := by
      show (Γ.mu ++ [x])[0]? = _
      rw [hmu]
      rfl
    have rx : ah K (upd (upd H0 dx (.own x)) x (.ins A dx [])) av2 (Γ.push x) [.ref x, v0, v1] [.mob 0, y, z] :=
      .cons (.mob (Γ := Γ.push x) hx0) (ah.ew _ _ (((ah.cons ry (.cons rz .nil)).wd fun a z => z.imp id fun z => by rw [z]; exact nx).kp (.of sm)))
    have ok := mV (C := ⟨K, Γ.push x, lo, lq⟩) N.length (s0 := s0.push (.obj c [] [])) at2.ub rx
    refine (show tSeq (tSeq t1 t2) (tSeq (sFld K (tVar 0) th f1) (sFld K (tVar 0) tl f2)) _ _ _ from ?_)
    refine hss _ av2 [] _ _ _ _ _ _ _ ok em fun os2 σ2 H2 o2 fr2 => ?_
    -- the slots
    obtain ⟨u0, hu0, ru0⟩ := o2.sl.val 0 _ p0
    obtain ⟨x', rfl, hx'⟩ := ru0.kD
    obtain rfl : x = x' := Option.some.inj (hx0.symm.trans hx')
    obtain ⟨u1, hu1, ru1⟩ := o2.sl.val 1 _ p1
    obtain ⟨u2, hu2, ru2⟩ := o2.sl.val 2 _ p2
    have chx : (Γ.push x).ch x := gX.mpr (.inr rfl)
    have nchx : ¬ Γ.ch x := fun z => nax (at0.ad x z)
    have hΓ := qJ (Γ := Γ) (x := x) hmu
    obtain ⟨lo', hlo⟩ : ∃ av3 : Av, av3 = avO av2 os2 := ⟨_, rfl⟩
    have toN : ∀ {d : D} {v : V}, nmD d = true → Rep K H2 (avO av2 os2) (Γ.push x) v d → Rep K H2 (avO av2 os2) Γ v d := fun hd r => by
      have := Rep.toN _ _ hd r
      rw [hΓ] at this
      exact this
    have mtx : ∀ {H' : Hp} {av' : Av} {s' : DS}, Wo K (Γ.push x) av' H' s' → s'.m = [.obj c [] []] → ∃ dx', H' x = some (.ins A dx' []) := fun w e => by
      have := w.mt 0 x _ hx0 (by rw [e]; rfl)
      cases this with
      | obj hA h1 hl ra =>
        cases hcl.symm.trans hA
        exact ⟨_, by simpa using h1⟩
    -- where nothing changes but the draws
    let s20 : DS := { s2 with m := [] }
    have oe2 := o2.toE
    have sub : ∀ a, Γ.ch a → avO av2 os2 a := fun a z => .inl (.inl (at0.ad a z))
    have wo2 : Wo K Γ (avO av2 os2) H2 s20 := by
      have := oe2.wo.toN
      rw [hΓ] at this
      exact this
    have woO : ∀ {H' : Hp} , Go Γ H2 H' → Wo K Γ (avO av2 os2) H' s20 → Wo K (Γ.push x) (avO av2 os2) H' { s20 with m := s2.m } := fun {H'} g w => by
      refine Wo.ofN oe2.wo (s' := s20) ?_ ?_ oe2.ad
      · rw [hΓ]; exact g
      · rw [hΓ]; exact w
    let ρ0 : En := ((ρ2.map fun _ => Sl.no).set 1 (.val (.lst hs))).set 2 (.val (.lst rs))
    have l1 : 1 < ρ2.length := (List.getElem?_eq_some_iff.mp p1).1
    have l2 : 2 < ρ2.length := (List.getElem?_eq_some_iff.mp p2).1
    have q1 : ρ0[1]? = some (Sl.val (.lst hs)) := by
      show (((ρ2.map fun _ => Sl.no).set 1 (.val (.lst hs))).set 2 _)[1]? = _
      rw [List.getElem?_set_ne (by decide), List.getElem?_set_self (by simpa using l1)]
    have q2 : ρ0[2]? = some (Sl.val (.lst rs)) := by
      show (((ρ2.map fun _ => Sl.no).set 1 (.val (.lst hs))).set 2 _)[2]? = _
      rw [List.getElem?_set_self (by simpa using l2)]
    have qn : ∀ {j : Nat} {sl : Sl}, ρ0[j]? = some sl → sl = .no ∨ (j = 1 ∧ sl = .val (.lst hs)) ∨ (j = 2 ∧ sl = .val (.lst rs)) := fun {j sl} e => by
      by_cases h2 : j = 2
      · subst h2
        rw [q2] at e
        cases e
        exact .inr (.inr ⟨rfl, rfl⟩)
      by_cases h1 : j = 1
      · subst h1
        rw [q1] at e
        cases e
        exact .inr (.inl ⟨rfl, rfl⟩)
      have e' : (((ρ2.map fun _ => Sl.no).set 1 (Sl.val (.lst hs))).set 2 (.val (.lst rs)))[j]? = some sl := e
      rw [List.getElem?_set_ne (Ne.symm h2), List.getElem?_set_ne (Ne.symm h1)] at e'
      exact .inl (yo e')
    have rh : Rep K H2 (avO av2 os2) Γ u1 (.lst hs) := toN (hG _ hfl) ru1
    have rr : Rep K H2 (avO av2 os2) Γ u2 (.lst rs) := toN (mW _ hro) ru2
    have sl0 : aI ⟨K, Γ, lo, lq⟩ H2 (avO av2 os2) σ2 ρ0 := by
      refine ⟨fun j d e => ?_, fun j d e => ?_, fun j d e => ?_⟩
      · rcases qn e with h | ⟨rfl, h⟩ | ⟨rfl, h⟩
        · cases h
        · cases h
          exact ⟨u1, hu1, rh⟩
        · cases h
          exact ⟨u2, hu2, rr⟩
      · rcases qn e with h | ⟨rfl, h⟩ | ⟨rfl, h⟩ <;> cases h
      · rcases qn e with h | ⟨rfl, h⟩ | ⟨rfl, h⟩ <;> cases h
    have ln0 : σ2.length = ρ0.length := by
      rw [o2.len]
      show _ = (((ρ2.map fun _ => Sl.no).set 1 (Sl.val (.lst hs))).set 2 (.val (.lst rs))).length
      simp
    have ok0 : OkE ⟨K, Γ, lo, lq⟩ (avO av2 os2) σ2 ρ0 s20 H2 := ⟨ln0, wo2, sub, oe2.al, oe2.nc, sl0⟩
    have b0 : ∀ {a : Addr}, H2 a = none → H0 a = none := fun h => Lv.back (kf sm) (fr2.lv.back h)
    refine hsf _ σ2 ρ0 s20 H2 _ _ _ ok0 (hmh ρ0 s20 hs q1 hl1) fun v2 H3 g3 w3 n3 ow3 => ?_
    have wo3 : Wo K Γ (avO av2 os2) H3 s20 := w3.wd fun a z => .inl (.inl z)
    have ok3 := ok0.step g3 wo3
    obtain ⟨dx3, hx3⟩ := mtx (woO g3 wo3) hm2
    refine ⟨.ref x, hu0, x, A, dx3, [], rfl, hx3, hX1.1, hX1.2, by decide, ?_⟩
    have ax : avO av2 os2 x := .inl (.inr rfl)
    have xc : ∀ {H' : Hp} {fs : List (Str × V)} {o : HO}, OkE ⟨K, Γ, lo, lq⟩ (avO av2 os2) σ2 ρ0 s20 H' → H' x = some (.ins A dx3 fs) → (∀ c q, o ≠ CodeO c q) → OkE ⟨K, Γ, lo, lq⟩ (avO av2 os2) σ2 ρ0 s20 (upd H' x o) := fun {H' fs o} ok h hno =>
      ⟨ok.len, ok.wo.own ax nchx h (fun c q z => by cases z), ok.ad, fun a z => Lv.upd a (ok.al a z), fun a z => ir (ok.nc a z) hno, ok.sl.kp (.upd ax)⟩
    have ok4 := xc (o := .ins A dx3 [(f1, .ref v2)]) ok3 hx3 (fun c q z => by cases z)
    refine hsr _ σ2 ρ0 s20 _ _ _ _ ok4 (hml ρ0 s20 rs (by rw [← lρ, ← o2.len, ln0]) q2 hl2 hro) fun v3 S H5 g5 w5 n5 nd5 ot5 => ?_
    have wo5 : Wo K Γ (avO av2 os2) H5 s20 := w5.wd fun a z => .inl (.inl z)
    have hx5 : H5 x = some (.ins A dx3 [(f1, .ref v2)]) := g5.kp x _ nchx upd_same
    refine ⟨.ref x, hu0, x, A, dx3, _, rfl, hx5, hX1.1, hX2, (by show 1 < 1000; decide), ?_⟩
    have ok5 := ok4.step g5 wo5
    have ok6 := xc (o := .ins A dx3 (putF f2 v3 [(f1, .ref v2)])) ok5 hx5 (fun c q z => by cases z)
    have hput : putF f2 v3 [(f1, V.ref v2)] = [(f1, .ref v2), (f2, v3)] := by
      show (if f1 = f2 then _ else _) = _
      rw [if_neg h12]
      rfl
    let av4 : Av := fun a => tE H0 av a ∨ a = x
    have n2 : H2 v2 = none := n3
    have keep : ∀ {H' H'' : Hp} {o : HO}, Go Γ H' H'' → Kp av4 H' (upd H'' x o) := fun {H' H'' o} g a ob n h => by
      rw [upd_ne (fun z => n (.inr z))]
      exact g.kp a ob (fun z => n (.inl (.inl (at0.ad a z)))) h
    have cond : ∀ {H' : Hp}, Kp av2 H0 H' → ∀ a, av4 a → avO av2 os2 a ∨ H' a = none ∨ ∃ vs, H' a = some (.lst vs) := fun {H'} k a z => by
      rcases z with (z | ⟨vs, z⟩) | z
      · exact .inl (.inl (.inl z))
      · by_cases h : av2 a
        · exact .inl (.inl h)
        · exact .inr (.inr ⟨vs, k a _ h z⟩)
      · exact .inl (.inl (.inr z))
    have kp2 : Kp av2 H0 H2 := fun a ob n h => fr2.kp a ob (fun z => z.elim n (by simp)) (sm a ob h)
    have kp3 : Kp av2 H0 H3 := kp2.trans (g3.kp.mono fun a z => .inl (at0.ad a z))
    have kp5 : Kp av2 H0 H5 := (kp3.trans (.upd (.inr rfl))).trans (g5.kp.mono fun a z => .inl (at0.ad a z))
    have na4 : ∀ {a : Addr}, H0 a = none → a ≠ x → ¬ av4 a := fun h hx z => by
      rcases z with (z | ⟨vs, z⟩) | z
      · exact at0.al _ z h
      · rw [h] at z; cases z
      · exact hx z
    obtain ⟨us, hp3, ra3⟩ := ow3
    have vx : v2 ≠ x := fun z => by
      rw [z] at n2
      exact oe2.al x ax n2
    have wsh : ∀ {a : Addr}, tE H0 av a → av4 a ∨ True := fun z => .inl (.inl z)
    have r2 : Rep K (upd H5 x (.ins A dx3 [(f1, .ref v2), (f2, v3)])) av4 Γ (.ref v2) (.lst hs) := by
      refine .lst (vs := us) (na4 (b0 n2) vx) ?_ ?_
      · rw [upd_ne vx]
        exact g5.kp v2 _ (fun z => at0.al v2 (at0.ad v2 z) (b0 n2)) (by rw [upd_ne vx]; exact hp3)
      · have := eY (av2 := av4) (fun a z => (cond kp3 a z).imp .inl id) _ _ hfl ra3
        exact (this.kp (.upd (.inr rfl))).kp (keep g5)
    have n5' : ∀ q ∈ S, H0 q = none ∧ q ≠ x := fun q hq => by
      have h := (n5 q hq).1
      have hqx : q ≠ x := fun z => by rw [z, upd_same] at h; cases h
      rw [upd_ne hqx] at h
      exact ⟨b0 (g3.lv.back h), hqx⟩
    have r3 : Rep K (upd H5 x (.ins A dx3 [(f1, .ref v2), (f2, v3)])) av4 Γ v3 (.lst rs) := by
      have ot5 : OT ⟨K, Γ, lo, lq⟩ H5 (avO (avO av2 os2) S) S v3 (.lst (rs.map eA)) := ot5
      cases ot5 with
      | @lst a vs S' xs s r =>
        have ha := n5' a List.mem_cons_self
        have rr := mX (av4 := av4) (fun a z => (cond kp5 a z).imp .inl id) hro (fun q hq => na4 (n5' q (List.mem_cons_of_mem _ hq)).1 (n5' q (List.mem_cons_of_mem _ hq)).2) r
        refine .lst (vs := vs) (na4 ha.1 ha.2) ?_ (rr.kp (.upd (.inr rfl)))
        rw [upd_ne ha.2]
        exact s
    rw [hput] at ok6 ⊢
    refine q _ dx3 (.ref v2) v3 ⟨fun a ob n h => ?_, fun a h => ?_⟩ ?_ upd_same (r2.wd fun a z => .inl (.inl z)) (r3.wd fun a z => .inl (.inl z))
    · have hax : a ≠ x := fun z => by rw [z, nx] at h; cases h
      rw [upd_ne hax]
      refine g5.kp a ob n ?_
      rw [upd_ne hax]
      refine g3.kp a ob n ?_
      have := o2.go.kp a ob (fun z => (gX.mp z).elim n hax) (sm a ob h)
      exact this
    · refine Lv.upd a (g5.lv a (Lv.upd a (g3.lv a (fr2.lv a (kf sm a h)))))
    · have := ok6.wo.wd (av2 := av) fun a z => .inl (.inl (.inl z))
      exact this
end
end DM
set_option Elab.async false
set_option linter.all false
set_option maxRecDepth 100000
set_option maxHeartbeats 2000000
namespace DM
open PySem PySem.Spec PyProof.Rows L2 Lay NdefX LamX GD XK
def pX : D → OD
  | .tup [a, b] => .tup [eA a, odL b]
  | d => .val d
def gm (m0 m1 : En → M D) : En → M D := fun ρ s => bx (m0 ρ s) fun x s1 => bx (m1 ρ s1) fun y s2 => some (.ok (.tup [x, y]), s2)
section
variable {C : Cc} {W : WX} {fr : Bool} {t0 t1 te : TE} {m0 m1 me : En → M D}
theorem OkE.more {av : Av} {σ : L2.St} {ρ : En} {s s1 : DS} {H H1 : Hp} {S : List Addr} (o : OkE C av σ ρ s H) (g : Go C.Γ H H1) (w : Wo C.K C.Γ (avO av S) H1 s1) (n : ∀ q ∈ S, H q = none ∧ H1 q ≠ none ∧ ∀ c q', H1 q ≠ some (CodeO c q')) : OkE C (avO av S) σ ρ s1 H1 := by
  refine ⟨o.len, w, fun a z => .inl (o.ad a z), fun a z => z.elim (fun z => g.lv a (o.al a z)) fun z => (n a z).2.1, fun a z => ?_, ?_⟩
  · rcases z with z | z
    · exact g.nc w (o.al a z) (o.nc a z)
    · exact (n a z).2.2
  · exact (o.sl.wd fun a z => z.imp id fun z => (n a z).1).kp (g.kp.mono fun a z => .inl (o.ad a z))
theorem pY (h0 : SR C W eA t0 m0) (h1 : SR C W odL t1 m1) : SR C W pX (tTup (tCons t0 (tCons t1 tNil))) (gm m0 m1) := by
  intro av σ ρ s H r s' Q o e q
  unfold gm at e
  cases hm0 : m0 ρ s with
  | none => rw [hm0] at e; cases e
  | some pr =>
    obtain ⟨a, s1⟩ := pr
    rw [hm0] at e
    cases a with
    | error x =>
      cases e
      exact h0 av σ ρ s H _ _ _ o hm0 fun cls dd H' g w rx => q cls dd H' g w rx
    | ok a =>
      refine h0 av σ ρ s H _ _ _ o hm0 fun v0 S0 H1 g1 w1 n0 nd0 ot0 => ?_
      have o1 := o.more g1 w1 n0
      simp only [bx] at e
      cases hm1 : m1 ρ s1 with
      | none => rw [hm1] at e; cases e
      | some pr =>
        obtain ⟨b, s2⟩ := pr
        rw [hm1] at e
        cases b with
        | error x =>
          cases e
          exact h1 _ σ ρ s1 H1 _ _ _ o1 hm1 fun cls dd H' g w rx => q cls dd H' (g1.trans g) (w.wd fun a z => .inl (.inl z)) (ee.wd rx fun a z => .inl (.inl z))
        | ok b =>
          cases e
          refine h1 _ σ ρ s1 H1 _ _ _ o1 hm1 fun v1 S1 H2 g2 w2 n1 nd1 ot1 => ⟨by show 2 ≤ sizeLine; decide, fun p hp => ?_⟩
          have eqv : ∀ a, avO av (S0 ++ S1) a ↔ avO (avO av S0) S1 a := fun a => by
            show (av a ∨ a ∈ S0 ++ S1) ↔ ((av a ∨ a ∈ S0) ∨ a ∈ S1)
            rw [List.mem_append]
            exact or_assoc.symm
          have keep2 : ∀ q ∈ S0, ∀ ob, H1 q = some ob → H2 q = some ob := fun q hq ob z => g2.kp q ob (fun c => o.al q (o.ad q c) (n0 q hq).1) z
          have nin : ∀ q ∈ S0, q ∉ S1 := fun q hq z => (n0 q hq).2.1 (n1 q z).1
          have k2 : Kp (avO av (S0 ++ S1)) H1 H2 := g2.kp.mono fun a z => .inl (o.ad a z)
          have ot0' : OT C H2 (avO av (S0 ++ S1)) S0 v0 (eA a) := ot0.wk (fun a z => ((eqv a).mp z).imp id fun z => (n1 a z).1) k2 keep2
          have ot1' : OT C H2 (avO av (S0 ++ S1)) S1 v1 (odL b) := ot1.kw .refl (fun a z => .inl ((eqv a).mp z)) fun _ _ _ z => z
          have ap : ∀ {a}, avO av (S0 ++ S1) a → H2 a ≠ none := fun {a} z => by
            rcases (eqv a).mp z with z | z
            · exact g2.lv a (o1.al a z)
            · exact (n1 a z).2.1
          have np : ∀ {a}, avO av (S0 ++ S1) a → a ≠ p := fun z e => ap z (by rw [e]; exact hp)
          have kn : Kp (avO av (S0 ++ S1)) H2 (upd H2 p (.tup [v0, v1])) := .new hp
          have kS : ∀ q ∈ S0 ++ S1, ∀ ob, H2 q = some ob → (upd H2 p (.tup [v0, v1])) q = some ob := fun q hq ob z => by
            rw [upd_ne (np (.inr hq))]
            exact z
          have rest : OTs C (upd H2 p (.tup [v0, v1])) (avO av (S0 ++ S1)) (S0 ++ (S1 ++ [])) [v0, v1] [eA a, odL b] :=
            .cons (ot0'.kw kn (fun _ z => .inl z) fun q hq => kS q (List.mem_append_left _ hq)) (.cons (ot1'.kw kn (fun _ z => .inl z) fun q hq => kS q (List.mem_append_right _ hq)) .nil)
          rw [List.append_nil] at rest
          refine q (.ref p) (S0 ++ S1) _ ((g1.trans g2).trans (.new hp)) ((w2.wd fun a z => .inl ((eqv a).mp z)).new hp) (fun q hq => ?_) (List.nodup_append.mpr ⟨nd0, nd1, fun x hx y hy e => nin x hx (by rw [e]; exact hy)⟩) (.tup (.inl ⟨fun z => ap z hp, upd_same⟩) rest)
          rw [upd_ne (np (.inr hq))]
          rcases List.mem_append.mp hq with hq | hq
          · refine ⟨(n0 q hq).1, g2.lv q (n0 q hq).2.1, fun c q' z => ?_⟩
            cases e1 : H1 q with
            | none => exact (n0 q hq).2.1 e1
            | some ob =>
              rw [keep2 q hq ob e1] at z
              cases z
              exact (n0 q hq).2.2 _ _ e1
          · exact ⟨g1.lv.back (n1 q hq).1, (n1 q hq).2⟩
theorem Ok.offS {E0 : Hp} {ae : Av} {os : List Addr} {σ σ' : L2.St} {ρ : En} {s : DS} {H : Hp} (o : Ok C E0 ae os σ ρ s H) (i : Nat) (hl : σ'.length = σ.length) (hσ : ∀ j, i ≠ j → σ'[j]? = σ[j]?) : Ok C E0 ae os σ' (ρ.set i .no) s H := by
  refine ⟨o.go, by rw [List.length_set, hl, o.len], o.wo, o.ad, o.al, o.ow, o.nc, o.sl.off i (fun _ h => by cases h) (fun _ h => by cases h) (fun _ h => by cases h) hσ, fun k d hk => ?_, fun j k d e p n h1 h2 h3 => ?_, o.tx.gen (fun j e h => ?_) (fun _ h => h) (fun j e h => ?_) (fun j e p h1 h2 => ?_) fun S v x hS _ h => ⟨h, hS⟩⟩
  rotate_left 2
  · obtain ⟨n, h⟩ := aO h (by simp)
    exact ⟨h, hσ _ n⟩
  · obtain ⟨n, h⟩ := aO h (by simp)
    exact ⟨h, hσ _ n⟩
  · obtain ⟨n, h1⟩ := aO h1 (by simp)
    rw [hσ _ n] at h2
    exact .inl ⟨e, h1, h2⟩
  · obtain ⟨n, hk⟩ := aO hk (by simp)
    rw [hσ _ n]
    exact o.own k d hk
  · obtain ⟨n1, h1⟩ := aO h1 (by simp)
    obtain ⟨n2, h2⟩ := aO h2 (by simp)
    rw [hσ _ n1] at h3
    rw [hσ _ n2]
    exact o.dis j k d e p n h1 h2 h3
theorem iI {ρ : En} (h : ρ.all iZ = true) : pQ ρ = true := List.all_eq_true.mpr fun x hx => by
  have := List.all_eq_true.mp h x hx
  cases x <;> first | rfl | cases this
theorem iJ {ρ : En} (h : ρ.all iZ = true) (i : Nat) {sl : Sl} (hs : iZ sl = true) : (ρ.set i sl).all iZ = true := List.all_eq_true.mpr fun x hx => by
  rcases List.mem_or_eq_of_mem_set hx with hx | rfl
  · exact List.all_eq_true.mp h x hx
  · exact hs
theorem lu {ρ : En} (h : ρ.all iZ = true) {j : Nat} {d : D} (e : ρ[j]? = some (Sl.own d)) : False := by
  have := yn h e
  cases this
def tH (K : PySem.W.Frag) (h r : Nat) : TS := tFor (qA K (tOp (rIx K) (tVar h) (tC (.int 1)))) (gName r) (tDrop (tBM K "list" rAppend (tVar r) (tCons (tC .non) tNil)))
theorem mY {E0 : Hp} {ae : Av} {os : List Addr} {σ : L2.St} {ρ : En} {s : DS} {H : Hp} {De : Ends} {h r : Nat} {pt p1 : Addr} {v0 : V} {ws : List V} (o : Ok C E0 ae os σ ρ s H) (hnv : ρ.all iZ = true) (hh : σ[h]? = some (some (.ref pt))) (hr : h ≠ r) (hrl : r < σ.length)
    (ht : TupAt C.K H (avO ae os) pt [v0, .ref p1]) (hp : H p1 = some (.lst ws)) (hw : ∀ x ∈ ws, ∃ q us, x = V.ref q ∧ q ∈ os ∧ q ≠ p1 ∧ H q = some (.lst us) ∧ us.length < 1000) (hl : ws.length < 1000)
    (p : ∀ σ' H', Ok C E0 ae os σ' (ρ.set r .no) s H' → σ'[h]? = some (some (.ref pt)) → (∀ a, (∀ x ∈ ws, x ≠ V.ref a) → H' a = H a) → Fr ae os H os H' → De.nx σ' H') : tH C.K h r De σ H := by
  refine .inl ⟨.ref pt, hh, .inr (.inl ⟨pt, _, 1, .ref p1, rfl, rfl, ht.sq, rfl, p1, rfl, ⟨ws, SqL.of hp⟩, ?_⟩)⟩
  have np1 : ∀ x ∈ ws, x ≠ V.ref p1 := fun x hx e => by
    obtain ⟨q, us, rfl, _, n, _⟩ := hw x hx
    cases e
    exact n rfl
  refine for_it (walk_list (K := C.K) (a := p1) (xs := ws)) (Pv := fun i σc Hc => Ok C E0 ae os σc (ρ.set r .no) s Hc ∧ σc.length = σ.length ∧ σc[h]? = some (some (.ref pt)) ∧ (∀ a, (∀ x ∈ ws, x ≠ V.ref a) → Hc a = H a) ∧ Fr ae os H os Hc ∧ (∀ x ∈ ws, ∃ q us, x = V.ref q ∧ q ∈ os ∧ Hc q = some (.lst us) ∧ us.length < 1000 + i)) ⟨o.offS r rfl fun _ _ => rfl, rfl, hh, fun _ _ => rfl, .refl, fun x hx => by
      obtain ⟨q, us, e, h1, _, h2, h3⟩ := hw x hx
      exact ⟨q, us, e, h1, h2, h3⟩⟩ ?_ ?_ ?_
  · rintro i σc Hc _ ⟨_, _, _, hu, _⟩
    refine SqL.of ?_
    rw [hu p1 np1]
    exact hp
  · rintro i x σc Hc H' hi ⟨oc, hlc, hhc, hu, fc, hq⟩ ⟨rfl, hx⟩
    obtain ⟨q, us, rfl, hqo, hqs, hql⟩ := hq x (List.mem_of_getElem? hx)
    have hset : (σc.set r (some (V.ref q)))[r]? = some (some (.ref q)) := List.getElem?_set_self (by rw [hlc]; exact hrl)
    refine ⟨.ref q, hset, .inl ⟨rfl, us, SqL.of hqs⟩, ⟨q, us, .non, rfl, rfl, hqs, dY (by show us.length ≤ 100000; omega), ?_⟩⟩
    have o2 := oc.vi (ob := .lst (us ++ [.non])) hqo hqs (fun _ _ z => by cases z) (fun _ _ z => by cases z) (iI (iJ hnv r rfl)) fun j d e => (lu (iJ hnv r rfl) e).elim
    have o3 := o2.offS (σ' := σc.set r (some (V.ref q))) r (by simp) fun j n => List.getElem?_set_ne n
    rw [List.set_set] at o3
    refine ⟨o3, by simpa using hlc, by rw [List.getElem?_set_ne (Ne.symm hr)]; exact hhc, fun a ha => ?_, fc.trans ⟨.upd (.inr hqo), fun _ z => .inl z, .upd⟩, fun x hx2 => ?_⟩
    · rw [upd_ne (fun z => ha _ (List.mem_of_getElem? hx) (by rw [z]))]
      exact hu a ha
    · obtain ⟨q2, us2, rfl, h1, h2, h3⟩ := hq x hx2
      by_cases e : q2 = q
      · subst e
        rw [hqs] at h2
        cases h2
        exact ⟨q2, _, rfl, h1, upd_same, by simp; omega⟩
      · exact ⟨q2, us2, rfl, h1, by rw [upd_ne e]; exact h2, by omega⟩
  · rintro σc Hc ⟨oc, _, hhc, hu, fc, _⟩
    exact p σc Hc oc hhc hu fc
theorem pZ {H : Hp} {av : Av} {S : List Addr} {v : V} {hs rs : List D} (h : OT C H av S v (.tup [.lst (odV hs), .lst (rs.map eA)])) : ∃ T p0 us p1 ws S1, v = .ref T ∧ TupAt C.K H av T [.ref p0, .ref p1] ∧ S = p0 :: p1 :: S1 ∧ H p0 = some (.lst us) ∧ ah C.K H av C.Γ us hs ∧ H p1 = some (.lst ws) ∧ OTs C H av S1 ws (rs.map eA) := by
  cases h with
  | @tup T vs S xs t r =>
    cases r with
    | @cons S1 S2 v0 vs1 _ _ a r =>
      cases a with
      | @lst p0 us S0 _ h0 r0 =>
        obtain ⟨rfl, ra⟩ := jd r0
        cases r with
        | @cons S3 S4 v1 vs2 _ _ b r =>
          cases r with
          | nil =>
            cases b with
            | @lst p1 ws S5 _ h1 r1 => exact ⟨T, p0, us, p1, ws, S5, rfl, t, by simp, h0, ra, h1, r1⟩
theorem jE {H : Hp} {av : Av} : ∀ {ds : List D} {S : List Addr} {vs : List V}, di ds = true → OTs C H av S vs (ds.map eA) → (∀ x ∈ vs, ∃ q us, x = V.ref q ∧ q ∈ S ∧ H q = some (.lst us) ∧ us.length < 1000) ∧ ∀ q ∈ S, ∃ us, H q = some (.lst us)
  | [], _, _, _, h => by
    cases h
    exact ⟨fun x hx => (by cases hx), fun q hq => (by cases hq)⟩
  | d :: ds, _, _, e, h => by
    cases d <;> try (cases e; done)
    simp only [di, Bool.and_eq_true, decide_eq_true_eq] at e
    cases h with
    | cons a r =>
      cases a with
      | @lst q us S' _ s ra =>
        obtain ⟨rfl, rr⟩ := jd ra
        obtain ⟨i1, i2⟩ := jE e.2 r
        refine ⟨fun x hx => ?_, fun q' hq => ?_⟩
        · rcases List.mem_cons.mp hx with rfl | hx
          · exact ⟨q, us, rfl, by simp, s, by rw [rr.len]; exact e.1.2⟩
          · obtain ⟨q2, us2, h1, h2, h3⟩ := i1 x hx
            exact ⟨q2, us2, h1, List.mem_append_right _ h2, h3⟩
        · rcases List.mem_append.mp hq with hq | hq
          · simp at hq
            subst hq
            exact ⟨us, s⟩
          · exact i2 q' hq
def kr (h j r : Nat) (c f1 f2 : Str) (me : En → M D) (F : List D → M D) : S := fun ρ s => if ρ.all iZ = true ∧ h ≠ j ∧ h ≠ r ∧ h < ρ.length ∧ r < ρ.length then
  (match me ρ s with
  | some (.ok (.tup [.lst hs, .lst rs]), s1) => if di rs = true ∧ rs.length < 1000 then
    (match F [.lst hs, .lst rs] s1 with
    | some (.ok (.obj c' ns [e1, e2]), s2) => if c' = c ∧ ns = [f1, f2] ∧ s2.m.length = 0 then some (.nx (((ρ.set h .no).set j (.val (.obj c [f1, f2] [e1, e2]))).set r .no), s2) else none
    | _ => none) else none
  | _ => none) else none
def kx (h r : Nat) (me : En → M D) (mc : En → M Bool) : S := fun ρ s => if ρ.all iZ = true ∧ h ≠ r ∧ h < ρ.length ∧ r < ρ.length then
  (match me ρ s with
  | some (.ok (.tup [.lst hs, .lst rs]), s1) => if di rs = true ∧ hs.length < 1000 ∧ rs.length < 1000 then
    (match mc (ρ.set h (.val (.tup [.lst hs, .lst rs]))) s1 with
    | some (.ok b, s2) => if s2.m.length = 0 then (if b = true then some (.rt (.bl false), s2) else some (.nx ((ρ.set h .no).set r .no), s2)) else none
    | _ => none) else none
  | _ => none) else none
theorem tI {K : PySem.W.Frag} {Γ : Wc} {av : Av} {H : Hp} {s : DS} (w : Wo K Γ av H s) (h : s.m.length = 0) : Γ.mu = [] := List.eq_nil_of_length_eq_zero (by rw [← w.ml]; exact h)
theorem mZ {hs rs : List D} : pX (.tup [.lst hs, .lst rs]) = .tup [.lst (odV hs), .lst (rs.map eA)] := rfl
theorem vw {ι : Type} {Γs : ι → Wc} {A : Addr} {c f1 f2 : Str} {h j r : Nat} {F : List D → M D} (ix : ι) (hΓ : Γs ix = C.Γ) (hc : C.Γ.cl c = some A) (he : SR C W pX te me) :
    SS C W fr (tSeq (tAsg te (gName h)) (tSeq (tAsg (XM.kU A (fun vs H Q E => ∃ i, True ∧ tF C.K (Γs i) A c f1 f2 F vs H Q E) (WE W) (tCons (tOp (rIx C.K) (tVar h) (tC (.int 0))) (tCons (tOp (rIx C.K) (tVar h) (tC (.int 1))) tNil))) (gName j))
      (tSeq (tDrop (tBM0 C.K "list" rClear (tOp (rIx C.K) (tVar h) (tC (.int 0))))) (tH C.K h r)))) (kr h j r c f1 f2 me F) := by
  intro E0 ae os σ ρ s H rr s' De o e p
  unfold kr at e
  split at e
  · rename_i hc1
    obtain ⟨hnv, hhj, hhr, hhl, hrl⟩ := hc1
    split at e
    · rename_i hs rs s1 hme
      split at e
      · rename_i hc2
        split at e
        · rename_i c' ns e1 e2 s2 hF
          split at e
          · rename_i hc3
            obtain ⟨rfl, rfl, hm⟩ := hc3
            cases e
            refine he _ σ ρ s H _ _ _ o.toE hme fun v S H1 g w n nd ot => ?_
            obtain ⟨T, p0, us, p1, ws, S1, rfl, t, rfl, h0, ra, h1, r1⟩ := pZ ot
            obtain ⟨i1, i2⟩ := jE hc2.1 r1
            have ww : Wo C.K C.Γ (avO ae os) H1 s1 := w.wd fun a z => .inl (.inl z)
            have o1 := o.step g ww
            obtain ⟨oT, fT⟩ := o1.setT g o w n nd ot (iG (iI hnv)) h
            have hσl : h < σ.length := by rw [o.len]; exact hhl
            obtain ⟨o2, _⟩ := oT.offT (i := h) (List.getElem?_set_self hhl)
            rw [List.set_set] at o2
            have nav : ∀ q ∈ p0 :: p1 :: S1, ¬ avO ae os q := fun q hq z => o.toE.al q z (n q hq).1
            have rP : Rep C.K H1 (avO ae os) C.Γ (.ref T) (.tup [.lst hs, .lst rs]) := by
              have := OT.jQ (av2 := avO ae os) (fun a z => .inl z) _ _ _ nav ot
              rw [mZ] at this
              simp only [OD.dat, OD.gZ, f7, lh] at this
              exact this
            have rA : ah C.K H1 (avO ae os) C.Γ [.ref p0, .ref p1] [.lst hs, .lst rs] := by
              refine .cons (.lst (nav p0 List.mem_cons_self) h0 (ra.wd fun a z => .inl (.inl z))) (.cons (.lst (nav p1 (by simp)) h1 ?_) .nil)
              have := OTs.jQ (av2 := avO ae os) (fun a z => .inl z) _ _ _ (fun q hq => nav q (List.mem_cons_of_mem _ (List.mem_cons_of_mem _ hq))) r1
              rw [lh] at this
              exact this
            have hσh : (σ.set h (some (V.ref T)))[h]? = some (some (.ref T)) := List.getElem?_set_self hσl
            refine ⟨.ref T, hσh, .inr (.inl ⟨T, _, 0, .ref p0, rfl, rfl, t.sq, rfl, ?_⟩)⟩
            refine ⟨.ref T, hσh, .inr (.inl ⟨T, _, 1, .ref p1, rfl, rfl, t.sq, rfl, ?_⟩)⟩
            refine fun x dx nx ndx ne => ⟨ix, trivial, ?_⟩
            rw [hΓ]
            cases rA with
            | cons rA0 rA =>
            cases rA with
            | cons rA1 _ =>
            refine ⟨H1, x, dx, .ref p0, .ref p1, avO ae os, s1, .lst hs, .lst rs, e1, e2, s', rfl, nx, ndx, ne, rfl, o1.toE.at_.b, hc, rA0, rA1, hF, fun H' dx' v2 v3 g' w' hx' r2 r3 => ⟨rfl, ?_⟩⟩
            have hmu := tI w' hm
            have o3 := o2.step g' (w'.any hmu)
            have al2 : ∀ {a}, avO ae (os ++ p0 :: p1 :: S1) a → H1 a ≠ none := fun {a} z => o2.toE.al a z
            have lst : ∀ a, avO ae (os ++ p0 :: p1 :: S1) a → tE H1 (avO ae os) a := fun a z => by
              rcases z with z | z
              · exact .inl (.inl z)
              rcases List.mem_append.mp z with z | z
              · exact .inl (.inr z)
              refine .inr ?_
              rcases List.mem_cons.mp z with rfl | z
              · exact ⟨us, h0⟩
              rcases List.mem_cons.mp z with rfl | z
              · exact ⟨ws, h1⟩
              exact i2 a z
            have rx : Rep C.K H' (avO ae (os ++ p0 :: p1 :: S1)) C.Γ (.ref x) (.obj c' [f1, f2] [e1, e2]) :=
              .obj (fun z => al2 z nx) hc hx' rfl (.cons (r2.wd fun a z => .inl (lst a z)) (.cons (r3.wd fun a z => .inl (lst a z)) .nil))
            have o4 := o3.rJ rx j
            have hσ4 : ((σ.set h (some (V.ref T))).set j (some (V.ref x)))[h]? = some (some (.ref T)) := by
              rw [List.getElem?_set_ne (Ne.symm hhj)]
              exact hσh
            have hin : ∀ q ∈ p0 :: p1 :: S1, q ∈ os ++ p0 :: p1 :: S1 := fun q hq => List.mem_append_right _ hq
            have keep : ∀ q ∈ p0 :: p1 :: S1, ∀ ob, H1 q = some ob → H' q = some ob := fun q hq ob z => g'.kp q ob (o2.kK (hin q hq)) z
            have eqv : ∀ a, avO ae (os ++ p0 :: p1 :: S1) a → avO (avO ae os) (p0 :: p1 :: S1) a := fun a z => by
              rcases z with z | z
              · exact .inl (.inl z)
              · rcases List.mem_append.mp z with z | z
                · exact .inl (.inr z)
                · exact .inr z
            have t1 : TupAt C.K H1 (avO ae (os ++ p0 :: p1 :: S1)) T [.ref p0, .ref p1] := t.wd fun a z => .inl (eqv a z)
            have t2 : TupAt C.K H' (avO ae (os ++ p0 :: p1 :: S1)) T [.ref p0, .ref p1] := t1.kp (g'.kp.ch o2.toE.ad)
            have h0' := keep p0 List.mem_cons_self _ h0
            refine ⟨.ref T, hσ4, .inr (.inl ⟨T, _, 0, .ref p0, rfl, rfl, t2.sq, rfl, .inl ⟨rfl, us, SqL.of h0'⟩, p0, us, rfl, rfl, h0', ?_⟩)⟩
            have nv4 : ((ρ.set h .no).set j (Sl.val (.obj c' [f1, f2] [e1, e2]))).all iZ = true := iJ (iJ hnv h rfl) j rfl
            have in0 := hin p0 List.mem_cons_self
            have o5 := o4.vi (ob := .lst []) in0 h0' (fun _ _ z => by cases z) (fun _ _ z => by cases z) (iI nv4) fun j d e => (lu nv4 e).elim
            have k5 : Kp (avO ae (os ++ p0 :: p1 :: S1)) H' (upd H' p0 (.lst [])) := .upd (.inr in0)
            have nd' := List.nodup_cons.mp nd
            have nd'' := List.nodup_cons.mp nd'.2
            have n01 : p1 ≠ p0 := fun z => nd'.1 (by rw [← z]; simp)
            refine mY o5 nv4 hσ4 hhr (by simpa [o.len] using hrl) (t2.kp k5) (ws := ws) (by rw [upd_ne n01]; exact keep p1 (by simp) _ h1) (fun x hx => ?_) (by rw [r1.len, List.length_map]; exact hc2.2) fun σ' H'' o6 _ _ f6 => ?_
            · obtain ⟨q, us2, rfl, hq, hq2, hq3⟩ := i1 x hx
              have hqS : q ∈ p0 :: p1 :: S1 := List.mem_cons_of_mem _ (List.mem_cons_of_mem _ hq)
              have nq0 : q ≠ p0 := fun z => nd'.1 (by rw [← z]; exact List.mem_cons_of_mem _ hq)
              exact ⟨q, us2, rfl, hin q hqS, fun z => nd''.1 (by rw [← z]; exact hq), by rw [upd_ne nq0]; exact keep q hqS _ hq2, hq3⟩
            · exact p _ σ' H'' o6 (((fT.trans (g'.fr o.ad)).trans ⟨.upd (.inr in0), fun _ z => .inl z, .upd⟩).trans f6)
          · cases e
        · cases e
      · cases e
    · cases e
  · cases e
theorem vy {h r : Nat} {tc : TT} {mc : En → M Bool} (he : SR C W pX te me) (hc : ST C W tc mc) :
    SS C W false (tSeq (tAsg te (gName h)) (tSeq (tIfS tc (tRet (tC (.bl false))) tNext) (tSeq (tDrop (tBM C.K "list" rAppend (tOp (rIx C.K) (tVar h) (tC (.int 0))) (tCons (tC .non) tNil)))
      (tSeq (tH C.K h r) (tDrop (tBM C.K "list" rAppend (tOp (rIx C.K) (tVar h) (tC (.int 1))) (tCons (tC .non) tNil))))))) (kx h r me mc) := by
  intro E0 ae os σ ρ s H rr s' De o e p
  unfold kx at e
  split at e
  · rename_i hc1
    obtain ⟨hnv, hhr, hhl, hrl⟩ := hc1
    split at e
    · rename_i hs rs s1 hme
      split at e
      · rename_i hc2
        split at e
        · rename_i b s2 hmc
          split at e
          · rename_i hm
            refine he _ σ ρ s H _ _ _ o.toE hme fun v S H1 g w n nd ot => ?_
            obtain ⟨T, p0, us, p1, ws, S1, rfl, t, rfl, h0, ra, h1, r1⟩ := pZ ot
            obtain ⟨i1, i2⟩ := jE hc2.1 r1
            have ww : Wo C.K C.Γ (avO ae os) H1 s1 := w.wd fun a z => .inl (.inl z)
            have o1 := o.step g ww
            obtain ⟨oT, fT⟩ := o1.setT g o w n nd ot (iG (iI hnv)) h
            have hσl : h < σ.length := by rw [o.len]; exact hhl
            obtain ⟨o2, _⟩ := oT.offT (i := h) (List.getElem?_set_self hhl)
            rw [List.set_set] at o2
            have nav : ∀ q ∈ p0 :: p1 :: S1, ¬ avO ae os q := fun q hq z => o.toE.al q z (n q hq).1
            have rP : Rep C.K H1 (avO ae os) C.Γ (.ref T) (.tup [.lst hs, .lst rs]) := by
              have := OT.jQ (av2 := avO ae os) (fun a z => .inl z) _ _ _ nav ot
              rw [mZ] at this
              simp only [OD.dat, OD.gZ, f7, lh] at this
              exact this
            have hσh : (σ.set h (some (V.ref T)))[h]? = some (some (.ref T)) := List.getElem?_set_self hσl
            have oc := (o1.rJ rP h).toE
            refine hc _ _ _ _ H1 _ _ _ oc hmc fun b' H' g' w' hb => ?_
            cases hb
            have hmu := tI w' hm
            cases b with
            | true =>
              rw [if_pos rfl] at e
              cases e
              exact p (.bl false) H' (o.go.trans (g.trans g')) (w'.any hmu) (.bl false)
            | false =>
              rw [if_neg (by simp)] at e
              cases e
              have o3 := o2.step g' (w'.any hmu)
              have hin : ∀ q ∈ p0 :: p1 :: S1, q ∈ os ++ p0 :: p1 :: S1 := fun q hq => List.mem_append_right _ hq
              have keep : ∀ q ∈ p0 :: p1 :: S1, ∀ ob, H1 q = some ob → H' q = some ob := fun q hq ob z => g'.kp q ob (o2.kK (hin q hq)) z
              have eqv : ∀ a, avO ae (os ++ p0 :: p1 :: S1) a → avO (avO ae os) (p0 :: p1 :: S1) a := fun a z => by
                rcases z with z | z
                · exact .inl (.inl z)
                · rcases List.mem_append.mp z with z | z
                  · exact .inl (.inr z)
                  · exact .inr z
              have t1 : TupAt C.K H1 (avO ae (os ++ p0 :: p1 :: S1)) T [.ref p0, .ref p1] := t.wd fun a z => .inl (eqv a z)
              have t2 : TupAt C.K H' (avO ae (os ++ p0 :: p1 :: S1)) T [.ref p0, .ref p1] := t1.kp (g'.kp.ch o2.toE.ad)
              have h0' := keep p0 List.mem_cons_self _ h0
              refine ⟨.ref T, hσh, .inr (.inl ⟨T, _, 0, .ref p0, rfl, rfl, t2.sq, rfl, .inl ⟨rfl, us, SqL.of h0'⟩, ⟨p0, us, .non, rfl, rfl, h0', dY (by show us.length ≤ 100000; rw [ra.len]; have := hc2.2.1; omega), ?_⟩⟩)⟩
              have nv4 : (ρ.set h .no).all iZ = true := iJ hnv h rfl
              have in0 := hin p0 List.mem_cons_self
              have o5 := o3.vi (ob := .lst (us ++ [.non])) in0 h0' (fun _ _ z => by cases z) (fun _ _ z => by cases z) (iI nv4) fun j d e => (lu nv4 e).elim
              have k5 : Kp (avO ae (os ++ p0 :: p1 :: S1)) H' (upd H' p0 (.lst (us ++ [.non]))) := .upd (.inr in0)
              have nd' := List.nodup_cons.mp nd
              have nd'' := List.nodup_cons.mp nd'.2
              have n01 : p1 ≠ p0 := fun z => nd'.1 (by rw [← z]; simp)
              have h1' : (upd H' p0 (.lst (us ++ [.non]))) p1 = some (.lst ws) := by
                rw [upd_ne n01]
                exact keep p1 (by simp) _ h1
              have lws : ws.length < 1000 := by rw [r1.len, List.length_map]; exact hc2.2.2
              refine mY o5 nv4 hσh hhr (by simpa [o.len] using hrl) (t2.kp k5) h1' (fun x hx => ?_) lws fun σ' H'' o6 hh6 hu6 f6 => ?_
              · obtain ⟨q, us2, rfl, hq, hq2, hq3⟩ := i1 x hx
                have hqS : q ∈ p0 :: p1 :: S1 := List.mem_cons_of_mem _ (List.mem_cons_of_mem _ hq)
                have nq0 : q ≠ p0 := fun z => nd'.1 (by rw [← z]; exact List.mem_cons_of_mem _ hq)
                exact ⟨q, us2, rfl, hin q hqS, fun z => nd''.1 (by rw [← z]; exact hq), by rw [upd_ne nq0]; exact keep q hqS _ hq2, hq3⟩
              · have h1'' : H'' p1 = some (.lst ws) := by
                  rw [hu6 p1 fun x hx z => ?_]
                  · exact h1'
                  · obtain ⟨q, us2, rfl, hq, _⟩ := i1 x hx
                    cases z
                    exact nd''.1 hq
                have t6 := (t2.kp k5).kp f6.kp
                have in1 := hin p1 (by simp)
                refine ⟨.ref T, hh6, .inr (.inl ⟨T, _, 1, .ref p1, rfl, rfl, t6.sq, rfl, .inl ⟨rfl, ws, SqL.of h1''⟩, ⟨p1, ws, .non, rfl, rfl, h1'', dY (by show ws.length ≤ 100000; omega), ?_⟩⟩)⟩
                have nv6 := iJ nv4 r (sl := .no) rfl
                have o7 := o6.vi (ob := .lst (ws ++ [.non])) in1 h1'' (fun _ _ z => by cases z) (fun _ _ z => by cases z) (iI nv6) fun j d e => (lu nv6 e).elim
                exact p _ σ' _ o7 ((((fT.trans (g'.fr o.ad)).trans ⟨.upd (.inr in0), fun _ z => .inl z, .upd⟩).trans f6).trans ⟨.upd (.inr in1), fun _ z => .inl z, .upd⟩)
          · cases e
        · cases e
      · cases e
    · cases e
  · cases e
end
end DM
set_option Elab.async false
set_option linter.all false
set_option maxRecDepth 100000
set_option maxHeartbeats 2000000
namespace DM
open PySem PySem.Spec PyProof.Rows L2 Lay NdefX LamX GD XK
theorem list_eq {i : Nat} (ρ : En) (s : DS) (ds : List D) (h : ρ[i]? = some (Sl.val (.lst ds))) : eCB du (ab (ai i) ak) ρ s = some (.ok (.lst ds), s) := by
  simp [eCB, ab, ak, ai, h, bx, ox, du]
theorem jF {i : Nat} {ρ : En} (hi : i < ρ.length) : ∀ (ds : List D) (s : DS), di ds = true → c8 (.one i) a6 (eCB du (ab (ai i) ak)) ρ ds s = some (.ok ds, s)
  | [], s, _ => rfl
  | d :: ds, s, h => by
    cases d <;> try (cases h; done)
    rename_i xs
    simp only [di, Bool.and_eq_true] at h
    have e : (Tgt.one i).set ρ (.lst xs) = some (ρ.set i (.val (.lst xs))) := rfl
    unfold c8
    rw [e]
    have e2 := list_eq (ρ.set i (.val (.lst xs))) s xs (List.getElem?_set_self hi)
    have e3 := jF hi ds s h.2
    show (bx (a6 (ρ.set i (.val (.lst xs))) s) fun b s1 => _) = _
    simp only [a6, bx, if_true, e2, e3]
theorem m7 {i j : Nat} (ρ : En) (s : DS) (ds : List D) (hi : i < ρ.length) (h : ρ[j]? = some (Sl.val (.lst ds))) (hl : ds.length < 1000) (hr : di ds = true) : eLc (.one i) (iD isX (ai j)) a6 (eCB du (ab (ai i) ak)) ρ s = some (.ok (.lst ds), s) := by
  have e1 : iD isX (ai j) ρ s = some (.ok ds, s) := by
    simp only [iD, ai, h, bx, ox]
    rfl
  unfold eLc
  rw [e1]
  simp only [bx]
  rw [jF (by rw [dD]; exact hi) ds s hr]
  simp only [lcR, ox, mkL]
  rw [if_pos (by show ds.length ≤ 100000; omega)]
  rfl
theorem tJ {P : Program} {w : World} {K : PySem.W.Frag} {Γ : Wc} {mg : Str → Option Value} {base : Heap} {CX : CXT} {f : Addr} {fd : FuncData} {ps : List Str} {k n : Nat} {g : D → OD} : FnG P w K mg base CX k f fd ps (spT K Γ g n fun _ _ => none) :=
  ⟨fun vs H Q E h => by
    obtain ⟨av, s, ds, d, s', a, r, hl, e, _⟩ := h
    exact (nomatch e), fun A outer s H args us vs Q E _ _ _ _ _ h => by
    obtain ⟨av, s, ds, d, s', a, r, hl, e, _⟩ := h
    exact (nomatch e)⟩
theorem tK {P : Program} {w : World} {K : PySem.W.Frag} {Γ : Wc} {mg : Str → Option Value} {base : Heap} {CX : CXT} {f : Addr} {fd : FuncData} {ps : List Str} {k : Nat} {A : Addr} {c f1 f2 : Str} : FnG P w K mg base CX k f fd ps (tF K Γ A c f1 f2 fun _ _ => none) :=
  ⟨fun vs H Q E h => by
    obtain ⟨H0, x, dx, v0, v1, av, s, y, z, e1, e2, s', _, _, _, _, _, _, _, _, _, e, _⟩ := h
    exact (nomatch e), fun A outer s H args us vs Q E _ _ _ _ _ h => by
    obtain ⟨H0, x, dx, v0, v1, av, s, y, z, e1, e2, s', _, _, _, _, _, _, _, _, _, e, _⟩ := h
    exact (nomatch e)⟩
theorem yu {C : Cc} {W : WX} {fr : Bool} {a b c d r : TS} {m : S} (h : SS C W fr (tSeq (tSeq a (tSeq b (tSeq c d))) r) m) : SS C W fr (tSeq a (tSeq b (tSeq c (tSeq d r)))) m := h
end DM
set_option Elab.async false
set_option linter.all false
set_option maxRecDepth 100000
set_option maxHeartbeats 2000000
namespace GQ
open PySem PySem.SeqAt
open AutoSeq1 (wpAny_loadPart')
open MeetsSeq MeetsSeq2 MeetsSeq3 SeqRoads2
section
variable {prog : Program} {w : World} {A : Around} {R : Result → Shared → Prop}
theorem qK (l b : Addr) (items items2 : Array Value) (n n2 : Nat) (dd dd2 : Option Addr) (sl sl2 : Array (Option Value)) (hsz : items.size = items2.size) (I : Nat → Shared → Prop)
    (turn : ∀ i (h1 : i < items.size) (h2 : i < items2.size) s, I i s → wpAny (model prog w) A.in1 (eqBool items[i] items2[i]) (fun r s' => r = true ∧ I (i + 1) s') (fun e s' => R (.error e) s') s)
    (fin : ∀ s, I items.size s → R (.ok (.ret (.bool false))) s) {s : Shared} (hl1 : s.heap.get? l = some { cls := .type "tuple", dict := dd, data := .seq items n, slots := sl }) (hb1 : s.heap.get? b = some { cls := .type "tuple", dict := dd2, data := .seq items2 n2, slots := sl2 }) (h : I 0 s) :
    wpAny (model prog w) A.in1 (Builtin.«tuple.__ne__» ⟨[.ref l, .ref b], []⟩) (FinOf prog w A R) (fun e s' => R (.error e) s') s := by
  have f2 := AutoSeq1.sub_tuple_tuple
  have hZ : (items.toList.zip items2.toList).length = items.size := by simp [hsz]
  have h0 := h
  obtain ⟨hp, g, d, tk, os⟩ := s
  wp_walk using wpAny_loadPart' hl1, wpAny_loadPart' hb1, wpAny_forIn_list _ (fun rest b s' => b.1 = none ∧ ∃ i, rest = (items.toList.zip items2.toList).drop i ∧ i ≤ items.size ∧ I i s') _
  case turn =>
    rintro ⟨y, x⟩ rest b s' ⟨hb', i, hz, hi, hI⟩
    have hlt : i < (items.toList.zip items2.toList).length := by
      rcases Nat.lt_or_ge i (items.toList.zip items2.toList).length with h' | h'
      · exact h'
      · rw [List.drop_of_length_le h'] at hz; cases hz
    have h1 : i < items.size := hZ ▸ hlt
    have h2 : i < items2.size := hsz ▸ h1
    rw [List.drop_eq_getElem_cons hlt] at hz
    injection hz with hyx hrest
    have hy : y = items[i] := by have := congrArg Prod.fst hyx; simpa using this
    have hx : x = items2[i] := by have := congrArg Prod.snd hyx; simpa using this
    subst hy hx
    refine wpAny_bind (wpAny_mono (turn i h1 h2 s' hI) (fun r s2 q2 => ?_) fun _ _ x => x)
    obtain ⟨hr, q2⟩ := q2
    subst hr
    wp_walk
    exact ⟨rfl, i + 1, hrest, h1, q2⟩
  case fin =>
    rintro ⟨b1, b2⟩ s' ⟨hb', i, hz, hi, hI⟩
    simp only at hb'
    subst hb'
    have hge : items.size ≤ i := by
      rcases Nat.lt_or_ge i (items.toList.zip items2.toList).length with h' | h'
      · rw [List.drop_eq_getElem_cons h'] at hz; cases hz
      · exact hZ ▸ h'
    have hi' : i = items.size := by omega
    have hR : R (.ok (.ret (.bool false))) s' := fin s' (hi' ▸ hI)
    wp_walk
    simpa [Builtin.Tuple.tupleCompareSizes, hsz, bne] using hR
  case h =>
    exact ⟨rfl, 0, rfl, Nat.zero_le _, h0⟩
end
end GQ
namespace DM
open PySem PySem.Spec PyProof.Rows L2 Lay NdefX LamX GD XK
open PySem.SeqAt AutoSeq1 MeetsSeq MeetsSeq2 MeetsSeq3 SeqRoads2
section
variable {X : Cx} {n j : Nat} {D : EqR}
/-- two that are plain data -/
def DDp (K : PySem.W.Frag) : EqR := fun x y b H => ∃ d e, Dp K H x d ∧ Dp K H y e ∧ SeqAt.shaped d = true ∧ SeqAt.shaped e = true ∧ b = PyData.eqv d e
theorem yw : EqB X n j (DDp X.K) := by
  intro A pins s σ H x y u v b E sb I rx ry ⟨d, e, hd, he, sd, se, hb⟩
  subst hb
  obtain ⟨as, r1⟩ := Dp.reads I d x u hd rx
  obtain ⟨bs, r2⟩ := Dp.reads I e y v he ry
  have hu : A.units + 64 < cLine := by have := sb.un; omega
  exact eqAt_reads d e A s u v as bs r1 r2 (canLay_of_shaped sd) (canLay_of_shaped se) (room_of_shaped sd hu) _ _ _ _ ⟨rfl, I⟩
/-- tuples of as many parts, each equal -/
def yx (K : PySem.W.Frag) (D : EqR) : R2 := fun x y H Q => ∃ l m xs ys, x = .ref l ∧ y = .ref m ∧ SqT K H l xs ∧ SqT K H m ys ∧ xs.length = ys.length ∧ (∀ (i : Nat) x y, xs[i]? = some x → ys[i]? = some y → D x y true H) ∧ Q (.bl false) H
theorem yy (hE : EqB X n j D) (hj : j + 1 ≤ 16) (hr : Room (n + 1) X.A) : OpR X (compareOp .NotEq) (yx X.K D) := by
  intro pins s σ H x y v u Q I rx ry hq
  obtain ⟨l, m, xs, ys, rfl, rfl, hl, hm, hlen, it, q⟩ := hq
  cases rx
  cases ry
  have sb : iY X n (j + 1) X.A := .of hr hj
  obtain ⟨its, rv, hl', _⟩ := I.tuple hl
  obtain ⟨its2, rv2, hm', _⟩ := I.tuple hm
  have e1 := rv.length
  have e2 := rv2.length
  obtain ⟨⟨cls, dd, data, sl⟩, ho, hc, k1, hd⟩ := id hl'
  obtain ⟨⟨cls2, dd2, data2, sl2⟩, ho2, hc2, k2, hd2⟩ := id hm'
  simp only at hc hd hc2 hd2
  subst hc hd hc2 hd2
  show wpAny (model X.prog X.w) X.A (richCompare .NotEq (.ref l) (.ref m)) (EP X pins σ Q) X.xe s
  refine wpAny_richCompare_same_room (op := .NotEq) ⟨_, ho, rfl⟩ ⟨_, ho2, rfl⟩ F.slot_tuple_ne (GQ.call_here F.slot_tuple_ne ⟨_, ho, rfl⟩ F.entry_tuple_ne (F.args_tuple_ne_2 _ _) ?_) sb.room.units0
  refine GQ.qK (R := wants (fun v s' => v ≠ .notImplemented ∧ EP X pins σ Q v s') X.xe) l m its.toArray its2.toArray k1 k2 dd dd2 sl sl2 (by simp; omega) (fun _ s' => Inv X pins σ H s') (fun i h1 h2 s' I' => ?_) (fun s' I' => ⟨(fun x => nomatch x), .bl false, H, I', rfl, q⟩) ho ho2 I
  simp only [List.size_toArray] at h1 h2
  have hx : i < xs.length := by omega
  have hy : i < ys.length := by omega
  have rx : RelV xs[i] its[i] := by
    obtain ⟨u, g1, g2⟩ := Vals.get rv (List.getElem?_eq_getElem hx)
    rw [List.getElem?_eq_getElem h1] at g1
    cases g1
    exact g2
  have ry : RelV ys[i] its2[i] := by
    obtain ⟨u, g1, g2⟩ := Vals.get rv2 (List.getElem?_eq_getElem hy)
    rw [List.getElem?_eq_getElem h2] at g1
    cases g1
    exact g2
  simp only [List.getElem_toArray]
  exact hE X.A.in1 pins s' σ H _ _ _ _ true _ sb.in1 I' rx ry (it i _ _ (List.getElem?_eq_getElem hx) (List.getElem?_eq_getElem hy))
end
def eqP (a b : D) : Option Bool := (toP a).bind fun p => (toP b).bind fun q => if SeqAt.shaped p && SeqAt.shaped q then some (PyData.eqv p q) else none
def orE (f g : D → D → Option Bool) (a b : D) : Option Bool := match f a b with
  | some r => some r
  | none => g a b
def oF (g : D → D → Option Bool) : D → D → Option D
  | .tup as, .tup bs => match eqZ g as bs with
    | some cs => if cs.all id = true then some (.bl false) else none
    | none => none
  | _, _ => none
section
variable {C : Cc} {A : Addr} {c f : Str} {R R' : EqR} {g g' : D → D → Option Bool}
theorem y9 : jB C (DDp C.K) eqP := by
  intro H av x y a b r ra rb e
  obtain ⟨p, e1, e⟩ := cO e
  obtain ⟨q, e2, e⟩ := cO e
  split at e
  · rename_i h
    cases e
    rw [Bool.and_eq_true] at h
    exact ⟨p, q, ra.dp e1, rb.dp e2, h.1, h.2, rfl⟩
  · cases e
theorem za (h : jB C R g) (h' : jB C R' g') : jB C (fun x y b H => R x y b H ∨ R' x y b H) (orE g g') := by
  intro H av x y a b r ra rb e
  unfold orE at e
  split at e
  · rename_i r' hr
    cases e
    exact .inl (h _ _ _ _ _ _ _ ra rb hr)
  · exact .inr (h' _ _ _ _ _ _ _ ra rb e)
theorem yz (h : jB C R g) : OpS C (yx C.K R) (oF g) := by
  intro av s H x y a b z Q o ra rb e q
  cases a <;> first | (cases e; done) | skip
  cases b <;> first | (cases e; done) | skip
  simp only [oF] at e
  split at e
  · rename_i cs hz
    split at e
    · rename_i hall
      cases e
      obtain ⟨l, xs, rfl, t1, r1⟩ := ra.dm
      obtain ⟨m, ys, rfl, t2, r2⟩ := rb.dm
      have it := oA h r1 r2 hz
      refine ⟨l, m, xs, ys, rfl, rfl, t1.sq, t2.sq, by rw [it.l1, it.l2], fun i x y hx hy => ?_, q.pure o (.bl _)⟩
      have hi : i < cs.length := by
        rw [← it.l1]
        exact (List.getElem?_eq_some_iff.mp hx).1
      have := it.at_ i x y cs[i] hx hy (List.getElem?_eq_getElem hi)
      rw [show cs[i] = true from List.all_eq_true.mp hall _ (List.getElem_mem hi)] at this
      exact this
    · cases e
  · cases e
end
def tL (K : PySem.W.Frag) (C : Addr) (sp : Sp) : R2 := fun x y H Q => ∃ a dx fs t, x = .ref a ∧ H a = some (.ins C dx fs) ∧ TyX K H y t ∧ PySem.W.notFirst K C t = true ∧ sp [x, y] H (fun v H' => ∃ b, v = .bl b ∧ Q (.bl b) H') noX
section
variable {X : Cx} {n : Nat} {C f : Addr} {fd : FuncData} {ps : List Str} {sp : Sp}
theorem qL (F : FnG X.prog X.w X.K X.mg X.base (L2.CX X.prog X.w) n f fd ps sp) (hs : PySem.W.findIn X.K (.ref C) "__eq__" = some (some (.ref f))) (hf : PySem.W.isFn X.K (.ref f) = true) (hb : Binds X.K fd ps []) (hg : X.A.guards = some []) (hr : Room n X.A) : OpR X (compareOp .Eq) (tL X.K C sp) := by
  intro pins s σ H x y v u Q I rx ry hq
  obtain ⟨a, dx, fs, t, rfl, ha, ty, hn, hsp⟩ := hq
  cases rx
  obtain ⟨mA, J, _⟩ := ins_get I.hok ha
  obtain ⟨od, J, _⟩ := J.look
  obtain ⟨m, hF⟩ := I.fr
  obtain ⟨P, Z, p, _⟩ := kit_of I ry ty
  show wpAny (model X.prog X.w) X.A (richCompare .Eq (.ref a) u) (EP X pins σ Q) X.xe s
  refine PySem.W.cmp_K (op := .Eq) (tb := t) hr.units0 hF I.ok.mod.kin J (Z.ty _ _ I.kIn p) hn hs hf ?_
  refine wpAny_mono (jD (x := V.ref a) (u := Value.ref a) F hb hg hr rfl I rfl ry hsp) (fun r s' z => ?_) fun _ _ e => e
  obtain ⟨z1, H', I', rz, c, rfl, q⟩ := z
  cases rz
  exact ⟨.bl c, H', I', rfl, q⟩
end
def je (c : Str) (F : List D → M D) (a b : En → M D) : En → M D := fun ρ s => bx (a ρ s) fun x s1 => bx (b ρ s1) fun y s2 => match x, y with
  | .obj c1 _ _, .lst _ => if c1 = c then (match F [x, y] s2 with
    | some (.ok (.bl r), s3) => some (.ok (.bl r), s3)
    | _ => none) else none
  | _, _ => none
/-- isinstance of a class with its own __eq__: of an object of it, of a list -/
def tM (c : Str) : D → Option D
  | .obj c1 _ _ => if c1 = c then some (.bl true) else none
  | .lst _ => some (.bl false)
  | _ => none
section
variable {C : Cc} {W : WX} {ta tb te : TE} {ma mb me : En → M D} {A : Addr} {c : Str}
theorem qM {F : List D → M D} (hA : C.Γ.cl c = some A) (nf : PySem.W.notFirst C.K A (.type "list") = true) (ha : SE C W ta ma) (hb : SE C W tb mb) : SE C W (tOp (tL C.K A (spF C.K C.Γ false 2 F)) ta tb) (je c F ma mb) := by
  intro av σ ρ s H r' s' Q o e0 q0
  refine ha.bind o e0 q0 fun x s1 v H1 g1 o1 r1 e1 q1 => ?_
  refine hb.bind o1 e1 q1 fun y s2 w H2 g2 o2 r2 e q => ?_
  clear e0 e1 q0 q1
  split at e
  · split at e
    · rename_i h
      subst h
      have r1 : Rep C.K H2 av C.Γ v _ := Rep.kp r1 (g2.kp.ch o.ad)
      have r2 : Rep C.K H2 av C.Γ w _ := r2
      obtain ⟨p, B, dx, vs, rfl, m1, hB, h1, _, _⟩ := r1.fA
      rw [hA] at hB
      cases hB
      split at e
      · rename_i hF
        cases e
        exact ⟨p, dx, _, .type "list", rfl, h1, j3 o2.at_ r2 rfl, nf, av, s2, _, _, _, o2.at_.b, .cons r1 (.cons r2 .nil), rfl, hF, fun v H' gg ww rv => ⟨_, rv.dA, q (.bl _) H' gg ww (.bl _)⟩⟩
      · cases e
    · cases e
  · cases e
theorem tN (hA : C.Γ.cl c = some A) (cl : Cls C.K A) (cls : PySem.W.findIn C.K (.ref A) "__class__" = some (some (.builtin "object.__class__"))) (get : PySem.W.specialIn C.K (.builtin "object.__class__") "__get__" = some (some (.builtin "getset_descriptor.__get__")))
    (tak : PySem.W.takesIn C.K (.builtin "object.__class__") = some true) (mro : PySem.W.mroIn C.K A (.type "object") = some true) (kl : PySem.W.kitOne C.K (.type "list") (.ref A) = some false) (he : SE C W te me) : SE C W (tCB (rIsi C.K) (tCons te (tCons (tC (.ref A)) tNil))) (eUn (tM c) me) := by
  intro av σ ρ s H r s' Q o e q
  refine he.bind o e q fun x s1 v H1 g1 o1 r1 e q => ?_
  obtain ⟨z, e3, rfl, rfl⟩ := aL e
  cases x <;> first | (cases e3; done) | skip
  · cases e3
    exact ⟨_, _, _, _, false, rfl, ClsV.own _, j3 o1.at_ r1 rfl, kl, q _ H1 .refl o1.wo (.bl _)⟩
  · simp only [tM] at e3
    split at e3
    · rename_i h
      subst h
      cases e3
      have r1 : Rep C.K H1 av C.Γ v _ := r1
      obtain ⟨p, B, dx, vs, rfl, m1, hB, hp, _, _⟩ := r1.fA
      rw [hA] at hB
      cases hB
      exact ⟨_, _, _, _, true, rfl, ClsV.own _, .base (.ins hp cl cls get tak mro), (if_pos (by simp) : PySem.W.kitOne C.K (.ref A) (.ref A) = some true), q _ H1 .refl o1.wo (.bl _)⟩
    · cases e3
end
end DM
set_option Elab.async false
set_option linter.all false
set_option maxRecDepth 100000
set_option maxHeartbeats 2000000
namespace GD
open PySem PySem.Spec PyProof.Rows L2
/-- the law's own call, by such a promise: the script is read alone, all else stays -/
theorem oG {P : Program} {w : World} {K : PySem.W.Frag} {mg mb : Str → Option Value} {k : Nat} {fa a : Addr} {fd : FuncData} {x : Str} {sp : Sp} {CX : CXT} {s1 : Shared} {vs : List Value} {ns : List Int}
    (KX : K.In s1.heap) (hns : s1.heap.Ns mainGlobals mg) (hb : s1.heap.Ns builtinsNs mb) (hbb : ∀ x : Str, x ≠ "__name__" → mb x = bootBuiltins x)
    (hlim : s1.heap.NoLimit) (hgen : s1.gens = #[]) (ha : s1.heap.get? a = some { cls := .type "list", data := .seq vs.toArray }) (hi : IntsAre vs ns) (hl : ns.length ≤ sizeLine)
    (hr : Room k callerA) (F : ∀ base : Heap, K.In base → base.Ns mainGlobals mg → FnG P w K mg base CX k fa fd [x] sp)
    (hbind : ∀ (s : Shared) (u : Value), BindsTo s fd ⟨[u], []⟩ [(x, u)])
    (hsp : ∀ H : Hp, Only H → SqL K H a (ns.map V.int) → sp [.ref a] H (fun v _ => v = .bl true) fun _ _ _ => False)
    (hCX : ∀ H e s', CX [] H s1 (fun _ _ _ => False) e s' → False) :
    codeAny (model P w) callerA (.call (.ref fa) ⟨[.ref a], []⟩)
      (fun r s' => r = .ok (.ret (.bool true)) ∧ OldK s1.heap s'.heap ∧ s'.os = s1.os ∧ AllBare s'.gens) s1 := by
  have rv := vals_ints hi
  -- what is tracked is the script alone, and locked
  have main : ∀ H : Hp, Only H → SqL K H a (ns.map V.int) → HOk P w H s1.heap → (∀ b, H b ≠ none → b = a) → (H a ≠ none → K.lookup a = none) →
      codeAny (model P w) callerA (.call (.ref fa) ⟨[.ref a], []⟩)
        (fun r s' => r = .ok (.ret (.bool true)) ∧ OldK s1.heap s'.heap ∧ s'.os = s1.os ∧ AllBare s'.gens) s1 := by
    intro H only sq hok isA noK
    have free : ∀ {b : Addr}, b ≠ a → H b = none := fun {b} hb' => by
      cases z : H b with
      | none => rfl
      | some u => exact absurd (isA b (by rw [z]; exact Option.some_ne_none _)) hb'
    have dictFree : ∀ {b : Addr} {ob : Obj} {es : Array DictEntry} {ep : Nat}, s1.heap.get? b = some ob → ob.data = .dict es ep → H b = none := by
      intro b ob es ep e d
      refine free fun z => ?_
      rw [z, ha] at e
      cases e
      cases d
    have ns2 : ∀ {b : Addr} {m : Str → Option Value}, s1.heap.Ns b m → (hidT s1.heap H).Ns b m := by
      rintro b m ⟨ob, es, ep, e, d, rr⟩
      exact ⟨ob, es, ep, hidT_get e (dictFree e d), d, rr⟩
    have inB : K.In (hidT s1.heap H) := by
      intro b ob e
      refine hidT_get (KX b ob e) ?_
      cases z : H b with
      | none => rfl
      | some u =>
        have hba := isA b (by rw [z]; exact Option.some_ne_none _)
        subst hba
        have := noK (by rw [z]; exact Option.some_ne_none _)
        rw [this] at e
        cases e
    obtain ⟨mc, l1, l2⟩ := hlim
    have hM : Mod K mg (hidT s1.heap H) := ⟨inB, ns2 hns, ⟨mb, ns2 hb, hbb⟩, ⟨mc, ns2 l1, l2⟩⟩
    have e0 : Env0 P w K mg (hidT s1.heap H) callerA [] s1 H := by
      refine ⟨rfl, hM, fun b ob e => of_hidT e, Nat.le_of_eq (hidT_size _ _), trivial, ?_, hok, .of_eq hgen⟩
      intro b hb'
      exact absurd hb' (List.not_mem_nil (a := b))
    have run := (F _ inB (ns2 hns)).runs callerA [] s1 H ⟨[.ref a], []⟩ [.ref a] [.ref a] _ _ rfl hr e0
      (hbind s1 (.ref a)) (.cons rfl .nil) (hsp H only sq)
    refine codeAny_mono run fun r s' h => ?_
    rcases r with e | fl
    · exact (hCX H e s' h).elim
    rcases fl with _ | _ | _ | u
    any_goals exact h.elim
    all_goals
      obtain ⟨v, H', os, bare, un, hok', r', q⟩ := h
      have q : v = .bl true := q
      subst q
      cases r'
      refine ⟨rfl, OldK.of_keep fun b ob e => ?_, os, bare⟩
      rcases only b with z | ⟨o2, xs, z⟩
      · exact un.keep b ob e z (fun m => absurd m (List.not_mem_nil (a := b))) (List.not_mem_nil (a := b))
      · have z2 := un.frzs b o2 _ z
        have g1 := (hok b _ z).1
        have g2 := (hok' b _ z2).1
        rw [e] at g1
        cases g1
        exact g2
  cases hk : K.lookup a with
  | some ob =>
    have e := (KX a ob hk).symm.trans ha
    cases e
    refine main (fun _ => none) (fun _ => .inl rfl) (.inr ⟨_, vs.toArray, _, hk, rfl, rfl, rfl, ?_, by simpa using rv⟩) ?_ ?_ ?_
    · rw [List.size_toArray, hi.length]
      exact hl
    · intro b u z
      cases z
    · intro b z
      exact absurd rfl z
    · intro z
      exact absurd rfl z
  | none =>
    have at_ : ∀ {b : Addr} {u : HO}, upd (fun _ => none) a (.frz { cls := .type "list", data := .seq vs.toArray } (.lst (ns.map V.int))) b = some u →
        b = a ∧ u = .frz { cls := .type "list", data := .seq vs.toArray } (.lst (ns.map V.int)) := by
      intro b u z
      by_cases hb' : b = a
      · subst hb'
        rw [upd_same] at z
        exact ⟨rfl, (Option.some.inj z).symm⟩
      · rw [upd_ne hb'] at z
        cases z
    refine main (upd (fun _ => none) a (.frz { cls := .type "list", data := .seq vs.toArray } (.lst (ns.map V.int)))) ?_ (.inl (.inr ⟨_, upd_same⟩)) ?_ ?_ fun _ => hk
    · intro b
      cases z : upd (fun _ => none) a (.frz { cls := .type "list", data := .seq vs.toArray } (.lst (ns.map V.int))) b with
      | none => exact .inl rfl
      | some u =>
        obtain ⟨_, rfl⟩ := at_ z
        exact .inr ⟨_, _, rfl⟩
    · intro b u z
      obtain ⟨rfl, rfl⟩ := at_ z
      exact ⟨ha, by rw [List.length_map]; exact hl, vs, _, rv, ha⟩
    · intro b z
      cases e : upd (fun _ => none) a (.frz { cls := .type "list", data := .seq vs.toArray } (.lst (ns.map V.int))) b with
      | none => exact absurd e z
      | some u => exact (at_ e).1
theorem qN {l : PySem.W.OpenLaw} {n k : Nat} {q : Program} {loose : List Str} {XP : (Str → Option Value) → Heap → Prop} {YP : World → Heap → Prop} {d : DefRec} {K : Params → PySem.W.Frag} {sp : World → Sp} {x : Str}
    (hn : l.most = some n) (hn2 : n ≤ sizeLine) (hdf : d.params.defaults = []) (hr : Room k callerA) (hY : ∀ (w : World) (h : Heap), YP w h → (K w.params).In h)
    (F : ∀ (w : World) (mg : Str → Option Value) (fa : Addr) (h : Heap), (K w.params).In h → h.Ns mainGlobals mg → mg d.name = some (.ref fa) → ∃ fd : FuncData,
      (∀ (s : Shared) (u : Value), BindsTo s fd ⟨[u], []⟩ [(x, u)]) ∧ ∀ base : Heap, (K w.params).In base → base.Ns mainGlobals mg → FnG l.prog w (K w.params) mg base (L2.CX l.prog w) k fa fd [x] (sp w))
    (hsp : ∀ (w : World) (H : Hp) (a : Addr) (ns : List Int), ns.length ≤ n → Only H → SqL (K w.params) H a (ns.map V.int) → sp w [.ref a] H (fun v _ => v = .bl true) fun _ _ _ => False) :
    PySem.W.WalkO q loose XP YP l.row.toRowW d [] (fun f vs => PySem.call f vs) := by
  refine Att.attach_call hn hdf fun w s0 s1 mg mb fa ob pm cd doc a vs ns G Y _ _ _ hmg hobj hints hlen hgen => ?_
  obtain ⟨fd, hbd, hF⟩ := F w mg fa _ (hY w _ Y) G.T.g hmg
  refine oG (hY w _ Y) G.T.g G.T.b G.T.builtins G.T.nolimit hgen hobj hints (Nat.le_trans hlen hn2) hr hF hbd (fun H hO hS => hsp w H a ns hlen hO hS) fun H e s' h => ?_
  obtain ⟨_, _, _, _, _, _, _, _, _, _, _, _, z⟩ := h
  exact z
end GD
set_option Elab.async false
set_option linter.all false
set_option maxRecDepth 100000
set_option maxHeartbeats 4000000
namespace K20
open PySem PySem.Spec PyProof.Rows L2 Lay NdefX LamX GD DM XK
abbrev Tb := Nat → List D → M D
def dc (i : Nat) : Stmt := PySem.Challenge.pw_askford_k20_tables.main.body.getD i (.Pass ⟨0, 0, 0, 0⟩)
abbrev aQ : Stmt := inClass (dc 1) 0
theorem gh : FnScope ["self", "row"] ["self", "row"] (defScope aQ) := ⟨rfl, rfl, rfl, by decide +kernel, rfl, by decide +kernel, by decide +kernel⟩
abbrev bp : Stmt := inClass (dc 3) 0
theorem i0 : FnScope ["self", "number"] ["self", "number"] (defScope bp) := ⟨rfl, rfl, rfl, by decide +kernel, rfl, by decide +kernel, by decide +kernel⟩
abbrev bH : Stmt := inClass (dc 3) 1
theorem jR : FnScope ["self", "other"] ["self", "other"] (defScope bH) := ⟨rfl, rfl, rfl, by decide +kernel, rfl, by decide +kernel, by decide +kernel⟩
abbrev b5 : Stmt := dc 9
theorem m8 : FnScope ["thing"] ["thing"] (defScope b5) := ⟨rfl, rfl, rfl, by decide +kernel, rfl, by decide +kernel, by decide +kernel⟩
abbrev ck : Stmt := dc 10
theorem gy : FnScope ["thing", "sign"] ["thing"] (defScope ck) := ⟨rfl, rfl, rfl, by decide +kernel, rfl, by decide +kernel, by decide +kernel⟩
abbrev b6 : Stmt := dc 11
theorem m9 : FnScope ["thing", "kind"] ["thing", "kind"] (defScope b6) := ⟨rfl, rfl, rfl, by decide +kernel, rfl, by decide +kernel, by decide +kernel⟩
abbrev ba : Stmt := dc 12
theorem cQ : FnScope ["thing", "pair", "name", "kind"] ["thing"] (defScope ba) := ⟨rfl, rfl, rfl, by decide +kernel, rfl, by decide +kernel, by decide +kernel⟩
abbrev cR : Stmt := dc 13
theorem eZ : FnScope ["thing", "columns", "worth", "name", "kind"] ["thing", "columns"] (defScope cR) := ⟨rfl, rfl, rfl, by decide +kernel, rfl, by decide +kernel, by decide +kernel⟩
abbrev cB : Stmt := dc 14
theorem oH : FnScope ["worth"] ["worth"] (defScope cB) := ⟨rfl, rfl, rfl, by decide +kernel, rfl, by decide +kernel, by decide +kernel⟩
abbrev cm : Stmt := dc 15
theorem gz : FnScope ["row", "worth"] ["row"] (defScope cm) := ⟨rfl, rfl, rfl, by decide +kernel, rfl, by decide +kernel, by decide +kernel⟩
abbrev cC : Stmt := dc 16
theorem gA : FnScope ["rows", "told", "row"] ["rows"] (defScope cC) := ⟨rfl, rfl, rfl, by decide +kernel, rfl, by decide +kernel, by decide +kernel⟩
abbrev aF : Stmt := inClass (dc 17) 0
theorem aM : FnScope ["self", "columns", "rows", "at", "row"] ["self", "columns", "rows"] (defScope aF) := ⟨rfl, rfl, rfl, by decide +kernel, rfl, by decide +kernel, by decide +kernel⟩
abbrev bb : Stmt := inClass (dc 17) 1
theorem i3 : FnScope ["self", "other"] ["self", "other"] (defScope bb) := ⟨rfl, rfl, rfl, by decide +kernel, rfl, by decide +kernel, by decide +kernel⟩
abbrev aY : Stmt := inClass (dc 17) 2
theorem iK : FnScope ["self"] ["self"] (defScope aY) := ⟨rfl, rfl, rfl, by decide +kernel, rfl, by decide +kernel, by decide +kernel⟩
abbrev aZ : Stmt := inClass (dc 17) 3
theorem cE : FnScope ["self", "row"] ["self"] (defScope aZ) := ⟨rfl, rfl, rfl, by decide +kernel, rfl, by decide +kernel, by decide +kernel⟩
abbrev bD : Stmt := dc 18
theorem jS : FnScope ["worth"] ["worth"] (defScope bD) := ⟨rfl, rfl, rfl, by decide +kernel, rfl, by decide +kernel, by decide +kernel⟩
abbrev aW : Stmt := dc 19
theorem c6 : FnScope ["columns", "name", "kind"] ["columns"] (defScope aW) := ⟨rfl, rfl, rfl, by decide +kernel, rfl, by decide +kernel, by decide +kernel⟩
abbrev aX : Stmt := dc 20
theorem cx : FnScope ["table", "row", "worth"] ["table"] (defScope aX) := ⟨rfl, rfl, rfl, by decide +kernel, rfl, by decide +kernel, by decide +kernel⟩
abbrev bI : Stmt := dc 22
theorem jT : FnScope ["_law_cell_here"] ["_law_cell_here"] (defScope bI) := ⟨rfl, rfl, rfl, by decide +kernel, rfl, by decide +kernel, by decide +kernel⟩
abbrev bY : Stmt := dc 23
theorem dw : FnScope ["_law_draws_here", "_law_k", "_law_number"] ["_law_draws_here"] (defScope bY) := ⟨rfl, rfl, rfl, by decide +kernel, rfl, by decide +kernel, by decide +kernel⟩
abbrev bL : Stmt := dc 24
theorem hQ : FnScope ["_law_draws_here", "_law_tongue", "_law_kind", "_law_pick"] ["_law_draws_here", "_law_tongue", "_law_kind"] (defScope bL) := ⟨rfl, rfl, rfl, by decide +kernel, rfl, by decide +kernel, by decide +kernel⟩
abbrev bq : Stmt := dc 25
theorem c4 : FnScope ["_law_draws_here", "_law_tongue", "_law_letters", "_law_kinds", "_law_many", "_law_letter"] ["_law_draws_here", "_law_tongue", "_law_letters"] (defScope bq) := ⟨rfl, rfl, rfl, by decide +kernel, rfl, by decide +kernel, by decide +kernel⟩
abbrev bj : Stmt := dc 26
theorem jG : FnScope ["_law_worth"] ["_law_worth"] (defScope bj) := ⟨rfl, rfl, rfl, by decide +kernel, rfl, by decide +kernel, by decide +kernel⟩
abbrev bM : Stmt := dc 27
theorem cn : FnScope ["_law_a_columns", "_law_a_rows", "_law_way", "_law_told", "_law_kept", "e"] ["_law_a_columns", "_law_a_rows", "_law_way"] (defScope bM) := ⟨rfl, rfl, rfl, by decide +kernel, rfl, by decide +kernel, by decide +kernel⟩
abbrev aK : Stmt := dc 28
theorem bG : FnScope ["_law_draws_here", "_law_heads_here", "_law_pick", "_law_odd", "_law_at"] ["_law_draws_here", "_law_heads_here"] (defScope aK) := ⟨rfl, rfl, rfl, by decide +kernel, rfl, by decide +kernel, by decide +kernel⟩
abbrev bc : Stmt := dc 29
theorem cy : FnScope ["_law_draws_here", "_law_heads_here", "_law_row", "_law_pick", "_law_at", "_law_other", "_law_some"] ["_law_draws_here", "_law_heads_here", "_law_row"] (defScope bc) := ⟨rfl, rfl, rfl, by decide +kernel, rfl, by decide +kernel, by decide +kernel⟩
abbrev aD : Stmt := dc 30
theorem aS : FnScope ["_law_draws_here", "_law_heads_here", "_law_a_rows", "_law_bad", "_law_way", "_law_at", "_law_one", "_law_some", "_law_head"] ["_law_draws_here", "_law_heads_here", "_law_a_rows"] (defScope aD) := ⟨rfl, rfl, rfl, by decide +kernel, rfl, by decide +kernel, by decide +kernel⟩
abbrev bN : Stmt := dc 31
theorem lx : FnScope ["_law_worth"] ["_law_worth"] (defScope bN) := ⟨rfl, rfl, rfl, by decide +kernel, rfl, by decide +kernel, by decide +kernel⟩
abbrev aN : Stmt := dc 32
theorem de : FnScope ["_law_draws_here", "_law_heads_here"] ["_law_draws_here"] (defScope aN) := ⟨rfl, rfl, rfl, by decide +kernel, rfl, by decide +kernel, by decide +kernel⟩
abbrev aR : Stmt := dc 33
theorem au : FnScope ["_law_draws_here", "_law_heads_here", "_law_many", "_law_a_rows", "_law_row", "_law_handed_here", "_law_a_table", "_law_turn", "_law_told", "_law_more", "_law_other", "_law_door_here", "_law_kinds", "_law_some", "_law_k", "_law_head", "_law_a_name", "_law_kind", "_law_worth"] ["_law_draws_here"] (defScope aR) := ⟨rfl, rfl, rfl, by decide +kernel, rfl, by decide +kernel, by decide +kernel⟩
abbrev gn : Stmt := dc 34
theorem ly : FnScope ["_law_script", "_law_draws_here", "_law_cell_here"] ["_law_script"] (defScope gn) := ⟨rfl, rfl, rfl, by decide +kernel, rfl, by decide +kernel, by decide +kernel⟩
def gC : Str → Option Bool := fun c => if c = "NoTable" then some true else none
def eJ : Str → Option Bool := fun c => if c = "NoTable" then some true else none
def oJ : List Str := ["NoTable"]
def hV : D := (.tup [.str "number", .str "text", .str "day"])
def b_aa (S : Tb) : DM.S :=
  (aV (nQ (eUn (uZ "Day" "number" "int") (ai 0)) (wj (eUn (isF "bool") (ai 0)))))
def b_ab (S : Tb) : DM.S :=
  (aB (sIf (dQ (bW (tB' (eUn (isF "str") (ai 0)))) (dQ (bW (tB' (sx oLe oLe (eC (.int 1)) (eCB cK (ab (ai 0) ak)) (eC (.int 8))))) (tB' (eOp (nZ true) (eOp xT (ai 0) (eC (.int 0))) (eC (.str "abcdefghijklmnopqrstuvwxyz")))))) (aV (eC (.bl false))) aT)
    (aV (eCB rO (ab (eLc (.one 1) (iD isX (ai 0)) a6 (eOr (eOp (nZ false) (ai 1) (eC (.str "abcdefghijklmnopqrstuvwxyz"))) (eOp (nZ false) (ai 1) (eC (.str "0123456789"))))) ak))))
def b_ac (S : Tb) : DM.S :=
  (aB (sIf (tB' (eOp rL (ai 0) (eC .non))) (aV (eC (.bl true))) aT)
    (aB (sIf (tB' (eOp cH (ai 1) (eC (.str "number")))) (aV (aw 1 (S 0) (ab (ai 0) ak))) aT)
    (aB (sIf (tB' (eOp cH (ai 1) (eC (.str "text")))) (aV (eUn (uZ "Day" "number" "str") (ai 0))) aT)
    (aV (eUn (isO "Day" "number") (ai 0))))))
def b_k (S : Tb) : DM.S :=
  (aB (sIf (dQ (bW (tB' (eUn (isF "list") (ai 0)))) (tB' (eOp cH (ai 0) (bE ak)))) (aV (eC (.bl false))) aT)
    (aB (iW (.one 1) (iD isX (ai 0)) (aB (sIf (dQ (bW (tB' (eUn (isF "tuple") (ai 1)))) (dQ (tB' (eOp eT (eCB cK (ab (ai 1) ak)) (eC (.int 2)))) (bW (tB' (aw 1 (S 1) (ab (eOp oIx (ai 1) (eC (.int 0))) ak)))))) (aV (eC (.bl false))) aT)
    (sIf (dQ (bW (tB' (eUn (isF "str") (eOp oIx (ai 1) (eC (.int 1)))))) (tB' (eOp xF (eOp oIx (ai 1) (eC (.int 1))) (eC hV)))) (aV (eC (.bl false))) aT)))
    (aV (eOp cH (kY (.many [(.one 2), (.one 3)]) (iD isX (ai 0)) a6 (ai 2)) (eCB cK (ab (ai 0) ak))))))
def b_j (S : Tb) : DM.S :=
  (aB (sIf (dQ (bW (tB' (eUn (isF "list") (ai 0)))) (tB' (eOp eT (eCB cK (ab (ai 0) ak)) (eCB cK (ab (ai 1) ak))))) (aV (eC (.bl false))) aT)
    (aV (eCB rO (ab (eLc (.many [(.one 2), (.many [(.one 3), (.one 4)])]) (iDs isZ (ab (ai 0) (ab (ai 1) ak))) a6 (aw 2 (S 2) (ab (ai 2) (ab (ai 4) ak)))) ak))))
def b_m (S : Tb) : DM.S :=
  (aV (eIf (tB' (eUn (isO "Day" "number") (ai 0))) (eUn (wm ["Day"] "number") (ai 0)) (ai 0)))
def b_n (S : Tb) : DM.S :=
  (aV (eCB e9 (ab (eLc (.one 1) (iD isX (ai 0)) a6 (c3 (ab (eOp rL (ai 1) (eC .non)) (ab (aw 1 (S 5) (ab (ai 1) ak)) ak)))) ak)))
def b_o (S : Tb) : DM.S :=
  (aB (nU 1 sY)
    (aB (iW (.one 2) (iD isX (ai 0)) (jA 1 (aw 1 (S 6) (ab (ai 2) ak)) (eOp bw (km 1 (aw 1 (S 6) (ab (ai 2) ak)) (eC (.int 0))) (eC (.int 1)))))
    (lV 1)))
def b_r (S : Tb) : DM.S :=
  (aV (eIf (tB' (eOp (orF cH (uY "Day" "number")) (ai 0) (eC (.str "")))) (eC .non) (aw 1 (S 5) (ab (ai 0) ak))))
def b_s (S : Tb) : DM.S :=
  (aV (eLc (.many [(.one 1), (.one 2)]) (iD isX (ai 0)) a6 (c3 (ab (ai 1) (ab (eIf (tB' (eOp cH (ai 2) (eC (.str "day")))) (eC (.str "number")) (ai 2)) ak)))))
def b_p (S : Tb) : DM.S :=
  (aV (eNew "Table" 3 (S 22) (ab (aw 1 (S 9) (ab (dB "Table" "columns" 1 (S 24) (ai 0) ak) ak)) (ab (eLc (.one 1) (iD isX (dB "Table" "rows" 1 (S 25) (ai 0) ak)) a6 (eLc (.one 2) (iD isX (ai 1)) a6 (aw 1 (S 8) (ab (ai 2) ak)))) ak))))
def b_t (S : Tb) : DM.S :=
  (aB (bO (.one 3) (aw 1 (S 11) (ab (ai 0) ak)))
    (aB (sIf (tB' (eOp cH (eOp oMod (ai 3) (eC (.int 4))) (eC (.int 0)))) (aV (eC .non)) aT)
    (aB (sIf (tB' (eOp cH (ai 2) (eC (.str "number")))) (aV (eOp oIx (bE (ab (eOp qz (eOp oMod (eOp oDiv (ai 3) (eC (.int 4))) (eC (.int 7))) (eC (.int 3))) (ab (eOp bw (eOp uM (eC (.int 10)) (eC (.int 19))) (ai 3)) (ab (eOp qz (eOp qz (eC (.int 0)) (eOp uM (eC (.int 10)) (eC (.int 19)))) (ai 3)) ak)))) (eCB pF (ab (eC (.int 0)) (ab (eOp qz (eOp oMod (eOp oDiv (ai 3) (eC (.int 64))) (eC (.int 12))) (eC (.int 9))) ak))))) aT)
    (aB (sIf (tB' (eOp cH (ai 2) (eC (.str "text")))) (aV (eOp oIx (bE (ab (eC (.str "a")) (ab (eC (.str "b")) (ab (eC (.str "ab")) (ab (eC (.str "B")) (ab (eC (.str "A b")) (ab (eC (.str "~")) (ab (eSl slX (eC (.str "a")) (cu (eCB kG (ab (eOp cH (ai 1) (eC (.str "hill"))) ak))) cq) ak)))))))) (eOp oMod (eOp oDiv (ai 3) (eC (.int 4))) (eC (.int 7))))) aT)
    (aV (c3 (ab (eC (.str "day")) (ab (eOp oIx (bE (ab (eOp oMod (eOp oDiv (ai 3) (eC (.int 4))) (eC (.int 5))) (ab (eOp bw (eC (.int 59)) (eOp oMod (eOp oDiv (ai 3) (eC (.int 4))) (eC (.int 4)))) (ab (eOp bw (eC (.int 730000)) (eOp oMod (eOp oDiv (ai 3) (eC (.int 4))) (eC (.int 800)))) (ab (eOp qz (eC (.int 0)) (eOp oMod (eOp oDiv (ai 3) (eC (.int 4))) (eC (.int 700)))) ak))))) (eOp oMod (eOp oDiv (ai 3) (eC (.int 64))) (eC (.int 4)))) ak))))))))
def b_u (S : Tb) : DM.S :=
  (aB (bO (.one 3) (eSl slX (bE (ab (eC (.str "number")) (ab (eC (.str "text")) (ab (eC (.str "number")) (ab (eC (.str "text")) (ab (eC (.str "day")) ak)))))) cq (cu (eOp oIx (bE (ab (eC (.int 4)) (ab (eC (.int 5)) ak))) (eCB kG (ab (eOp cH (ai 1) (eC (.str "hill"))) ak))))))
    (aB (bO (.one 4) (eOp bw (eC (.int 1)) (eOp oMod (aw 1 (S 11) (ab (ai 0) ak)) (eCB cK (ab (ai 2) ak)))))
    (aV (eLc (.one 5) (iD isX (eSl slX (ai 2) cq (cu (ai 4)))) a6 (c3 (ab (ai 5) (ab (eOp oIx (ai 3) (eOp oMod (aw 1 (S 11) (ab (ai 0) ak)) (eCB cK (ab (ai 3) ak)))) ak)))))))
def b_ad (S : Tb) : DM.S :=
  (aV (eIf (tB' (eUn (isF "tuple") (ai 0))) (eMk "Day" ["number"] (ab (eOp oIx (ai 0) (eC (.int 1))) ak)) (ai 0)))
def b_l (S : Tb) : DM.S :=
  (aB (bO (.one 3) (eC .non))
    (aB (bO (.one 4) (eC .non))
    (aB (ke gC 5 4 (sIf (tB' (eOp cH (ai 2) (eC (.int 0)))) (bO (.one 3) (eNew "Table" 3 (S 22) (ab (ai 0) (ab (ai 1) ak)))) (bO (.one 3) (eNew "Table" 3 (S 22) (mU 2 [1, 0] (ab (ai 1) (ab (ai 0) ak)))))))
    (aB (sIf (tB' (eOp rM (ai 4) (eC .non))) (aV (bE (ab (eC (.str "refused")) (ab (eUn (sC oJ "row") (ai 4)) (ab (eUn (isC eJ) (ai 4)) ak))))) aT)
    (aV (bE (ab (eC (.str "told")) (ab (ai 3) ak))))))))
def b_v (S : Tb) : DM.S :=
  (aB (bO (.one 2) (aw 1 (S 11) (ab (ai 0) ak)))
    (aB (bO (.one 3) (bE (ab (c3 (ab (eC (.str "A")) (ab (eC (.str "number")) ak))) (ab (c3 (ab (eC (.str "a1b2c3d4e")) (ab (eC (.str "text")) ak))) (ab (c3 (ab (eC (.str "")) (ab (eC (.str "text")) ak))) (ab (c3 (ab (eC (.str "1a")) (ab (eC (.str "text")) ak))) (ab (c3 (ab (eC (.int 5)) (ab (eC (.str "text")) ak))) (ab (c3 (ab (eC (.str "a")) (ab (eC (.str "truth")) ak))) ak))))))))
    (aB (bO (.one 3) (eOp bw (ai 3) (bE (ab (c3 (ab (eC (.str "a")) (ab (eC .non) ak))) (ab (c3 (ab (eC (.str "a")) ak)) (ab (c3 (ab (eC (.str "a")) (ab (eC (.str "text")) (ab (eC (.str "text")) ak)))) (ab (bE (ab (eC (.str "a")) (ab (eC (.str "text")) ak))) (ab (eC .non) (ab (eC (.str "ab")) (ab (c3 (ab (eC (.str "a_b")) (ab (eC (.str "number")) ak))) ak))))))))))
    (aB (bO (.one 4) (eOp oMod (ai 2) (eOp bw (eCB cK (ab (ai 1) ak)) (eC (.int 1)))))
    (aB (sIf (tB' (eOp cH (eOp oMod (eOp oDiv (ai 2) (eC (.int 8))) (eC (.int 8))) (eC (.int 0)))) (aV (eOp oIx (bE (ab (eCB e9 (ab (ai 1) ak)) (ab (eC .non) (ab (eC (.int 5)) (ab (eC (.str "ab")) (ab (bE ak) ak)))))) (eOp oMod (eOp oDiv (ai 2) (eC (.int 64))) (eC (.int 5))))) aT)
    (aB (sIf (tB' (eOp cH (eOp oMod (eOp oDiv (ai 2) (eC (.int 8))) (eC (.int 8))) (eC (.int 1)))) (aV (eOp bw (ai 1) (bE (ab (eOp oIx (ai 1) (eOp oMod (eOp oDiv (ai 2) (eC (.int 64))) (eCB cK (ab (ai 1) ak)))) ak)))) aT)
    (aV (eOp bw (eOp bw (eSl slX (ai 1) cq (cu (ai 4))) (bE (ab (eOp oIx (ai 3) (eOp oMod (eOp oDiv (ai 2) (eC (.int 64))) (eC (.int 13)))) ak))) (eSl slX (ai 1) (cu (ai 4)) cq)))))))))
def b_q (S : Tb) : DM.S :=
  (aB (bO (.one 3) (aw 1 (S 11) (ab (ai 0) ak)))
    (aB (sIf (tB' (eOp cH (eOp oMod (ai 3) (eC (.int 6))) (eC (.int 0)))) (aV (eOp oIx (bE (ab (eCB e9 (ab (ai 2) ak)) (ab (eC .non) (ab (eC (.int 5)) (ab (eC (.str "a")) ak))))) (eOp oMod (eOp oDiv (ai 3) (eC (.int 6))) (eC (.int 4))))) aT)
    (aB (sIf (tB' (eOp cH (eOp oMod (ai 3) (eC (.int 6))) (eC (.int 1)))) (aV (eOp bw (ai 2) (bE (ab (eC .non) ak)))) aT)
    (aB (sIf (tB' (eOp cH (eOp oMod (ai 3) (eC (.int 6))) (eC (.int 2)))) (aV (eSl slX (ai 2) (cu (eC (.int 1))) cq)) aT)
    (aB (bO (.one 4) (eOp oMod (eOp oDiv (ai 3) (eC (.int 6))) (eCB cK (ab (ai 2) ak))))
    (aB (nU 5 (qy [("number", (bE (ab (eC (.str "a")) (ab (eC (.bl true)) (ab (eC (.bl false)) (ab (eMk "Day" ["number"] (ab (eC (.int 3)) ak)) (ab (c3 (ab (eC (.str "a")) ak)) ak))))))), ("text", (bE (ab (eC (.int 3)) (ab (eC (.bl true)) (ab (eMk "Day" ["number"] (ab (eC (.int 0)) ak)) (ab (c3 (ab (eC (.str "a")) ak)) ak))))))]))
    (aB (qr 5 (eC (.str "day")) (bE (ab (eC (.int 3)) (ab (eC (.str "a")) (ab (c3 (ab (eC (.int 1)) (ab (eC (.int 2)) (ab (eC (.int 3)) ak)))) (ab (eC (.bl true)) ak))))))
    (aB (fF 5 (bO (.one 6) (eOp qv (ai 5) (eOp oIx (eOp oIx (ai 1) (ai 4)) (eC (.int 1))))))
    (aV (eOp bw (eOp bw (eSl slX (ai 2) cq (cu (ai 4))) (bE (ab (eOp oIx (ai 6) (eOp oMod (eOp oDiv (ai 3) (eC (.int 64))) (eCB cK (ab (ai 6) ak)))) ak))) (eSl slX (ai 2) (cu (eOp bw (ai 4) (eC (.int 1)))) cq)))))))))))
def b_w (S : Tb) : DM.S :=
  (aB (bO (.one 3) (aw 2 (S 16) (ab (ai 0) (ab (ai 1) ak))))
    (aB (iW (.one 4) (iDs isR (ab (eC (.int 2)) ak)) (sIf (tB' (eOp eT (aw 3 (S 15) (ab (ai 3) (ab (ai 2) (ab (ai 4) ak)))) (bE (ab (eC (.str "refused")) (ab (eC .non) (ab (eC (.bl true)) ak)))))) (aV (eC (.bl false))) aT))
    (aB (sIf (tB' (eOp eT (aw 3 (S 15) (ab (ai 1) (ab (eOp oIx (bE (ab (eCB e9 (ab (ai 2) ak)) (ab (eC .non) (ab (eC (.str "a")) ak)))) (eOp oMod (aw 1 (S 11) (ab (ai 0) ak)) (eC (.int 3)))) (ab (eC (.int 0)) ak)))) (bE (ab (eC (.str "refused")) (ab (eC .non) (ab (eC (.bl true)) ak)))))) (aV (eC (.bl false))) aT)
    (aB (bO (.one 5) (eOp oMod (aw 1 (S 11) (ab (ai 0) ak)) (eOp bw (eCB cK (ab (ai 2) ak)) (eC (.int 1)))))
    (aB (bO (.one 6) (eLc (.one 8) (iD isX (ai 1)) a6 (eC .non)))
    (aB (nU 7 (eOp lR (eOp bw (eSl slX (ai 2) cq (cu (ai 5))) (bE (ab (aw 3 (S 17) (ab (ai 0) (ab (ai 1) (ab (ai 6) ak)))) ak))) (eSl slX (ai 2) (cu (ai 5)) cq)))
    (aB (sIf (tB' (eOp cH (eOp oMod (aw 1 (S 11) (ab (ai 0) ak)) (eC (.int 2))) (eC (.int 0)))) (fX 7 (aw 3 (S 17) (ab (ai 0) (ab (ai 1) (ab (ai 6) ak))))) aT)
    (fF 7 (aV (eOp cH (aw 3 (S 15) (ab (ai 1) (ab (ai 7) (ab (eC (.int 1)) ak)))) (bE (ab (eC (.str "refused")) (ab (ai 5) (ab (eC (.bl true)) ak))))))))))))))
def b_x (S : Tb) : DM.S :=
  (aB (sIf (tB' (eUn (isO "Day" "number") (ai 0))) (aV (eUn (wm ["Day"] "number") (ai 0))) aT)
    (aV (eOp oIx (bE (ab (ai 0) (ab (eC .non) ak))) (eCB kG (ab (eOp cH (ai 0) (eC (.str ""))) ak)))))
def b_y (S : Tb) : DM.S :=
  (aB (bO (.one 1) (aw 3 (S 13) (ab (ai 0) (ab (eC (.str "hill")) (ab (eC (.str "abcd")) ak)))))
    (aB (sIf (tB' (eOp cH (eOp oMod (aw 1 (S 11) (ab (ai 0) ak)) (eC (.int 2))) (eC (.int 0)))) (bO (.one 1) (eOp bw (ai 1) (bE (ab (c3 (ab (eOp oIx (bE (ab (eC (.str "a1")) (ab (eC (.str "abcdefg8")) (ab (eC (.str "zzzzzzzz")) (ab (eC (.str "z0123456")) ak))))) (eOp oMod (aw 1 (S 11) (ab (ai 0) ak)) (eC (.int 4)))) (ab (eC (.str "number")) ak))) ak)))) aT)
    (aV (ai 1))))
def b_z (S : Tb) : DM.S :=
  (aB (bO (.one 1) (aw 1 (S 20) (ab (ai 0) ak)))
    (aB (bO (.one 2) (eOp oMod (aw 1 (S 11) (ab (ai 0) ak)) (eC (.int 6))))
    (aB (bO (.one 3) (eLc (.one 14) (iDs isR (ab (ai 2) ak)) a6 (eLc (.many [(.one 16), (.one 17)]) (iD isX (ai 1)) a6 (aw 1 (S 14) (ab (aw 3 (S 12) (ab (ai 0) (ab (eC (.str "hill")) (ab (ai 17) ak)))) ak)))))
    (aB (bO (.one 3) (eOp bw (ai 3) (eSl slX (ai 3) cq (cu (eOp oMod (aw 1 (S 11) (ab (ai 0) ak)) (eC (.int 3)))))))
    (aB (kr 5 6 4 "Table" "heads" "lines" (gm (eCB du (ab (ai 1) ak)) (eLc (.one 4) (iD isX (ai 3)) a6 (eCB du (ab (ai 4) ak)))) (S 26))
    (aB (iW (.one 7) (iDs isR (ab (eC (.int 2)) ak)) (kx 8 4 (gm (dB "Table" "columns" 1 (S 24) (ai 6) ak) (dB "Table" "rows" 1 (S 25) (ai 6) ak)) (dQ (tB' (eOp (oF (orE (eqL (eqL (eX "Day" "number"))) eqP)) (ai 8) (c3 (ab (ai 1) (ab (ai 3) ak))))) (bW (tB' (eUn (isF "list") (eOp oIx (ai 8) (eC (.int 0)))))))))
    (aB (sIf (dQ (bW (tB' (dv "Table" id (S 23) (ai 6) (eNew "Table" 3 (S 22) (ab (ai 1) (ab (eUn vk (ai 3)) ak)))))) (tB' (je "Table" (S 23) (ai 6) (ai 3)))) (aV (eC (.bl false))) aT)
    (aB (sIf (tB' (dv "Table" not (S 23) (ai 6) (eNew "Table" 3 (S 22) (mU 2 [1, 0] (ab (ai 3) (ab (ai 1) ak)))))) (aV (eC (.bl false))) aT)
    (aB (bO (.one 9) (eLc (.one 15) (iD isX (ai 1)) a6 (eC .non)))
    (aB (bO (.one 10) (eNew "Table" 3 (S 22) (ab (ai 1) (ab (eOp bw (ai 3) (bE (ab (ai 9) ak))) ak))))
    (aB (sIf (dQ (tB' (dv "Table" id (S 23) (ai 6) (ai 10))) (bW (tB' (dv "Table" not (S 23) (ai 6) (eNew "Table" 3 (S 22) (ab (eOp bw (bE (ab (c3 (ab (eC (.str "zz")) (ab (eOp oIx (eOp oIx (ai 1) (eC (.int 0))) (eC (.int 1))) ak))) ak)) (eSl slX (ai 1) (cu (eC (.int 1))) cq)) (ab (ai 3) ak))))))) (aV (eC (.bl false))) aT)
    (aB (sIf (pj (tB' (eOp vb (ai 3) (bE ak))) (tB' (eOp eT (dv "Table" id (S 23) (eNew "Table" 3 (S 22) (ab (ai 1) (ab (eOp bw (ai 3) (eSl slX (ai 3) cq (cu (eC (.int 1))))) ak))) (ai 10)) (eOp (tp false (eqL (eX "Day" "number"))) (eOp oIx (ai 3) (eC (.int 0))) (ai 9))))) (aV (eC (.bl false))) aT)
    (aB (bO (.one 11) (aw 1 (S 10) (ab (ai 6) ak)))
    (aB (bO (.one 12) (eLc (.many [(.one 16), (.one 17)]) (iD isX (ai 1)) a6 (c3 (ab (ai 16) (ab (eOp oIx (bE (ab (ai 17) (ab (eC (.str "number")) ak))) (eCB kG (ab (eOp cH (ai 17) (eC (.str "day"))) ak))) ak)))))
    (aB (bO (.one 13) (eLc (.one 4) (iD isX (ai 3)) a6 (eLc (.one 18) (iD isX (ai 4)) a6 (aw 1 (S 19) (ab (ai 18) ak)))))
    (aB (sIf (dQ (tB' (eOp eT (dB "Table" "columns" 1 (S 24) (ai 11) ak) (ai 12))) (tB' (eOp eT (dB "Table" "rows" 1 (S 25) (ai 11) ak) (ai 13)))) (aV (eC (.bl false))) aT)
    (aV (nQ (dv "Table" id (S 23) (jr 1 1 [0] (S 10) (ab (ai 11) ak)) (ai 11)) (aw 3 (S 18) (ab (ai 0) (ab (ai 1) (ab (ai 3) ak))))))))))))))))))))))
def b_f (S : Tb) : DM.S :=
  (aB (sIf (dQ (bW (tB' (aw 1 (S 3) (ab (ai 1) ak)))) (bW (tB' (eUn (isF "list") (ai 2))))) (fg "NoTable" ["row"] (ab (eC .non) ak)) aT)
    (aB (iW (.many [(.one 3), (.one 4)]) (iDs qD (ab (ai 2) ak)) (sIf (bW (tB' (aw 2 (S 4) (ab (ai 4) (ab (ai 1) ak))))) (fg "NoTable" ["row"] (ab (ai 3) ak)) aT))
    (aB (kh ["Table"] "heads" (ai 0) (eCB du (ab (ai 1) ak)))
    (kh ["Table"] "lines" (ai 0) (eLc (.one 4) (iD isX (ai 2)) a6 (eCB du (ab (ai 4) ak)))))))
def b_d (S : Tb) : DM.S :=
  (aV (nQ (eUn (tM "Table") (ai 1)) (nQ (eOp cH (iS ["Table"] "heads" (ai 0)) (iS ["Table"] "heads" (ai 1))) (eOp wA (aw 1 (S 7) (ab (iS ["Table"] "lines" (ai 0)) ak)) (aw 1 (S 7) (ab (iS ["Table"] "lines" (ai 1)) ak))))))
def b_i (S : Tb) : DM.S :=
  (aV (eCB du (ab (iS ["Table"] "heads" (ai 0)) ak)))
def b_g (S : Tb) : DM.S :=
  (aV (eLc (.one 1) (iD isX (iS ["Table"] "lines" (ai 0))) a6 (eCB du (ab (ai 1) ak))))
def d8 (S : Tb) : DM.S :=
  (aB (sIf (dQ (bW (tB' (aw 1 (S 3) (ab (ai 1) ak)))) (bW (tB' (eUn (isF "list") (ai 2))))) (fg "NoTable" ["row"] (ab (eC .non) ak)) aT)
    (iW (.many [(.one 3), (.one 4)]) (iDs qD (ab (ai 2) ak)) (sIf (bW (tB' (aw 2 (S 4) (ab (ai 4) (ab (ai 1) ak))))) (fg "NoTable" ["row"] (ab (ai 3) ak)) aT)))
def step (S : Tb) : Tb := fun i => match i with
  | 0 => fnD 1 (b_aa S)
  | 1 => fnD 2 (b_ab S)
  | 2 => fnD 2 (b_ac S)
  | 3 => fnD 4 (b_k S)
  | 4 => fnD 5 (b_j S)
  | 5 => fnD 1 (b_m S)
  | 6 => fnD 2 (b_n S)
  | 7 => fnD 3 (b_o S)
  | 8 => fnD 1 (b_r S)
  | 9 => fnD 3 (b_s S)
  | 10 => fnD 3 (b_p S)
  | 11 => next
  | 12 => fnD 4 (b_t S)
  | 13 => fnD 6 (b_u S)
  | 14 => fnD 1 (b_ad S)
  | 15 => fnD 6 (b_l S)
  | 16 => fnD 5 (b_v S)
  | 17 => fnD 7 (b_q S)
  | 18 => fnD 9 (b_w S)
  | 19 => fnD 1 (b_x S)
  | 20 => fnD 2 (b_y S)
  | 21 => fnD 19 (b_z S)
  | 22 => nW true 5 (b_f S)
  | 23 => fnD 2 (b_d S)
  | 24 => fnD 1 (b_i S)
  | 25 => fnD 2 (b_g S)
  | 26 => oE "Table" "heads" "lines" 5 (d8 S)
  | _ => fun _ _ => none
def sem : Nat → Tb
  | 0 => fun _ _ _ => none
  | n + 1 => step (sem n)
structure Tx (K : PySem.W.Frag) (mg : Str → Option Value) (w : World) where
  C_c : Addr
  g_c : mg "Day" = some (.ref C_c)
  cl_c : Cls K C_c
  n_Day_number : NoAttr K C_c "number"
  C_b : Addr
  g_b : mg "Table" = some (.ref C_b)
  cl_b : Cls K C_b
  n_Table_heads : NoAttr K C_b "heads"
  n_Table_lines : NoAttr K C_b "lines"
  C_a : Addr
  g_a : mg "NoTable" = some (.ref C_a)
  O_a : OexC K C_a
  X_a : XfC K C_a
  E_a : ExcC K C_a
  n_NoTable_row : PySem.W.findIn K (.ref C_a) "row" = some none
  f_ag : Addr
  fd_ag : FuncData
  F_ag : Fun K "__init__" "NoTable.__init__" aQ f_ag fd_ag
  b_ag : Binds K fd_ag ["self", "row"] []
  f_ae : Addr
  fd_ae : FuncData
  F_ae : Fun K "__init__" "Day.__init__" bp f_ae fd_ae
  b_ae : Binds K fd_ae ["self", "number"] []
  M_c : Mk K C_c f_ae
  f_h : Addr
  fd_h : FuncData
  F_h : Fun K "__eq__" "Day.__eq__" bH f_h fd_h
  b_h : Binds K fd_h ["self", "other"] []
  m_h : Meth K C_c "__eq__" f_h
  f_aa : Addr
  fd_aa : FuncData
  F_aa : Fun K "is_whole" "is_whole" b5 f_aa fd_aa
  b_aa : Binds K fd_aa ["thing"] []
  g_aa : mg "is_whole" = some (.ref f_aa)
  f_ab : Addr
  fd_ab : FuncData
  F_ab : Fun K "is_name" "is_name" ck f_ab fd_ab
  b_ab : Binds K fd_ab ["thing"] []
  g_ab : mg "is_name" = some (.ref f_ab)
  f_ac : Addr
  fd_ac : FuncData
  F_ac : Fun K "is_worth" "is_worth" b6 f_ac fd_ac
  b_ac : Binds K fd_ac ["thing", "kind"] []
  g_ac : mg "is_worth" = some (.ref f_ac)
  f_k : Addr
  fd_k : FuncData
  F_k : Fun K "are_columns" "are_columns" ba f_k fd_k
  b_k : Binds K fd_k ["thing"] []
  g_k : mg "are_columns" = some (.ref f_k)
  f_j : Addr
  fd_j : FuncData
  F_j : Fun K "is_row" "is_row" cR f_j fd_j
  b_j : Binds K fd_j ["thing", "columns"] []
  g_j : mg "is_row" = some (.ref f_j)
  f_m : Addr
  fd_m : FuncData
  F_m : Fun K "plainly" "plainly" cB f_m fd_m
  b_m : Binds K fd_m ["worth"] []
  g_m : mg "plainly" = some (.ref f_m)
  f_n : Addr
  fd_n : FuncData
  F_n : Fun K "row_key" "row_key" cm f_n fd_n
  b_n : Binds K fd_n ["row"] []
  g_n : mg "row_key" = some (.ref f_n)
  f_o : Addr
  fd_o : FuncData
  F_o : Fun K "counted" "counted" cC f_o fd_o
  b_o : Binds K fd_o ["rows"] []
  g_o : mg "counted" = some (.ref f_o)
  f_f : Addr
  fd_f : FuncData
  F_f : Fun K "__init__" "Table.__init__" aF f_f fd_f
  b_f : Binds K fd_f ["self", "columns", "rows"] []
  M_b : Mk K C_b f_f
  f_d : Addr
  fd_d : FuncData
  F_d : Fun K "__eq__" "Table.__eq__" bb f_d fd_d
  b_d : Binds K fd_d ["self", "other"] []
  m_d : Meth K C_b "__eq__" f_d
  f_i : Addr
  fd_i : FuncData
  F_i : Fun K "columns" "Table.columns" aY f_i fd_i
  b_i : Binds K fd_i ["self"] []
  m_i : Meth K C_b "columns" f_i
  f_g : Addr
  fd_g : FuncData
  F_g : Fun K "rows" "Table.rows" aZ f_g fd_g
  b_g : Binds K fd_g ["self"] []
  m_g : Meth K C_b "rows" f_g
  f_r : Addr
  fd_r : FuncData
  F_r : Fun K "dale_worth" "dale_worth" bD f_r fd_r
  b_r : Binds K fd_r ["worth"] []
  g_r : mg "dale_worth" = some (.ref f_r)
  f_s : Addr
  fd_s : FuncData
  F_s : Fun K "dale_columns" "dale_columns" aW f_s fd_s
  b_s : Binds K fd_s ["columns"] []
  g_s : mg "dale_columns" = some (.ref f_s)
  f_p : Addr
  fd_p : FuncData
  F_p : Fun K "through_door" "through_door" aX f_p fd_p
  b_p : Binds K fd_p ["table"] []
  g_p : mg "through_door" = some (.ref f_p)
  f_af : Addr
  fd_af : FuncData
  F_af : Fun K "_law_draws" "_law_draws" bI f_af fd_af
  b_af : Binds K fd_af ["_law_cell_here"] []
  g_af : mg "_law_draws" = some (.ref f_af)
  f_e : Addr
  fd_e : FuncData
  F_e : Fun K "_law_next" "_law_next" bY f_e fd_e
  b_e : Binds K fd_e ["_law_draws_here"] []
  g_e : mg "_law_next" = some (.ref f_e)
  f_t : Addr
  fd_t : FuncData
  F_t : Fun K "_law_cell" "_law_cell" bL f_t fd_t
  b_t : Binds K fd_t ["_law_draws_here", "_law_tongue", "_law_kind"] []
  g_t : mg "_law_cell" = some (.ref f_t)
  f_u : Addr
  fd_u : FuncData
  F_u : Fun K "_law_heads" "_law_heads" bq f_u fd_u
  b_u : Binds K fd_u ["_law_draws_here", "_law_tongue", "_law_letters"] []
  g_u : mg "_law_heads" = some (.ref f_u)
  f_ad : Addr
  fd_ad : FuncData
  F_ad : Fun K "_law_handed" "_law_handed" bj f_ad fd_ad
  b_ad : Binds K fd_ad ["_law_worth"] []
  g_ad : mg "_law_handed" = some (.ref f_ad)
  f_l : Addr
  fd_l : FuncData
  F_l : Fun K "_law_made" "_law_made" bM f_l fd_l
  b_l : Binds K fd_l ["_law_a_columns", "_law_a_rows", "_law_way"] []
  g_l : mg "_law_made" = some (.ref f_l)
  f_v : Addr
  fd_v : FuncData
  F_v : Fun K "_law_bad_columns" "_law_bad_columns" aK f_v fd_v
  b_v : Binds K fd_v ["_law_draws_here", "_law_heads_here"] []
  g_v : mg "_law_bad_columns" = some (.ref f_v)
  f_q : Addr
  fd_q : FuncData
  F_q : Fun K "_law_bad_row" "_law_bad_row" bc f_q fd_q
  b_q : Binds K fd_q ["_law_draws_here", "_law_heads_here", "_law_row"] []
  g_q : mg "_law_bad_row" = some (.ref f_q)
  f_w : Addr
  fd_w : FuncData
  F_w : Fun K "_law_refused_right" "_law_refused_right" aD f_w fd_w
  b_w : Binds K fd_w ["_law_draws_here", "_law_heads_here", "_law_a_rows"] []
  g_w : mg "_law_refused_right" = some (.ref f_w)
  f_x : Addr
  fd_x : FuncData
  F_x : Fun K "_law_door" "_law_door" bN f_x fd_x
  b_x : Binds K fd_x ["_law_worth"] []
  g_x : mg "_law_door" = some (.ref f_x)
  f_y : Addr
  fd_y : FuncData
  F_y : Fun K "_law_more_heads" "_law_more_heads" aN f_y fd_y
  b_y : Binds K fd_y ["_law_draws_here"] []
  g_y : mg "_law_more_heads" = some (.ref f_y)
  f_z : Addr
  fd_z : FuncData
  F_z : Fun K "_law_right" "_law_right" aR f_z fd_z
  b_z : Binds K fd_z ["_law_draws_here"] []
  g_z : mg "_law_right" = some (.ref f_z)
  f_ah : Addr
  fd_ah : FuncData
  F_ah : Fun K "law" "law" gn f_ah fd_ah
  b_ah : Binds K fd_ah ["_law_script"] []
  g_ah : mg "law" = some (.ref f_ah)
  i_a : PySem.W.findIn K (.ref C_a) "__init__" = some (some (.ref f_ag))
  t_a : PySem.W.typeIn K (.ref f_ag) = some (.type "function")
  z_isinstance : mg "isinstance" = none
  z_int : mg "int" = none
  z_bool : mg "bool" = none
  z_all : mg "all" = none
  z_str : mg "str" = none
  z_len : mg "len" = none
  z_list : mg "list" = none
  z_tuple : mg "tuple" = none
  z_zip : mg "zip" = none
  z_enumerate : mg "enumerate" = none
  z_max : mg "max" = none
  z_ValueError : mg "ValueError" = none
  z_range : mg "range" = none
  a_ai : Addr
  g_ai : mg "KINDS" = some (.ref a_ai)
  w_ai : wB K (.ref a_ai) hV = true
  t_aj : Tok
  g_aj : mg "LETTERS" = some (.str "abcdefghijklmnopqrstuvwxyz" t_aj)
  t_ak : Tok
  g_ak : mg "FIGURES" = some (.str "0123456789" t_ak)
  t_al : Tok
  g_al : mg "LONG" = some (.int 8 t_al)
  e_cls_Day : PySem.W.findIn K (.ref C_c) "__class__" = some (some (.builtin "object.__class__"))
  e_get : PySem.W.specialIn K (.builtin "object.__class__") "__get__" = some (some (.builtin "getset_descriptor.__get__"))
  e_tak : PySem.W.takesIn K (.builtin "object.__class__") = some true
  e_mro_Day : PySem.W.mroIn K C_c (.type "object") = some true
  e_kNone_Day : PySem.W.kitOne K (.type "NoneType") (.ref C_c) = some false
  e_kbool_Day : PySem.W.kitOne K (.type "bool") (.ref C_c) = some false
  e_kint_Day : PySem.W.kitOne K (.type "int") (.ref C_c) = some false
  e_kstr_Day : PySem.W.kitOne K (.type "str") (.ref C_c) = some false
  e_ktup_Day : PySem.W.kitOne K (.type "tuple") (.ref C_c) = some false
  e_klst_Day : PySem.W.kitOne K (.type "list") (.ref C_c) = some false
  e_fNone_Day : PySem.W.notFirst K C_c (.type "NoneType") = true
  e_fint_Day : PySem.W.notFirst K C_c (.type "int") = true
  e_fstr_Day : PySem.W.notFirst K C_c (.type "str") = true
  e_fself_Day : PySem.W.notFirst K C_c (.ref C_c) = true
  e_ostr_Day : PySem.W.kitOne K (.ref C_c) (.type "str") = some false
  e_oint_Day : PySem.W.kitOne K (.ref C_c) (.type "int") = some false
  x_NoTable_NoTable : PySem.W.exmOne K (.ref C_a) (.ref C_a) = some true
  i_ValueError_NoTable : PySem.W.kitOne K (.ref C_a) (.type "ValueError") = some true
  e_cls_Table : PySem.W.findIn K (.ref C_b) "__class__" = some (some (.builtin "object.__class__"))
  e_mro_Table : PySem.W.mroIn K C_b (.type "object") = some true
  e_ne_Table : PySem.W.findIn K (.ref C_b) "__ne__" = some (some (.builtin "object.__ne__"))
  e_snn_Day : PySem.W.subIn K (.ref C_c) (.type "NoneType") = some false
  e_fl_Table : PySem.W.notFirst K C_b (.type "list") = true
  e_kl_Table : PySem.W.kitOne K (.type "list") (.ref C_b) = some false
def clT {K : PySem.W.Frag} {mg : Str → Option Value} {w : World} (T : Tx K mg w) : List (Str × Addr) := [("NoTable", T.C_a), ("Day", T.C_c), ("Table", T.C_b)]
def Gm {K : PySem.W.Frag} {mg : Str → Option Value} {w : World} (T : Tx K mg w) (d : Zw) : Wc := ⟨d.dr, [], fun c => (clT T).lookup c, d.fz, d.mu, w⟩
section
variable {P : Program} {w : World} {K : PySem.W.Frag} {mg : Str → Option Value} {base : Heap} (T : Tx K mg w) (d : Zw)
theorem df : (Gm T d).cl "NoTable" = some T.C_a := rfl
theorem cl_c : (Gm T d).cl "Day" = some T.C_c := rfl
theorem cl_b : (Gm T d).cl "Table" = some T.C_b := rfl
theorem oK : ∀ c v b, ph (Gm T d) c v → gC c = some b → PySem.W.exmOne K v (.ref T.C_a) = some b := by
  intro c v b h e
  unfold gC at e
  split at e
  · rename_i hc
    subst hc
    cases e
    rcases h with ⟨A, hA, rfl⟩ | ⟨U, hU, _⟩
    · rw [df] at hA
      cases hA
      exact T.x_NoTable_NoTable
    · rw [show ji "NoTable" = none from by decide] at hU
      cases hU
  cases e
theorem jU : ∀ c A b, (Gm T d).cl c = some A → eJ c = some b → ExcC K A ∧ PySem.W.kitOne K (.ref A) (.type "ValueError") = some b := by
  intro c A b h e
  unfold eJ at e
  split at e
  · rename_i hc
    subst hc
    cases e
    rw [df] at h
    cases h
    exact ⟨T.E_a, T.i_ValueError_NoTable⟩
  cases e
theorem yA : ∀ c A, c ∈ oJ → (Gm T d).cl c = some A → XfC K A ∧ PySem.W.findIn K (.ref A) "row" = some none := by
  intro c A hc h
  simp only [oJ, List.mem_cons, List.not_mem_nil, or_false] at hc
  subst hc
  · rw [df] at h
    cases h
    exact ⟨T.X_a, T.n_NoTable_row⟩
theorem ky : ∀ c A, c ∈ (["Day"] : List Str) → (Gm T d).cl c = some A → Cls K A ∧ NoAttr K A "number" := by
  intro c A hc h
  simp only [List.mem_cons, List.not_mem_nil, or_false] at hc
  subst hc
  · rw [cl_c] at h
    cases h
    exact ⟨T.cl_c, T.n_Day_number⟩
theorem eK : my K T.C_c "number" := ⟨T.cl_c, T.n_Day_number, T.e_cls_Day, T.e_get, T.e_tak, T.e_mro_Day, T.e_kNone_Day, T.e_kbool_Day, T.e_kint_Day, T.e_kstr_Day, T.e_ktup_Day, T.e_klst_Day, T.e_fNone_Day, T.e_fint_Day, T.e_fstr_Day, T.e_fself_Day⟩
theorem fj : FnOk P w K mg base CX0 1 T.f_ag T.fd_ag ["self", "row"] (spX T.C_a ["row"]) := by
  refine T.F_ag.ok gh (fun vs H Q E h => ?_) (fun cdv A outer s H vs Q E hr h => ?_)
  · obtain ⟨a, xs, rfl, hl, _⟩ := h
    simpa using hl
  · obtain ⟨a, xs, rfl, hl, ha, q⟩ := h
    obtain ⟨v, rfl⟩ : ∃ v, xs = [v] := by
      match xs, hl with
      | [v], _ => exact ⟨v, rfl⟩
    refine ⟨_, (pss_one (ps_ost (pv 0) (pv 1))), ?_⟩
    exact ⟨_, rfl, _, rfl, a, T.C_a, rfl, T.O_a, T.n_NoTable_row, .inl ⟨ha, fun dx nd ne => q dx _ nd ne (fun b h1 h2 => by rw [upd_ne h1, upd_ne h2]) (by rw [upd_ne ne, upd_same]; rfl) upd_same⟩⟩
theorem oL : FnOk P w K mg base CX0 1 T.f_ae T.fd_ae ["self", "number"] (spO T.C_c ["number"]) := by
  refine T.F_ae.ok i0 (fun vs H Q E h => ?_) (fun cdv A outer s H vs Q E hr h => ?_)
  · obtain ⟨a, dx, xs, rfl, hl, _⟩ := h
    simpa using hl
  · obtain ⟨a, dx, xs, rfl, hl, ha, q⟩ := h
    obtain ⟨v, rfl⟩ : ∃ v, xs = [v] := by
      match xs, hl with
      | [v], _ => exact ⟨v, rfl⟩
    refine ⟨_, (pss_one (ps_fld (pv 0) (pv 1) rfl)), ?_⟩
    exact ⟨_, rfl, _, rfl, a, _, dx, _, rfl, ha, T.cl_c, T.n_Day_number, (by show 0 < 1000; decide), q _ (fun b h1 => by rw [upd_ne h1]) upd_same⟩
theorem yB (a b : Int) : decide (V.int a = V.int b) = decide (a = b) := by
  by_cases h : a = b
  · rw [decide_eq_true h, decide_eq_true (congrArg V.int h)]
  · rw [decide_eq_false h, decide_eq_false fun e => h (V.int.inj e)]
theorem ia : FnOk P w K mg base CX0 1 T.f_h T.fd_h ["self", "other"] (spEq K T.C_c "number") := by
  refine T.F_h.ok jR (fun vs H Q E h => ?_) (fun cdv A outer s H vs Q E hr h => ?_)
  · obtain ⟨p, n, y, rfl, _⟩ := h
    rfl
  · obtain ⟨p, n, y, rfl, ⟨dx, hp⟩, h⟩ := h
    refine ⟨_, (pss_one (ps_ret (pe_and (pe_callB call_isi (by rfl) T.z_isinstance (by decide +kernel) (pa_cons (pv 1) (pa_cons (pe_glob (v := .ref T.C_c) (by rfl) T.g_c rfl) pa_nil))) (pe_one (pe_cmpR op_eq (pe_fld (pv 0) rfl) (pe_fld (pv 1) rfl) (nomark _)))))), ?_⟩
    rcases h with ⟨b, m, rfl, ⟨dy, hb⟩, q⟩ | ⟨t, ty, e, q⟩
    · refine ⟨_, rfl, _, _, _, _, _, rfl, ClsV.own _, .base (.ins hb T.cl_c T.e_cls_Day T.e_get T.e_tak T.e_mro_Day), (if_pos (by simp) : PySem.W.kitOne K (.ref T.C_c) (.ref T.C_c) = some true), _, rfl, iteT ?_⟩
      refine ⟨_, rfl, p, _, dx, _, _, rfl, hp, T.cl_c, T.n_Day_number, rfl, _, rfl, b, _, dy, _, _, rfl, hb, T.cl_c, T.n_Day_number, rfl, rfl, ?_⟩
      rw [yB]
      exact q
    · exact ⟨_, rfl, _, _, _, _, _, rfl, ClsV.own _, ty, e, _, rfl, iteF q⟩
theorem ib : ∀ c A, c ∈ (["Table"] : List Str) → (Gm T d).cl c = some A → Cls K A ∧ NoAttr K A "heads" := by
  intro c A hc h
  simp only [List.mem_cons, List.not_mem_nil, or_false] at hc
  subst hc
  · rw [cl_b] at h
    cases h
    exact ⟨T.cl_b, T.n_Table_heads⟩
theorem fP : ∀ c A, c ∈ (["Table"] : List Str) → (Gm T d).cl c = some A → Cls K A ∧ NoAttr K A "lines" := by
  intro c A hc h
  simp only [List.mem_cons, List.not_mem_nil, or_false] at hc
  subst hc
  · rw [cl_b] at h
    cases h
    exact ⟨T.cl_b, T.n_Table_lines⟩
end
structure All (P : Program) (w : World) (K : PySem.W.Frag) (mg : Str → Option Value) (base : Heap) (T : Tx K mg w) (d : Zw) (S : Tb) (n : Nat) : Prop where
  oM : FnG P w K mg base (L2.CX P w) n T.f_aa T.fd_aa ["thing"] (spF K (Gm T d) false 1 (S 0))
  qO : FnG P w K mg base (L2.CX P w) n T.f_ab T.fd_ab ["thing"] (spF K (Gm T d) false 1 (S 1))
  oN : FnG P w K mg base (L2.CX P w) n T.f_ac T.fd_ac ["thing", "kind"] (spF K (Gm T d) false 2 (S 2))
  gp : FnG P w K mg base (L2.CX P w) n T.f_k T.fd_k ["thing"] (spF K (Gm T d) false 1 (S 3))
  ng : FnG P w K mg base (L2.CX P w) n T.f_j T.fd_j ["thing", "columns"] (spF K (Gm T d) false 2 (S 4))
  kz : FnG P w K mg base (L2.CX P w) n T.f_m T.fd_m ["worth"] (spF K (Gm T d) false 1 (S 5))
  kA : FnG P w K mg base (L2.CX P w) n T.f_n T.fd_n ["row"] (spF K (Gm T d) false 1 (S 6))
  kB : FnG P w K mg base (L2.CX P w) n T.f_o T.fd_o ["rows"] (spF K (Gm T d) true 1 (S 7))
  lz : FnG P w K mg base (L2.CX P w) n T.f_r T.fd_r ["worth"] (spF K (Gm T d) false 1 (S 8))
  jH : FnG P w K mg base (L2.CX P w) n T.f_s T.fd_s ["columns"] (spF K (Gm T d) false 1 (S 9))
  fQ : (∀ a, ¬ d.fz a) → FnG P w K mg base (L2.CX P w) n T.f_p T.fd_p ["table"] (spF K (Gm T d) false 1 (S 10))
  br : FnG P w K mg base (L2.CX P w) n T.f_e T.fd_e ["_law_draws_here"] (spF K (Gm T d) false 1 (S 11))
  nh : FnG P w K mg base (L2.CX P w) n T.f_t T.fd_t ["_law_draws_here", "_law_tongue", "_law_kind"] (spF K (Gm T d) false 3 (S 12))
  lA : FnG P w K mg base (L2.CX P w) n T.f_u T.fd_u ["_law_draws_here", "_law_tongue", "_law_letters"] (spF K (Gm T d) false 3 (S 13))
  jV : FnG P w K mg base (L2.CX P w) n T.f_ad T.fd_ad ["_law_worth"] (spF K (Gm T d) false 1 (S 14))
  fR : (∀ a, ¬ d.fz a) → FnG P w K mg base (L2.CX P w) n T.f_l T.fd_l ["_law_a_columns", "_law_a_rows", "_law_way"] (spF K (Gm T d) false 3 (S 15))
  gD : FnG P w K mg base (L2.CX P w) n T.f_v T.fd_v ["_law_draws_here", "_law_heads_here"] (spF K (Gm T d) false 2 (S 16))
  fS : FnG P w K mg base (L2.CX P w) n T.f_q T.fd_q ["_law_draws_here", "_law_heads_here", "_law_row"] (spF K (Gm T d) false 3 (S 17))
  fU : (∀ a, ¬ d.fz a) → FnG P w K mg base (L2.CX P w) n T.f_w T.fd_w ["_law_draws_here", "_law_heads_here", "_law_a_rows"] (spF K (Gm T d) false 3 (S 18))
  ni : FnG P w K mg base (L2.CX P w) n T.f_x T.fd_x ["_law_worth"] (spF K (Gm T d) false 1 (S 19))
  ic : FnG P w K mg base (L2.CX P w) n T.f_y T.fd_y ["_law_draws_here"] (spF K (Gm T d) false 1 (S 20))
  fk : (∀ a, ¬ d.fz a) → FnG P w K mg base (L2.CX P w) n T.f_z T.fd_z ["_law_draws_here"] (spF K (Gm T d) false 1 (S 21))
  bg : FnG P w K mg base (L2.CX P w) n T.f_f T.fd_f ["self", "columns", "rows"] (spF K (Gm T d) false 3 (S 22))
  bR : FnG P w K mg base (L2.CX P w) n T.f_d T.fd_d ["self", "other"] (spF K (Gm T d) false 2 (S 23))
  dS : FnG P w K mg base (L2.CX P w) n T.f_i T.fd_i ["self"] (spF K (Gm T d) true 1 (S 24))
  ie : FnG P w K mg base (L2.CX P w) n T.f_g T.fd_g ["self"] (spF K (Gm T d) false 1 (S 25))
  qP : FnG P w K mg base (L2.CX P w) n T.f_f T.fd_f ["self", "columns", "rows"] (tF K (Gm T d) T.C_b "Table" "heads" "lines" (S 26))
  qQ : FnG P w K mg base (L2.CX P w) n T.f_g T.fd_g ["self"] (spT K (Gm T d) odL 1 (S 25))
end K20
set_option Elab.async false
set_option linter.all false
set_option maxRecDepth 100000
set_option maxHeartbeats 4000000
namespace K20
open PySem PySem.Spec PyProof.Rows L2 Lay NdefX LamX GD DM
def tO (K : PySem.W.Frag) : Sp := fun vs H Q _ => ∃ (a : Addr) (ns : List Int), vs = [.ref a] ∧ SqL K H a (ns.map V.int) ∧ ns.length ≤ 63 ∧ (∀ x ∈ ([] : List Str), H (tabAt K x).2 = some (.tbl #[])) ∧ ∀ H', Q (.bl true) H'
def wG : Prop := ∀ {l : PySem.W.OpenLaw} {w : World} {K : PySem.W.Frag} {h : Heap} {mg : Str → Option Value} {fa : Addr}
    {C_c : Addr}
    {C_b : Addr}
    {C_a : Addr} {nm_a q_a : Str} {N_a : Addr} {bs_a : List Value} {sn_a : List Str} {sub_a : List Value} {ab_a : Bool} {col_a : Option Bool} {dd_a : Option Addr} {k0_a k1_a k2_a k3_a k5_a : Option Value}
    {f_ag : Addr} {od_ag an_ag : Option Addr} {sl_ag : Array (Option Value)} {oc_ag kV_ag dc_ag pm_ag cd_ag ct_ag : Value}
    {f_ae : Addr} {od_ae an_ae : Option Addr} {sl_ae : Array (Option Value)} {oc_ae kV_ae dc_ae pm_ae cd_ae ct_ae : Value}
    {f_h : Addr} {od_h an_h : Option Addr} {sl_h : Array (Option Value)} {oc_h kV_h dc_h pm_h cd_h ct_h : Value}
    {f_aa : Addr} {od_aa an_aa : Option Addr} {sl_aa : Array (Option Value)} {oc_aa kV_aa dc_aa pm_aa cd_aa ct_aa : Value}
    {f_ab : Addr} {od_ab an_ab : Option Addr} {sl_ab : Array (Option Value)} {oc_ab kV_ab dc_ab pm_ab cd_ab ct_ab : Value}
    {f_ac : Addr} {od_ac an_ac : Option Addr} {sl_ac : Array (Option Value)} {oc_ac kV_ac dc_ac pm_ac cd_ac ct_ac : Value}
    {f_k : Addr} {od_k an_k : Option Addr} {sl_k : Array (Option Value)} {oc_k kV_k dc_k pm_k cd_k ct_k : Value}
    {f_j : Addr} {od_j an_j : Option Addr} {sl_j : Array (Option Value)} {oc_j kV_j dc_j pm_j cd_j ct_j : Value}
    {f_m : Addr} {od_m an_m : Option Addr} {sl_m : Array (Option Value)} {oc_m kV_m dc_m pm_m cd_m ct_m : Value}
    {f_n : Addr} {od_n an_n : Option Addr} {sl_n : Array (Option Value)} {oc_n kV_n dc_n pm_n cd_n ct_n : Value}
    {f_o : Addr} {od_o an_o : Option Addr} {sl_o : Array (Option Value)} {oc_o kV_o dc_o pm_o cd_o ct_o : Value}
    {f_f : Addr} {od_f an_f : Option Addr} {sl_f : Array (Option Value)} {oc_f kV_f dc_f pm_f cd_f ct_f : Value}
    {f_d : Addr} {od_d an_d : Option Addr} {sl_d : Array (Option Value)} {oc_d kV_d dc_d pm_d cd_d ct_d : Value}
    {f_i : Addr} {od_i an_i : Option Addr} {sl_i : Array (Option Value)} {oc_i kV_i dc_i pm_i cd_i ct_i : Value}
    {f_g : Addr} {od_g an_g : Option Addr} {sl_g : Array (Option Value)} {oc_g kV_g dc_g pm_g cd_g ct_g : Value}
    {f_r : Addr} {od_r an_r : Option Addr} {sl_r : Array (Option Value)} {oc_r kV_r dc_r pm_r cd_r ct_r : Value}
    {f_s : Addr} {od_s an_s : Option Addr} {sl_s : Array (Option Value)} {oc_s kV_s dc_s pm_s cd_s ct_s : Value}
    {f_p : Addr} {od_p an_p : Option Addr} {sl_p : Array (Option Value)} {oc_p kV_p dc_p pm_p cd_p ct_p : Value}
    {f_af : Addr} {od_af an_af : Option Addr} {sl_af : Array (Option Value)} {oc_af kV_af dc_af pm_af cd_af ct_af : Value}
    {f_e : Addr} {od_e an_e : Option Addr} {sl_e : Array (Option Value)} {oc_e kV_e dc_e pm_e cd_e ct_e : Value}
    {f_t : Addr} {od_t an_t : Option Addr} {sl_t : Array (Option Value)} {oc_t kV_t dc_t pm_t cd_t ct_t : Value}
    {f_u : Addr} {od_u an_u : Option Addr} {sl_u : Array (Option Value)} {oc_u kV_u dc_u pm_u cd_u ct_u : Value}
    {f_ad : Addr} {od_ad an_ad : Option Addr} {sl_ad : Array (Option Value)} {oc_ad kV_ad dc_ad pm_ad cd_ad ct_ad : Value}
    {f_l : Addr} {od_l an_l : Option Addr} {sl_l : Array (Option Value)} {oc_l kV_l dc_l pm_l cd_l ct_l : Value}
    {f_v : Addr} {od_v an_v : Option Addr} {sl_v : Array (Option Value)} {oc_v kV_v dc_v pm_v cd_v ct_v : Value}
    {f_q : Addr} {od_q an_q : Option Addr} {sl_q : Array (Option Value)} {oc_q kV_q dc_q pm_q cd_q ct_q : Value}
    {f_w : Addr} {od_w an_w : Option Addr} {sl_w : Array (Option Value)} {oc_w kV_w dc_w pm_w cd_w ct_w : Value}
    {f_x : Addr} {od_x an_x : Option Addr} {sl_x : Array (Option Value)} {oc_x kV_x dc_x pm_x cd_x ct_x : Value}
    {f_y : Addr} {od_y an_y : Option Addr} {sl_y : Array (Option Value)} {oc_y kV_y dc_y pm_y cd_y ct_y : Value}
    {f_z : Addr} {od_z an_z : Option Addr} {sl_z : Array (Option Value)} {oc_z kV_z dc_z pm_z cd_z ct_z : Value}
    {f_ah : Addr} {od_ah an_ah : Option Addr} {sl_ah : Array (Option Value)} {oc_ah kV_ah dc_ah pm_ah cd_ah ct_ah : Value}
    {q_ai : Addr}
    {t_aj : Tok}
    {t_ak : Tok}
    {t_al : Tok} (X : K.In h) (G : h.Ns mainGlobals mg) (hfa : mg "law" = some (.ref fa))
    (aC_c : PySem.W.nsIn K mainGlobals "Day" = some (some (.ref C_c)))
    (pg_c : PySem.W.plainGet K C_c Str.empty = true)
    (hd_c : PySem.W.hasDictIn K C_c = true)
    (po_c : PySem.W.plainOver K C_c = true)
    (sa_c : PySem.W.findIn K (.ref C_c) "__setattr__" = some (some (.builtin "object.__setattr__")))
    (mk_c : PySem.W.makesIn K C_c = true)
    (kc_c : PySem.W.keepIn K (.ref C_c) = true)
    (n_Day_number : PySem.W.findIn K (.ref C_c) "number" = some none)
    (aC_b : PySem.W.nsIn K mainGlobals "Table" = some (some (.ref C_b)))
    (pg_b : PySem.W.plainGet K C_b Str.empty = true)
    (hd_b : PySem.W.hasDictIn K C_b = true)
    (po_b : PySem.W.plainOver K C_b = true)
    (sa_b : PySem.W.findIn K (.ref C_b) "__setattr__" = some (some (.builtin "object.__setattr__")))
    (mk_b : PySem.W.makesIn K C_b = true)
    (kc_b : PySem.W.keepIn K (.ref C_b) = true)
    (n_Table_heads : PySem.W.findIn K (.ref C_b) "heads" = some none)
    (n_Table_lines : PySem.W.findIn K (.ref C_b) "lines" = some none)
    (aC_a : PySem.W.nsIn K mainGlobals "NoTable" = some (some (.ref C_a)))
    (xL_a : K.lookup C_a = some (excClassObj nm_a q_a C_a N_a bs_a [.type "ValueError", .type "Exception", .type "BaseException", .type "object"] true sn_a sub_a ab_a col_a dd_a k0_a k1_a k2_a k3_a k5_a "ValueError.__new__"))
    (sa_a : PySem.W.findIn K (.ref C_a) "__setattr__" = some (some (.builtin "object.__setattr__")))
    (ex_a : PySem.W.subIn K (.ref C_a) (.type "BaseException") = some true)
    (ty_a : PySem.W.typeIn K (.ref C_a) = some (.type "type"))
    (kC_a : PySem.W.keepIn K (.ref C_a) = true)
    (ga_a : PySem.W.findIn K (.ref C_a) "__getattribute__" = some (some (.builtin "BaseException.__getattribute__")))
    (gg_a : PySem.W.findIn K (.ref C_a) "__getattr__" = some none)
    (hd_a : PySem.W.hasDictIn K C_a = true)
    (ca_a : PySem.W.findIn K (.ref C_a) "__class__" = some (some (.builtin "object.__class__")))
    (sg_a : PySem.W.specialIn K (.builtin "object.__class__") "__get__" = some (some (.builtin "getset_descriptor.__get__")))
    (tk_a : PySem.W.takesIn K (.builtin "object.__class__") = some true)
    (mr_a : PySem.W.mroIn K C_a (.type "object") = some true)
    (n_NoTable_row : PySem.W.findIn K (.ref C_a) "row" = some none)
    (i_a : PySem.W.findIn K (.ref C_a) "__init__" = some (some (.ref f_ag)))
    (t_a : PySem.W.typeIn K (.ref f_ag) = some (.type "function"))
    (l_ag : K.lookup f_ag = some ⟨oc_ag, od_ag, .func (PySem.W.fnOf "__init__" "NoTable.__init__" (defArgs aQ) (defBody aQ) (defScope aQ) .none kV_ag dc_ag pm_ag an_ag cd_ag ct_ag), sl_ag⟩)
    (c_ag : PySem.W.codeIn K cd_ag "NoTable.__init__" = true)
    (k_ag : PySem.W.keepIn K (.ref f_ag) = true)
    (a_ae : PySem.W.findIn K (.ref C_c) "__init__" = some (some (.ref f_ae)))
    (i_ae : PySem.W.isFn K (.ref f_ae) = true)
    (l_ae : K.lookup f_ae = some ⟨oc_ae, od_ae, .func (PySem.W.fnOf "__init__" "Day.__init__" (defArgs bp) (defBody bp) (defScope bp) .none kV_ae dc_ae pm_ae an_ae cd_ae ct_ae), sl_ae⟩)
    (c_ae : PySem.W.codeIn K cd_ae "Day.__init__" = true)
    (k_ae : PySem.W.keepIn K (.ref f_ae) = true)
    (a_h : PySem.W.findIn K (.ref C_c) "__eq__" = some (some (.ref f_h)))
    (i_h : PySem.W.isFn K (.ref f_h) = true)
    (l_h : K.lookup f_h = some ⟨oc_h, od_h, .func (PySem.W.fnOf "__eq__" "Day.__eq__" (defArgs bH) (defBody bH) (defScope bH) .none kV_h dc_h pm_h an_h cd_h ct_h), sl_h⟩)
    (c_h : PySem.W.codeIn K cd_h "Day.__eq__" = true)
    (k_h : PySem.W.keepIn K (.ref f_h) = true)
    (a_aa : PySem.W.nsIn K mainGlobals "is_whole" = some (some (.ref f_aa)))
    (l_aa : K.lookup f_aa = some ⟨oc_aa, od_aa, .func (PySem.W.fnOf "is_whole" "is_whole" (defArgs b5) (defBody b5) (defScope b5) .none kV_aa dc_aa pm_aa an_aa cd_aa ct_aa), sl_aa⟩)
    (c_aa : PySem.W.codeIn K cd_aa "is_whole" = true)
    (k_aa : PySem.W.keepIn K (.ref f_aa) = true)
    (a_ab : PySem.W.nsIn K mainGlobals "is_name" = some (some (.ref f_ab)))
    (l_ab : K.lookup f_ab = some ⟨oc_ab, od_ab, .func (PySem.W.fnOf "is_name" "is_name" (defArgs ck) (defBody ck) (defScope ck) .none kV_ab dc_ab pm_ab an_ab cd_ab ct_ab), sl_ab⟩)
    (c_ab : PySem.W.codeIn K cd_ab "is_name" = true)
    (k_ab : PySem.W.keepIn K (.ref f_ab) = true)
    (a_ac : PySem.W.nsIn K mainGlobals "is_worth" = some (some (.ref f_ac)))
    (l_ac : K.lookup f_ac = some ⟨oc_ac, od_ac, .func (PySem.W.fnOf "is_worth" "is_worth" (defArgs b6) (defBody b6) (defScope b6) .none kV_ac dc_ac pm_ac an_ac cd_ac ct_ac), sl_ac⟩)
    (c_ac : PySem.W.codeIn K cd_ac "is_worth" = true)
    (k_ac : PySem.W.keepIn K (.ref f_ac) = true)
    (a_k : PySem.W.nsIn K mainGlobals "are_columns" = some (some (.ref f_k)))
    (l_k : K.lookup f_k = some ⟨oc_k, od_k, .func (PySem.W.fnOf "are_columns" "are_columns" (defArgs ba) (defBody ba) (defScope ba) .none kV_k dc_k pm_k an_k cd_k ct_k), sl_k⟩)
    (c_k : PySem.W.codeIn K cd_k "are_columns" = true)
    (k_k : PySem.W.keepIn K (.ref f_k) = true)
    (a_j : PySem.W.nsIn K mainGlobals "is_row" = some (some (.ref f_j)))
    (l_j : K.lookup f_j = some ⟨oc_j, od_j, .func (PySem.W.fnOf "is_row" "is_row" (defArgs cR) (defBody cR) (defScope cR) .none kV_j dc_j pm_j an_j cd_j ct_j), sl_j⟩)
    (c_j : PySem.W.codeIn K cd_j "is_row" = true)
    (k_j : PySem.W.keepIn K (.ref f_j) = true)
    (a_m : PySem.W.nsIn K mainGlobals "plainly" = some (some (.ref f_m)))
    (l_m : K.lookup f_m = some ⟨oc_m, od_m, .func (PySem.W.fnOf "plainly" "plainly" (defArgs cB) (defBody cB) (defScope cB) .none kV_m dc_m pm_m an_m cd_m ct_m), sl_m⟩)
    (c_m : PySem.W.codeIn K cd_m "plainly" = true)
    (k_m : PySem.W.keepIn K (.ref f_m) = true)
    (a_n : PySem.W.nsIn K mainGlobals "row_key" = some (some (.ref f_n)))
    (l_n : K.lookup f_n = some ⟨oc_n, od_n, .func (PySem.W.fnOf "row_key" "row_key" (defArgs cm) (defBody cm) (defScope cm) .none kV_n dc_n pm_n an_n cd_n ct_n), sl_n⟩)
    (c_n : PySem.W.codeIn K cd_n "row_key" = true)
    (k_n : PySem.W.keepIn K (.ref f_n) = true)
    (a_o : PySem.W.nsIn K mainGlobals "counted" = some (some (.ref f_o)))
    (l_o : K.lookup f_o = some ⟨oc_o, od_o, .func (PySem.W.fnOf "counted" "counted" (defArgs cC) (defBody cC) (defScope cC) .none kV_o dc_o pm_o an_o cd_o ct_o), sl_o⟩)
    (c_o : PySem.W.codeIn K cd_o "counted" = true)
    (k_o : PySem.W.keepIn K (.ref f_o) = true)
    (a_f : PySem.W.findIn K (.ref C_b) "__init__" = some (some (.ref f_f)))
    (i_f : PySem.W.isFn K (.ref f_f) = true)
    (l_f : K.lookup f_f = some ⟨oc_f, od_f, .func (PySem.W.fnOf "__init__" "Table.__init__" (defArgs aF) (defBody aF) (defScope aF) .none kV_f dc_f pm_f an_f cd_f ct_f), sl_f⟩)
    (c_f : PySem.W.codeIn K cd_f "Table.__init__" = true)
    (k_f : PySem.W.keepIn K (.ref f_f) = true)
    (a_d : PySem.W.findIn K (.ref C_b) "__eq__" = some (some (.ref f_d)))
    (i_d : PySem.W.isFn K (.ref f_d) = true)
    (l_d : K.lookup f_d = some ⟨oc_d, od_d, .func (PySem.W.fnOf "__eq__" "Table.__eq__" (defArgs bb) (defBody bb) (defScope bb) .none kV_d dc_d pm_d an_d cd_d ct_d), sl_d⟩)
    (c_d : PySem.W.codeIn K cd_d "Table.__eq__" = true)
    (k_d : PySem.W.keepIn K (.ref f_d) = true)
    (a_i : PySem.W.findIn K (.ref C_b) "columns" = some (some (.ref f_i)))
    (i_i : PySem.W.isFn K (.ref f_i) = true)
    (l_i : K.lookup f_i = some ⟨oc_i, od_i, .func (PySem.W.fnOf "columns" "Table.columns" (defArgs aY) (defBody aY) (defScope aY) .none kV_i dc_i pm_i an_i cd_i ct_i), sl_i⟩)
    (c_i : PySem.W.codeIn K cd_i "Table.columns" = true)
    (k_i : PySem.W.keepIn K (.ref f_i) = true)
    (a_g : PySem.W.findIn K (.ref C_b) "rows" = some (some (.ref f_g)))
    (i_g : PySem.W.isFn K (.ref f_g) = true)
    (l_g : K.lookup f_g = some ⟨oc_g, od_g, .func (PySem.W.fnOf "rows" "Table.rows" (defArgs aZ) (defBody aZ) (defScope aZ) .none kV_g dc_g pm_g an_g cd_g ct_g), sl_g⟩)
    (c_g : PySem.W.codeIn K cd_g "Table.rows" = true)
    (k_g : PySem.W.keepIn K (.ref f_g) = true)
    (a_r : PySem.W.nsIn K mainGlobals "dale_worth" = some (some (.ref f_r)))
    (l_r : K.lookup f_r = some ⟨oc_r, od_r, .func (PySem.W.fnOf "dale_worth" "dale_worth" (defArgs bD) (defBody bD) (defScope bD) .none kV_r dc_r pm_r an_r cd_r ct_r), sl_r⟩)
    (c_r : PySem.W.codeIn K cd_r "dale_worth" = true)
    (k_r : PySem.W.keepIn K (.ref f_r) = true)
    (a_s : PySem.W.nsIn K mainGlobals "dale_columns" = some (some (.ref f_s)))
    (l_s : K.lookup f_s = some ⟨oc_s, od_s, .func (PySem.W.fnOf "dale_columns" "dale_columns" (defArgs aW) (defBody aW) (defScope aW) .none kV_s dc_s pm_s an_s cd_s ct_s), sl_s⟩)
    (c_s : PySem.W.codeIn K cd_s "dale_columns" = true)
    (k_s : PySem.W.keepIn K (.ref f_s) = true)
    (a_p : PySem.W.nsIn K mainGlobals "through_door" = some (some (.ref f_p)))
    (l_p : K.lookup f_p = some ⟨oc_p, od_p, .func (PySem.W.fnOf "through_door" "through_door" (defArgs aX) (defBody aX) (defScope aX) .none kV_p dc_p pm_p an_p cd_p ct_p), sl_p⟩)
    (c_p : PySem.W.codeIn K cd_p "through_door" = true)
    (k_p : PySem.W.keepIn K (.ref f_p) = true)
    (a_af : PySem.W.nsIn K mainGlobals "_law_draws" = some (some (.ref f_af)))
    (l_af : K.lookup f_af = some ⟨oc_af, od_af, .func (PySem.W.fnOf "_law_draws" "_law_draws" (defArgs bI) (defBody bI) (defScope bI) .none kV_af dc_af pm_af an_af cd_af ct_af), sl_af⟩)
    (c_af : PySem.W.codeIn K cd_af "_law_draws" = true)
    (k_af : PySem.W.keepIn K (.ref f_af) = true)
    (a_e : PySem.W.nsIn K mainGlobals "_law_next" = some (some (.ref f_e)))
    (l_e : K.lookup f_e = some ⟨oc_e, od_e, .func (PySem.W.fnOf "_law_next" "_law_next" (defArgs bY) (defBody bY) (defScope bY) .none kV_e dc_e pm_e an_e cd_e ct_e), sl_e⟩)
    (c_e : PySem.W.codeIn K cd_e "_law_next" = true)
    (k_e : PySem.W.keepIn K (.ref f_e) = true)
    (a_t : PySem.W.nsIn K mainGlobals "_law_cell" = some (some (.ref f_t)))
    (l_t : K.lookup f_t = some ⟨oc_t, od_t, .func (PySem.W.fnOf "_law_cell" "_law_cell" (defArgs bL) (defBody bL) (defScope bL) .none kV_t dc_t pm_t an_t cd_t ct_t), sl_t⟩)
    (c_t : PySem.W.codeIn K cd_t "_law_cell" = true)
    (k_t : PySem.W.keepIn K (.ref f_t) = true)
    (a_u : PySem.W.nsIn K mainGlobals "_law_heads" = some (some (.ref f_u)))
    (l_u : K.lookup f_u = some ⟨oc_u, od_u, .func (PySem.W.fnOf "_law_heads" "_law_heads" (defArgs bq) (defBody bq) (defScope bq) .none kV_u dc_u pm_u an_u cd_u ct_u), sl_u⟩)
    (c_u : PySem.W.codeIn K cd_u "_law_heads" = true)
    (k_u : PySem.W.keepIn K (.ref f_u) = true)
    (a_ad : PySem.W.nsIn K mainGlobals "_law_handed" = some (some (.ref f_ad)))
    (l_ad : K.lookup f_ad = some ⟨oc_ad, od_ad, .func (PySem.W.fnOf "_law_handed" "_law_handed" (defArgs bj) (defBody bj) (defScope bj) .none kV_ad dc_ad pm_ad an_ad cd_ad ct_ad), sl_ad⟩)
    (c_ad : PySem.W.codeIn K cd_ad "_law_handed" = true)
    (k_ad : PySem.W.keepIn K (.ref f_ad) = true)
    (a_l : PySem.W.nsIn K mainGlobals "_law_made" = some (some (.ref f_l)))
    (l_l : K.lookup f_l = some ⟨oc_l, od_l, .func (PySem.W.fnOf "_law_made" "_law_made" (defArgs bM) (defBody bM) (defScope bM) .none kV_l dc_l pm_l an_l cd_l ct_l), sl_l⟩)
    (c_l : PySem.W.codeIn K cd_l "_law_made" = true)
    (k_l : PySem.W.keepIn K (.ref f_l) = true)
    (a_v : PySem.W.nsIn K mainGlobals "_law_bad_columns" = some (some (.ref f_v)))
    (l_v : K.lookup f_v = some ⟨oc_v, od_v, .func (PySem.W.fnOf "_law_bad_columns" "_law_bad_columns" (defArgs aK) (defBody aK) (defScope aK) .none kV_v dc_v pm_v an_v cd_v ct_v), sl_v⟩)
    (c_v : PySem.W.codeIn K cd_v "_law_bad_columns" = true)
    (k_v : PySem.W.keepIn K (.ref f_v) = true)
    (a_q : PySem.W.nsIn K mainGlobals "_law_bad_row" = some (some (.ref f_q)))
    (l_q : K.lookup f_q = some ⟨oc_q, od_q, .func (PySem.W.fnOf "_law_bad_row" "_law_bad_row" (defArgs bc) (defBody bc) (defScope bc) .none kV_q dc_q pm_q an_q cd_q ct_q), sl_q⟩)
    (c_q : PySem.W.codeIn K cd_q "_law_bad_row" = true)
    (k_q : PySem.W.keepIn K (.ref f_q) = true)
    (a_w : PySem.W.nsIn K mainGlobals "_law_refused_right" = some (some (.ref f_w)))
    (l_w : K.lookup f_w = some ⟨oc_w, od_w, .func (PySem.W.fnOf "_law_refused_right" "_law_refused_right" (defArgs aD) (defBody aD) (defScope aD) .none kV_w dc_w pm_w an_w cd_w ct_w), sl_w⟩)
    (c_w : PySem.W.codeIn K cd_w "_law_refused_right" = true)
    (k_w : PySem.W.keepIn K (.ref f_w) = true)
    (a_x : PySem.W.nsIn K mainGlobals "_law_door" = some (some (.ref f_x)))
    (l_x : K.lookup f_x = some ⟨oc_x, od_x, .func (PySem.W.fnOf "_law_door" "_law_door" (defArgs bN) (defBody bN) (defScope bN) .none kV_x dc_x pm_x an_x cd_x ct_x), sl_x⟩)
    (c_x : PySem.W.codeIn K cd_x "_law_door" = true)
    (k_x : PySem.W.keepIn K (.ref f_x) = true)
    (a_y : PySem.W.nsIn K mainGlobals "_law_more_heads" = some (some (.ref f_y)))
    (l_y : K.lookup f_y = some ⟨oc_y, od_y, .func (PySem.W.fnOf "_law_more_heads" "_law_more_heads" (defArgs aN) (defBody aN) (defScope aN) .none kV_y dc_y pm_y an_y cd_y ct_y), sl_y⟩)
    (c_y : PySem.W.codeIn K cd_y "_law_more_heads" = true)
    (k_y : PySem.W.keepIn K (.ref f_y) = true)
    (a_z : PySem.W.nsIn K mainGlobals "_law_right" = some (some (.ref f_z)))
    (l_z : K.lookup f_z = some ⟨oc_z, od_z, .func (PySem.W.fnOf "_law_right" "_law_right" (defArgs aR) (defBody aR) (defScope aR) .none kV_z dc_z pm_z an_z cd_z ct_z), sl_z⟩)
    (c_z : PySem.W.codeIn K cd_z "_law_right" = true)
    (k_z : PySem.W.keepIn K (.ref f_z) = true)
    (a_ah : PySem.W.nsIn K mainGlobals "law" = some (some (.ref f_ah)))
    (l_law : K.lookup f_ah = some ⟨oc_ah, od_ah, .func (PySem.W.fnOf "law" "law" (defArgs gn) (defBody gn) (defScope gn) .none kV_ah dc_ah pm_ah an_ah cd_ah ct_ah), sl_ah⟩)
    (c_ah : PySem.W.codeIn K cd_ah "law" = true)
    (k_ah : PySem.W.keepIn K (.ref f_ah) = true)
    (z_isinstance : PySem.W.nsIn K mainGlobals "isinstance" = some none)
    (z_int : PySem.W.nsIn K mainGlobals "int" = some none)
    (z_bool : PySem.W.nsIn K mainGlobals "bool" = some none)
    (z_all : PySem.W.nsIn K mainGlobals "all" = some none)
    (z_str : PySem.W.nsIn K mainGlobals "str" = some none)
    (z_len : PySem.W.nsIn K mainGlobals "len" = some none)
    (z_list : PySem.W.nsIn K mainGlobals "list" = some none)
    (z_tuple : PySem.W.nsIn K mainGlobals "tuple" = some none)
    (z_zip : PySem.W.nsIn K mainGlobals "zip" = some none)
    (z_enumerate : PySem.W.nsIn K mainGlobals "enumerate" = some none)
    (z_max : PySem.W.nsIn K mainGlobals "max" = some none)
    (z_ValueError : PySem.W.nsIn K mainGlobals "ValueError" = some none)
    (z_range : PySem.W.nsIn K mainGlobals "range" = some none)
    (e_cls_Day : PySem.W.findIn K (.ref C_c) "__class__" = some (some (.builtin "object.__class__")))
    (e_get : PySem.W.specialIn K (.builtin "object.__class__") "__get__" = some (some (.builtin "getset_descriptor.__get__")))
    (e_tak : PySem.W.takesIn K (.builtin "object.__class__") = some true)
    (e_mro_Day : PySem.W.mroIn K C_c (.type "object") = some true)
    (e_kNone_Day : PySem.W.kitOne K (.type "NoneType") (.ref C_c) = some false)
    (e_kbool_Day : PySem.W.kitOne K (.type "bool") (.ref C_c) = some false)
    (e_kint_Day : PySem.W.kitOne K (.type "int") (.ref C_c) = some false)
    (e_kstr_Day : PySem.W.kitOne K (.type "str") (.ref C_c) = some false)
    (e_ktup_Day : PySem.W.kitOne K (.type "tuple") (.ref C_c) = some false)
    (e_klst_Day : PySem.W.kitOne K (.type "list") (.ref C_c) = some false)
    (e_fNone_Day : PySem.W.notFirst K C_c (.type "NoneType") = true)
    (e_fint_Day : PySem.W.notFirst K C_c (.type "int") = true)
    (e_fstr_Day : PySem.W.notFirst K C_c (.type "str") = true)
    (e_fself_Day : PySem.W.notFirst K C_c (.ref C_c) = true)
    (e_ostr_Day : PySem.W.kitOne K (.ref C_c) (.type "str") = some false)
    (e_oint_Day : PySem.W.kitOne K (.ref C_c) (.type "int") = some false)
    (x_NoTable_NoTable : PySem.W.exmOne K (.ref C_a) (.ref C_a) = some true)
    (i_ValueError_NoTable : PySem.W.kitOne K (.ref C_a) (.type "ValueError") = some true)
    (e_cls_Table : PySem.W.findIn K (.ref C_b) "__class__" = some (some (.builtin "object.__class__")))
    (e_mro_Table : PySem.W.mroIn K C_b (.type "object") = some true)
    (e_ne_Table : PySem.W.findIn K (.ref C_b) "__ne__" = some (some (.builtin "object.__ne__")))
    (e_snn_Day : PySem.W.subIn K (.ref C_c) (.type "NoneType") = some false)
    (e_fl_Table : PySem.W.notFirst K C_b (.type "list") = true)
    (e_kl_Table : PySem.W.kitOne K (.type "list") (.ref C_b) = some false)
    (a_ai : PySem.W.nsIn K mainGlobals "KINDS" = some (some (.ref q_ai)))
    (t_ai : wB K (.ref q_ai) hV = true)
    (a_aj : PySem.W.nsIn K mainGlobals "LETTERS" = some (some (.str "abcdefghijklmnopqrstuvwxyz" t_aj)))
    (a_ak : PySem.W.nsIn K mainGlobals "FIGURES" = some (some (.str "0123456789" t_ak)))
    (a_al : PySem.W.nsIn K mainGlobals "LONG" = some (some (.int 8 t_al))),
    ∃ fd : FuncData, (∀ (s : Shared) (v : Value), BindsTo s fd ⟨[v], []⟩ [("_law_script", v)]) ∧ ∀ base : Heap, K.In base → base.Ns mainGlobals mg → FnG l.prog w K mg base (L2.CX l.prog w) 37 fa fd ["_law_script"] (tO K)
end K20
section
open PySem PySem.W PyProof.Rows
set_option maxHeartbeats 0 in
theorem K20.fin (AM : K20.wG) : PySem.Challenge.rw_askford_k20_tables.Holds := by
  w_on
  refine HDK.made fun said => ?_
  refine DM.wW (o := (PySem.W.OpenLaw.row PySem.Challenge.rw_askford_k20_tables)) (v := HDK.q) (K := HDK.made.heap_39) (as := HDK.as) (m := 9100) (ls := HDK.loose) (d := HandSHeadRun.topDef (PySem.W.OpenLaw.row PySem.Challenge.rw_askford_k20_tables).prog 34) HDK.ek HDK.run (by kernel_rfl) (fun s => by kernel_rfl) (by kernel_rfl) (by kernel_rfl) (by kernel_rfl) (by rfl) (by first | assumption | decide +kernel) (by decide +kernel) ⟨rfl, rfl, rfl, rfl, rfl, by decide +kernel⟩ ?hw ?hc
  case hw => w_witness2
  k_fill
  refine GD.qN (l := PySem.Challenge.rw_askford_k20_tables) (n := 63) (k := 37) (x := "_law_script") (sp := fun w => K20.tO _) rfl (by decide) (by kernel_rfl) ⟨rfl, by decide, by decide⟩ (fun w h Y => Y) ?F (fun _ _ a ns hl _ hS => ⟨a, ns, rfl, hS, hl, (fun _ hx => nomatch hx), fun _ => rfl⟩)
  case F =>
    intro w mg fa h KX G hmg0
    have hmg : mg ("law" : PySem.Str) = some (.ref fa) := by
      have e : (HandSHeadRun.topDef (PySem.W.OpenLaw.row PySem.Challenge.rw_askford_k20_tables).prog 34).name = ("law" : PySem.Str) := by kernel_rfl
      rw [← e]
      exact hmg0
    refine' AM KX G hmg ?aC_c ?pg_c ?hd_c ?po_c ?sa_c ?mk_c ?kc_c ?n_Day_number ?aC_b ?pg_b ?hd_b ?po_b ?sa_b ?mk_b ?kc_b ?n_Table_heads ?n_Table_lines ?aC_a ?xL_a ?sa_a ?ex_a ?ty_a ?kC_a ?ga_a ?gg_a ?hd_a ?ca_a ?sg_a ?tk_a ?mr_a ?n_NoTable_row ?i_a ?t_a ?l_ag ?c_ag ?k_ag ?a_ae ?i_ae ?l_ae ?c_ae ?k_ae ?a_h ?i_h ?l_h ?c_h ?k_h ?a_aa ?l_aa ?c_aa ?k_aa ?a_ab ?l_ab ?c_ab ?k_ab ?a_ac ?l_ac ?c_ac ?k_ac ?a_k ?l_k ?c_k ?k_k ?a_j ?l_j ?c_j ?k_j ?a_m ?l_m ?c_m ?k_m ?a_n ?l_n ?c_n ?k_n ?a_o ?l_o ?c_o ?k_o ?a_f ?i_f ?l_f ?c_f ?k_f ?a_d ?i_d ?l_d ?c_d ?k_d ?a_i ?i_i ?l_i ?c_i ?k_i ?a_g ?i_g ?l_g ?c_g ?k_g ?a_r ?l_r ?c_r ?k_r ?a_s ?l_s ?c_s ?k_s ?a_p ?l_p ?c_p ?k_p ?a_af ?l_af ?c_af ?k_af ?a_e ?l_e ?c_e ?k_e ?a_t ?l_t ?c_t ?k_t ?a_u ?l_u ?c_u ?k_u ?a_ad ?l_ad ?c_ad ?k_ad ?a_l ?l_l ?c_l ?k_l ?a_v ?l_v ?c_v ?k_v ?a_q ?l_q ?c_q ?k_q ?a_w ?l_w ?c_w ?k_w ?a_x ?l_x ?c_x ?k_x ?a_y ?l_y ?c_y ?k_y ?a_z ?l_z ?c_z ?k_z ?a_ah ?l_law ?c_ah ?k_ah ?z_isinstance ?z_int ?z_bool ?z_all ?z_str ?z_len ?z_list ?z_tuple ?z_zip ?z_enumerate ?z_max ?z_ValueError ?z_range ?e_cls_Day ?e_get ?e_tak ?e_mro_Day ?e_kNone_Day ?e_kbool_Day ?e_kint_Day ?e_kstr_Day ?e_ktup_Day ?e_klst_Day ?e_fNone_Day ?e_fint_Day ?e_fstr_Day ?e_fself_Day ?e_ostr_Day ?e_oint_Day ?x_NoTable_NoTable ?i_ValueError_NoTable ?e_cls_Table ?e_mro_Table ?e_ne_Table ?e_snn_Day ?e_fl_Table ?e_kl_Table ?a_ai ?t_ai ?a_aj ?a_ak ?a_al
    (case aC_c => k_is)
    (case pg_c => k_is)
    (case hd_c => k_is)
    (case po_c => k_is)
    (case sa_c => k_is)
    (case mk_c => k_is)
    (case kc_c => k_is)
    (case n_Day_number => k_is)
    (case aC_b => k_is)
    (case pg_b => k_is)
    (case hd_b => k_is)
    (case po_b => k_is)
    (case sa_b => k_is)
    (case mk_b => k_is)
    (case kc_b => k_is)
    (case n_Table_heads => k_is)
    (case n_Table_lines => k_is)
    (case aC_a => k_is)
    (case xL_a => k_is)
    (case sa_a => k_is)
    (case ex_a => k_is)
    (case ty_a => k_is)
    (case kC_a => k_is)
    (case ga_a => k_is)
    (case gg_a => k_is)
    (case hd_a => k_is)
    (case ca_a => k_is)
    (case sg_a => k_is)
    (case tk_a => k_is)
    (case mr_a => k_is)
    (case n_NoTable_row => k_is)
    (case i_a => k_is)
    (case t_a => k_is)
    (case l_ag => k_is)
    (case c_ag => k_is)
    (case k_ag => k_is)
    (case a_ae => k_is)
    (case i_ae => k_is)
    (case l_ae => k_is)
    (case c_ae => k_is)
    (case k_ae => k_is)
    (case a_h => k_is)
    (case i_h => k_is)
    (case l_h => k_is)
    (case c_h => k_is)
    (case k_h => k_is)
    (case a_aa => k_is)
    (case l_aa => k_is)
    (case c_aa => k_is)
    (case k_aa => k_is)
    (case a_ab => k_is)
    (case l_ab => k_is)
    (case c_ab => k_is)
    (case k_ab => k_is)
    (case a_ac => k_is)
    (case l_ac => k_is)
    (case c_ac => k_is)
    (case k_ac => k_is)
    (case a_k => k_is)
    (case l_k => k_is)
    (case c_k => k_is)
    (case k_k => k_is)
    (case a_j => k_is)
    (case l_j => k_is)
    (case c_j => k_is)
    (case k_j => k_is)
    (case a_m => k_is)
    (case l_m => k_is)
    (case c_m => k_is)
    (case k_m => k_is)
    (case a_n => k_is)
    (case l_n => k_is)
    (case c_n => k_is)
    (case k_n => k_is)
    (case a_o => k_is)
    (case l_o => k_is)
    (case c_o => k_is)
    (case k_o => k_is)
    (case a_f => k_is)
    (case i_f => k_is)
    (case l_f => k_is)
    (case c_f => k_is)
    (case k_f => k_is)
    (case a_d => k_is)
    (case i_d => k_is)
    (case l_d => k_is)
    (case c_d => k_is)
    (case k_d => k_is)
    (case a_i => k_is)
    (case i_i => k_is)
    (case l_i => k_is)
    (case c_i => k_is)
    (case k_i => k_is)
    (case a_g => k_is)
    (case i_g => k_is)
    (case l_g => k_is)
    (case c_g => k_is)
    (case k_g => k_is)
    (case a_r => k_is)
    (case l_r => k_is)
    (case c_r => k_is)
    (case k_r => k_is)
    (case a_s => k_is)
    (case l_s => k_is)
    (case c_s => k_is)
    (case k_s => k_is)
    (case a_p => k_is)
    (case l_p => k_is)
    (case c_p => k_is)
    (case k_p => k_is)
    (case a_af => k_is)
    (case l_af => k_is)
    (case c_af => k_is)
    (case k_af => k_is)
    (case a_e => k_is)
    (case l_e => k_is)
    (case c_e => k_is)
    (case k_e => k_is)
    (case a_t => k_is)
    (case l_t => k_is)
    (case c_t => k_is)
    (case k_t => k_is)
    (case a_u => k_is)
    (case l_u => k_is)
    (case c_u => k_is)
    (case k_u => k_is)
    (case a_ad => k_is)
    (case l_ad => k_is)
    (case c_ad => k_is)
    (case k_ad => k_is)
    (case a_l => k_is)
    (case l_l => k_is)
    (case c_l => k_is)
    (case k_l => k_is)
    (case a_v => k_is)
    (case l_v => k_is)
    (case c_v => k_is)
    (case k_v => k_is)
    (case a_q => k_is)
    (case l_q => k_is)
    (case c_q => k_is)
    (case k_q => k_is)
    (case a_w => k_is)
    (case l_w => k_is)
    (case c_w => k_is)
    (case k_w => k_is)
    (case a_x => k_is)
    (case l_x => k_is)
    (case c_x => k_is)
    (case k_x => k_is)
    (case a_y => k_is)
    (case l_y => k_is)
    (case c_y => k_is)
    (case k_y => k_is)
    (case a_z => k_is)
    (case l_z => k_is)
    (case c_z => k_is)
    (case k_z => k_is)
    (case a_ah => k_is)
    (case l_law => k_is)
    (case c_ah => k_is)
    (case k_ah => k_is)
    (case z_isinstance => k_is)
    (case z_int => k_is)
    (case z_bool => k_is)
    (case z_all => k_is)
    (case z_str => k_is)
    (case z_len => k_is)
    (case z_list => k_is)
    (case z_tuple => k_is)
    (case z_zip => k_is)
    (case z_enumerate => k_is)
    (case z_max => k_is)
    (case z_ValueError => k_is)
    (case z_range => k_is)
    (case e_cls_Day => k_is)
    (case e_get => k_is)
    (case e_tak => k_is)
    (case e_mro_Day => k_is)
    (case e_kNone_Day => kit_is)
    (case e_kbool_Day => kit_is)
    (case e_kint_Day => kit_is)
    (case e_kstr_Day => kit_is)
    (case e_ktup_Day => kit_is)
    (case e_klst_Day => kit_is)
    (case e_fNone_Day => k_is)
    (case e_fint_Day => k_is)
    (case e_fstr_Day => k_is)
    (case e_fself_Day => k_is)
    (case e_ostr_Day => kit_is)
    (case e_oint_Day => kit_is)
    (case x_NoTable_NoTable => kernel_rfl)
    (case i_ValueError_NoTable => kit_is)
    (case e_cls_Table => k_is)
    (case e_mro_Table => k_is)
    (case e_ne_Table => k_is)
    (case e_snn_Day => k_is)
    (case e_fl_Table => k_is)
    (case e_kl_Table => kit_is)
    (case a_ai => k_is)
    (case t_ai => kernel_rfl)
    (case a_aj => k_is)
    (case a_ak => k_is)
    (case a_al => k_is)
end
set_option Elab.async false
set_option linter.all false
set_option maxRecDepth 100000
set_option maxHeartbeats 4000000
namespace K20
open PySem PySem.Spec PyProof.Rows L2 Lay NdefX LamX GD DM XK
section
variable {P : Program} {w : World} {K : PySem.W.Frag} {mg : Str → Option Value} {base : Heap} (T : Tx K mg w) (d : Zw)
theorem nj {n : Nat} {S : Tb} (GA : ∀ d, All P w K mg base T d S (3 * n)) : FnG P w K mg base (L2.CX P w) (3 * n + 3) T.f_aa T.fd_aa ["thing"] (spF K (Gm T d) false 1 (fnD 1 (b_aa S))) := by
  have G := GA d
  refine cw T.F_aa m8 rfl rfl (fun h => by cases h) fun cdv A outer s H E hcv hg hr => ?_
  have tk : Takes (cxOf (L2.CX P w) P w K mg base ["thing"] "is_whole" (defScope b5) T.f_aa cdv A outer s H E) (fun cls d _ H' => E cls d H') := takes_of rfl rfl rfl rfl
  refine ⟨fun _ _ _ => .lst [], fun _ => "", _, (pss_one (ps_ret (pe_and (pe_callB (r := rIsi K) call_isi (by rfl) T.z_isinstance (by decide +kernel) (pa_cons (pv 0) (pa_cons (pe_bltn (v := .ty "int") (u := .type "int") (by rfl) T.z_int (by decide +kernel) rfl) pa_nil))) (pe_one (pe_not (pe_callB (r := rIsi K) call_isi (by rfl) T.z_isinstance (by decide +kernel) (pa_cons (pv 0) (pa_cons (pe_bltn (v := .ty "bool") (u := .type "bool") (by rfl) T.z_bool (by decide +kernel) rfl) pa_nil)))))))), ?_⟩
  exact (aG (kF (pI (cl_c T d) (eK T) T.e_oint_Day af) (uU (eI af))))
theorem oO {n : Nat} {S : Tb} (GA : ∀ d, All P w K mg base T d S (3 * n)) : FnG P w K mg base (L2.CX P w) (3 * n + 3) T.f_ab T.fd_ab ["thing"] (spF K (Gm T d) false 1 (fnD 2 (b_ab S))) := by
  have G := GA d
  refine cw T.F_ab gy rfl rfl (fun h => by cases h) fun cdv A outer s H E hcv hg hr => ?_
  have tk : Takes (cxOf (L2.CX P w) P w K mg base ["thing", "sign"] "is_name" (defScope ck) T.f_ab cdv A outer s H E) (fun cls d _ H' => E cls d H') := takes_of rfl rfl rfl rfl
  refine ⟨fun _ _ _ => .lst [], fun _ => "", _, (pss_cons (ps_if (PW.pt (pw_or (pt_not (pt_val (pe_callB (r := rIsi K) call_isi (by rfl) T.z_isinstance (by decide +kernel) (pa_cons (pv 0) (pa_cons (pe_bltn (v := .ty "str") (u := .type "str") (by rfl) T.z_str (by decide +kernel) rfl) pa_nil))))) (pw_or (pt_not (pt_chain op_le op_le pe_int (pe_callB (r := eB K) bU (by rfl) T.z_len (by decide +kernel) (pa_cons (pv 0) pa_nil)) (pe_glob (v := .int 8) (by rfl) T.g_al ⟨_, rfl⟩))) (pw_or1 (pt_cmpR (r := rNiZ) op_notIn_str (pe_ix (r := rIx K) ix_seq (pv 0) pe_int (fun _ _ => rfl)) (pe_glob (v := .str "abcdefghijklmnopqrstuvwxyz") (by rfl) T.g_aj ⟨_, rfl⟩) rfl))))) (pss_one (ps_ret pe_bl)) pss_nil)
    (pss_one (ps_ret (pe_callB (r := rAll K) (cr_all rfl) (by rfl) T.z_all (by decide +kernel) (pa_cons (XC.dk (own := [("sign", 1)]) (g := gOf K (.one 1)) (tt := fun _ => tYes) rfl gy.nd (XC.fm0 rfl rfl) (XC.bf tk) (bT (pv 0)) (blkOk_by (own := [("sign", 1)]) (N := ["thing", "sign"]) (sc := defScope ck) (by decide +kernel)) (fun _ _ _ _ _ _ => (pg_name (i := 1) gy.nd rfl (by first | exact .inl rfl | exact .inr rfl))) (fun _ _ _ _ _ _ => pts_nil) (fun _ _ _ _ _ _ => (pe_or (pe_cmpR (r := xR) op_in_str (pv 1) (pe_glob (v := .str "abcdefghijklmnopqrstuvwxyz") (by rfl) T.g_aj ⟨_, rfl⟩) rfl) (pe_one (pe_cmpR (r := xR) op_in_str (pv 1) (pe_glob (v := .str "0123456789") (by rfl) T.g_ak ⟨_, rfl⟩) rfl))))) pa_nil))))), ?_⟩
  exact (az (bK (eN (c0 (fC (eI af))) (eN (c0 (aJ (sy wa wa aq (cN c5 (aa af aj)) aq))) (aJ (ao xS (ao xU af aq) ay)))) (aG dg) aP)
    (aG (cN rS (aa (dV (tg := (.one 1)) (cg af) (fun _ => cf) (fun _ => (yU (ao sD af ay) (ao sD af ay)))) aj))))
theorem nk {n : Nat} {S : Tb} (GA : ∀ d, All P w K mg base T d S (3 * n)) : FnG P w K mg base (L2.CX P w) (3 * n + 3) T.f_ac T.fd_ac ["thing", "kind"] (spF K (Gm T d) false 2 (fnD 2 (b_ac S))) := by
  have G := GA d
  refine cw T.F_ac m9 rfl rfl (fun h => by cases h) fun cdv A outer s H E hcv hg hr => ?_
  have tk : Takes (cxOf (L2.CX P w) P w K mg base ["thing", "kind"] "is_worth" (defScope b6) T.f_ac cdv A outer s H E) (fun cls d _ H' => E cls d H') := takes_of rfl rfl rfl rfl
  refine ⟨fun _ _ _ => .lst [], fun _ => "", _, (pss_cons (ps_if (pt_cmpR op_isN (pv 0) pe_non (nomark _)) (pss_one (ps_ret pe_bl)) pss_nil)
    (pss_cons (ps_if (pt_cmpR (r := dR K) (bP hr.units) (pv 1) pe_str (nomark _)) (pss_one (ps_ret (aA G.oM hg (hr.mono (by omega)) (by rfl) T.g_aa T.F_aa.kp T.b_aa (fun σ => passAt tk σ) (pa_cons (pv 0) pa_nil)))) pss_nil)
    (pss_cons (ps_if (pt_cmpR (r := dR K) (bP hr.units) (pv 1) pe_str (nomark _)) (pss_one (ps_ret (pe_callB (r := rIsi K) call_isi (by rfl) T.z_isinstance (by decide +kernel) (pa_cons (pv 0) (pa_cons (pe_bltn (v := .ty "str") (u := .type "str") (by rfl) T.z_str (by decide +kernel) rfl) pa_nil))))) pss_nil)
    (pss_one (ps_ret (pe_callB (r := rIsi K) call_isi (by rfl) T.z_isinstance (by decide +kernel) (pa_cons (pv 0) (pa_cons (pe_glob (v := .ref T.C_c) (by rfl) T.g_c rfl) pa_nil)))))))), ?_⟩
  exact (az (bK (aJ (ao rR af cc)) (aG dg) aP)
    (az (bK (aJ (ao bQ af ay)) (aG (aE (aa af aj))) aP)
    (az (bK (aJ (ao bQ af ay)) (aG (pI (cl_c T d) (eK T) T.e_ostr_Day af)) aP)
    (aG (n6 (cl_c T d) (eK T) af)))))
theorem jI {n : Nat} {S : Tb} (GA : ∀ d, All P w K mg base T d S (3 * n)) : FnG P w K mg base (L2.CX P w) (3 * n + 3) T.f_k T.fd_k ["thing"] (spF K (Gm T d) false 1 (fnD 4 (b_k S))) := by
  have G := GA d
  refine cw T.F_k cQ rfl rfl (fun h => by cases h) fun cdv A outer s H E hcv hg hr => ?_
  have tk : Takes (cxOf (L2.CX P w) P w K mg base ["thing", "pair", "name", "kind"] "are_columns" (defScope ba) T.f_k cdv A outer s H E) (fun cls d _ H' => E cls d H') := takes_of rfl rfl rfl rfl
  refine ⟨fun _ _ _ => .lst [], fun _ => "", _, (pss_cons (ps_if (PW.pt (pw_or (pt_not (pt_val (pe_callB (r := rIsi K) call_isi (by rfl) T.z_isinstance (by decide +kernel) (pa_cons (pv 0) (pa_cons (pe_bltn (v := .ty "list") (u := .type "list") (by rfl) T.z_list (by decide +kernel) rfl) pa_nil))))) (pw_or1 (pt_cmpR (r := dR K) (bP hr.units) (pv 0) (pe_lst pa_nil) (nomark _))))) (pss_one (ps_ret pe_bl)) pss_nil)
    (pss_cons (ps_for (passes_of rfl) rfl (bT (pv 0)) (pg_name (i := 1) cQ.nd rfl (by first | exact .inl rfl | exact .inr rfl)) (pss_cons (ps_if (PW.pt (pw_or (pt_not (pt_val (pe_callB (r := rIsi K) call_isi (by rfl) T.z_isinstance (by decide +kernel) (pa_cons (pv 1) (pa_cons (pe_bltn (v := .ty "tuple") (u := .type "tuple") (by rfl) T.z_tuple (by decide +kernel) rfl) pa_nil))))) (pw_or (pt_cmpR (r := jP K) (fH hr.units) (pe_callB (r := eB K) bU (by rfl) T.z_len (by decide +kernel) (pa_cons (pv 1) pa_nil)) pe_int (nomark _)) (pw_or1 (pt_not (pt_val (aA G.qO hg (hr.mono (by omega)) (by rfl) T.g_ab T.F_ab.kp T.b_ab (fun σ => passAt tk σ) (pa_cons (pe_ix (r := rIx K) ix_seq (pv 1) pe_int (fun _ _ => rfl)) pa_nil)))))))) (pss_one (ps_ret pe_bl)) pss_nil)
    (pss_one (ps_if (PW.pt (pw_or (pt_not (pt_val (pe_callB (r := rIsi K) call_isi (by rfl) T.z_isinstance (by decide +kernel) (pa_cons (pe_ix (r := rIx K) ix_seq (pv 1) pe_int (fun _ _ => rfl)) (pa_cons (pe_bltn (v := .ty "str") (u := .type "str") (by rfl) T.z_str (by decide +kernel) rfl) pa_nil))))) (pw_or1 (pt_cmpR (r := xE K) (xG (hu65 hr)) (pe_ix (r := rIx K) ix_seq (pv 1) pe_int (fun _ _ => rfl)) (pe_glob (v := .ref T.a_ai) (by rfl) T.g_ai rfl) rfl)))) (pss_one (ps_ret pe_bl)) pss_nil))))
    (pss_one (ps_ret (pe_cmpR (r := dR K) (bP hr.units) (pe_callB (r := ou P w) sN (by rfl) T.z_len (by decide +kernel) (pa_cons (XC.x6 (own := [("name", 2), ("kind", 3)]) (g := gOf K (.many [(.one 2), (.one 3)])) (tt := fun _ => tYes) rfl cQ.nd (XC.fm0 rfl rfl) (XC.bf tk) (bT (pv 0)) (blkOk_by (own := [("name", 2), ("kind", 3)]) (N := ["thing", "pair", "name", "kind"]) (sc := defScope ba) (by decide +kernel)) (fun _ _ _ _ _ _ => (pg_tup (by rfl) (pgs_cons (pg_name (i := 2) cQ.nd rfl (by first | exact .inl rfl | exact .inr rfl)) (pgs_cons (pg_name (i := 3) cQ.nd rfl (by first | exact .inl rfl | exact .inr rfl)) pgs_nil)))) (fun _ _ _ _ _ _ => pts_nil) (fun _ _ _ _ _ _ => (pv 2))) pa_nil)) (pe_callB (r := eB K) bU (by rfl) T.z_len (by decide +kernel) (pa_cons (pv 0) pa_nil)) (nomark _)))))), ?_⟩
  exact (az (bK (eN (c0 (fC (eI af))) (aJ (ao bQ af (a7 aj)))) (aG dg) aP)
    (az (iz (tg := (.one 1)) (cg af) (az (bK (eN (c0 (fC (eI af))) (eN (aJ (ao fI (cN c5 (aa af aj)) aq)) (c0 (fC (aE (aa (ao cI af aq) aj)))))) (aG dg) aP)
    (bK (eN (c0 (fC (eI (ao cI af aq)))) (aJ (ao xH (ao cI af aq) (se_w T.w_ai)))) (aG dg) aP)))
    (aG (ao bQ (sQ (tg := (.many [(.one 2), (.one 3)])) (cg af) cf af) (cN c5 (aa af aj))))))
theorem qR {n : Nat} {S : Tb} (GA : ∀ d, All P w K mg base T d S (3 * n)) : FnG P w K mg base (L2.CX P w) (3 * n + 3) T.f_j T.fd_j ["thing", "columns"] (spF K (Gm T d) false 2 (fnD 5 (b_j S))) := by
  have G := GA d
  refine cw T.F_j eZ rfl rfl (fun h => by cases h) fun cdv A outer s H E hcv hg hr => ?_
  have tk : Takes (cxOf (L2.CX P w) P w K mg base ["thing", "columns", "worth", "name", "kind"] "is_row" (defScope cR) T.f_j cdv A outer s H E) (fun cls d _ H' => E cls d H') := takes_of rfl rfl rfl rfl
  refine ⟨fun _ _ _ => .lst [], fun _ => "", _, (pss_cons (ps_if (PW.pt (pw_or (pt_not (pt_val (pe_callB (r := rIsi K) call_isi (by rfl) T.z_isinstance (by decide +kernel) (pa_cons (pv 0) (pa_cons (pe_bltn (v := .ty "list") (u := .type "list") (by rfl) T.z_list (by decide +kernel) rfl) pa_nil))))) (pw_or1 (pt_cmpR (r := jP K) (fH hr.units) (pe_callB (r := eB K) bU (by rfl) T.z_len (by decide +kernel) (pa_cons (pv 0) pa_nil)) (pe_callB (r := eB K) bU (by rfl) T.z_len (by decide +kernel) (pa_cons (pv 1) pa_nil)) (nomark _))))) (pss_one (ps_ret pe_bl)) pss_nil)
    (pss_one (ps_ret (pe_callB (r := rAll K) (cr_all rfl) (by rfl) T.z_all (by decide +kernel) (pa_cons (XC.dk (own := [("worth", 2), ("name", 3), ("kind", 4)]) (g := gOf K (.many [(.one 2), (.many [(.one 3), (.one 4)])])) (tt := fun _ => tYes) rfl eZ.nd (XC.fm0 rfl rfl) (XC.bf tk) (pi_zip (by rfl) T.z_zip (pa_cons (pv 0) (pa_cons (pv 1) pa_nil))) (blkOk_by (own := [("worth", 2), ("name", 3), ("kind", 4)]) (N := ["thing", "columns", "worth", "name", "kind"]) (sc := defScope cR) (by decide +kernel)) (fun _ _ _ _ _ _ => (pg_tup (by rfl) (pgs_cons (pg_name (i := 2) eZ.nd rfl (by first | exact .inl rfl | exact .inr rfl)) (pgs_cons (pg_tup (by rfl) (pgs_cons (pg_name (i := 3) eZ.nd rfl (by first | exact .inl rfl | exact .inr rfl)) (pgs_cons (pg_name (i := 4) eZ.nd rfl (by first | exact .inl rfl | exact .inr rfl)) pgs_nil))) pgs_nil)))) (fun _ _ _ _ _ _ => pts_nil) (fun _ _ _ _ _ _ => (aA G.oN hg (hr.mono (by omega)) (by rfl) T.g_ac T.F_ac.kp T.b_ac (fun σ => XC.jg XC.cz σ) (pa_cons (pv 2) (pa_cons (pv 4) pa_nil))))) pa_nil))))), ?_⟩
  exact (az (bK (eN (c0 (fC (eI af))) (aJ (ao fI (cN c5 (aa af aj)) (cN c5 (aa af aj))))) (aG dg) aP)
    (aG (cN rS (aa (dV (tg := (.many [(.one 2), (.many [(.one 3), (.one 4)])])) (xY (aa af (aa af aj))) (fun _ => cf) (fun _ => (aE (aa af (aa af aj))))) aj))))
theorem oP {n : Nat} {S : Tb} (GA : ∀ d, All P w K mg base T d S (3 * n)) : FnG P w K mg base (L2.CX P w) (3 * n + 3) T.f_m T.fd_m ["worth"] (spF K (Gm T d) false 1 (fnD 1 (b_m S))) := by
  have G := GA d
  refine cw T.F_m oH rfl rfl (fun h => by cases h) fun cdv A outer s H E hcv hg hr => ?_
  have tk : Takes (cxOf (L2.CX P w) P w K mg base ["worth"] "plainly" (defScope cB) T.f_m cdv A outer s H E) (fun cls d _ H' => E cls d H') := takes_of rfl rfl rfl rfl
  refine ⟨fun _ _ _ => .lst [], fun _ => "", _, (pss_one (ps_ret (pe_ifExp (pt_val (pe_callB (r := rIsi K) call_isi (by rfl) T.z_isinstance (by decide +kernel) (pa_cons (pv 0) (pa_cons (pe_glob (v := .ref T.C_c) (by rfl) T.g_c rfl) pa_nil)))) (d5 (K := K) rfl (pv 0) (by rfl)) (pv 0)))), ?_⟩
  exact (aG (pk (fC (n6 (cl_c T d) (eK T) af)) (pG (ky T d) af) af))
theorem oQ {n : Nat} {S : Tb} (GA : ∀ d, All P w K mg base T d S (3 * n)) : FnG P w K mg base (L2.CX P w) (3 * n + 3) T.f_n T.fd_n ["row"] (spF K (Gm T d) false 1 (fnD 2 (b_n S))) := by
  have G := GA d
  refine cw T.F_n gz rfl rfl (fun h => by cases h) fun cdv A outer s H E hcv hg hr => ?_
  have tk : Takes (cxOf (L2.CX P w) P w K mg base ["row", "worth"] "row_key" (defScope cm) T.f_n cdv A outer s H E) (fun cls d _ H' => E cls d H') := takes_of rfl rfl rfl rfl
  refine ⟨fun _ _ _ => .lst [], fun _ => "", _, (pss_one (ps_ret (pe_callTy (r := pA K) call_tuple_of (by rfl) T.z_tuple (by decide +kernel) (pa_cons (XC.dk (own := [("worth", 1)]) (g := gOf K (.one 1)) (tt := fun _ => tYes) rfl gz.nd (XC.fm0 rfl rfl) (XC.bf tk) (bT (pv 0)) (blkOk_by (own := [("worth", 1)]) (N := ["row", "worth"]) (sc := defScope cm) (by decide +kernel)) (fun _ _ _ _ _ _ => (pg_name (i := 1) gz.nd rfl (by first | exact .inl rfl | exact .inr rfl))) (fun _ _ _ _ _ _ => pts_nil) (fun _ _ _ _ _ _ => (pe_tup (pa_cons (pe_cmpR op_isN (pv 1) pe_non (nomark _)) (pa_cons (aA G.kz hg (hr.mono (by omega)) (by rfl) T.g_m T.F_m.kp T.b_m (fun σ => XC.jg XC.cz σ) (pa_cons (pv 1) pa_nil)) pa_nil))))) pa_nil)))), ?_⟩
  exact (aG (cN gK (aa (dV (tg := (.one 1)) (cg af) (fun _ => cf) (fun _ => (b4 (aa (ao rR af cc) (aa (aE (aa af aj)) aj))))) aj)))
theorem oR {n : Nat} {S : Tb} (GA : ∀ d, All P w K mg base T d S (3 * n)) : FnG P w K mg base (L2.CX P w) (3 * n + 3) T.f_o T.fd_o ["rows"] (spF K (Gm T d) true 1 (fnD 3 (b_o S))) := by
  have G := GA d
  refine cw T.F_o gA rfl rfl (fun h => by cases h) fun cdv A outer s H E hcv hg hr => ?_
  have tk : Takes (cxOf (L2.CX P w) P w K mg base ["rows", "told", "row"] "counted" (defScope cC) T.f_o cdv A outer s H E) (fun cls d _ H' => E cls d H') := takes_of rfl rfl rfl rfl
  refine ⟨fun _ _ _ => .lst [], fun _ => "", _, (pss_cons (ps_set (i := 1) gA.nd rfl (by first | exact .inl rfl | exact .inr rfl) vc)
    (pss_cons (ps_for (passes_of rfl) rfl (bT (pv 0)) (pg_name (i := 2) gA.nd rfl (by first | exact .inl rfl | exact .inr rfl)) (pss_one (vd (yg hr) (pv 1) (aA G.kA hg (hr.mono (by omega)) (by rfl) T.g_n T.F_n.kp T.b_n (fun σ => passAt tk σ) (pa_cons (pv 2) pa_nil)) (pe_op (r := cP K) bz (sW (yg hr) (pv 1) (aA G.kA hg (hr.mono (by omega)) (by rfl) T.g_n T.F_n.kp T.b_n (fun σ => passAt tk σ) (pa_cons (pv 2) pa_nil)) pe_int ⟨rfl, rfl, rfl, rfl⟩) pe_int) rfl)))
    (pss_one (ps_ret (pv 1))))), ?_⟩
  exact (az (nV ve)
    (az (iz (tg := (.one 2)) (cg af) (vg (aE (aa af aj)) (y5 bA (vf (aE (aa af aj)) aq) aq)))
    uF))
theorem jW {n : Nat} {S : Tb} (GA : ∀ d, All P w K mg base T d S (3 * n)) : FnG P w K mg base (L2.CX P w) (3 * n + 3) T.f_r T.fd_r ["worth"] (spF K (Gm T d) false 1 (fnD 1 (b_r S))) := by
  have G := GA d
  refine cw T.F_r jS rfl rfl (fun h => by cases h) fun cdv A outer s H E hcv hg hr => ?_
  have tk : Takes (cxOf (L2.CX P w) P w K mg base ["worth"] "dale_worth" (defScope bD) T.f_r cdv A outer s H E) (fun cls d _ H' => E cls d H') := takes_of rfl rfl rfl rfl
  refine ⟨fun _ _ _ => .lst [], fun _ => "", _, (pss_one (ps_ret (pe_ifExp (pt_cmpR (r := orR (dR K) (wY K T.C_c (spEq K T.C_c "number") E0 id)) (fB (bP hr.units) (qZ (ia T) T.m_h.at_ T.m_h.fn T.b_h pass0 (hr.mono (by omega)))) (pv 0) pe_str (nomark _)) pe_non (aA G.kz hg (hr.mono (by omega)) (by rfl) T.g_m T.F_m.kp T.b_m (fun σ => passAt tk σ) (pa_cons (pv 0) pa_nil))))), ?_⟩
  exact (aG (pk (aJ (ao (iN bQ (xW (cl_c T d) (eK T))) af ay)) cc (aE (aa af aj))))
theorem i4 {n : Nat} {S : Tb} (GA : ∀ d, All P w K mg base T d S (3 * n)) : FnG P w K mg base (L2.CX P w) (3 * n + 3) T.f_s T.fd_s ["columns"] (spF K (Gm T d) false 1 (fnD 3 (b_s S))) := by
  have G := GA d
  refine cw T.F_s c6 rfl rfl (fun h => by cases h) fun cdv A outer s H E hcv hg hr => ?_
  have tk : Takes (cxOf (L2.CX P w) P w K mg base ["columns", "name", "kind"] "dale_columns" (defScope aW) T.f_s cdv A outer s H E) (fun cls d _ H' => E cls d H') := takes_of rfl rfl rfl rfl
  refine ⟨fun _ _ _ => .lst [], fun _ => "", _, (pss_one (ps_ret (XC.dk (own := [("name", 1), ("kind", 2)]) (g := gOf K (.many [(.one 1), (.one 2)])) (tt := fun _ => tYes) rfl c6.nd (XC.fm0 rfl rfl) (XC.bf tk) (bT (pv 0)) (blkOk_by (own := [("name", 1), ("kind", 2)]) (N := ["columns", "name", "kind"]) (sc := defScope aW) (by decide +kernel)) (fun _ _ _ _ _ _ => (pg_tup (by rfl) (pgs_cons (pg_name (i := 1) c6.nd rfl (by first | exact .inl rfl | exact .inr rfl)) (pgs_cons (pg_name (i := 2) c6.nd rfl (by first | exact .inl rfl | exact .inr rfl)) pgs_nil)))) (fun _ _ _ _ _ _ => pts_nil) (fun _ _ _ _ _ _ => (pe_tup (pa_cons (pv 1) (pa_cons (pe_ifExp (pt_cmpR (r := dR K) (bP hr.units) (pv 2) pe_str (nomark _)) pe_str (pv 2)) pa_nil))))))), ?_⟩
  exact (aG (dV (tg := (.many [(.one 1), (.one 2)])) (cg af) (fun _ => cf) (fun _ => (b4 (aa af (aa (pk (aJ (ao bQ af ay)) ay af) aj))))))
theorem i5 {n : Nat} {S : Tb} (GA : ∀ d, All P w K mg base T d S (3 * n)) (hz : ∀ a, ¬ d.fz a) : FnG P w K mg base (L2.CX P w) (3 * n + 3) T.f_p T.fd_p ["table"] (spF K (Gm T d) false 1 (fnD 3 (b_p S))) := by
  have G := GA d
  refine cw T.F_p cx rfl rfl (fun h => by cases h) fun cdv A outer s H E hcv hg hr => ?_
  have tk : Takes (cxOf (L2.CX P w) P w K mg base ["table", "row", "worth"] "through_door" (defScope aX) T.f_p cdv A outer s H E) (fun cls d _ H' => E cls d H') := takes_of rfl rfl rfl rfl
  refine ⟨fun _ _ _ => .lst [], fun _ => "", _, (pss_one (ps_ret (XM.ej T.M_b (FnG.ex (p := fun _ : Zw => True) fun d _ => (GA d).bg) hg (hr.mono (by omega)) (by rfl) T.g_b T.b_f (fun σ => passAt tk σ) (pa_cons (aA G.jH hg (hr.mono (by omega)) (by rfl) T.g_s T.F_s.kp T.b_s (fun σ => passAt tk σ) (pa_cons (XM.d6 (pv 0) T.cl_b T.m_i G.dS hg (hr.mono (by omega)) T.b_i (fun σ => passAt tk σ)) pa_nil)) (pa_cons (XC.dk (own := [("row", 1)]) (g := gOf K (.one 1)) (tt := fun _ => tYes) rfl cx.nd (XC.fm0 rfl rfl) (XC.bf tk) (bT (XM.d6 (pv 0) T.cl_b T.m_g G.ie hg (hr.mono (by omega)) T.b_g (fun σ => passAt tk σ))) (blkOk_by (own := [("row", 1)]) (N := ["table", "row", "worth"]) (sc := defScope aX) (by decide +kernel)) (fun _ _ _ _ _ _ => (pg_name (i := 1) cx.nd rfl (by first | exact .inl rfl | exact .inr rfl))) (fun _ _ _ _ _ _ => pts_nil) (fun _ _ _ _ _ _ => (XC.dk (own := [("worth", 2)]) (g := gOf K (.one 2)) (tt := fun _ => tYes) (wi := qA K _) rfl cx.nd (XC.nO (XC.fm0 rfl rfl)) XC.cz (bT (pv 1)) (blkOk_by (own := [("worth", 2)]) (N := ["table", "row", "worth"]) (by kernel_rfl)) (fun _ _ _ _ _ _ => (pg_name (i := 2) cx.nd rfl (by first | exact .inl rfl | exact .inr rfl))) (fun _ _ _ _ _ _ => pts_nil) (fun _ _ _ _ _ _ => (aA G.lz hg (hr.mono (by omega)) (by rfl) T.g_r T.F_r.kp T.b_r (fun σ => XC.jg XC.cz σ) (pa_cons (pv 2) pa_nil)))))) pa_nil))))), ?_⟩
  exact (aG (fN (Γs := Gm T) (fun x => d.push x) (fun _ => rfl) (cl_b T d) (aa (aE (aa (jc (cl_b T d) af aj) aj)) (aa (dV (tg := (.one 1)) (cg (jc (cl_b T d) af aj)) (fun _ => cf) (fun _ => (dV (tg := (.one 2)) (cg af) (fun _ => cf) (fun _ => (aE (aa af aj)))))) aj))))
theorem ig {n : Nat} {S : Tb} (GA : ∀ d, All P w K mg base T d S (3 * n)) : FnG P w K mg base (L2.CX P w) (3 * n + 3) T.f_f T.fd_f ["self", "columns", "rows"] (spF K (Gm T d) false 3 (nW true 5 (b_f S))) := by
  have G := GA d
  refine cw T.F_f aM rfl rfl (fun _ => rfl) fun cdv A outer s H E hcv hg hr => ?_
  have tk : Takes (cxOf (L2.CX P w) P w K mg base ["self", "columns", "rows", "at", "row"] "Table.__init__" (defScope aF) T.f_f cdv A outer s H E) (fun cls d _ H' => E cls d H') := takes_of rfl rfl rfl rfl
  refine ⟨fun _ _ _ => .lst [], fun _ => "", _, (pss_cons (ps_if (PW.pt (pw_or (pt_not (pt_val (aA G.gp hg (hr.mono (by omega)) (by rfl) T.g_k T.F_k.kp T.b_k (fun σ => passAt tk σ) (pa_cons (pv 1) pa_nil)))) (pw_or1 (pt_not (pt_val (pe_callB (r := rIsi K) call_isi (by rfl) T.z_isinstance (by decide +kernel) (pa_cons (pv 2) (pa_cons (pe_bltn (v := .ty "list") (u := .type "list") (by rfl) T.z_list (by decide +kernel) rfl) pa_nil)))))))) (pss_one (ps_raise rfl tk (pmk_oex T.O_a T.i_a T.t_a (fj T) (hr.mono (by omega)) T.b_ag .nil pass0 (by rfl) T.g_a (pa_cons pe_non pa_nil)))) pss_nil)
    (pss_cons (ps_for (passes_of rfl) rfl (mG (by rfl) T.z_enumerate (pa_cons (pv 2) pa_nil)) (pg_tup (by rfl) (pgs_cons (pg_name (i := 3) aM.nd rfl (by first | exact .inl rfl | exact .inr rfl)) (pgs_cons (pg_name (i := 4) aM.nd rfl (by first | exact .inl rfl | exact .inr rfl)) pgs_nil))) (pss_one (ps_if (pt_not (pt_val (aA G.ng hg (hr.mono (by omega)) (by rfl) T.g_j T.F_j.kp T.b_j (fun σ => passAt tk σ) (pa_cons (pv 4) (pa_cons (pv 1) pa_nil))))) (pss_one (ps_raise rfl tk (pmk_oex T.O_a T.i_a T.t_a (fj T) (hr.mono (by omega)) T.b_ag .nil pass0 (by rfl) T.g_a (pa_cons (pv 3) pa_nil)))) pss_nil)))
    (pss_cons (ps_fld (pv 0) (pe_callTy (bB (K := K) rfl) (by rfl) T.z_list (by decide +kernel) (pa_cons (pv 1) pa_nil)) rfl)
    (pss_one (ps_fld (pv 0) (XC.dk (own := [("row", 4)]) (g := gOf K (.one 4)) (tt := fun _ => tYes) rfl aM.nd (XC.fm0 rfl rfl) (XC.bf tk) (bT (pv 2)) (blkOk_by (own := [("row", 4)]) (N := ["self", "columns", "rows", "at", "row"]) (sc := defScope aF) (by decide +kernel)) (fun _ _ _ _ _ _ => (pg_name (i := 4) aM.nd rfl (by first | exact .inl rfl | exact .inr rfl))) (fun _ _ _ _ _ _ => pts_nil) (fun _ _ _ _ _ _ => (pe_callTy (bB (K := K) rfl) (by rfl) T.z_list (by decide +kernel) (pa_cons (pv 4) pa_nil)))) rfl))))), ?_⟩
  exact (az (bK (eN (c0 (fC (aE (aa af aj)))) (c0 (fC (eI af)))) (gU (df T d) (aa cc aj)) aP)
    (az (iz (tg := (.many [(.one 3), (.one 4)])) (mH (aa af aj)) (bK (c0 (fC (aE (aa af (aa af aj))))) (gU (df T d) (aa af aj)) aP))
    (az (pJ (ib T d) (SF.se (gM dZ (aa af aj))) af)
    (pJ (fP T d) (dV (tg := (.one 4)) (cg af) (fun _ => cf) (fun _ => (SF.se (gM dZ (aa af aj))))) af))))
theorem oS {n : Nat} {S : Tb} (GA : ∀ d, All P w K mg base T d S (3 * n)) : FnG P w K mg base (L2.CX P w) (3 * n + 3) T.f_f T.fd_f ["self", "columns", "rows"] (tF K (Gm T d) T.C_b "Table" "heads" "lines" (oE "Table" "heads" "lines" 5 (d8 S))) := by
  refine yt T.F_f aM rfl rfl (by decide) ⟨T.cl_b, T.n_Table_heads⟩ T.n_Table_lines (fun ρ s ds h _ => list_eq ρ s ds h) (fun ρ s ds hl h h1 h2 => m7 ρ s ds (hl ▸ (by decide : 4 < 5)) h h1 h2) fun y cdv A outer s H E hcv hg hr => ?_
  have G := GA (d.push y)
  have tk : Takes (cxOf (L2.CX P w) P w K mg base ["self", "columns", "rows", "at", "row"] "Table.__init__" (defScope aF) T.f_f cdv A outer s H E) (fun cls d _ H' => E cls d H') := takes_of rfl rfl rfl rfl
  refine ⟨fun _ _ _ => .lst [], fun _ => "", _, _, _, _, (pss_cons (ps_if (PW.pt (pw_or (pt_not (pt_val (aA G.gp hg (hr.mono (by omega)) (by rfl) T.g_k T.F_k.kp T.b_k (fun σ => passAt tk σ) (pa_cons (pv 1) pa_nil)))) (pw_or1 (pt_not (pt_val (pe_callB (r := rIsi K) call_isi (by rfl) T.z_isinstance (by decide +kernel) (pa_cons (pv 2) (pa_cons (pe_bltn (v := .ty "list") (u := .type "list") (by rfl) T.z_list (by decide +kernel) rfl) pa_nil)))))))) (pss_one (ps_raise rfl tk (pmk_oex T.O_a T.i_a T.t_a (fj T) (hr.mono (by omega)) T.b_ag .nil pass0 (by rfl) T.g_a (pa_cons pe_non pa_nil)))) pss_nil)
    (pss_cons (ps_for (passes_of rfl) rfl (mG (by rfl) T.z_enumerate (pa_cons (pv 2) pa_nil)) (pg_tup (by rfl) (pgs_cons (pg_name (i := 3) aM.nd rfl (by first | exact .inl rfl | exact .inr rfl)) (pgs_cons (pg_name (i := 4) aM.nd rfl (by first | exact .inl rfl | exact .inr rfl)) pgs_nil))) (pss_one (ps_if (pt_not (pt_val (aA G.ng hg (hr.mono (by omega)) (by rfl) T.g_j T.F_j.kp T.b_j (fun σ => passAt tk σ) (pa_cons (pv 4) (pa_cons (pv 1) pa_nil))))) (pss_one (ps_raise rfl tk (pmk_oex T.O_a T.i_a T.t_a (fj T) (hr.mono (by omega)) T.b_ag .nil pass0 (by rfl) T.g_a (pa_cons (pv 3) pa_nil)))) pss_nil)))
    (pss_cons (ps_fld (pv 0) (pe_callTy (bB (K := K) rfl) (by rfl) T.z_list (by decide +kernel) (pa_cons (pv 1) pa_nil)) rfl)
    (pss_one (ps_fld (pv 0) (XC.dk (own := [("row", 4)]) (g := gOf K (.one 4)) (tt := fun _ => tYes) rfl aM.nd (XC.fm0 rfl rfl) (XC.bf tk) (bT (pv 2)) (blkOk_by (own := [("row", 4)]) (N := ["self", "columns", "rows", "at", "row"]) (sc := defScope aF) (by decide +kernel)) (fun _ _ _ _ _ _ => (pg_name (i := 4) aM.nd rfl (by first | exact .inl rfl | exact .inr rfl))) (fun _ _ _ _ _ _ => pts_nil) (fun _ _ _ _ _ _ => (pe_callTy (bB (K := K) rfl) (by rfl) T.z_list (by decide +kernel) (pa_cons (pv 4) pa_nil)))) rfl))))), ?_, gM dZ (aa af aj), ti (tg := .one 4) (cg af) (fun _ => cf) (fun _ => SF.sr (gM dZ (aa af aj)))⟩
  exact (az (bK (eN (c0 (fC (aE (aa af aj)))) (c0 (fC (eI af)))) (gU (df T (d.push y)) (aa cc aj)) aP)
    (iz (tg := (.many [(.one 3), (.one 4)])) (mH (aa af aj)) (bK (c0 (fC (aE (aa af (aa af aj))))) (gU (df T (d.push y)) (aa af aj)) aP)))
theorem i6 {n : Nat} {S : Tb} (GA : ∀ d, All P w K mg base T d S (3 * n)) : FnG P w K mg base (L2.CX P w) (3 * n + 3) T.f_d T.fd_d ["self", "other"] (spF K (Gm T d) false 2 (fnD 2 (b_d S))) := by
  have G := GA d
  refine cw T.F_d i3 rfl rfl (fun h => by cases h) fun cdv A outer s H E hcv hg hr => ?_
  have tk : Takes (cxOf (L2.CX P w) P w K mg base ["self", "other"] "Table.__eq__" (defScope bb) T.f_d cdv A outer s H E) (fun cls d _ H' => E cls d H') := takes_of rfl rfl rfl rfl
  refine ⟨fun _ _ _ => .lst [], fun _ => "", _, (pss_one (ps_ret (pe_and (pe_callB (r := rIsi K) call_isi (by rfl) T.z_isinstance (by decide +kernel) (pa_cons (pv 1) (pa_cons (pe_glob (v := .ref T.C_b) (by rfl) T.g_b rfl) pa_nil))) (pe_and (pe_cmpR (r := dR K) (bP hr.units) (d5 (K := K) rfl (pv 0) (by rfl)) (d5 (K := K) rfl (pv 1) (by rfl)) (nomark _)) (pe_one (pe_cmpR (r := jC K w) (vq (yg hr)) (aA G.kB hg (hr.mono (by omega)) (by rfl) T.g_o T.F_o.kp T.b_o (fun σ => passAt tk σ) (pa_cons (d5 (K := K) rfl (pv 0) (by rfl)) pa_nil)) (aA G.kB hg (hr.mono (by omega)) (by rfl) T.g_o T.F_o.kp T.b_o (fun σ => passAt tk σ) (pa_cons (d5 (K := K) rfl (pv 1) (by rfl)) pa_nil)) (nomark _))))))), ?_⟩
  exact (aG (kF (tN (cl_b T d) T.cl_b T.e_cls_Table T.e_get T.e_tak T.e_mro_Table T.e_kl_Table af) (kF (ao bQ (fh (ib T d) af) (fh (ib T d) af)) (ao vr (aE (aa (fh (fP T d) af) aj)) (aE (aa (fh (fP T d) af) aj))))))
theorem iL {n : Nat} {S : Tb} (GA : ∀ d, All P w K mg base T d S (3 * n)) : FnG P w K mg base (L2.CX P w) (3 * n + 3) T.f_i T.fd_i ["self"] (spF K (Gm T d) true 1 (fnD 1 (b_i S))) := by
  have G := GA d
  refine cw T.F_i iK rfl rfl (fun h => by cases h) fun cdv A outer s H E hcv hg hr => ?_
  have tk : Takes (cxOf (L2.CX P w) P w K mg base ["self"] "Table.columns" (defScope aY) T.f_i cdv A outer s H E) (fun cls d _ H' => E cls d H') := takes_of rfl rfl rfl rfl
  refine ⟨fun _ _ _ => .lst [], fun _ => "", _, (pss_one (ps_ret (pe_callTy (bB (K := K) rfl) (by rfl) T.z_list (by decide +kernel) (pa_cons (d5 (K := K) rfl (pv 0) (by rfl)) pa_nil)))), ?_⟩
  exact (uE (gM dZ (aa (fh (ib T d) af) aj)))
theorem jX {n : Nat} {S : Tb} (GA : ∀ d, All P w K mg base T d S (3 * n)) : FnG P w K mg base (L2.CX P w) (3 * n + 3) T.f_g T.fd_g ["self"] (spF K (Gm T d) false 1 (fnD 2 (b_g S))) := by
  have G := GA d
  refine cw T.F_g cE rfl rfl (fun h => by cases h) fun cdv A outer s H E hcv hg hr => ?_
  have tk : Takes (cxOf (L2.CX P w) P w K mg base ["self", "row"] "Table.rows" (defScope aZ) T.f_g cdv A outer s H E) (fun cls d _ H' => E cls d H') := takes_of rfl rfl rfl rfl
  refine ⟨fun _ _ _ => .lst [], fun _ => "", _, (pss_one (ps_ret (XC.dk (own := [("row", 1)]) (g := gOf K (.one 1)) (tt := fun _ => tYes) rfl cE.nd (XC.fm0 rfl rfl) (XC.bf tk) (bT (d5 (K := K) rfl (pv 0) (by rfl))) (blkOk_by (own := [("row", 1)]) (N := ["self", "row"]) (sc := defScope aZ) (by decide +kernel)) (fun _ _ _ _ _ _ => (pg_name (i := 1) cE.nd rfl (by first | exact .inl rfl | exact .inr rfl))) (fun _ _ _ _ _ _ => pts_nil) (fun _ _ _ _ _ _ => (pe_callTy (bB (K := K) rfl) (by rfl) T.z_list (by decide +kernel) (pa_cons (pv 1) pa_nil)))))), ?_⟩
  exact (aG (dV (tg := (.one 1)) (cg (fh (fP T d) af)) (fun _ => cf) (fun _ => (SF.se (gM dZ (aa af aj))))))
theorem oU {n : Nat} {S : Tb} (GA : ∀ d, All P w K mg base T d S (3 * n)) : FnG P w K mg base (L2.CX P w) (3 * n + 3) T.f_g T.fd_g ["self"] (spT K (Gm T d) odL 1 (fnD 2 (b_g S))) := by
  have G := GA d
  refine yq T.F_g cE rfl rfl fun cdv A outer s H E hcv hg hr => ?_
  have tk : Takes (cxOf (L2.CX P w) P w K mg base ["self", "row"] "Table.rows" (defScope aZ) T.f_g cdv A outer s H E) (fun cls d _ H' => E cls d H') := takes_of rfl rfl rfl rfl
  refine ⟨fun _ _ _ => .lst [], fun _ => "", _, (pss_one (ps_ret (XC.dk (own := [("row", 1)]) (g := gOf K (.one 1)) (tt := fun _ => tYes) rfl cE.nd (XC.fm0 rfl rfl) (XC.bf tk) (bT (d5 (K := K) rfl (pv 0) (by rfl))) (blkOk_by (own := [("row", 1)]) (N := ["self", "row"]) (sc := defScope aZ) (by decide +kernel)) (fun _ _ _ _ _ _ => (pg_name (i := 1) cE.nd rfl (by first | exact .inl rfl | exact .inr rfl))) (fun _ _ _ _ _ _ => pts_nil) (fun _ _ _ _ _ _ => (pe_callTy (bB (K := K) rfl) (by rfl) T.z_list (by decide +kernel) (pa_cons (pv 1) pa_nil)))))), ?_⟩
  exact (ti (tg := (.one 1)) (cg (fh (fP T d) af)) (fun _ => cf) (fun _ => (SF.sr (gM dZ (aa af aj)))))
end
end K20
set_option Elab.async false
set_option linter.all false
set_option maxRecDepth 100000
set_option maxHeartbeats 4000000
namespace K20
open PySem PySem.Spec PyProof.Rows L2 Lay NdefX LamX GD DM XK
section
variable {P : Program} {w : World} {K : PySem.W.Frag} {mg : Str → Option Value} {base : Heap} (T : Tx K mg w) (d : Zw)
theorem lB {n : Nat} {S : Tb} (GA : ∀ d, All P w K mg base T d S (3 * n)) : FnG P w K mg base (L2.CX P w) (3 * n + 3) T.f_t T.fd_t ["_law_draws_here", "_law_tongue", "_law_kind"] (spF K (Gm T d) false 3 (fnD 4 (b_t S))) := by
  have G := GA d
  refine cw T.F_t hQ rfl rfl (fun h => by cases h) fun cdv A outer s H E hcv hg hr => ?_
  have tk : Takes (cxOf (L2.CX P w) P w K mg base ["_law_draws_here", "_law_tongue", "_law_kind", "_law_pick"] "_law_cell" (defScope bL) T.f_t cdv A outer s H E) (fun cls d _ H' => E cls d H') := takes_of rfl rfl rfl rfl
  refine ⟨fun _ _ _ => .lst [], fun _ => "", _, (pss_cons (ps_set (i := 3) hQ.nd rfl (by first | exact .inl rfl | exact .inr rfl) (aA G.br hg (hr.mono (by omega)) (by rfl) T.g_e T.F_e.kp T.b_e (fun σ => passAt tk σ) (pa_cons (pv 0) pa_nil)))
    (pss_cons (ps_if (pt_cmpR (r := dR K) (bP hr.units) (pe_op op_mod (pv 3) pe_int) pe_int (nomark _)) (pss_one (ps_ret pe_non)) pss_nil)
    (pss_cons (ps_if (pt_cmpR (r := dR K) (bP hr.units) (pv 2) pe_str (nomark _)) (pss_one (ps_ret (pe_ix (r := rIx K) ix_seq (pe_lst (pa_cons (pe_op op_sub (pe_op op_mod (pe_op op_fdiv (pv 3) pe_int) pe_int) pe_int) (pa_cons (pe_op (r := cP K) bz (pe_op op_pow pe_int pe_int) (pv 3)) (pa_cons (pe_op op_sub (pe_op op_sub pe_int (pe_op op_pow pe_int pe_int)) (pv 3)) pa_nil)))) (pe_callB (call_max2 rfl) (by rfl) T.z_max (by decide +kernel) (pa_cons pe_int (pa_cons (pe_op op_sub (pe_op op_mod (pe_op op_fdiv (pv 3) pe_int) pe_int) pe_int) pa_nil))) (fun _ _ => rfl)))) pss_nil)
    (pss_cons (ps_if (pt_cmpR (r := dR K) (bP hr.units) (pv 2) pe_str (nomark _)) (pss_one (ps_ret (pe_ix (r := rIx K) ix_seq (pe_lst (pa_cons pe_str (pa_cons pe_str (pa_cons pe_str (pa_cons pe_str (pa_cons pe_str (pa_cons pe_str (pa_cons (pe_slice (r := rSlX K) iA pe_str (po_some (pe_callTy call_int1 (by rfl) T.z_int (by decide +kernel) (pa_cons (pe_cmpR (r := dR K) (bP hr.units) (pv 1) pe_str (nomark _)) pa_nil))) po_none) pa_nil)))))))) (pe_op op_mod (pe_op op_fdiv (pv 3) pe_int) pe_int) (fun _ _ => rfl)))) pss_nil)
    (pss_one (ps_ret (pe_tup (pa_cons pe_str (pa_cons (pe_ix (r := rIx K) ix_seq (pe_lst (pa_cons (pe_op op_mod (pe_op op_fdiv (pv 3) pe_int) pe_int) (pa_cons (pe_op (r := cP K) bz pe_int (pe_op op_mod (pe_op op_fdiv (pv 3) pe_int) pe_int)) (pa_cons (pe_op (r := cP K) bz pe_int (pe_op op_mod (pe_op op_fdiv (pv 3) pe_int) pe_int)) (pa_cons (pe_op op_sub pe_int (pe_op op_mod (pe_op op_fdiv (pv 3) pe_int) pe_int)) pa_nil))))) (pe_op op_mod (pe_op op_fdiv (pv 3) pe_int) pe_int) (fun _ _ => rfl)) pa_nil))))))))), ?_⟩
  exact (az (bt (tg := .one 3) (aE (aa af aj)))
    (az (bK (aJ (ao bQ (ao bh af aq) aq)) (aG cc) aP)
    (az (bK (aJ (ao bQ af ay)) (aG (ao cI (a7 (aa (ao jl (ao bh (ao b8 af aq) aq) aq) (aa (ao bA (ao rH aq aq) af) (aa (ao jl (ao jl aq (ao rH aq aq)) af) aj)))) (cN uX (aa aq (aa (ao jl (ao bh (ao b8 af aq) aq) aq) aj))))) aP)
    (az (bK (aJ (ao bQ af ay)) (aG (ao cI (a7 (aa ay (aa ay (aa ay (aa ay (aa ay (aa ay (aa (eO eU ay (cW (cN kI (aa (ao bQ af ay) aj))) cU) aj)))))))) (ao bh (ao b8 af aq) aq))) aP)
    (aG (b4 (aa ay (aa (ao cI (a7 (aa (ao bh (ao b8 af aq) aq) (aa (ao bA aq (ao bh (ao b8 af aq) aq)) (aa (ao bA aq (ao bh (ao b8 af aq) aq)) (aa (ao jl aq (ao bh (ao b8 af aq) aq)) aj))))) (ao bh (ao b8 af aq) aq)) aj))))))))
theorem jY {n : Nat} {S : Tb} (GA : ∀ d, All P w K mg base T d S (3 * n)) : FnG P w K mg base (L2.CX P w) (3 * n + 3) T.f_u T.fd_u ["_law_draws_here", "_law_tongue", "_law_letters"] (spF K (Gm T d) false 3 (fnD 6 (b_u S))) := by
  have G := GA d
  refine cw T.F_u c4 rfl rfl (fun h => by cases h) fun cdv A outer s H E hcv hg hr => ?_
  have tk : Takes (cxOf (L2.CX P w) P w K mg base ["_law_draws_here", "_law_tongue", "_law_letters", "_law_kinds", "_law_many", "_law_letter"] "_law_heads" (defScope bq) T.f_u cdv A outer s H E) (fun cls d _ H' => E cls d H') := takes_of rfl rfl rfl rfl
  refine ⟨fun _ _ _ => .lst [], fun _ => "", _, (pss_cons (ps_set (i := 3) c4.nd rfl (by first | exact .inl rfl | exact .inr rfl) (pe_slice (r := rSlX K) iA (pe_lst (pa_cons pe_str (pa_cons pe_str (pa_cons pe_str (pa_cons pe_str (pa_cons pe_str pa_nil)))))) po_none (po_some (pe_ix (r := rIx K) ix_seq (pe_lst (pa_cons pe_int (pa_cons pe_int pa_nil))) (pe_callTy call_int1 (by rfl) T.z_int (by decide +kernel) (pa_cons (pe_cmpR (r := dR K) (bP hr.units) (pv 1) pe_str (nomark _)) pa_nil)) (fun _ _ => rfl)))))
    (pss_cons (ps_set (i := 4) c4.nd rfl (by first | exact .inl rfl | exact .inr rfl) (pe_op (r := cP K) bz pe_int (pe_op op_mod (aA G.br hg (hr.mono (by omega)) (by rfl) T.g_e T.F_e.kp T.b_e (fun σ => passAt tk σ) (pa_cons (pv 0) pa_nil)) (pe_callB (r := eB K) bU (by rfl) T.z_len (by decide +kernel) (pa_cons (pv 2) pa_nil)))))
    (pss_one (ps_ret (XC.dk (own := [("_law_letter", 5)]) (g := gOf K (.one 5)) (tt := fun _ => tYes) rfl c4.nd (XC.fm0 rfl rfl) (XC.bf tk) (bT (pe_slice (r := rSlX K) iA (pv 2) po_none (po_some (pv 4)))) (blkOk_by (own := [("_law_letter", 5)]) (N := ["_law_draws_here", "_law_tongue", "_law_letters", "_law_kinds", "_law_many", "_law_letter"]) (sc := defScope bq) (by decide +kernel)) (fun _ _ _ _ _ _ => (pg_name (i := 5) c4.nd rfl (by first | exact .inl rfl | exact .inr rfl))) (fun _ _ _ _ _ _ => pts_nil) (fun _ _ _ _ _ _ => (pe_tup (pa_cons (pv 5) (pa_cons (pe_ix (r := rIx K) ix_seq (pv 3) (pe_op op_mod (aA G.br hg (hr.mono (by omega)) (by rfl) T.g_e T.F_e.kp T.b_e (fun σ => XC.jg XC.cz σ) (pa_cons (pv 0) pa_nil)) (pe_callB (r := eB K) bU (by rfl) T.z_len (by decide +kernel) (pa_cons (pv 3) pa_nil))) (fun _ _ => rfl)) pa_nil))))))))), ?_⟩
  exact (az (bt (tg := .one 3) (eO eU (a7 (aa ay (aa ay (aa ay (aa ay (aa ay aj)))))) cU (cW (ao cI (a7 (aa aq (aa aq aj))) (cN kI (aa (ao bQ af ay) aj))))))
    (az (bt (tg := .one 4) (ao bA aq (ao bh (aE (aa af aj)) (cN c5 (aa af aj)))))
    (aG (dV (tg := (.one 5)) (cg (eO eU af cU (cW af))) (fun _ => cf) (fun _ => (b4 (aa af (aa (ao cI af (ao bh (aE (aa af aj)) (cN c5 (aa af aj)))) aj))))))))
theorem jJ {n : Nat} {S : Tb} (GA : ∀ d, All P w K mg base T d S (3 * n)) : FnG P w K mg base (L2.CX P w) (3 * n + 3) T.f_ad T.fd_ad ["_law_worth"] (spF K (Gm T d) false 1 (fnD 1 (b_ad S))) := by
  have G := GA d
  refine cw T.F_ad jG rfl rfl (fun h => by cases h) fun cdv A outer s H E hcv hg hr => ?_
  have tk : Takes (cxOf (L2.CX P w) P w K mg base ["_law_worth"] "_law_handed" (defScope bj) T.f_ad cdv A outer s H E) (fun cls d _ H' => E cls d H') := takes_of rfl rfl rfl rfl
  refine ⟨fun _ _ _ => .lst [], fun _ => "", _, (pss_one (ps_ret (pe_ifExp (pt_val (pe_callB (r := rIsi K) call_isi (by rfl) T.z_isinstance (by decide +kernel) (pa_cons (pv 0) (pa_cons (pe_bltn (v := .ty "tuple") (u := .type "tuple") (by rfl) T.z_tuple (by decide +kernel) rfl) pa_nil)))) (pe_make T.M_c (oL T) (hr.mono (by omega)) (by rfl) T.g_c T.b_ae .nil pass0 (pa_cons (pe_ix (r := rIx K) ix_seq (pv 0) pe_int (fun _ _ => rfl)) pa_nil)) (pv 0)))), ?_⟩
  exact (aG (pk (fC (eI af)) (sA (cl_c T d) (aa (ao cI af aq) aj)) af))
theorem lC {n : Nat} {S : Tb} (GA : ∀ d, All P w K mg base T d S (3 * n)) (hz : ∀ a, ¬ d.fz a) : FnG P w K mg base (L2.CX P w) (3 * n + 3) T.f_l T.fd_l ["_law_a_columns", "_law_a_rows", "_law_way"] (spF K (Gm T d) false 3 (fnD 6 (b_l S))) := by
  have G := GA d
  refine cw T.F_l cn rfl rfl (fun h => by cases h) fun cdv A outer s H E hcv hg hr => ?_
  have tk : Takes (cxOf (L2.CX P w) P w K mg base ["_law_a_columns", "_law_a_rows", "_law_way", "_law_told", "_law_kept", "e"] "_law_made" (defScope bM) T.f_l cdv A outer s H E) (fun cls d _ H' => E cls d H') := takes_of rfl rfl rfl rfl
  refine ⟨fun _ _ _ => .lst [], fun _ => "", _, (pss_cons (ps_set (i := 3) cn.nd rfl (by first | exact .inl rfl | exact .inr rfl) pe_non)
    (pss_cons (ps_set (i := 4) cn.nd rfl (by first | exact .inl rfl | exact .inr rfl) pe_non)
    (pss_cons (kT (i := 5) rfl rfl rfl cn.nd rfl rfl ⟨rfl, by decide, .inl T.g_a⟩ tk (fun W pn xe tk _ => (pss_one (ps_if (pt_cmpR (r := dR K) (bP hr.units) (pv 2) pe_int (nomark _)) (pss_one (ps_set (i := 3) cn.nd rfl (by first | exact .inl rfl | exact .inr rfl) (XM.ej T.M_b (FnG.ex (p := fun _ : Zw => True) fun d _ => (GA d).bg) hg (hr.mono (by omega)) (by rfl) T.g_b T.b_f (fun σ => passAt tk σ) (pa_cons (pv 0) (pa_cons (pv 1) pa_nil))))) (pss_one (ps_set (i := 3) cn.nd rfl (by first | exact .inl rfl | exact .inr rfl) (kq (ks := ["rows", "columns"]) (is := [1, 0]) T.M_b (FnG.ex (p := fun _ : Zw => True) fun d _ => (GA d).bg) hg (hr.mono (by omega)) (by rfl) T.g_b (pV (is := [1, 0]) (ks := ["rows", "columns"]) T.F_f fun _ _ _ _ _ _ _ ws h => match ws, h with | [_, _], _ => rfl) (fun σ => passAt tk σ) (pk_cons (pv 1) (pk_cons (pv 0) pk_nil)))))))) (fun a oe cls d pn hz hf => (pss_one (ps_set (i := 4) cn.nd rfl (by first | exact .inl rfl | exact .inr rfl) (pv 5)))))
    (pss_cons (ps_if (pt_cmpR op_notN (pv 4) pe_non (nomark _)) (pss_one (ps_ret (pe_lst (pa_cons pe_str (pa_cons (yT (pv 4)) (pa_cons (pe_callB (r := wZ K) q7 (by rfl) T.z_isinstance (by decide +kernel) (pa_cons (pv 4) (pa_cons (pe_bltn (v := .ty "ValueError") (u := .type "ValueError") (by rfl) T.z_ValueError (by decide +kernel) rfl) pa_nil))) pa_nil)))))) pss_nil)
    (pss_one (ps_ret (pe_lst (pa_cons pe_str (pa_cons (pv 3) pa_nil))))))))), ?_⟩
  exact (az (bt (tg := .one 3) cc)
    (az (bt (tg := .one 4) cc)
    (az (sG (by decide) (oK T d) (fun W => (bK (aJ (ao bQ af aq)) (bt (tg := .one 3) (fN (Γs := Gm T) (fun x => d.push x) (fun _ => rfl) (cl_b T d) (aa af (aa af aj)))) (bt (tg := .one 3) (fN (Γs := Gm T) (fun x => d.push x) (fun _ => rfl) (cl_b T d) (pW (aa af (aa af aj))))))) (fun a cls d D σ H v h q => ⟨v, h, q⟩))
    (az (bK (aJ (ao uI af cc)) (aG (a7 (aa ay (aa (uV (yA T d) af) (aa (xQ (ClsV.ty _) (jU T d) af) aj))))) aP)
    (aG (a7 (aa ay (aa af aj))))))))
theorem gi {n : Nat} {S : Tb} (GA : ∀ d, All P w K mg base T d S (3 * n)) : FnG P w K mg base (L2.CX P w) (3 * n + 3) T.f_v T.fd_v ["_law_draws_here", "_law_heads_here"] (spF K (Gm T d) false 2 (fnD 5 (b_v S))) := by
  have G := GA d
  refine cw T.F_v bG rfl rfl (fun h => by cases h) fun cdv A outer s H E hcv hg hr => ?_
  have tk : Takes (cxOf (L2.CX P w) P w K mg base ["_law_draws_here", "_law_heads_here", "_law_pick", "_law_odd", "_law_at"] "_law_bad_columns" (defScope aK) T.f_v cdv A outer s H E) (fun cls d _ H' => E cls d H') := takes_of rfl rfl rfl rfl
  refine ⟨fun _ _ _ => .lst [], fun _ => "", _, (pss_cons (ps_set (i := 2) bG.nd rfl (by first | exact .inl rfl | exact .inr rfl) (aA G.br hg (hr.mono (by omega)) (by rfl) T.g_e T.F_e.kp T.b_e (fun σ => passAt tk σ) (pa_cons (pv 0) pa_nil)))
    (pss_cons (ps_set (i := 3) bG.nd rfl (by first | exact .inl rfl | exact .inr rfl) (pe_lst (pa_cons (pe_tup (pa_cons pe_str (pa_cons pe_str pa_nil))) (pa_cons (pe_tup (pa_cons pe_str (pa_cons pe_str pa_nil))) (pa_cons (pe_tup (pa_cons pe_str (pa_cons pe_str pa_nil))) (pa_cons (pe_tup (pa_cons pe_str (pa_cons pe_str pa_nil))) (pa_cons (pe_tup (pa_cons pe_int (pa_cons pe_str pa_nil))) (pa_cons (pe_tup (pa_cons pe_str (pa_cons pe_str pa_nil))) pa_nil))))))))
    (pss_cons (ps_set (i := 3) bG.nd rfl (by first | exact .inl rfl | exact .inr rfl) (pe_op (r := cP K) bz (pv 3) (pe_lst (pa_cons (pe_tup (pa_cons pe_str (pa_cons pe_non pa_nil))) (pa_cons (pe_tup (pa_cons pe_str pa_nil)) (pa_cons (pe_tup (pa_cons pe_str (pa_cons pe_str (pa_cons pe_str pa_nil)))) (pa_cons (pe_lst (pa_cons pe_str (pa_cons pe_str pa_nil))) (pa_cons pe_non (pa_cons pe_str (pa_cons (pe_tup (pa_cons pe_str (pa_cons pe_str pa_nil))) pa_nil))))))))))
    (pss_cons (ps_set (i := 4) bG.nd rfl (by first | exact .inl rfl | exact .inr rfl) (pe_op op_mod (pv 2) (pe_op (r := cP K) bz (pe_callB (r := eB K) bU (by rfl) T.z_len (by decide +kernel) (pa_cons (pv 1) pa_nil)) pe_int)))
    (pss_cons (ps_if (pt_cmpR (r := dR K) (bP hr.units) (pe_op op_mod (pe_op op_fdiv (pv 2) pe_int) pe_int) pe_int (nomark _)) (pss_one (ps_ret (pe_ix (r := rIx K) ix_seq (pe_lst (pa_cons (pe_callTy (r := pA K) call_tuple_of (by rfl) T.z_tuple (by decide +kernel) (pa_cons (pv 1) pa_nil)) (pa_cons pe_non (pa_cons pe_int (pa_cons pe_str (pa_cons (pe_lst pa_nil) pa_nil)))))) (pe_op op_mod (pe_op op_fdiv (pv 2) pe_int) pe_int) (fun _ _ => rfl)))) pss_nil)
    (pss_cons (ps_if (pt_cmpR (r := dR K) (bP hr.units) (pe_op op_mod (pe_op op_fdiv (pv 2) pe_int) pe_int) pe_int (nomark _)) (pss_one (ps_ret (pe_op (r := cP K) bz (pv 1) (pe_lst (pa_cons (pe_ix (r := rIx K) ix_seq (pv 1) (pe_op op_mod (pe_op op_fdiv (pv 2) pe_int) (pe_callB (r := eB K) bU (by rfl) T.z_len (by decide +kernel) (pa_cons (pv 1) pa_nil))) (fun _ _ => rfl)) pa_nil))))) pss_nil)
    (pss_one (ps_ret (pe_op (r := cP K) bz (pe_op (r := cP K) bz (pe_slice (r := rSlX K) iA (pv 1) po_none (po_some (pv 4))) (pe_lst (pa_cons (pe_ix (r := rIx K) ix_seq (pv 3) (pe_op op_mod (pe_op op_fdiv (pv 2) pe_int) pe_int) (fun _ _ => rfl)) pa_nil))) (pe_slice (r := rSlX K) iA (pv 1) (po_some (pv 4)) po_none)))))))))), ?_⟩
  exact (az (bt (tg := .one 2) (aE (aa af aj)))
    (az (bt (tg := .one 3) (a7 (aa (b4 (aa ay (aa ay aj))) (aa (b4 (aa ay (aa ay aj))) (aa (b4 (aa ay (aa ay aj))) (aa (b4 (aa ay (aa ay aj))) (aa (b4 (aa aq (aa ay aj))) (aa (b4 (aa ay (aa ay aj))) aj))))))))
    (az (bt (tg := .one 3) (ao bA af (a7 (aa (b4 (aa ay (aa cc aj))) (aa (b4 (aa ay aj)) (aa (b4 (aa ay (aa ay (aa ay aj)))) (aa (a7 (aa ay (aa ay aj))) (aa cc (aa ay (aa (b4 (aa ay (aa ay aj))) aj))))))))))
    (az (bt (tg := .one 4) (ao bh af (ao bA (cN c5 (aa af aj)) aq)))
    (az (bK (aJ (ao bQ (ao bh (ao b8 af aq) aq) aq)) (aG (ao cI (a7 (aa (cN gK (aa af aj)) (aa cc (aa aq (aa ay (aa (a7 aj) aj)))))) (ao bh (ao b8 af aq) aq))) aP)
    (az (bK (aJ (ao bQ (ao bh (ao b8 af aq) aq) aq)) (aG (ao bA af (a7 (aa (ao cI af (ao bh (ao b8 af aq) (cN c5 (aa af aj)))) aj)))) aP)
    (aG (ao bA (ao bA (eO eU af cU (cW af)) (a7 (aa (ao cI af (ao bh (ao b8 af aq) aq)) aj))) (eO eU af (cW af) cU)))))))))
theorem i7 {n : Nat} {S : Tb} (GA : ∀ d, All P w K mg base T d S (3 * n)) : FnG P w K mg base (L2.CX P w) (3 * n + 3) T.f_q T.fd_q ["_law_draws_here", "_law_heads_here", "_law_row"] (spF K (Gm T d) false 3 (fnD 7 (b_q S))) := by
  have G := GA d
  refine cw T.F_q cy rfl rfl (fun h => by cases h) fun cdv A outer s H E hcv hg hr => ?_
  have tk : Takes (cxOf (L2.CX P w) P w K mg base ["_law_draws_here", "_law_heads_here", "_law_row", "_law_pick", "_law_at", "_law_other", "_law_some"] "_law_bad_row" (defScope bc) T.f_q cdv A outer s H E) (fun cls d _ H' => E cls d H') := takes_of rfl rfl rfl rfl
  refine ⟨fun _ _ _ => .lst [], fun _ => "", _, (pss_cons (ps_set (i := 3) cy.nd rfl (by first | exact .inl rfl | exact .inr rfl) (aA G.br hg (hr.mono (by omega)) (by rfl) T.g_e T.F_e.kp T.b_e (fun σ => passAt tk σ) (pa_cons (pv 0) pa_nil)))
    (pss_cons (ps_if (pt_cmpR (r := dR K) (bP hr.units) (pe_op op_mod (pv 3) pe_int) pe_int (nomark _)) (pss_one (ps_ret (pe_ix (r := rIx K) ix_seq (pe_lst (pa_cons (pe_callTy (r := pA K) call_tuple_of (by rfl) T.z_tuple (by decide +kernel) (pa_cons (pv 2) pa_nil)) (pa_cons pe_non (pa_cons pe_int (pa_cons pe_str pa_nil))))) (pe_op op_mod (pe_op op_fdiv (pv 3) pe_int) pe_int) (fun _ _ => rfl)))) pss_nil)
    (pss_cons (ps_if (pt_cmpR (r := dR K) (bP hr.units) (pe_op op_mod (pv 3) pe_int) pe_int (nomark _)) (pss_one (ps_ret (pe_op (r := cP K) bz (pv 2) (pe_lst (pa_cons pe_non pa_nil))))) pss_nil)
    (pss_cons (ps_if (pt_cmpR (r := dR K) (bP hr.units) (pe_op op_mod (pv 3) pe_int) pe_int (nomark _)) (pss_one (ps_ret (pe_slice (r := rSlX K) iA (pv 2) (po_some pe_int) po_none))) pss_nil)
    (pss_cons (ps_set (i := 4) cy.nd rfl (by first | exact .inl rfl | exact .inr rfl) (pe_op op_mod (pe_op op_fdiv (pv 3) pe_int) (pe_callB (r := eB K) bU (by rfl) T.z_len (by decide +kernel) (pa_cons (pv 2) pa_nil))))
    (pss_cons (ps_set (i := 5) cy.nd rfl (by first | exact .inl rfl | exact .inr rfl) (pe_disp (pps_cons pe_str (pe_lst (pa_cons pe_str (pa_cons pe_bl (pa_cons pe_bl (pa_cons (pe_make T.M_c (oL T) (hr.mono (by omega)) (by rfl) T.g_c T.b_ae .nil pass0 (pa_cons pe_int pa_nil)) (pa_cons (pe_tup (pa_cons pe_str pa_nil)) pa_nil)))))) (pps_cons pe_str (pe_lst (pa_cons pe_int (pa_cons pe_bl (pa_cons (pe_make T.M_c (oL T) (hr.mono (by omega)) (by rfl) T.g_c T.b_ae .nil pass0 (pa_cons pe_int pa_nil)) (pa_cons (pe_tup (pa_cons pe_str pa_nil)) pa_nil))))) pps_nil)) rfl rfl (by simp) (by decide)))
    (pss_cons (ps_dput (hu_of hr) (pv 5) pe_str (pe_lst (pa_cons pe_int (pa_cons pe_str (pa_cons (pe_tup (pa_cons pe_int (pa_cons pe_int (pa_cons pe_int pa_nil)))) (pa_cons pe_bl pa_nil))))) rfl)
    (pss_cons (ps_set (i := 6) cy.nd rfl (by first | exact .inl rfl | exact .inr rfl) (pe_dget (hu_of hr) (pv 5) (pe_ix (r := rIx K) ix_seq (pe_ix (r := rIx K) ix_seq (pv 1) (pv 4) (fun _ _ => rfl)) pe_int (fun _ _ => rfl)) (fun _ _ => rfl)))
    (pss_one (ps_ret (pe_op (r := cP K) bz (pe_op (r := cP K) bz (pe_slice (r := rSlX K) iA (pv 2) po_none (po_some (pv 4))) (pe_lst (pa_cons (pe_ix (r := rIx K) ix_seq (pv 6) (pe_op op_mod (pe_op op_fdiv (pv 3) pe_int) (pe_callB (r := eB K) bU (by rfl) T.z_len (by decide +kernel) (pa_cons (pv 6) pa_nil))) (fun _ _ => rfl)) pa_nil))) (pe_slice (r := rSlX K) iA (pv 2) (po_some (pe_op (r := cP K) bz (pv 4) pe_int)) po_none)))))))))))), ?_⟩
  exact (az (bt (tg := .one 3) (aE (aa af aj)))
    (az (bK (aJ (ao bQ (ao bh af aq) aq)) (aG (ao cI (a7 (aa (cN gK (aa af aj)) (aa cc (aa aq (aa ay aj))))) (ao bh (ao b8 af aq) aq))) aP)
    (az (bK (aJ (ao bQ (ao bh af aq) aq)) (aG (ao bA af (a7 (aa cc aj)))) aP)
    (az (bK (aJ (ao bQ (ao bh af aq) aq)) (aG (eO eU af (cW aq) cU)) aP)
    (az (bt (tg := .one 4) (ao bh (ao b8 af aq) (cN c5 (aa af aj))))
    (az (nV (uL (SP.cons (a7 (aa ay (aa dg (aa dg (aa (sA (cl_c T d) (aa aq aj)) (aa (b4 (aa ay aj)) aj)))))) (SP.cons (a7 (aa aq (aa dg (aa (sA (cl_c T d) (aa aq aj)) (aa (b4 (aa ay aj)) aj))))) SP.nil))))
    (az (xu ay (a7 (aa aq (aa ay (aa (b4 (aa aq (aa aq (aa aq aj)))) (aa dg aj))))))
    (az (lW (i := 5) (bt (tg := .one 6) (uK af (ao cI (ao cI af af) aq))))
    (aG (ao bA (ao bA (eO eU af cU (cW af)) (a7 (aa (ao cI af (ao bh (ao b8 af aq) (cN c5 (aa af aj)))) aj))) (eO eU af (cW (ao bA af aq)) cU)))))))))))
theorem fw {n : Nat} {S : Tb} (GA : ∀ d, All P w K mg base T d S (3 * n)) (hz : ∀ a, ¬ d.fz a) : FnG P w K mg base (L2.CX P w) (3 * n + 3) T.f_w T.fd_w ["_law_draws_here", "_law_heads_here", "_law_a_rows"] (spF K (Gm T d) false 3 (fnD 9 (b_w S))) := by
  have G := GA d
  refine cw T.F_w aS rfl rfl (fun h => by cases h) fun cdv A outer s H E hcv hg hr => ?_
  have tk : Takes (cxOf (L2.CX P w) P w K mg base ["_law_draws_here", "_law_heads_here", "_law_a_rows", "_law_bad", "_law_way", "_law_at", "_law_one", "_law_some", "_law_head"] "_law_refused_right" (defScope aD) T.f_w cdv A outer s H E) (fun cls d _ H' => E cls d H') := takes_of rfl rfl rfl rfl
  refine ⟨fun _ _ _ => .lst [], fun _ => "", _, (pss_cons (ps_set (i := 3) aS.nd rfl (by first | exact .inl rfl | exact .inr rfl) (aA G.gD hg (hr.mono (by omega)) (by rfl) T.g_v T.F_v.kp T.b_v (fun σ => passAt tk σ) (pa_cons (pv 0) (pa_cons (pv 1) pa_nil))))
    (pss_cons (ps_for (passes_of rfl) rfl (pi_range1 (by rfl) T.z_range (pa_cons pe_int pa_nil)) (pg_name (i := 4) aS.nd rfl (by first | exact .inl rfl | exact .inr rfl)) (pss_one (ps_if (pt_cmpR (r := jP K) (fH hr.units) (aA (G.fR hz) hg (hr.mono (by omega)) (by rfl) T.g_l T.F_l.kp T.b_l (fun σ => passAt tk σ) (pa_cons (pv 3) (pa_cons (pv 2) (pa_cons (pv 4) pa_nil)))) (pe_lst (pa_cons pe_str (pa_cons pe_non (pa_cons pe_bl pa_nil)))) (nomark _)) (pss_one (ps_ret pe_bl)) pss_nil)))
    (pss_cons (ps_if (pt_cmpR (r := jP K) (fH hr.units) (aA (G.fR hz) hg (hr.mono (by omega)) (by rfl) T.g_l T.F_l.kp T.b_l (fun σ => passAt tk σ) (pa_cons (pv 1) (pa_cons (pe_ix (r := rIx K) ix_seq (pe_lst (pa_cons (pe_callTy (r := pA K) call_tuple_of (by rfl) T.z_tuple (by decide +kernel) (pa_cons (pv 2) pa_nil)) (pa_cons pe_non (pa_cons pe_str pa_nil)))) (pe_op op_mod (aA G.br hg (hr.mono (by omega)) (by rfl) T.g_e T.F_e.kp T.b_e (fun σ => passAt tk σ) (pa_cons (pv 0) pa_nil)) pe_int) (fun _ _ => rfl)) (pa_cons pe_int pa_nil)))) (pe_lst (pa_cons pe_str (pa_cons pe_non (pa_cons pe_bl pa_nil)))) (nomark _)) (pss_one (ps_ret pe_bl)) pss_nil)
    (pss_cons (ps_set (i := 5) aS.nd rfl (by first | exact .inl rfl | exact .inr rfl) (pe_op op_mod (aA G.br hg (hr.mono (by omega)) (by rfl) T.g_e T.F_e.kp T.b_e (fun σ => passAt tk σ) (pa_cons (pv 0) pa_nil)) (pe_op (r := cP K) bz (pe_callB (r := eB K) bU (by rfl) T.z_len (by decide +kernel) (pa_cons (pv 2) pa_nil)) pe_int)))
    (pss_cons (XC.eM (i := 6) (own := [("_law_head", 8)]) (g := gOf K (.one 8)) (tt := fun _ => tYes) rfl aS.nd rfl rfl (sw_true rfl rfl rfl rfl) (XC.fm0 rfl rfl) (XC.bf tk) (bT (pv 1)) (blkOk_by (own := [("_law_head", 8)]) (N := ["_law_draws_here", "_law_heads_here", "_law_a_rows", "_law_bad", "_law_way", "_law_at", "_law_one", "_law_some", "_law_head"]) (sc := defScope aD) (by decide +kernel)) (fun _ _ _ _ _ _ => (pg_name (i := 8) aS.nd rfl (by first | exact .inl rfl | exact .inr rfl))) (fun _ _ _ _ _ _ => pts_nil) (fun _ _ _ _ _ _ => pe_non))
    (pss_cons (ps_set (i := 7) aS.nd rfl (by first | exact .inl rfl | exact .inr rfl) (pe_op op_cat (pe_op (r := cP K) bz (pe_slice (r := rSlX K) iA (pv 2) po_none (po_some (pv 5))) (pe_lst (pa_cons (aA G.fS hg (hr.mono (by omega)) (by rfl) T.g_q T.F_q.kp T.b_q (fun σ => passAt tk σ) (pa_cons (pv 0) (pa_cons (pv 1) (pa_cons (pv 6) pa_nil)))) pa_nil))) (pe_slice (r := rSlX K) iA (pv 2) (po_some (pv 5)) po_none)))
    (pss_cons (ps_if (pt_cmpR (r := dR K) (bP hr.units) (pe_op op_mod (aA G.br hg (hr.mono (by omega)) (by rfl) T.g_e T.F_e.kp T.b_e (fun σ => passAt tk σ) (pa_cons (pv 0) pa_nil)) pe_int) pe_int (nomark _)) (pss_one (ps_expr (pe_bm PySem.F.plainAttrs_list PySem.F.slot_list_append PySem.F.type_list_append mt_append (pv 7) (pa_cons (aA G.fS hg (hr.mono (by omega)) (by rfl) T.g_q T.F_q.kp T.b_q (fun σ => passAt tk σ) (pa_cons (pv 0) (pa_cons (pv 1) (pa_cons (pv 6) pa_nil)))) pa_nil)))) pss_nil)
    (pss_one (ps_ret (pe_cmpR (r := dR K) (bP hr.units) (aA (G.fR hz) hg (hr.mono (by omega)) (by rfl) T.g_l T.F_l.kp T.b_l (fun σ => passAt tk σ) (pa_cons (pv 1) (pa_cons (pv 7) (pa_cons pe_int pa_nil)))) (pe_lst (pa_cons pe_str (pa_cons (pv 5) (pa_cons pe_bl pa_nil)))) (nomark _))))))))))), ?_⟩
  exact (az (bt (tg := .one 3) (aE (aa af (aa af aj))))
    (az (iz (tg := (.one 4)) (jn (aa aq aj)) (bK (aJ (ao fI (aE (aa af (aa af (aa af aj)))) (a7 (aa ay (aa cc (aa dg aj)))))) (aG dg) aP))
    (az (bK (aJ (ao fI (aE (aa af (aa (ao cI (a7 (aa (cN gK (aa af aj)) (aa cc (aa ay aj)))) (ao bh (aE (aa af aj)) aq)) (aa aq aj)))) (a7 (aa ay (aa cc (aa dg aj)))))) (aG dg) aP)
    (az (bt (tg := .one 5) (ao bh (aE (aa af aj)) (ao bA (cN c5 (aa af aj)) aq)))
    (az (bt (tg := .one 6) (dV (tg := (.one 8)) (cg af) (fun _ => cf) (fun _ => cc)))
    (az (nV (yW xw (ao bA (eO eU af cU (cW af)) (a7 (aa (aE (aa af (aa af (aa af aj)))) aj))) (eO eU af (cW af) cU)))
    (az (bK (aJ (ao bQ (ao bh (aE (aa af aj)) aq) aq)) (qt (aE (aa af (aa af (aa af aj))))) aP)
    (lW (i := 7) (aG (ao bQ (aE (aa af (aa af (aa aq aj)))) (a7 (aa ay (aa af (aa dg aj))))))))))))))
theorem lD {n : Nat} {S : Tb} (GA : ∀ d, All P w K mg base T d S (3 * n)) : FnG P w K mg base (L2.CX P w) (3 * n + 3) T.f_x T.fd_x ["_law_worth"] (spF K (Gm T d) false 1 (fnD 1 (b_x S))) := by
  have G := GA d
  refine cw T.F_x lx rfl rfl (fun h => by cases h) fun cdv A outer s H E hcv hg hr => ?_
  have tk : Takes (cxOf (L2.CX P w) P w K mg base ["_law_worth"] "_law_door" (defScope bN) T.f_x cdv A outer s H E) (fun cls d _ H' => E cls d H') := takes_of rfl rfl rfl rfl
  refine ⟨fun _ _ _ => .lst [], fun _ => "", _, (pss_cons (ps_if (pt_val (pe_callB (r := rIsi K) call_isi (by rfl) T.z_isinstance (by decide +kernel) (pa_cons (pv 0) (pa_cons (pe_glob (v := .ref T.C_c) (by rfl) T.g_c rfl) pa_nil)))) (pss_one (ps_ret (d5 (K := K) rfl (pv 0) (by rfl)))) pss_nil)
    (pss_one (ps_ret (pe_ix (r := rIx K) ix_seq (pe_lst (pa_cons (pv 0) (pa_cons pe_non pa_nil))) (pe_callTy call_int1 (by rfl) T.z_int (by decide +kernel) (pa_cons (pe_cmpR (r := dR K) (bP hr.units) (pv 0) pe_str (nomark _)) pa_nil)) (fun _ _ => rfl))))), ?_⟩
  exact (az (bK (fC (n6 (cl_c T d) (eK T) af)) (aG (pG (ky T d) af)) aP)
    (aG (ao cI (a7 (aa af (aa cc aj))) (cN kI (aa (ao bQ af ay) aj)))))
theorem gE {n : Nat} {S : Tb} (GA : ∀ d, All P w K mg base T d S (3 * n)) : FnG P w K mg base (L2.CX P w) (3 * n + 3) T.f_y T.fd_y ["_law_draws_here"] (spF K (Gm T d) false 1 (fnD 2 (b_y S))) := by
  have G := GA d
  refine cw T.F_y de rfl rfl (fun h => by cases h) fun cdv A outer s H E hcv hg hr => ?_
  have tk : Takes (cxOf (L2.CX P w) P w K mg base ["_law_draws_here", "_law_heads_here"] "_law_more_heads" (defScope aN) T.f_y cdv A outer s H E) (fun cls d _ H' => E cls d H') := takes_of rfl rfl rfl rfl
  refine ⟨fun _ _ _ => .lst [], fun _ => "", _, (pss_cons (ps_set (i := 1) de.nd rfl (by first | exact .inl rfl | exact .inr rfl) (aA G.lA hg (hr.mono (by omega)) (by rfl) T.g_u T.F_u.kp T.b_u (fun σ => passAt tk σ) (pa_cons (pv 0) (pa_cons pe_str (pa_cons pe_str pa_nil)))))
    (pss_cons (ps_if (pt_cmpR (r := dR K) (bP hr.units) (pe_op op_mod (aA G.br hg (hr.mono (by omega)) (by rfl) T.g_e T.F_e.kp T.b_e (fun σ => passAt tk σ) (pa_cons (pv 0) pa_nil)) pe_int) pe_int (nomark _)) (pss_one (ps_set (i := 1) de.nd rfl (by first | exact .inl rfl | exact .inr rfl) (pe_op (r := cP K) bz (pv 1) (pe_lst (pa_cons (pe_tup (pa_cons (pe_ix (r := rIx K) ix_seq (pe_lst (pa_cons pe_str (pa_cons pe_str (pa_cons pe_str (pa_cons pe_str pa_nil))))) (pe_op op_mod (aA G.br hg (hr.mono (by omega)) (by rfl) T.g_e T.F_e.kp T.b_e (fun σ => passAt tk σ) (pa_cons (pv 0) pa_nil)) pe_int) (fun _ _ => rfl)) (pa_cons pe_str pa_nil))) pa_nil))))) pss_nil)
    (pss_one (ps_ret (pv 1))))), ?_⟩
  exact (az (bt (tg := .one 1) (aE (aa af (aa ay (aa ay aj)))))
    (az (bK (aJ (ao bQ (ao bh (aE (aa af aj)) aq) aq)) (bt (tg := .one 1) (ao bA af (a7 (aa (b4 (aa (ao cI (a7 (aa ay (aa ay (aa ay (aa ay aj))))) (ao bh (aE (aa af aj)) aq)) (aa ay aj))) aj)))) aP)
    (aG af)))
theorem jZ {n : Nat} {S : Tb} (GA : ∀ d, All P w K mg base T d S (3 * n)) (hz : ∀ a, ¬ d.fz a) : FnG P w K mg base (L2.CX P w) (3 * n + 3) T.f_z T.fd_z ["_law_draws_here"] (spF K (Gm T d) false 1 (fnD 19 (b_z S))) := by
  have G := GA d
  refine cw T.F_z au rfl rfl (fun h => by cases h) fun cdv A outer s H E hcv hg hr => ?_
  have tk : Takes (cxOf (L2.CX P w) P w K mg base ["_law_draws_here", "_law_heads_here", "_law_many", "_law_a_rows", "_law_row", "_law_handed_here", "_law_a_table", "_law_turn", "_law_told", "_law_more", "_law_other", "_law_door_here", "_law_kinds", "_law_some", "_law_k", "_law_head", "_law_a_name", "_law_kind", "_law_worth"] "_law_right" (defScope aR) T.f_z cdv A outer s H E) (fun cls d _ H' => E cls d H') := takes_of rfl rfl rfl rfl
  refine ⟨fun _ _ _ => .lst [], fun _ => "", _, (pss_cons (ps_set (i := 1) au.nd rfl (by first | exact .inl rfl | exact .inr rfl) (aA G.ic hg (hr.mono (by omega)) (by rfl) T.g_y T.F_y.kp T.b_y (fun σ => passAt tk σ) (pa_cons (pv 0) pa_nil)))
    (pss_cons (ps_set (i := 2) au.nd rfl (by first | exact .inl rfl | exact .inr rfl) (pe_op op_mod (aA G.br hg (hr.mono (by omega)) (by rfl) T.g_e T.F_e.kp T.b_e (fun σ => passAt tk σ) (pa_cons (pv 0) pa_nil)) pe_int))
    (pss_cons (XC.eM (i := 3) (own := [("_law_k", 14)]) (g := gOf K (.one 14)) (tt := fun _ => tYes) rfl au.nd rfl rfl (sw_true rfl rfl rfl rfl) (XC.fm0 rfl rfl) (XC.bf tk) (pi_range1 (by rfl) T.z_range (pa_cons (pv 2) pa_nil)) (blkOk_by (own := [("_law_k", 14)]) (N := ["_law_draws_here", "_law_heads_here", "_law_many", "_law_a_rows", "_law_row", "_law_handed_here", "_law_a_table", "_law_turn", "_law_told", "_law_more", "_law_other", "_law_door_here", "_law_kinds", "_law_some", "_law_k", "_law_head", "_law_a_name", "_law_kind", "_law_worth"]) (sc := defScope aR) (by decide +kernel)) (fun _ _ _ _ _ _ => (pg_name (i := 14) au.nd rfl (by first | exact .inl rfl | exact .inr rfl))) (fun _ _ _ _ _ _ => pts_nil) (fun _ _ _ _ _ _ => (XC.dk (own := [("_law_a_name", 16), ("_law_kind", 17)]) (g := gOf K (.many [(.one 16), (.one 17)])) (tt := fun _ => tYes) (wi := qA K _) rfl au.nd (XC.nO (XC.fm0 rfl rfl)) XC.cz (bT (pv 1)) (blkOk_by (own := [("_law_a_name", 16), ("_law_kind", 17)]) (N := ["_law_draws_here", "_law_heads_here", "_law_many", "_law_a_rows", "_law_row", "_law_handed_here", "_law_a_table", "_law_turn", "_law_told", "_law_more", "_law_other", "_law_door_here", "_law_kinds", "_law_some", "_law_k", "_law_head", "_law_a_name", "_law_kind", "_law_worth"]) (by kernel_rfl)) (fun _ _ _ _ _ _ => (pg_tup (by rfl) (pgs_cons (pg_name (i := 16) au.nd rfl (by first | exact .inl rfl | exact .inr rfl)) (pgs_cons (pg_name (i := 17) au.nd rfl (by first | exact .inl rfl | exact .inr rfl)) pgs_nil)))) (fun _ _ _ _ _ _ => pts_nil) (fun _ _ _ _ _ _ => (aA G.jV hg (hr.mono (by omega)) (by rfl) T.g_ad T.F_ad.kp T.b_ad (fun σ => XC.jg XC.cz σ) (pa_cons (aA G.nh hg (hr.mono (by omega)) (by rfl) T.g_t T.F_t.kp T.b_t (fun σ => XC.jg XC.cz σ) (pa_cons (pv 0) (pa_cons pe_str (pa_cons (pv 17) pa_nil)))) pa_nil))))))
    (pss_cons (ps_set (i := 3) au.nd rfl (by first | exact .inl rfl | exact .inr rfl) (pe_op (r := cP K) bz (pv 3) (pe_slice (r := rSlX K) iA (pv 3) po_none (po_some (pe_op op_mod (aA G.br hg (hr.mono (by omega)) (by rfl) T.g_e T.F_e.kp T.b_e (fun σ => passAt tk σ) (pa_cons (pv 0) pa_nil)) pe_int)))))
    (pss_cons (ps_set (i := 5) au.nd rfl (by first | exact .inl rfl | exact .inr rfl) (pe_tup (pa_cons (pe_callTy (bB (K := K) rfl) (by rfl) T.z_list (by decide +kernel) (pa_cons (pv 1) pa_nil)) (pa_cons (XC.dk (own := [("_law_row", 4)]) (g := gOf K (.one 4)) (tt := fun _ => tYes) rfl au.nd (XC.fm0 rfl rfl) (XC.bf tk) (bT (pv 3)) (blkOk_by (own := [("_law_row", 4)]) (N := ["_law_draws_here", "_law_heads_here", "_law_many", "_law_a_rows", "_law_row", "_law_handed_here", "_law_a_table", "_law_turn", "_law_told", "_law_more", "_law_other", "_law_door_here", "_law_kinds", "_law_some", "_law_k", "_law_head", "_law_a_name", "_law_kind", "_law_worth"]) (sc := defScope aR) (by decide +kernel)) (fun _ _ _ _ _ _ => (pg_name (i := 4) au.nd rfl (by first | exact .inl rfl | exact .inr rfl))) (fun _ _ _ _ _ _ => pts_nil) (fun _ _ _ _ _ _ => (pe_callTy (bB (K := K) rfl) (by rfl) T.z_list (by decide +kernel) (pa_cons (pv 4) pa_nil)))) pa_nil))))
    (pss_cons (ps_set (i := 6) au.nd rfl (by first | exact .inl rfl | exact .inr rfl) (XM.ej T.M_b (FnG.ex (p := fun _ : Zw => True) fun d _ => (GA d).qP) hg (hr.mono (by omega)) (by rfl) T.g_b T.b_f (fun σ => passAt tk σ) (pa_cons (pe_ix (r := rIx K) ix_seq (pv 5) pe_int (fun _ _ => rfl)) (pa_cons (pe_ix (r := rIx K) ix_seq (pv 5) pe_int (fun _ _ => rfl)) pa_nil))))
    (pss_cons (ps_expr (pe_bm0 PySem.F.plainAttrs_list PySem.F.slot_list_clear PySem.F.type_list_clear mt_clear (pe_ix (r := rIx K) ix_seq (pv 5) pe_int (fun _ _ => rfl))))
    (pss_cons (ps_for (passes_of rfl) rfl (bT (pe_ix (r := rIx K) ix_seq (pv 5) pe_int (fun _ _ => rfl))) (pg_name (i := 4) au.nd rfl (by first | exact .inl rfl | exact .inr rfl)) (pss_one (ps_expr (pe_bm PySem.F.plainAttrs_list PySem.F.slot_list_append PySem.F.type_list_append mt_append (pv 4) (pa_cons pe_non pa_nil)))))
    (pss_cons (ps_for (passes_of rfl) rfl (pi_range1 (by rfl) T.z_range (pa_cons pe_int pa_nil)) (pg_name (i := 7) au.nd rfl (by first | exact .inl rfl | exact .inr rfl)) (pss_cons (ps_set (i := 8) au.nd rfl (by first | exact .inl rfl | exact .inr rfl) (pe_tup (pa_cons (XM.d6 (pv 6) T.cl_b T.m_i G.dS hg (hr.mono (by omega)) T.b_i (fun σ => passAt tk σ)) (pa_cons (XM.d6 (pv 6) T.cl_b T.m_g G.qQ hg (hr.mono (by omega)) T.b_g (fun σ => passAt tk σ)) pa_nil))))
    (pss_cons (ps_if (PW.pt (pw_or (pt_cmpR (r := yx K (fun x y b H => DL (DL (DI2 K T.C_c "number")) x y b H ∨ DDp K x y b H)) (yy (n := 1) (j := 2) (EqB.or (mS (mS (EqB.or (EqB.or mO (pS (ia T) (eK T) T.m_h.at_ T.m_h.fn T.b_h)) (tw (ia T) (eK T) T.m_h.at_ T.m_h.fn T.b_h T.e_snn_Day)) tA) (mR tA)) yw) (by decide) (hr.mono (by omega))) (pv 8) (pe_tup (pa_cons (pv 1) (pa_cons (pv 3) pa_nil))) (nomark _)) (pw_or1 (pt_not (pt_val (pe_callB (r := rIsi K) call_isi (by rfl) T.z_isinstance (by decide +kernel) (pa_cons (pe_ix (r := rIx K) ix_seq (pv 8) pe_int (fun _ _ => rfl)) (pa_cons (pe_bltn (v := .ty "list") (u := .type "list") (by rfl) T.z_list (by decide +kernel) rfl) pa_nil)))))))) (pss_one (ps_ret pe_bl)) pss_nil)
    (pss_cons (ps_expr (pe_bm PySem.F.plainAttrs_list PySem.F.slot_list_append PySem.F.type_list_append mt_append (pe_ix (r := rIx K) ix_seq (pv 8) pe_int (fun _ _ => rfl)) (pa_cons pe_non pa_nil)))
    (pss_cons (ps_for (passes_of rfl) rfl (bT (pe_ix (r := rIx K) ix_seq (pv 8) pe_int (fun _ _ => rfl))) (pg_name (i := 4) au.nd rfl (by first | exact .inl rfl | exact .inr rfl)) (pss_one (ps_expr (pe_bm PySem.F.plainAttrs_list PySem.F.slot_list_append PySem.F.type_list_append mt_append (pv 4) (pa_cons pe_non pa_nil)))))
    (pss_one (ps_expr (pe_bm PySem.F.plainAttrs_list PySem.F.slot_list_append PySem.F.type_list_append mt_append (pe_ix (r := rIx K) ix_seq (pv 8) pe_int (fun _ _ => rfl)) (pa_cons pe_non pa_nil)))))))))
    (pss_cons (ps_if (PW.pt (pw_or (pt_not (pt_cmpR (r := rObj T.C_b (spF K (Gm T d) false 2 (S 23)) id) (hC G.bR T.m_d.at_ T.m_d.fn T.b_d hg (hr.mono (by omega))) (pv 6) (XM.ej T.M_b (FnG.ex (p := fun _ : Zw => True) fun d _ => (GA d).bg) hg (hr.mono (by omega)) (by rfl) T.g_b T.b_f (fun σ => passAt tk σ) (pa_cons (pv 1) (pa_cons (vj (pv 3)) pa_nil))) (nomark _))) (pw_or1 (pt_cmpR (r := tL K T.C_b (spF K (Gm T d) false 2 (S 23))) (qL G.bR T.m_d.at_ T.m_d.fn T.b_d hg (hr.mono (by omega))) (pv 6) (pv 3) (nomark _))))) (pss_one (ps_ret pe_bl)) pss_nil)
    (pss_cons (ps_if (pt_cmpR (r := rObj T.C_b (spF K (Gm T d) false 2 (S 23)) not) (mT G.bR T.m_d.at_ T.m_d.fn T.e_ne_Table T.e_mro_Table T.b_d hg (hr.mono (by omega))) (pv 6) (kq (ks := ["rows", "columns"]) (is := [1, 0]) T.M_b (FnG.ex (p := fun _ : Zw => True) fun d _ => (GA d).bg) hg (hr.mono (by omega)) (by rfl) T.g_b (pV (is := [1, 0]) (ks := ["rows", "columns"]) T.F_f fun _ _ _ _ _ _ _ ws h => match ws, h with | [_, _], _ => rfl) (fun σ => passAt tk σ) (pk_cons (pv 3) (pk_cons (pv 1) pk_nil))) (nomark _)) (pss_one (ps_ret pe_bl)) pss_nil)
    (pss_cons (XC.eM (i := 9) (own := [("_law_head", 15)]) (g := gOf K (.one 15)) (tt := fun _ => tYes) rfl au.nd rfl rfl (sw_true rfl rfl rfl rfl) (XC.fm0 rfl rfl) (XC.bf tk) (bT (pv 1)) (blkOk_by (own := [("_law_head", 15)]) (N := ["_law_draws_here", "_law_heads_here", "_law_many", "_law_a_rows", "_law_row", "_law_handed_here", "_law_a_table", "_law_turn", "_law_told", "_law_more", "_law_other", "_law_door_here", "_law_kinds", "_law_some", "_law_k", "_law_head", "_law_a_name", "_law_kind", "_law_worth"]) (sc := defScope aR) (by decide +kernel)) (fun _ _ _ _ _ _ => (pg_name (i := 15) au.nd rfl (by first | exact .inl rfl | exact .inr rfl))) (fun _ _ _ _ _ _ => pts_nil) (fun _ _ _ _ _ _ => pe_non))
    (pss_cons (ps_set (i := 10) au.nd rfl (by first | exact .inl rfl | exact .inr rfl) (XM.ej T.M_b (FnG.ex (p := fun _ : Zw => True) fun d _ => (GA d).bg) hg (hr.mono (by omega)) (by rfl) T.g_b T.b_f (fun σ => passAt tk σ) (pa_cons (pv 1) (pa_cons (pe_op (r := cP K) bz (pv 3) (pe_lst (pa_cons (pv 9) pa_nil))) pa_nil))))
    (pss_cons (ps_if (PW.pt (pw_or (pt_cmpR (r := rObj T.C_b (spF K (Gm T d) false 2 (S 23)) id) (hC G.bR T.m_d.at_ T.m_d.fn T.b_d hg (hr.mono (by omega))) (pv 6) (pv 10) (nomark _)) (pw_or1 (pt_not (pt_cmpR (r := rObj T.C_b (spF K (Gm T d) false 2 (S 23)) not) (mT G.bR T.m_d.at_ T.m_d.fn T.e_ne_Table T.e_mro_Table T.b_d hg (hr.mono (by omega))) (pv 6) (XM.ej T.M_b (FnG.ex (p := fun _ : Zw => True) fun d _ => (GA d).bg) hg (hr.mono (by omega)) (by rfl) T.g_b T.b_f (fun σ => passAt tk σ) (pa_cons (pe_op (r := cP K) bz (pe_lst (pa_cons (pe_tup (pa_cons pe_str (pa_cons (pe_ix (r := rIx K) ix_seq (pe_ix (r := rIx K) ix_seq (pv 1) pe_int (fun _ _ => rfl)) pe_int (fun _ _ => rfl)) pa_nil))) pa_nil)) (pe_slice (r := rSlX K) iA (pv 1) (po_some pe_int) po_none)) (pa_cons (pv 3) pa_nil))) (nomark _)))))) (pss_one (ps_ret pe_bl)) pss_nil)
    (pss_cons (ps_if (PW.pt (pw_and (pt_cmpR (r := yc K) (yd hr.units) (pv 3) (pe_lst pa_nil) (nomark _)) (pw_and1 (pt_cmpR (r := jP K) (fH hr.units) (pe_cmpR (r := rObj T.C_b (spF K (Gm T d) false 2 (S 23)) id) (hC G.bR T.m_d.at_ T.m_d.fn T.b_d hg (hr.mono (by omega))) (XM.ej T.M_b (FnG.ex (p := fun _ : Zw => True) fun d _ => (GA d).bg) hg (hr.mono (by omega)) (by rfl) T.g_b T.b_f (fun σ => passAt tk σ) (pa_cons (pv 1) (pa_cons (pe_op (r := cP K) bz (pv 3) (pe_slice (r := rSlX K) iA (pv 3) po_none (po_some pe_int))) pa_nil))) (pv 10) (nomark _)) (pe_cmpR (r := vo false (DL (DI2 K T.C_c "number"))) (vp (n := 1) (j := 1) (mQ (EqB.or (EqB.or mO (pS (ia T) (eK T) T.m_h.at_ T.m_h.fn T.b_h)) (tw (ia T) (eK T) T.m_h.at_ T.m_h.fn T.b_h T.e_snn_Day))) (by decide) (hr.mono (by omega))) (pe_ix (r := rIx K) ix_seq (pv 3) pe_int (fun _ _ => rfl)) (pv 9) (nomark _)) (nomark _))))) (pss_one (ps_ret pe_bl)) pss_nil)
    (pss_cons (ps_set (i := 11) au.nd rfl (by first | exact .inl rfl | exact .inr rfl) (aA (G.fQ hz) hg (hr.mono (by omega)) (by rfl) T.g_p T.F_p.kp T.b_p (fun σ => passAt tk σ) (pa_cons (pv 6) pa_nil)))
    (pss_cons (XC.eM (i := 12) (own := [("_law_a_name", 16), ("_law_kind", 17)]) (g := gOf K (.many [(.one 16), (.one 17)])) (tt := fun _ => tYes) rfl au.nd rfl rfl (sw_true rfl rfl rfl rfl) (XC.fm0 rfl rfl) (XC.bf tk) (bT (pv 1)) (blkOk_by (own := [("_law_a_name", 16), ("_law_kind", 17)]) (N := ["_law_draws_here", "_law_heads_here", "_law_many", "_law_a_rows", "_law_row", "_law_handed_here", "_law_a_table", "_law_turn", "_law_told", "_law_more", "_law_other", "_law_door_here", "_law_kinds", "_law_some", "_law_k", "_law_head", "_law_a_name", "_law_kind", "_law_worth"]) (sc := defScope aR) (by decide +kernel)) (fun _ _ _ _ _ _ => (pg_tup (by rfl) (pgs_cons (pg_name (i := 16) au.nd rfl (by first | exact .inl rfl | exact .inr rfl)) (pgs_cons (pg_name (i := 17) au.nd rfl (by first | exact .inl rfl | exact .inr rfl)) pgs_nil)))) (fun _ _ _ _ _ _ => pts_nil) (fun _ _ _ _ _ _ => (pe_tup (pa_cons (pv 16) (pa_cons (pe_ix (r := rIx K) ix_seq (pe_lst (pa_cons (pv 17) (pa_cons pe_str pa_nil))) (pe_callTy call_int1 (by rfl) T.z_int (by decide +kernel) (pa_cons (pe_cmpR (r := dR K) (bP hr.units) (pv 17) pe_str (nomark _)) pa_nil)) (fun _ _ => rfl)) pa_nil)))))
    (pss_cons (XC.eM (i := 13) (own := [("_law_row", 4)]) (g := gOf K (.one 4)) (tt := fun _ => tYes) rfl au.nd rfl rfl (sw_true rfl rfl rfl rfl) (XC.fm0 rfl rfl) (XC.bf tk) (bT (pv 3)) (blkOk_by (own := [("_law_row", 4)]) (N := ["_law_draws_here", "_law_heads_here", "_law_many", "_law_a_rows", "_law_row", "_law_handed_here", "_law_a_table", "_law_turn", "_law_told", "_law_more", "_law_other", "_law_door_here", "_law_kinds", "_law_some", "_law_k", "_law_head", "_law_a_name", "_law_kind", "_law_worth"]) (sc := defScope aR) (by decide +kernel)) (fun _ _ _ _ _ _ => (pg_name (i := 4) au.nd rfl (by first | exact .inl rfl | exact .inr rfl))) (fun _ _ _ _ _ _ => pts_nil) (fun _ _ _ _ _ _ => (XC.dk (own := [("_law_worth", 18)]) (g := gOf K (.one 18)) (tt := fun _ => tYes) (wi := qA K _) rfl au.nd (XC.nO (XC.fm0 rfl rfl)) XC.cz (bT (pv 4)) (blkOk_by (own := [("_law_worth", 18)]) (N := ["_law_draws_here", "_law_heads_here", "_law_many", "_law_a_rows", "_law_row", "_law_handed_here", "_law_a_table", "_law_turn", "_law_told", "_law_more", "_law_other", "_law_door_here", "_law_kinds", "_law_some", "_law_k", "_law_head", "_law_a_name", "_law_kind", "_law_worth"]) (by kernel_rfl)) (fun _ _ _ _ _ _ => (pg_name (i := 18) au.nd rfl (by first | exact .inl rfl | exact .inr rfl))) (fun _ _ _ _ _ _ => pts_nil) (fun _ _ _ _ _ _ => (aA G.ni hg (hr.mono (by omega)) (by rfl) T.g_x T.F_x.kp T.b_x (fun σ => XC.jg XC.cz σ) (pa_cons (pv 18) pa_nil))))))
    (pss_cons (ps_if (PW.pt (pw_or (pt_cmpR (r := jP K) (fH hr.units) (XM.d6 (pv 11) T.cl_b T.m_i G.dS hg (hr.mono (by omega)) T.b_i (fun σ => passAt tk σ)) (pv 12) (nomark _)) (pw_or1 (pt_cmpR (r := jP K) (fH hr.units) (XM.d6 (pv 11) T.cl_b T.m_g G.ie hg (hr.mono (by omega)) T.b_g (fun σ => passAt tk σ)) (pv 13) (nomark _))))) (pss_one (ps_ret pe_bl)) pss_nil)
    (pss_one (ps_ret (pe_and (pe_cmpR (r := rObj T.C_b (spF K (Gm T d) false 2 (S 23)) id) (hC G.bR T.m_d.at_ T.m_d.fn T.b_d hg (hr.mono (by omega))) (qx (ks := ["table"]) (is := [0]) (G.fQ hz) hg (hr.mono (by omega)) (by rfl) T.g_p T.F_p.kp (xC (is := [0]) (ks := ["table"]) T.F_p fun _ _ _ _ _ _ ws h => match ws, h with | [_], _ => rfl) (fun σ => passAt tk σ) (pk_cons (pv 11) pk_nil)) (pv 11) (nomark _)) (pe_one (aA (G.fU hz) hg (hr.mono (by omega)) (by rfl) T.g_w T.F_w.kp T.b_w (fun σ => passAt tk σ) (pa_cons (pv 0) (pa_cons (pv 1) (pa_cons (pv 3) pa_nil))))))))))))))))))))))))))), ?_⟩
  exact (az (bt (tg := .one 1) (aE (aa af aj)))
    (az (bt (tg := .one 2) (ao bh (aE (aa af aj)) aq))
    (az (bt (tg := .one 3) (dV (tg := (.one 14)) (jn (aa af aj)) (fun _ => cf) (fun _ => (dV (tg := (.many [(.one 16), (.one 17)])) (cg af) (fun _ => cf) (fun _ => (aE (aa (aE (aa af (aa ay (aa af aj)))) aj)))))))
    (az (bt (tg := .one 3) (ao bA af (eO eU af cU (cW (ao bh (aE (aa af aj)) aq)))))
    (yu (az (vw (Γs := Gm T) d rfl (cl_b T d) (pY (SF.sr (gM dZ (aa af aj))) (ti (tg := (.one 4)) (cg af) (fun _ => cf) (fun _ => (SF.sr (gM dZ (aa af aj)))))))
    (az (iz (tg := (.one 7)) (jn (aa aq aj)) (vy (pY (SF.sr (vv (cl_b T d) af aj)) (vt (cl_b T d) af aj)) (eN (aJ (ao (yz (za (lp (lp (wC (cl_c T d)))) y9)) af (b4 (aa af (aa af aj))))) (c0 (fC (eI (ao cI af aq)))))))
    (az (bK (eN (c0 (aJ (eW (cl_b T d) af (fN (Γs := Gm T) (fun x => d.push x) (fun _ => rfl) (cl_b T d) (aa af (aa (yi af) aj)))))) (aJ (qM (cl_b T d) T.e_fl_Table af af))) (aG dg) aP)
    (az (bK (aJ (eW (cl_b T d) af (fN (Γs := Gm T) (fun x => d.push x) (fun _ => rfl) (cl_b T d) (pW (aa af (aa af aj)))))) (aG dg) aP)
    (az (bt (tg := .one 9) (dV (tg := (.one 15)) (cg af) (fun _ => cf) (fun _ => cc)))
    (az (bt (tg := .one 10) (fN (Γs := Gm T) (fun x => d.push x) (fun _ => rfl) (cl_b T d) (aa af (aa (ao bA af (a7 (aa af aj))) aj))))
    (az (bK (eN (aJ (eW (cl_b T d) af af)) (c0 (aJ (eW (cl_b T d) af (fN (Γs := Gm T) (fun x => d.push x) (fun _ => rfl) (cl_b T d) (aa (ao bA (a7 (aa (b4 (aa ay (aa (ao cI (ao cI af aq) aq) aj))) aj)) (eO eU af (cW aq) cU)) (aa af aj))))))) (aG dg) aP)
    (az (bK (xf (aJ (ao ye af (a7 aj))) (aJ (ao fI (eW (cl_b T d) (fN (Γs := Gm T) (fun x => d.push x) (fun _ => rfl) (cl_b T d) (aa af (aa (ao bA af (eO eU af cU (cW aq))) aj))) af) (ao (yl (lp (wC (cl_c T d)))) (ao cI af aq) af)))) (aG dg) aP)
    (az (bt (tg := .one 11) (aE (aa af aj)))
    (az (bt (tg := .one 12) (dV (tg := (.many [(.one 16), (.one 17)])) (cg af) (fun _ => cf) (fun _ => (b4 (aa af (aa (ao cI (a7 (aa af (aa ay aj))) (cN kI (aa (ao bQ af ay) aj))) aj))))))
    (az (bt (tg := .one 13) (dV (tg := (.one 4)) (cg af) (fun _ => cf) (fun _ => (dV (tg := (.one 18)) (cg af) (fun _ => cf) (fun _ => (aE (aa af aj)))))))
    (az (bK (eN (aJ (ao fI (jc (cl_b T d) af aj) af)) (aJ (ao fI (jc (cl_b T d) af aj) af))) (aG dg) aP)
    (aG (kF (eW (cl_b T d) (rW (aa af aj)) af) (aE (aa af (aa af (aa af aj)))))))))))))))))))))))
end
end K20
set_option Elab.async false
set_option linter.all false
set_option maxRecDepth 100000
set_option maxHeartbeats 4000000
namespace K20
open PySem L2 Lay DM XK PySem.W PyProof.Rows
local macro_rules
  | `(tactic| array_get_dec) => `(tactic| first
    | with_reducible refine Stp.go ?_
    | (with_reducible refine dE ?_ ?_; focus (first | decide | omega))
    | (with_reducible refine dF ?_ ?_; focus (first | decide | omega))
    | with_reducible refine cj ?_
    | (with_reducible refine dG ?_ ?_; focus decide)
    | (with_reducible refine cY ?_ ?_; focus (first | (left; decide) | (right; decide) | (left; omega) | (right; omega))))
local macro_rules
  | `(tactic| array_mem_dec) => `(tactic| first
    | (with_reducible refine fe ?_ ?_; focus (first | rfl | decide))
    | (with_reducible refine dj ?_ ?_; focus (first | rfl | decide)))
def acB (n : Nat) : DM.S :=
  (aB (sIf (dQ (bW (tB' (eUn (isF "tuple") (ai 1)))) (dQ (tB' (eOp eT (eCB cK (ab (ai 1) ak)) (eC (.int 2)))) (bW (tB' (aw 1 (sem n 1) (ab (eOp oIx (ai 1) (eC (.int 0))) ak)))))) (aV (eC (.bl false))) aT)
    (sIf (dQ (bW (tB' (eUn (isF "str") (eOp oIx (ai 1) (eC (.int 1)))))) (tB' (eOp xF (eOp oIx (ai 1) (eC (.int 1))) (eC hV)))) (aV (eC (.bl false))) aT))
theorem cS (n : Nat) : b_k (sem n) = (aB (sIf (dQ (bW (tB' (eUn (isF "list") (ai 0)))) (tB' (eOp cH (ai 0) (bE ak)))) (aV (eC (.bl false))) aT)
    (aB (iW (.one 1) (iD isX (ai 0)) (acB n))
    (aV (eOp cH (kY (.many [(.one 2), (.one 3)]) (iD isX (ai 0)) a6 (ai 2)) (eCB cK (ab (ai 0) ak)))))) := rfl
def tiB (n : Nat) : DM.S :=
  (sIf (bW (tB' (aw 2 (sem n 4) (ab (ai 4) (ab (ai 1) ak))))) (fg "NoTable" ["row"] (ab (ai 3) ak)) aT)
theorem c7 (n : Nat) : b_f (sem n) = (aB (sIf (dQ (bW (tB' (aw 1 (sem n 3) (ab (ai 1) ak)))) (bW (tB' (eUn (isF "list") (ai 2))))) (fg "NoTable" ["row"] (ab (eC .non) ak)) aT)
    (aB (iW (.many [(.one 3), (.one 4)]) (iDs qD (ab (ai 2) ak)) (tiB n))
    (aB (kh ["Table"] "heads" (ai 0) (eCB du (ab (ai 1) ak)))
    (kh ["Table"] "lines" (ai 0) (eLc (.one 4) (iD isX (ai 2)) a6 (eCB du (ab (ai 4) ak))))))) := rfl
inductive Kd where
  | number | text | day
def Kd.s : Kd → Str
  | .number => "number"
  | .text => "text"
  | .day => "day"
inductive Vl where
  | bk
  | num (i : Int)
  | txt (z : Str)
  | day (n : Int)
deriving DecidableEq
def pd : Vl → D
  | .bk => .non
  | .num i => .int i
  | .txt z => .str z
  | .day n => .obj "Day" ["number"] [.int n]
def kdV : Vl → Kd → Prop
  | .bk, _ => True
  | .num _, k => k = .number
  | .txt _, k => k = .text
  | .day _, k => k = .day
def okV : Vl → Prop
  | .txt z => PyData.strOk z = true
  | _ => True
def ij : Vl → Bool
  | .bk => true
  | _ => false
abbrev Hd := List (Str × Kd)
def hd (p : Str × Kd) : D := .tup [.str p.1, .str p.2.s]
def dH (hs : Hd) : List D := hs.map hd
def nH (hs : Hd) : List Str := hs.map (·.1)
@[simp] theorem nH_nil : nH [] = [] := rfl
@[simp] theorem lE {p : Str × Kd} {hs : Hd} : nH (p :: hs) = p.1 :: nH hs := rfl
abbrev Row := List Vl
abbrev Rws := List Row
def pds (L : Row) : List D := L.map pd
def rwD (Ls : Rws) : List D := Ls.map fun L => .lst (pds L)
def tbD (hs : Hd) (Ls : Rws) : D := .obj "Table" ["heads", "lines"] [.lst (dH hs), .lst (rwD Ls)]
/-- the names that are drawn -/
def qS : List Str := ["a", "b", "c", "d", "a1", "abcdefg8", "zzzzzzzz", "z0123456", "zz"]
def Nm (x : Str) : Prop := x ∈ qS
theorem okNm {x : Str} (h : Nm x) : PyData.strOk x = true := by
  have : qS.all PyData.strOk = true := by decide +kernel
  exact List.all_eq_true.mp this x h
structure fO (hs : Hd) : Prop where
  nm : ∀ p ∈ hs, Nm p.1
  nd : (nH hs).Nodup
  ne : hs ≠ []
  le : hs.length ≤ 60
/-- a row that goes with the columns -/
inductive Al : Hd → Row → Prop
  | nil : Al [] []
  | cons {x : Str} {k : Kd} {v : Vl} {hs : Hd} {L : Row} : kdV v k → okV v → Al hs L → Al ((x, k) :: hs) (v :: L)
section
variable {hs : Hd} {L : Row}
theorem Al.len (a : Al hs L) : L.length = hs.length := by
  induction a with
  | nil => rfl
  | cons _ _ _ ih => simp [ih]
theorem Al.kinds {hs2 : Hd} (a : Al hs L) (hk : hs.map (·.2) = hs2.map (·.2)) : Al hs2 L := by
  induction a generalizing hs2 with
  | nil =>
    cases hs2 with
    | nil => exact .nil
    | cons _ _ => cases hk
  | cons h1 h2 _ ih =>
    cases hs2 with
    | nil => cases hk
    | cons p hs2 =>
      obtain ⟨y, j⟩ := p
      simp only [List.map_cons, List.cons.injEq] at hk
      obtain ⟨rfl, hk⟩ := hk
      exact .cons h1 h2 (ih hk)
theorem Al.ok (a : Al hs L) : ∀ v ∈ L, okV v := by
  induction a with
  | nil => intro v hv; cases hv
  | cons h1 h2 _ ih =>
    intro v hv
    rcases List.mem_cons.mp hv with rfl | hv
    · exact h2
    · exact ih v hv
end
theorem aU {k : Nat} (h : k ≤ 9000) : k ≤ line := Nat.le_trans h (by decide)
theorem ik {L : Nat} : ∀ {xs : List D}, (∀ x ∈ xs, cln L x = true) → dz L xs = true
  | [], _ => rfl
  | x :: xs, h => by
    have h1 : dz L xs = true := ik fun y hy => h y (List.mem_cons_of_mem _ hy)
    simp only [dz, h x (by simp), h1, Bool.and_self]
theorem yC {L : Nat} {v : Vl} : cln L (pd v) = true := by cases v <;> rfl
theorem vz {L : Nat} {r : Row} : cln L (.lst (pds r)) = true := ik fun x hx => by
  obtain ⟨p, _, rfl⟩ := List.mem_map.mp hx
  exact yC
theorem vA {L : Nat} {Ls : Rws} : dz L (rwD Ls) = true := ik fun x hx => by
  obtain ⟨p, _, rfl⟩ := List.mem_map.mp hx
  exact vz
theorem vB {L : Nat} {hs : Hd} : dz L (dH hs) = true := ik fun x hx => by
  obtain ⟨p, _, rfl⟩ := List.mem_map.mp hx
  rfl
theorem tP {x : Option (Except Xn D × DS)} {a : D} {s : DS} (h : Wp x nE fun d s' => d = a ∧ s' = s) : x = some (.ok a, s) := by
  rcases h with ⟨d, s', e, rfl, rfl⟩ | ⟨_, _, _, h⟩
  · exact e
  · exact h.elim
theorem nq {l : List Str} {x : Str} (h : ¬ x ∈ l) : XC.jx l x = l ++ [x] := by
  unfold XC.jx
  rw [if_neg]
  rw [List.any_eq_true]
  rintro ⟨y, hy, e⟩
  exact h (by rw [← eq_of_beq e]; exact hy)
section
variable {hs : Hd} {L : Row} {Ls : Rws} {n : Nat} {s : DS} {E : Xn → DS → Prop} {P : D → DS → Prop} {R : Res → DS → Prop}
theorem p5 {x : Str} (h : Nm x) : sem (n + 1) 1 [.str x] s = some (.ok (.bl true), s) := by
  simp only [Nm, qS, List.mem_cons, List.not_mem_nil, or_false] at h
  rcases h with rfl | rfl | rfl | rfl | rfl | rfl | rfl | rfl | rfl <;> kernel_rfl
theorem wH {v : Vl} {k : Kd} (kv : kdV v k) : sem (n + 2) 2 [pd v, .str k.s] s = some (.ok (.bl true), s) := by
  cases v with
  | bk => cases k <;> kernel_rfl
  | num i => cases (show k = .number from kv); kernel_rfl
  | txt i => cases (show k = .text from kv); kernel_rfl
  | day i => cases (show k = .day from kv); kernel_rfl
theorem vC (a : Al hs L) : mF (pds L) (dH hs) = (List.zip hs L).map fun q => .tup [pd q.2, hd q.1] := by
  induction a with
  | nil => rfl
  | cons h1 h2 h4 ih =>
    exact congrArg (List.cons _) ih
theorem yD (a : Al hs L) : ∀ q ∈ List.zip hs L, kdV q.2 q.1.2 := by
  induction a with
  | nil => intro q hq; cases hq
  | cons h1 h2 h4 ih =>
    intro q hq
    rcases List.mem_cons.mp hq with rfl | hq
    · exact h1
    · exact ih q hq
theorem vD (a : Al hs L) : (pds L).length = hs.length := by rw [show (pds L).length = L.length by simp [pds], a.len]
theorem p6 (a : Al hs L) (hl : hs.length ≤ 60) : sem (n + 3) 4 [.lst (pds L), .lst (dH hs)] s = some (.ok (.bl true), s) := by
  have l1 := vD a
  have l2 : (dH hs).length = hs.length := List.length_map _
  refine cZ ?_
  show Wp (fnD 5 (b_j (sem (n + 2))) [.lst (pds L), .lst (dH hs)] s) _ _
  refine bo ?_
  unfold b_j
  repeat array_get_dec
  refine dj rfl ?_
  repeat array_get_dec
  refine dj (by rw [l1, l2]; simp) ?_
  repeat array_get_dec
  refine aH (a := (List.zip hs L).map fun q => D.tup [pd q.2, hd q.1]) (by show some (mF _ _) = _; rw [vC a]) ?_
  refine c9 (fun q : (Str × Kd) × Vl => .tup [pd q.2, hd q.1]) (fun _ => true) (fun _ => .bl true) (List.zip hs L) (fun q hq => ?_) ?_
  · unfold hd
    repeat array_get_dec
    refine ⟨rfl, rfl, fun _ => ?_⟩
    repeat array_get_dec
    refine bF (wH (yD a q hq)) ?_
    exact ⟨rfl, rfl⟩
  · rw [List.filter_eq_self.mpr (fun _ _ => rfl)]
    refine ⟨aU (by rw [List.length_map, List.length_zip]; omega), ?_⟩
    repeat array_get_dec
    exact ⟨by simp, rfl⟩
theorem nr {tg : Tgt} {mi : En → M (List D)} {tt : En → M Bool} {te : En → M D} {ρ : En} (h : Wp (mi ρ s) E fun xs s1 => Wp (gw tg tt te (cJ ρ tg.slots) xs [] s1) E P) : Wp (kY tg mi tt te ρ s) E P := a9 h
theorem nu : ∀ (hs : Hd) (l : List Str) (ρ : En), ρ.length = 4 → (l ++ nH hs).Nodup → l.length + hs.length ≤ 100 → gw (.many [.one 2, .one 3]) a6 (ai 2) ρ (dH hs) l s = some (.ok (.int ((l.length + hs.length : Nat) : Int)), s)
  | [], l, ρ, _, nd, hl => by
    show (if l.length ≤ 4000 then _ else _) = _
    rw [if_pos (by simp only [List.length_nil] at hl; omega)]
    rfl
  | (y, k) :: hs, l, ρ, hr, nd, hl => by
    obtain ⟨a, b, c, d, rfl⟩ : ∃ a b c d, ρ = [a, b, c, d] := by
      match ρ, hr with
      | [a, b, c, d], _ => exact ⟨a, b, c, d, rfl⟩
    have hy : ¬ y ∈ l := fun z => by
      rw [List.nodup_append] at nd
      exact nd.2.2 y z y (by simp) rfl
    show (if l.length < 4000 then gw (.many [.one 2, .one 3]) a6 (ai 2) [a, b, c, d] (dH hs) (XC.jx l y) s else none) = _
    simp only [List.length_cons] at hl
    rw [if_pos (by omega), nq hy, nu hs (l ++ [y]) [a, b, c, d] rfl (by simpa using nd) (by simp only [List.length_append, List.length_cons, List.length_nil]; omega)]
    simp only [List.length_append, List.length_cons, List.length_nil]
    rw [show l.length + (0 + 1) + hs.length = l.length + (hs.length + 1) by omega]
theorem dW (nm : ∀ p ∈ hs, Nm p.1) : fJ (.lst (dH hs)) := by
  refine ⟨gO.mpr fun x hx => ?_, Nat.le_trans (Nat.succ_le_succ (gQ (n := 1).mpr fun x hx => ?_)) (by decide)⟩
  · obtain ⟨a, ha, rfl⟩ := List.mem_map.mp hx
    have := (okNm (nm a ha))
    have k : PyData.strOk a.2.s = true := by cases a.2 <;> decide +kernel
    simp [hd, DM.pl, pls, this, k]
  · obtain ⟨a, ha, rfl⟩ := List.mem_map.mp hx
    exact Nat.le_refl _
theorem tQ {x0 : Sl} : ∀ (hs' : Hd) (x1 : Sl), (∀ p ∈ hs', Nm p.1) → (∀ x1, R (.nx [x0, x1, .no, .no]) s) → Wr (b7 (.one 1) (acB (n + 1)) (dH hs') [x0, x1, .no, .no] s) R
  | [], x1, _, p => fZ (p x1)
  | (y, k) :: hs', x1, nm, p => by
    show Wr (b7 _ _ (.tup [.str y, .str k.s] :: dH hs') _ s) R
    repeat array_get_dec
    unfold acB
    repeat array_get_dec
    refine dj rfl ?_
    repeat (first | array_get_dec | array_mem_dec)
    refine bF (p5 (nm (y, k) (by simp))) ?_
    repeat (first | array_get_dec | array_mem_dec)
    refine aH (a := D.bl false) (by cases k <;> kernel_rfl) ?_
    repeat (first | array_get_dec | array_mem_dec)
    exact tQ hs' _ (fun q hq => nm q (by simp [hq])) p
theorem f9 (nm : ∀ p ∈ hs, Nm p.1) (nd : (nH hs).Nodup) (h0 : hs ≠ []) (hl : hs.length ≤ 60) : sem (n + 2) 3 [.lst (dH hs)] s = some (.ok (.bl true), s) := by
  have l2 : (dH hs).length = hs.length := List.length_map _
  refine cZ ?_
  show Wp (fnD 4 (b_k (sem (n + 1))) [.lst (dH hs)] s) _ _
  refine bo ?_
  rw [cS]
  repeat array_get_dec
  refine dj rfl ?_
  repeat array_get_dec
  refine fb (dW nm) fK ?_
  rw [kP, decide_eq_false (by intro e; apply h0; rw [← List.length_eq_zero_iff, ← l2, e]; rfl)]
  repeat (first | array_get_dec | array_mem_dec)
  refine tQ hs _ nm fun x1 => ?_
  repeat array_get_dec
  refine nr ?_
  repeat array_get_dec
  refine bF (nu hs [] _ rfl (by simpa using nd) (by simp only [List.length_nil]; omega)) ?_
  repeat array_get_dec
  exact ⟨by rw [l2]; simp, rfl⟩
/-- rows that go with the columns -/
structure e8 (hs : Hd) (Ls : Rws) : Prop where
  ok : fO hs
  ll : Ls.length ≤ 900
  al : ∀ L ∈ Ls, Al hs L
theorem tR {x0 : Sl} (hl : hs.length ≤ 60) : ∀ (Ls' : Rws) (i : Nat) (x3 x4 : Sl), (∀ L ∈ Ls', Al hs L) → (∀ x3 x4, R (.nx [x0, .val (.lst (dH hs)), .val (.lst (rwD Ls)), x3, x4]) s) → Wr (b7 (.many [.one 3, .one 4]) (tiB (n + 3)) (dU i (rwD Ls')) [x0, .val (.lst (dH hs)), .val (.lst (rwD Ls)), x3, x4] s) R
  | [], i, x3, x4, _, p => fZ (p x3 x4)
  | L :: Ls', i, x3, x4, al, p => by
    show Wr (b7 _ _ (.tup [.int (i : Int), .lst (pds L)] :: dU (i + 1) (rwD Ls')) _ s) R
    repeat array_get_dec
    unfold tiB
    repeat array_get_dec
    refine bF (p6 (al L (by simp)) hl) ?_
    repeat (first | array_get_dec | array_mem_dec)
    exact tR hl Ls' (i + 1) _ _ (fun q hq => al q (by simp [hq])) p
theorem zb (t : e8 hs Ls) : sem (n + 4) 22 [.mob s.m.length, .lst (dH hs), .lst (rwD Ls)] (s.push (.obj "Table" [] [])) = some (.ok .non, s.push (tbD hs Ls)) := by
  have l3 := t.ll
  have l2 : (rwD Ls).length = Ls.length := List.length_map _
  refine tP ?_
  refine jb (m := b_f (sem (n + 3))) ?_
  rw [c7]
  repeat array_get_dec
  refine bF (f9 t.ok.nm t.ok.nd t.ok.ne t.ok.le) ?_
  repeat (first | array_get_dec | array_mem_dec)
  refine tR t.ok.le Ls 0 _ _ t.al fun x3 x4 => ?_
  repeat array_get_dec
  refine sS (by simp) (by decide) ?_
  repeat array_get_dec
  refine c9 (fun L : Row => .lst (pds L)) (fun _ => true) (fun L => .lst (pds L)) Ls (fun L _ => ?_) ?_
  · repeat array_get_dec
    refine ⟨rfl, rfl, fun _ => ?_⟩
    repeat array_get_dec
    exact ⟨rfl, rfl⟩
  rw [List.filter_eq_self.mpr (fun _ _ => rfl)]
  refine ⟨aU (by rw [List.length_map]; omega), ?_⟩
  repeat array_get_dec
  refine sS (by simp) (by show 1 < 900; decide) ?_
  exact ⟨rfl, rfl⟩
theorem lF (t : e8 hs Ls) (hm : dz s.m.length s.m = true) (p : P (tbD hs Ls) s) : Wp (kW s.m.length "Table" (sem (n + 4) 22 [.mob s.m.length, .lst (dH hs), .lst (rwD Ls)] (s.push (.obj "Table" [] [])))) E P := by
  rw [zb t]
  exact pL (cM ⟨rfl, _, _, rfl, by simp only [dz, cln, vB, vA, Bool.and_self], p⟩) hm
theorem lG : sem (n + 1) 24 [tbD hs Ls] s = some (.ok (.lst (dH hs)), s) := by
  refine cZ ?_
  show Wp (fnD 1 (b_i (sem n)) [tbD hs Ls] s) _ _
  refine bo ?_
  unfold b_i
  repeat array_get_dec
  refine aH (a := D.lst (dH hs)) (by kernel_rfl) ?_
  repeat array_get_dec
  exact ⟨rfl, rfl⟩
theorem lH (hl : Ls.length ≤ 900) : sem (n + 1) 25 [tbD hs Ls] s = some (.ok (.lst (rwD Ls)), s) := by
  refine cZ ?_
  show Wp (fnD 2 (b_g (sem n)) [tbD hs Ls] s) _ _
  refine bo ?_
  unfold b_g
  repeat array_get_dec
  refine aH (a := D.lst (rwD Ls)) (by kernel_rfl) ?_
  repeat array_get_dec
  refine c9 (fun L : Row => .lst (pds L)) (fun _ => true) (fun L => .lst (pds L)) Ls (fun L _ => ?_) ?_
  · repeat array_get_dec
    refine ⟨rfl, rfl, fun _ => ?_⟩
    repeat array_get_dec
    exact ⟨rfl, rfl⟩
  rw [List.filter_eq_self.mpr (fun _ _ => rfl)]
  refine ⟨aU (by rw [List.length_map]; omega), ?_⟩
  exact ⟨rfl, rfl⟩
end
end K20
set_option Elab.async false
set_option linter.all false
set_option maxRecDepth 100000
set_option maxHeartbeats 900000
namespace K20
open PySem L2 Lay DM XK PySem.W PyProof.Rows
local macro_rules
  | `(tactic| array_get_dec) => `(tactic| first
    | with_reducible refine Stp.go ?_
    | (with_reducible refine dE ?_ ?_; focus (first | decide | omega))
    | (with_reducible refine dF ?_ ?_; focus (first | decide | omega))
    | with_reducible refine cj ?_
    | (with_reducible refine dG ?_ ?_; focus decide)
    | (with_reducible refine cY ?_ ?_; focus (first | (left; decide) | (right; decide) | (left; omega) | (right; omega))))
local macro_rules
  | `(tactic| array_mem_dec) => `(tactic| first
    | (with_reducible refine fe ?_ ?_; focus (first | rfl | decide))
    | (with_reducible refine dj ?_ ?_; focus (first | rfl | decide)))
theorem vE {v : Vl} {Q : D → Prop} (h : Q (.bl (ij v))) : WO (rL (pd v) .non) Q := by
  cases v <;> exact ⟨_, rfl, h⟩
def pln : Vl → D
  | .bk => .non
  | .num i => .int i
  | .txt z => .str z
  | .day n => .int n
def kp : Vl → NestedKey
  | .bk => .none
  | .num i => .num i
  | .txt z => .text z
  | .day n => .num n
def kyV (v : Vl) : D := .tup [.bl (ij v), pln v]
def kyD (L : Row) : D := .tup (L.map kyV)
def kV (v : Vl) : NestedKey := .tup [.num (if ij v = true then 1 else 0), kp v]
def kR (L : Row) : NestedKey := .tup (L.map kV)
theorem zd (v : Vl) : kOf (kyV v) = some (kV v) := by cases v <;> rfl
theorem jK : ∀ L : Row, dC (L.map kyV) = some (L.map kV)
  | [] => rfl
  | v :: L => by
    show (kOf (kyV v)).bind (fun k => (dC (L.map kyV)).map fun ks => k :: ks) = _
    rw [zd, jK L]
    rfl
theorem lI (L : Row) : kOf (kyD L) = some (kR L) := by
  show (dC (L.map kyV)).map NestedKey.tup = _
  rw [jK]
  rfl
theorem p7 : ∀ L : Row, NestedKey.depthAll (L.map kV) ≤ 1
  | [] => Nat.zero_le _
  | v :: L => by
    show max (kV v).depth (NestedKey.depthAll (L.map kV)) ≤ 1
    have h := p7 L
    have h2 : (kV v).depth ≤ 1 := by cases v <;> exact Nat.le_refl _
    omega
theorem nv (L : Row) : qE (kyD L) = some (kR L) := by
  show ((dC (L.map kyV)).bind fun ks => if (NestedKey.tup ks).depth ≤ 8 then some (NestedKey.tup ks) else none) = _
  rw [jK]
  show (if (NestedKey.tup (L.map kV)).depth ≤ 8 then _ else _) = _
  rw [if_pos]
  · rfl
  · have : (NestedKey.tup (L.map kV)).depth = NestedKey.depthAll (L.map kV) + 1 := rfl
    have := p7 L
    omega
theorem kV_inj {u v : Vl} {k : Kd} (hu : kdV u k) (hv : kdV v k) (e : kV u = kV v) : u = v := by
  cases u <;> cases v <;> first
    | rfl
    | (simp [kV, ij, kp] at e; done)
    | (cases hu; cases hv; done)
    | (simp only [kV, ij, kp, NestedKey.tup.injEq, List.cons.injEq, NestedKey.num.injEq, NestedKey.text.injEq, and_true] at e; rw [e.2])
theorem yE {hs : Hd} {L : Row} (a : Al hs L) : ∀ {M : Row}, Al hs M → kR L = kR M → L = M := by
  induction a with
  | nil => intro M b _; cases b; rfl
  | @cons x k v hs L h1 _ _ ih =>
    intro M b e
    cases b with
    | @cons _ _ w _ M g1 _ g4 =>
      have e' : kV v :: L.map kV = kV w :: M.map kV := NestedKey.tup.inj e
      obtain ⟨e1, e2⟩ := List.cons.inj e'
      rw [kV_inj h1 g1 e1, ih g4 (show kR L = kR M from congrArg NestedKey.tup e2)]
theorem lJ {hs : Hd} {L M : Row} (a : Al hs L) (b : Al hs M) : (kOf (kyD L) = some (kR M)) ↔ L = M := by
  rw [lI]
  exact ⟨fun z => yE a b (Option.some.inj z), fun z => by rw [z]⟩
section
variable {n : Nat} {s : DS} {L : Row}
theorem f_m (v : Vl) : sem (n + 1) 5 [pd v] s = some (.ok (pln v), s) := by
  cases v <;> kernel_rfl
theorem f_rk (hL : L.length ≤ 900) : sem (n + 2) 6 [.lst (pds L)] s = some (.ok (kyD L), s) := by
  refine cZ ?_
  show Wp (fnD 2 (b_n (sem (n + 1))) [.lst (pds L)] s) _ _
  refine bo ?_
  unfold b_n
  repeat array_get_dec
  refine c9 (fun v : Vl => pd v) (fun _ => true) (fun v => kyV v) L (fun v _ => ?_) ?_
  · repeat array_get_dec
    refine ⟨rfl, rfl, fun _ => ?_⟩
    repeat array_get_dec
    refine vE ?_
    repeat array_get_dec
    refine bF (f_m v) ?_
    repeat array_get_dec
    exact ⟨rfl, rfl⟩
  rw [List.filter_eq_self.mpr (fun _ _ => rfl)]
  refine ⟨aU (by rw [List.length_map]; omega), ?_⟩
  repeat array_get_dec
  exact ⟨rfl, rfl⟩
end
def gB {α : Type} : Rws → List α → Row → Option α
  | K :: Ks, n :: Ns, L => if K = L then some n else gB Ks Ns L
  | _, _, _ => none
def sB {α : Type} : Rws → List α → Row → α → List α
  | K :: Ks, n :: Ns, L, x => (if K = L then x else n) :: sB Ks Ns L x
  | _, _, _, _ => []
def pB {α : Type} (Ks : Rws) (Ns : List α) (L : Row) (x : α) : Rws × List α := if (gB Ks Ns L).isSome then (Ks, sB Ks Ns L x) else (Ks ++ [L], Ns ++ [x])
section
variable {α : Type} {f : α → D} {hs : Hd} {L M : Row}
theorem fV (a : Al hs L) : ∀ (Ks : Rws) (Ns : List α), (∀ K ∈ Ks, Al hs K) → gx (Ks.map kyD) (Ns.map f) (kR L) = (gB Ks Ns L).map f
  | [], Ns, _ => by cases Ns <;> rfl
  | K :: Ks, [], _ => rfl
  | K :: Ks, n :: Ns, al => by
    show (if kOf (kyD K) = some (kR L) then some (f n) else gx (Ks.map kyD) (Ns.map f) (kR L)) = (if K = L then some n else gB Ks Ns L).map f
    by_cases z : K = L
    · rw [if_pos z, if_pos ((lJ (al K (by simp)) a).mpr z)]; rfl
    · rw [if_neg z, if_neg (fun y => z ((lJ (al K (by simp)) a).mp y))]
      exact fV a Ks Ns fun K hK => al K (by simp [hK])
theorem ny {x : α} (a : Al hs L) : ∀ (Ks : Rws) (Ns : List α), (∀ K ∈ Ks, Al hs K) → jy (Ks.map kyD) (Ns.map f) (kR L) (f x) = (sB Ks Ns L x).map f
  | [], Ns, _ => by cases Ns <;> rfl
  | K :: Ks, [], _ => rfl
  | K :: Ks, n :: Ns, al => by
    show (if kOf (kyD K) = some (kR L) then f x else f n) :: jy (Ks.map kyD) (Ns.map f) (kR L) (f x) = List.map f ((if K = L then x else n) :: sB Ks Ns L x)
    rw [List.map_cons, ny a Ks Ns fun K hK => al K (by simp [hK])]
    by_cases z : K = L
    · rw [if_pos z, if_pos ((lJ (al K (by simp)) a).mpr z)]
    · rw [if_neg z, if_neg (fun y => z ((lJ (al K (by simp)) a).mp y))]
theorem tS {x : α} (a : Al hs L) (Ks : Rws) (Ns : List α) (al : ∀ K ∈ Ks, Al hs K) : k8 (Ks.map kyD) (Ns.map f) (kyD L) (kR L) (f x) = ((pB Ks Ns L x).1.map kyD, (pB Ks Ns L x).2.map f) := by
  unfold k8 pB
  rw [fV a Ks Ns al, ny a Ks Ns al, Option.isSome_map]
  split
  · rfl
  · simp
theorem vF {Ks : Rws} : ∀ {Ns : List α}, Ks.length = Ns.length → gB Ks Ns L = none → ¬ L ∈ Ks := by
  induction Ks with
  | nil => intro Ns _ _ z; cases z
  | cons K Ks ih =>
    intro Ns hl e
    cases Ns with
    | nil => cases hl
    | cons n Ns =>
      have e : (if K = L then some n else gB Ks Ns L) = none := e
      split at e
      · cases e
      · intro z
        rcases List.mem_cons.mp z with z | z
        · exact absurd z.symm (by assumption)
        · exact ih (Nat.succ.inj hl) e z
theorem lK {Ks : Rws} : ∀ {Ns : List α} {n : α}, gB Ks Ns L = some n → L ∈ Ks := by
  induction Ks with
  | nil => intro Ns n e; cases Ns <;> cases e
  | cons K Ks ih =>
    intro Ns n e
    cases Ns with
    | nil => cases e
    | cons m Ns =>
      have e : (if K = L then some m else gB Ks Ns L) = some n := e
      split at e
      · rename_i z
        rw [z]
        exact List.mem_cons_self
      · exact List.mem_cons_of_mem _ (ih e)
theorem yF {x : α} {Ks : Rws} : ∀ {Ns : List α}, Ks.length = Ns.length → (sB Ks Ns L x).length = Ks.length := by
  induction Ks with
  | nil => intro Ns h; cases Ns <;> first | rfl | cases h
  | cons K Ks ih =>
    intro Ns hl
    cases Ns with
    | nil => cases hl
    | cons n Ns => simp [sB, ih (Nat.succ.inj hl)]
theorem ze {x : α} {Ks : Rws} : ∀ {Ns : List α}, Ks.length = Ns.length → gB Ks (sB Ks Ns L x) M = if L = M then (gB Ks Ns M).map (fun _ => x) else gB Ks Ns M := by
  induction Ks with
  | nil => intro Ns h; cases Ns <;> first | (simp [gB, sB]; done) | cases h
  | cons K Ks ih =>
    intro Ns hl
    cases Ns with
    | nil => cases hl
    | cons n Ns =>
      show (if K = M then some (if K = L then x else n) else gB Ks (sB Ks Ns L x) M) = if L = M then (if K = M then some n else gB Ks Ns M).map (fun _ => x) else (if K = M then some n else gB Ks Ns M)
      rw [ih (Nat.succ.inj hl)]
      by_cases z1 : K = M
      · subst z1
        by_cases z2 : L = K
        · subst z2; simp
        · rw [if_pos rfl, if_pos rfl, if_neg z2, if_neg (fun h => z2 h.symm)]
      · rw [if_neg z1, if_neg z1]
theorem vG {x : α} {Ks : Rws} : ∀ {Ns : List α}, Ks.length = Ns.length → gB (Ks ++ [L]) (Ns ++ [x]) M = match gB Ks Ns M with
    | some n => some n
    | none => if L = M then some x else none := by
  induction Ks with
  | nil => intro Ns h; cases Ns <;> first | rfl | cases h
  | cons K Ks ih =>
    intro Ns hl
    cases Ns with
    | nil => cases hl
    | cons n Ns =>
      show (if K = M then some n else gB (Ks ++ [L]) (Ns ++ [x]) M) = match (if K = M then some n else gB Ks Ns M) with
        | some n => some n
        | none => if L = M then some x else none
      rw [ih (Nat.succ.inj hl)]
      by_cases z1 : K = M
      · rw [if_pos z1, if_pos z1]
      · rw [if_neg z1, if_neg z1]
theorem wI {x : α} {Ks : Rws} {Ns : List α} (hl : Ks.length = Ns.length) : gB (pB Ks Ns L x).1 (pB Ks Ns L x).2 M = if L = M then some x else gB Ks Ns M := by
  unfold pB
  split
  · rename_i z
    rw [ze hl]
    by_cases y : L = M
    · rw [if_pos y, if_pos y]
      rw [← y]
      obtain ⟨n, hn⟩ := Option.isSome_iff_exists.mp z
      rw [hn]
      rfl
    · rw [if_neg y, if_neg y]
  · rename_i z
    rw [vG hl]
    by_cases y : L = M
    · rw [if_pos y, if_pos y, ← y]
      have : gB Ks Ns L = none := by
        cases e : gB Ks Ns L with
        | none => rfl
        | some n => rw [e] at z; exact absurd rfl z
      rw [this]
    · rw [if_neg y, if_neg y]
      cases gB Ks Ns M <;> rfl
theorem tT {x : α} {Ks : Rws} {Ns : List α} (hl : Ks.length = Ns.length) : (pB Ks Ns L x).1.length = (pB Ks Ns L x).2.length ∧ (pB Ks Ns L x).1.length ≤ Ks.length + 1 ∧ Ks.length ≤ (pB Ks Ns L x).1.length := by
  unfold pB
  split
  · exact ⟨(yF hl).symm, by simp, Nat.le_refl _⟩
  · simp [hl]
theorem tU {x : α} {Ks : Rws} {Ns : List α} {Q : Row → Prop} (hL : Q L) (al : ∀ K ∈ Ks, Q K) : ∀ K ∈ (pB Ks Ns L x).1, Q K := by
  unfold pB
  split
  · exact al
  · intro K hK
    rcases List.mem_append.mp hK with hK | hK
    · exact al K hK
    · rw [List.mem_singleton.mp hK]; exact hL
theorem vH {x y : α} {Ks : Rws} {Ns : List α} (e : gB Ks Ns L = some y) : (pB Ks Ns L x).1 = Ks := by
  unfold pB
  rw [e]
  rfl
end
/-- how often a row was met -/
structure Cnt (hs : Hd) (m : Nat) (Ks : Rws) (Ns : List Int) (A : Rws) : Prop where
  len : Ks.length = Ns.length
  le : Ks.length ≤ m
  al : ∀ K ∈ Ks, Al hs K
  ct : ∀ M, (gB Ks Ns M).getD 0 = (A.count M : Int)
  nd : Ks.Nodup
section
variable {hs : Hd} {m : Nat} {n : Nat} {s : DS} {E : Xn → DS → Prop} {P : D → DS → Prop} {R : Res → DS → Prop} {L : Row} {Ks A B : Rws} {Ns : List Int}
theorem wJ {α : Type} {x : α} {Ns : List α} (hl : Ks.length = Ns.length) (h : Ks.Nodup) : (pB Ks Ns L x).1.Nodup := by
  unfold pB
  cases z : gB Ks Ns L with
  | some y => exact h
  | none =>
    refine List.nodup_append.mpr ⟨h, by simp, fun a ha b hb => ?_⟩
    rw [List.mem_singleton.mp hb]
    exact fun e => vF hl z (e ▸ ha)
theorem Cnt.nil : Cnt hs m [] [] [] := ⟨rfl, Nat.zero_le _, (fun _ h => by cases h), (fun M => rfl), List.nodup_nil⟩
theorem Cnt.add (c : Cnt hs m Ks Ns A) (a : Al hs L) : Cnt hs (m + 1) (pB Ks Ns L ((gB Ks Ns L).getD 0 + 1)).1 (pB Ks Ns L ((gB Ks Ns L).getD 0 + 1)).2 (L :: A) := by
  obtain ⟨h1, h2, h3⟩ := tT (L := L) (x := (gB Ks Ns L).getD 0 + 1) c.len
  refine ⟨h1, by have := c.le; omega, tU a c.al, fun M => ?_, wJ c.len c.nd⟩
  rw [wI c.len, List.count_cons]
  by_cases z : L = M
  · subst z
    rw [if_pos rfl, if_pos (by simp)]
    show (gB Ks Ns L).getD 0 + 1 = _
    rw [c.ct L]
    omega
  · rw [if_neg z, if_neg (by simpa using z), c.ct M]
    omega
theorem Cnt.take (c : Cnt hs m Ks Ns A) (a : Al hs L) (hL : L ∈ A) : ∃ y, gB Ks Ns L = some y ∧ Cnt hs m (pB Ks Ns L (y - 1)).1 (pB Ks Ns L (y - 1)).2 (A.erase L) := by
  have hc := c.ct L
  have hp : 0 < A.count L := List.count_pos_iff.mpr hL
  cases z : gB Ks Ns L with
  | none =>
    rw [z] at hc
    have : (0 : Int) = (A.count L : Int) := hc
    omega
  | some y =>
    rw [z] at hc
    have hc : y = (A.count L : Int) := hc
    obtain ⟨h1, h2, h3⟩ := tT (L := L) (x := y - 1) c.len
    refine ⟨y, rfl, h1, by rw [vH z]; exact c.le, tU a c.al, fun M => ?_, wJ c.len c.nd⟩
    rw [wI c.len]
    by_cases y2 : L = M
    · subst y2
      rw [if_pos rfl, List.count_erase_self]
      show y - 1 = _
      omega
    · rw [if_neg y2, List.count_erase_of_ne (fun h => y2 h.symm), c.ct M]
def ctB (S : Tb) : DM.S := jA 1 (aw 1 (S 6) (ab (ai 2) ak)) (eOp bw (km 1 (aw 1 (S 6) (ab (ai 2) ak)) (eC (.int 0))) (eC (.int 1)))
abbrev jL (Ks : Rws) (Ns : List Int) : D := .kdc (Ks.map kyD) (Ns.map D.int)
theorem wK {x0 : Sl} : ∀ (A B Ks : Rws) (Ns : List Int) (x2 : Sl) (m : Nat), Cnt hs m Ks Ns B → m + A.length ≤ 900 → hs.length ≤ 60 → (∀ L ∈ A, Al hs L) → (∀ K ∈ Ks, K ∈ B) → (∀ Ks Ns x2 B', Cnt hs (m + A.length) Ks Ns B' → (∀ M, B'.count M = A.count M + B.count M) → (∀ K ∈ Ks, K ∈ B') → R (.nx [x0, .own (jL Ks Ns), x2]) s) →
    Wr (b7 (.one 2) (ctB (sem (n + 2))) (rwD A) [x0, .own (jL Ks Ns), x2] s) R
  | [], B, Ks, Ns, x2, m, c, hm, hh, _, hb, p => fZ (p Ks Ns x2 B c (fun M => by simp) hb)
  | L :: A, B, Ks, Ns, x2, m, c, hm, hh, al, hkb, p => by
    have a := al L (by simp)
    have hl := a.len
    have hle := c.le
    simp only [List.length_cons] at hm
    show Wr (b7 _ _ (.lst (pds L) :: rwD A) _ _) R
    repeat array_get_dec
    unfold ctB
    repeat array_get_dec
    refine bF (f_rk (by omega)) ?_
    repeat array_get_dec
    refine aH (nv L) ?_
    rw [fV a Ks Ns c.al]
    rw [show ((gB Ks Ns L).map D.int).getD (.int 0) = .int ((gB Ks Ns L).getD 0) by cases gB Ks Ns L <;> rfl]
    repeat array_get_dec
    refine bF (f_rk (by omega)) ?_
    repeat array_get_dec
    refine aH (nv L) ?_
    rw [tS a Ks Ns c.al]
    refine ⟨by rw [List.length_map]; have : line = 100000 := rfl; omega, ?_⟩
    refine wK A (L :: B) _ _ _ (m + 1) (c.add a) (by omega) hh (fun M hM => al M (by simp [hM])) (tU (Q := fun K => K ∈ L :: B) (by simp) fun K hK => List.mem_cons_of_mem _ (hkb K hK)) fun Ks Ns x2 B' c' hb hk' => p Ks Ns x2 B' ?_ ?_ hk'
    · rw [List.length_cons, show m + (A.length + 1) = m + 1 + A.length by omega]
      exact c'
    · intro M
      rw [hb M, List.count_cons, List.count_cons]
      omega
theorem fo (hA : A.length ≤ 900) (hh : hs.length ≤ 60) (al : ∀ L ∈ A, Al hs L) (p : ∀ Ks Ns, Cnt hs 900 Ks Ns A → (∀ K ∈ Ks, K ∈ A) → P (jL Ks Ns) s) : Wp (sem (n + 3) 7 [.lst (rwD A)] s) E P := by
  show Wp (fnD 3 (b_o (sem (n + 2))) [.lst (rwD A)] s) E P
  refine bo ?_
  unfold b_o
  repeat array_get_dec
  refine wK A [] [] [] _ 0 Cnt.nil (by omega) hh al (fun _ h => by cases h) fun Ks Ns x2 B' c hb hk => ?_
  repeat array_get_dec
  have hb : ∀ M, B'.count M = A.count M := fun M => by rw [hb M]; simp
  refine p Ks Ns ⟨c.len, by have := c.le; omega, c.al, (fun M => by rw [c.ct M, hb M]), c.nd⟩ fun K hK => ?_
  exact List.count_pos_iff.mp (by rw [← hb K]; exact List.count_pos_iff.mpr (hk K hK))
end
section
variable {hs : Hd} {m m' : Nat} {Ks Ks' A B : Rws} {Ns Ns' : List Int} {L M : Row}
theorem oV : ∀ {Ks : Rws} {Ns : List Int}, Ks.Nodup → ∀ p ∈ Ks.zip Ns, gB Ks Ns p.1 = some p.2
  | [], _, _, p, hp => by cases hp
  | K :: Ks, [], _, p, hp => by cases hp
  | K :: Ks, n :: Ns, nd, p, hp => by
    rw [List.nodup_cons] at nd
    rw [List.zip_cons_cons, List.mem_cons] at hp
    show (if K = p.1 then some n else gB Ks Ns p.1) = some p.2
    rcases hp with rfl | hp
    · rw [if_pos rfl]
    · have hm : p.1 ∈ Ks := (List.of_mem_zip (show (p.1, p.2) ∈ Ks.zip Ns from hp)).1
      rw [if_neg (show ¬ K = p.1 from fun z => nd.1 (by rw [z]; exact hm))]
      exact oV nd.2 p hp
theorem yG {i : Int} : g9 (.int i) (.int i) = some true := by
  simp [g9, fv, eqV]
theorem p8 (al' : ∀ K ∈ Ks', Al hs K) : ∀ {Ks : Rws} {Ns : List Int}, Ks.length = Ns.length → (∀ K ∈ Ks, Al hs K) → (∀ p ∈ Ks.zip Ns, gB Ks' Ns' p.1 = some p.2) → iU (Ks'.map kyD) (Ns'.map D.int) (Ks.map kyD) (Ns.map D.int) = some true
  | [], [], _, _, _ => rfl
  | K :: Ks, n :: Ns, hl, al, hg => by
    show ((kOf (kyD K)).bind fun key => _) = _
    rw [lI, Option.bind_some, fV (al K (by simp)) Ks' Ns' al', hg (K, n) (by simp)]
    show ((g9 (.int n) (.int n)).bind _) = _
    rw [yG, Option.bind_some, p8 al' (by simpa using hl) (fun K hK => al K (by simp [hK])) (fun p hp => hg p (by simp [hp]))]
    rfl
theorem p9 (c : Cnt hs m Ks Ns A) (c' : Cnt hs m' Ks' Ns' B) (hA : ∀ K ∈ Ks, K ∈ A) (hB : ∀ K ∈ Ks', K ∈ B) (p : A.Perm B) : lr (jL Ks Ns) (jL Ks' Ns') = some true := by
  have back : ∀ {m : Nat} {Ks A : Rws} {Ns : List Int}, Cnt hs m Ks Ns A → ∀ K ∈ A, K ∈ Ks := fun {m Ks A Ns} c K hK => by
    have h1 := c.ct K
    have h2 : 0 < A.count K := List.count_pos_iff.mpr hK
    cases z : gB Ks Ns K with
    | none =>
      rw [z] at h1
      have : (0 : Int) = (A.count K : Int) := h1
      omega
    | some n => exact lK z
  have hp : Ks.Perm Ks' := (List.perm_ext_iff_of_nodup c.nd c'.nd).mpr fun K => ⟨fun h => back c' K (p.mem_iff.mp (hA K h)), fun h => back c K (p.mem_iff.mpr (hB K h))⟩
  unfold jL
  simp only [lr, List.length_map]
  rw [if_pos hp.length_eq]
  refine p8 c'.al c.len c.al fun q hq => ?_
  have h1 := oV c.nd q hq
  have h2 := c.ct q.1
  have h3 := c'.ct q.1
  have hm : q.1 ∈ Ks := (List.of_mem_zip (show (q.1, q.2) ∈ Ks.zip Ns from hq)).1
  have h4 : 0 < B.count q.1 := List.count_pos_iff.mpr (p.mem_iff.mp (hA q.1 hm))
  rw [h1] at h2
  have h2 : q.2 = (A.count q.1 : Int) := h2
  have h5 : A.count q.1 = B.count q.1 := p.count_eq q.1
  cases z : gB Ks' Ns' q.1 with
  | none =>
    rw [z] at h3
    have : (0 : Int) = (B.count q.1 : Int) := h3
    omega
  | some n =>
    rw [z] at h3
    have h3 : n = (B.count q.1 : Int) := h3
    rw [h2, h3, h5]
end
section
variable {n : Nat} {s : DS} {E : Xn → DS → Prop} {P : D → DS → Prop} {R : Res → DS → Prop} {e : Nat} {hs : Hd} {L M : Row} {A B : Rws} {k : Kd} {a b : Vl}
theorem tV (ok : fO hs) (la : A.length ≤ 900) (alA : ∀ L ∈ A, Al hs L) (p : A.Perm B) : sem (n + 4) 23 [tbD hs A, tbD hs B] s = some (.ok (.bl true), s) := by
  refine cZ ?_
  show Wp (fnD 2 (b_d (sem (n + 3))) [tbD hs A, tbD hs B] s) _ _
  refine bo ?_
  unfold b_d
  repeat (first | array_get_dec | array_mem_dec)
  refine aH (a := D.bl true) (by kernel_rfl) ?_
  repeat (first | array_get_dec | array_mem_dec)
  refine aH (a := D.lst (dH hs)) (by kernel_rfl) ?_
  repeat (first | array_get_dec | array_mem_dec)
  refine aH (a := D.lst (dH hs)) (by kernel_rfl) ?_
  repeat (first | array_get_dec | array_mem_dec)
  refine fb (dW ok.nm) (dW ok.nm) ?_
  rw [dN _ (dW ok.nm).1]
  repeat (first | array_get_dec | array_mem_dec)
  refine aH (a := D.lst (rwD A)) (by kernel_rfl) ?_
  repeat array_get_dec
  refine fo (n := n) la ok.le alA fun Ks Ns c hk => ?_
  repeat array_get_dec
  refine aH (a := D.lst (rwD B)) (by kernel_rfl) ?_
  repeat array_get_dec
  refine fo (n := n) (by rw [← p.length_eq]; exact la) ok.le (fun L hL => alA L (p.mem_iff.mpr hL)) fun Ks' Ns' c' hk' => ?_
  repeat array_get_dec
  refine aH (a := D.bl true) (by show (lr _ _).map D.bl = _; rw [p9 c c' hk hk' p]; rfl) ?_
  exact ⟨rfl, rfl⟩
end
end K20
set_option Elab.async false
set_option linter.all false
set_option maxRecDepth 100000
set_option maxHeartbeats 4000000
namespace K20
open PySem L2 Lay DM XK PySem.W PyProof.Rows
local macro_rules
  | `(tactic| array_get_dec) => `(tactic| first
    | with_reducible refine Stp.go ?_
    | (with_reducible refine dE ?_ ?_; focus (first | decide | omega))
    | (with_reducible refine dF ?_ ?_; focus (first | decide | omega))
    | with_reducible refine cj ?_
    | (with_reducible refine dG ?_ ?_; focus decide)
    | (with_reducible refine cY ?_ ?_; focus (first | (left; decide) | (right; decide) | (left; omega) | (right; omega))))
local macro_rules
  | `(tactic| array_mem_dec) => `(tactic| first
    | (with_reducible refine fe ?_ ?_; focus (first | rfl | decide))
    | (with_reducible refine dj ?_ ?_; focus (first | rfl | decide)))
section
variable {hs : Hd} {m m' : Nat} {Ks Ks' A B : Rws} {Ns Ns' : List Int} {L M : Row}
theorem nz (al' : ∀ K ∈ Ks', Al hs K) : ∀ {Ks : Rws} {Ns : List Int}, Ks.length = Ns.length → (∀ K ∈ Ks, Al hs K) → ∃ b, iU (Ks'.map kyD) (Ns'.map D.int) (Ks.map kyD) (Ns.map D.int) = some b ∧ (b = true → ∀ p ∈ Ks.zip Ns, gB Ks' Ns' p.1 = some p.2)
  | [], [], _, _ => ⟨true, rfl, fun _ p hp => by cases hp⟩
  | K :: Ks, n :: Ns, hl, al => by
    obtain ⟨b, e, hb⟩ := nz al' (Ks := Ks) (Ns := Ns) (by simpa using hl) (fun K hK => al K (by simp [hK]))
    have e0 : iU (Ks'.map kyD) (Ns'.map D.int) ((K :: Ks).map kyD) ((n :: Ns).map D.int) = (match (gB Ks' Ns' K).map D.int with
      | none => some false
      | some e => (g9 (.int n) e).bind fun b => (iU (Ks'.map kyD) (Ns'.map D.int) (Ks.map kyD) (Ns.map D.int)).map fun r => b && r) := by
      show ((kOf (kyD K)).bind fun key => _) = _
      rw [lI, Option.bind_some, fV (al K (by simp)) Ks' Ns' al']
      all_goals rfl
    rw [e0, e]
    cases hg : gB Ks' Ns' K with
    | none => exact ⟨false, rfl, fun z => (by cases z)⟩
    | some k =>
      have ef : g9 (.int n) (.int k) = some (decide (n = k)) := by
        simp [g9, fv, eqV]
        rfl
      refine ⟨decide (n = k) && b, ?_, fun z => ?_⟩
      · show ((g9 (.int n) (.int k)).bind fun b' => (some b).map fun r => b' && r) = _
        rw [ef]
        rfl
      · rw [Bool.and_eq_true, decide_eq_true_eq] at z
        intro p hp
        rw [List.zip_cons_cons, List.mem_cons] at hp
        rcases hp with rfl | hp
        · show gB Ks' Ns' K = some n
          rw [hg, z.1]
        · exact hb z.2 p hp
theorem nB : ∀ {Ks Ks' : Rws}, Ks.Nodup → (∀ K ∈ Ks, K ∈ Ks') → Ks.length = Ks'.length → ∀ K ∈ Ks', K ∈ Ks
  | [], Ks', _, _, hl, K, hK => by
    rw [List.eq_nil_of_length_eq_zero hl.symm] at hK
    cases hK
  | J :: Ks, Ks', nd, hs, hl, K, hK => by
    rw [List.nodup_cons] at nd
    have hJ := hs J (by simp)
    by_cases e : K = J
    · rw [e]; simp
    · have l2 : Ks.length = (Ks'.erase J).length := by
        rw [List.length_erase_of_mem hJ]
        simp only [List.length_cons] at hl
        omega
      refine List.mem_cons_of_mem _ (nB nd.2 (fun M hM => ?_) l2 K ((List.mem_erase_of_ne e).mpr hK))
      exact (List.mem_erase_of_ne (fun z => nd.1 (by rw [← z]; exact hM))).mpr (hs M (List.mem_cons_of_mem _ hM))
theorem tW (c : Cnt hs m Ks Ns A) (c' : Cnt hs m' Ks' Ns' B) (hA : ∀ K ∈ Ks, K ∈ A) (hB : ∀ K ∈ Ks', K ∈ B) : ∃ b, lr (jL Ks Ns) (jL Ks' Ns') = some b ∧ (b = true ↔ A.Perm B) := by
  have back : ∀ {m : Nat} {Ks A : Rws} {Ns : List Int}, Cnt hs m Ks Ns A → ∀ K ∈ A, K ∈ Ks := fun {m Ks A Ns} c K hK => by
    have h1 := c.ct K
    have h2 : 0 < A.count K := List.count_pos_iff.mpr hK
    cases z : gB Ks Ns K with
    | none =>
      rw [z] at h1
      have : (0 : Int) = (A.count K : Int) := h1
      omega
    | some n => exact lK z
  by_cases p : A.Perm B
  · exact ⟨true, p9 c c' hA hB p, by simp [p]⟩
  · have key : ∃ b, lr (jL Ks Ns) (jL Ks' Ns') = some b ∧ (b = true → A.Perm B) := by
      unfold jL
      simp only [lr, List.length_map]
      split
      · rename_i hl
        obtain ⟨b, e, hb⟩ := nz (Ns' := Ns') c'.al c.len c.al
        refine ⟨b, e, fun z => ?_⟩
        have hh := hb z
        have cnt : ∀ K ∈ Ks, A.count K = B.count K ∧ K ∈ Ks' := fun K hK => by
          have hi : ∃ n, (K, n) ∈ Ks.zip Ns := by
            obtain ⟨i, hi⟩ := List.mem_iff_getElem?.mp hK
            have hlt : i < Ks.length := (List.getElem?_eq_some_iff.mp hi).1
            have hlt2 : i < Ns.length := by rw [← c.len]; exact hlt
            refine ⟨Ns[i], List.mem_iff_getElem?.mpr ⟨i, ?_⟩⟩
            rw [List.getElem?_zip_eq_some]
            exact ⟨hi, List.getElem?_eq_getElem hlt2⟩
          obtain ⟨n, hn⟩ := hi
          have h1 : gB Ks' Ns' K = some n := hh (K, n) hn
          have h2 : gB Ks Ns K = some n := oV c.nd (K, n) hn
          have h3 := c.ct K
          have h4 := c'.ct K
          rw [h2] at h3
          rw [h1] at h4
          have h3 : n = (A.count K : Int) := h3
          have h4 : n = (B.count K : Int) := h4
          exact ⟨by omega, lK h1⟩
        refine List.perm_iff_count.mpr fun K => ?_
        by_cases hK : K ∈ Ks
        · exact (cnt K hK).1
        · have h1 : A.count K = 0 := by
            rw [List.count_eq_zero]
            exact fun z => hK (back c K z)
          have h2 : B.count K = 0 := by
            rw [List.count_eq_zero]
            exact fun z => hK (nB c.nd (fun M hM => (cnt M hM).2) hl K (back c' K z))
          rw [h1, h2]
      · exact ⟨false, rfl, fun z => (by cases z)⟩
    obtain ⟨b, e, hb⟩ := key
    exact ⟨b, e, hb, fun z => absurd z p⟩
end
section
variable {n : Nat} {s : DS} {E : Xn → DS → Prop} {P : D → DS → Prop} {hs hs' : Hd} {A B : Rws}
theorem tX (ok : fO hs) (la : A.length ≤ 900) (lb : B.length ≤ 900) (alA : ∀ L ∈ A, Al hs L) (alB : ∀ L ∈ B, Al hs L) : ∃ b, (b = true ↔ A.Perm B) ∧ sem (n + 4) 23 [tbD hs A, tbD hs B] s = some (.ok (.bl b), s) := by
  have key : Wp (sem (n + 4) 23 [tbD hs A, tbD hs B] s) nE fun d s' => ∃ b, (b = true ↔ A.Perm B) ∧ d = .bl b ∧ s' = s := by
    show Wp (fnD 2 (b_d (sem (n + 3))) [tbD hs A, tbD hs B] s) _ _
    refine bo ?_
    unfold b_d
    repeat (first | array_get_dec | array_mem_dec)
    refine aH (a := D.bl true) (by kernel_rfl) ?_
    repeat (first | array_get_dec | array_mem_dec)
    refine aH (a := D.lst (dH hs)) (by kernel_rfl) ?_
    repeat (first | array_get_dec | array_mem_dec)
    refine aH (a := D.lst (dH hs)) (by kernel_rfl) ?_
    repeat (first | array_get_dec | array_mem_dec)
    refine fb (dW ok.nm) (dW ok.nm) ?_
    rw [dN _ (dW ok.nm).1]
    repeat (first | array_get_dec | array_mem_dec)
    refine aH (a := D.lst (rwD A)) (by kernel_rfl) ?_
    repeat array_get_dec
    refine fo (n := n) la ok.le alA fun Ks Ns c hk => ?_
    repeat array_get_dec
    refine aH (a := D.lst (rwD B)) (by kernel_rfl) ?_
    repeat array_get_dec
    refine fo (n := n) lb ok.le alB fun Ks' Ns' c' hk' => ?_
    repeat array_get_dec
    obtain ⟨b, e, hb⟩ := tW c c' hk hk'
    refine aH (a := D.bl b) (by show (lr _ _).map D.bl = _; rw [e]; rfl) ?_
    exact ⟨b, hb, rfl, rfl⟩
  rcases key with ⟨d, s', e, b, hb, rfl, rfl⟩ | ⟨_, _, _, h⟩
  · exact ⟨b, hb, e⟩
  · exact h.elim
theorem yH (ok : fO hs) (ok' : fO hs') (ne : eqD (.lst (dH hs)) (.lst (dH hs')) = false) : sem (n + 4) 23 [tbD hs A, tbD hs' B] s = some (.ok (.bl false), s) := by
  refine cZ ?_
  show Wp (fnD 2 (b_d (sem (n + 3))) [tbD hs A, tbD hs' B] s) _ _
  refine bo ?_
  unfold b_d
  repeat (first | array_get_dec | array_mem_dec)
  refine aH (a := D.bl true) (by kernel_rfl) ?_
  repeat (first | array_get_dec | array_mem_dec)
  refine aH (a := D.lst (dH hs)) (by kernel_rfl) ?_
  repeat (first | array_get_dec | array_mem_dec)
  refine aH (a := D.lst (dH hs')) (by kernel_rfl) ?_
  repeat (first | array_get_dec | array_mem_dec)
  refine fb (dW ok.nm) (dW ok'.nm) ?_
  rw [ne]
  repeat (first | array_get_dec | array_mem_dec)
  exact ⟨rfl, rfl⟩
theorem yI {xs : List D} : sem (n + 1) 23 [tbD hs A, .lst xs] s = some (.ok (.bl false), s) := by
  refine cZ ?_
  show Wp (fnD 2 (b_d (sem n)) [tbD hs A, .lst xs] s) _ _
  refine bo ?_
  unfold b_d
  repeat (first | array_get_dec | array_mem_dec)
  refine aH (a := D.bl false) (by kernel_rfl) ?_
  repeat (first | array_get_dec | array_mem_dec)
  exact ⟨rfl, rfl⟩
/-- == or != of two tables -/
theorem gb {b : Bool} {g : Bool → Bool} {ma mb : En → DM.M D} {ρ : En} {s2 : DS} (ha : ∀ P : D → DS → Prop, P (tbD hs A) s → Wp (ma ρ s) E P) (hb : ∀ P : D → DS → Prop, P (tbD hs' B) s2 → Wp (mb ρ s) E P) (e : sem (n + 4) 23 [tbD hs A, tbD hs' B] s2 = some (.ok (.bl b), s2)) (q : P (.bl (g b)) s2) : Wp (dv "Table" g (sem (n + 4) 23) ma mb ρ s) E P := by
  refine a9 (ha _ (a9 (hb _ ?_)))
  show Wp (if ("Table" : Str) = "Table" ∧ ("Table" : Str) = "Table" then _ else none) E P
  rw [if_pos ⟨rfl, rfl⟩, e]
  exact cM q
theorem tY {xs : List D} {ma mb : En → DM.M D} {ρ : En} (ha : ∀ P : D → DS → Prop, P (tbD hs A) s → Wp (ma ρ s) E P) (hb : ∀ P : D → DS → Prop, P (.lst xs) s → Wp (mb ρ s) E P) (q : P (.bl false) s) : Wp (je "Table" (sem (n + 1) 23) ma mb ρ s) E P := by
  refine a9 (ha _ (a9 (hb _ ?_)))
  show Wp (if ("Table" : Str) = "Table" then _ else none) E P
  rw [if_pos rfl, yI]
  exact cM q
end
end K20
set_option Elab.async false
set_option linter.all false
set_option maxRecDepth 100000
set_option maxHeartbeats 4000000
namespace K20
open PySem L2 Lay DM
local macro_rules
  | `(tactic| array_get_dec) => `(tactic| first
    | with_reducible refine Stp.go ?_
    | (with_reducible refine dE ?_ ?_; focus (first | decide | omega))
    | (with_reducible refine dF ?_ ?_; focus (first | decide | omega))
    | with_reducible refine cj ?_
    | (with_reducible refine dG ?_ ?_; focus decide)
    | (with_reducible refine cY ?_ ?_; focus (first | (left; decide) | (right; decide) | (left; omega) | (right; omega))))
local macro_rules
  | `(tactic| array_mem_dec) => `(tactic| first
    | (with_reducible refine fe ?_ ?_; focus (first | rfl | decide))
    | (with_reducible refine dj ?_ ?_; focus (first | rfl | decide)))
def hdR (n : Nat) : DM.S :=
  (aB (bO (.one 4) (eOp bw (eC (.int 1)) (eOp oMod (aw 1 (sem n 11) (ab (ai 0) ak)) (eCB cK (ab (ai 2) ak)))))
    (aV (eLc (.one 5) (iD isX (eSl slX (ai 2) cq (cu (ai 4)))) a6 (c3 (ab (ai 5) (ab (eOp oIx (ai 3) (eOp oMod (aw 1 (sem n 11) (ab (ai 0) ak)) (eCB cK (ab (ai 3) ak)))) ak))))))
theorem lL (n : Nat) : b_u (sem n) = (aB (bO (.one 3) (eSl slX (bE (ab (eC (.str "number")) (ab (eC (.str "text")) (ab (eC (.str "number")) (ab (eC (.str "text")) (ab (eC (.str "day")) ak)))))) cq (cu (eOp oIx (bE (ab (eC (.int 4)) (ab (eC (.int 5)) ak))) (eCB kG (ab (eOp cH (ai 1) (eC (.str "hill"))) ak))))))
    (hdR n)) := rfl
section
variable {n : Nat} {s : DS} {E : Xn → DS → Prop} {P : D → DS → Prop} {R : Res → DS → Prop}
theorem i8 (hn : 1 ≤ n) (hk : s.k ≤ lim) (hm : s.m = []) (p : ∀ (r : Int) (s' : DS), 0 ≤ r → r < 1073741824 → s'.k = s.k + 1 → s'.m = [] → P (.int r) s') : Wp (sem n 11 [.drw] s) E P := by
  obtain ⟨n, rfl⟩ := Nat.exists_eq_add_of_lt hn
  show Wp (next [.drw] s) E P
  refine wp_keep (inferInstance : PmF next) ?_
  refine Wp.monoE (E := fun _ _ => False) (r9 hk fun r s' h0 h1 h2 e => p r s' h0 h1 h2 (e.trans hm)) fun _ _ h => h.elim
/-- the letters of which so many are taken -/
theorem let4 : ∀ m : Int, 1 ≤ m → m ≤ 4 → ∃ (z' : Str) (ls : List Str), slX (.str "abcd") none (some m) = some (.str z') ∧ isX (.str z') = some (ls.map .str) ∧ ls ≠ [] ∧ ls.Nodup ∧ ls.length ≤ 4 ∧ ∀ x ∈ ls, x ∈ (["a", "b", "c", "d"] : List Str) := fun m h1 h2 => by
  have : m = 1 ∨ m = 2 ∨ m = 3 ∨ m = 4 := by omega
  rcases this with rfl | rfl | rfl | rfl
  · exact ⟨"a", ["a"], by kernel_rfl, by kernel_rfl, by simp, by decide +kernel, by decide, by decide +kernel⟩
  · exact ⟨"ab", ["a", "b"], by kernel_rfl, by kernel_rfl, by simp, by decide +kernel, by decide, by decide +kernel⟩
  · exact ⟨"abc", ["a", "b", "c"], by kernel_rfl, by kernel_rfl, by simp, by decide +kernel, by decide, by decide +kernel⟩
  · exact ⟨"abcd", ["a", "b", "c", "d"], by kernel_rfl, by kernel_rfl, by simp, by decide +kernel, by decide, by decide +kernel⟩
def kl5 : List Kd := [.number, .text, .number, .text, .day]
theorem wL {v0 v1 v2 v4 : Sl} (hn : 1 ≤ n) : ∀ (ls : List Str) (s : DS) (v5 : Sl) (QL : List D → DS → Prop), s.k + ls.length ≤ lim → s.m = [] → (∀ (hs : Hd) (s' : DS), nH hs = ls → s'.k = s.k + ls.length → s'.m = [] → QL ((dH hs)) s') → Wp (c8 (.one 5) a6 (c3 (ab (ai 5) (ab (eOp oIx (ai 3) (eOp oMod (aw 1 (sem n 11) (ab (ai 0) ak)) (eCB cK (ab (ai 3) ak)))) ak))) [.val .drw, v1, v2, .val (.lst (kl5.map fun k => .str k.s)), v4, v5] (ls.map .str) s) E QL
  | [], s, v5, QL, hlim, hm, q => gN (q [] s rfl rfl hm)
  | x :: ls, s, v5, QL, hlim, hm, q => by
    have ih := wL (v0 := v0) (v1 := v1) (v2 := v2) (v4 := v4) hn ls
    simp only [List.length_cons] at hlim
    show Wp (c8 _ _ _ _ (.str x :: ls.map .str) s) E QL
    repeat array_get_dec
    refine i8 hn (by omega) hm fun r s1 h0 h1 e1 m1 => ?_
    repeat array_get_dec
    have hp : (0 : Int) < (kl5.length : Int) := by decide
    refine sj (Int.emod_nonneg _ (by decide)) (by rw [List.length_map]; exact Int.emod_lt_of_pos _ hp) fun j dd _ e => ?_
    obtain ⟨k, hk, rfl⟩ := List.mem_map.mp (List.mem_of_getElem? e)
    repeat array_get_dec
    refine ih s1 _ _ (by omega) m1 fun hs s' l1 l3 l4 => ?_
    exact q ((x, k) :: hs) s' (by show x :: nH hs = _; rw [l1]) (by simp only [List.length_cons]; omega) l4
theorem vI (hn : 2 ≤ n) (hlim : s.k + 5 ≤ lim) (hm : s.m = []) (p : ∀ hs s', fO hs → hs.length ≤ 4 → (∀ y ∈ nH hs, y ∈ (["a", "b", "c", "d"] : List Str)) → s'.k ≤ s.k + 5 → s'.m = [] → P (.lst (dH hs)) s') : Wp (sem n 13 [.drw, .str "hill", .str "abcd"] s) E P := by
  obtain ⟨n, rfl⟩ := Nat.exists_eq_add_of_lt hn
  show Wp (fnD 6 (b_u (sem (1 + n))) [.drw, .str "hill", .str "abcd"] s) E P
  refine bo ?_
  rw [lL]
  have k0 : slX (.lst [.str "number", .str "text", .str "number", .str "text", .str "day"]) none (some 5) = some (.lst (kl5.map fun k => .str k.s)) := by kernel_rfl
  have l0 : cK [.str "abcd"] = some (.int 4) := by kernel_rfl
  have key : Wr (hdR (1 + n) [.val .drw, .val (.str "hill"), .val (.str "abcd"), .val (.lst (kl5.map fun k => .str k.s)), .no, .no] s) (mn E P) := by
    unfold hdR
    repeat array_get_dec
    refine i8 (by omega) (by omega) hm fun r s1 h0 h1 e1 m1 => ?_
    repeat (first | array_get_dec | with_reducible refine aH l0 ?_)
    obtain ⟨z', ls, m1', m2, m3, m4, m5, m6⟩ := let4 (1 + r % 4) (by omega) (by omega)
    repeat (first | array_get_dec | with_reducible refine aH m1' ?_ | with_reducible refine aH m2 ?_)
    rw [show (z'.cps.toList.map fun c => D.str ⟨#[c]⟩) = ls.map D.str from Option.some.inj (show some (z'.cps.toList.map fun c => D.str ⟨#[c]⟩) = some (ls.map D.str) from m2)]
    refine wL (v0 := .no) (by omega) ls s1 _ _ (by omega) m1 fun hs s2 q1 q3 q4 => ?_
    have hl : hs.length = ls.length := by rw [← q1]; simp [nH]
    refine ⟨aU (by rw [dH, List.length_map]; omega), ?_⟩
    repeat array_get_dec
    have m6' : ∀ y ∈ nH hs, y ∈ (["a", "b", "c", "d"] : List Str) := fun y hy => m6 y (by rw [← q1]; exact hy)
    have nm : ∀ y ∈ hs, Nm y.1 := fun y hy => by
      have := m6' y.1 (List.mem_map.mpr ⟨y, hy, rfl⟩)
      simp only [List.mem_cons, List.not_mem_nil, or_false] at this
      simp only [Nm, qS, List.mem_cons, List.not_mem_nil, or_false]
      rcases this with h | h | h | h <;> simp [h]
    exact p hs s2 ⟨nm, by rw [q1]; exact m4, fun z => m3 (by rw [← q1, z]; rfl), by omega⟩ (by omega) m6' (by omega) q4
  repeat array_get_dec
  refine fe (by decide +kernel) ?_
  repeat (first | array_get_dec | with_reducible refine aH k0 ?_)
  exact key
theorem yJ (hn : 3 ≤ n) (hlim : s.k + 7 ≤ lim) (hm : s.m = []) (p : ∀ hs s', fO hs → hs.length ≤ 5 → ("zz" : Str) ∉ nH hs → s'.k ≤ s.k + 7 → s'.m = [] → P (.lst (dH hs)) s') : Wp (sem n 20 [.drw] s) E P := by
  obtain ⟨n, rfl⟩ : ∃ m, n = m + 1 := ⟨n - 1, by omega⟩
  show Wp (fnD 2 (b_y (sem n)) [.drw] s) E P
  refine bo ?_
  unfold b_y
  repeat array_get_dec
  refine vI (by omega) (by omega) hm fun hs s1 ok l4 mm u1 m1 => ?_
  repeat array_get_dec
  refine i8 (by omega) (by omega) m1 fun r s2 h0 h1 e1 m2 => ?_
  have zz : ("zz" : Str) ∉ nH hs := fun z => absurd (mm _ z) (by decide +kernel)
  repeat array_get_dec
  refine fM (fun _ => ?_) (fun _ => ?_)
  · repeat array_get_dec
    refine i8 (by omega) (by omega) m2 fun r2 s3 h2 h3 e2 m3 => ?_
    repeat array_get_dec
    refine fL (xs := [.str "a1", .str "abcdefg8", .str "zzzzzzzz", .str "z0123456"]) (by omega) (by show _ < (4 : Int); omega) fun d hd => ?_
    obtain ⟨x, rfl, hx⟩ : ∃ x : Str, d = .str x ∧ x ∈ (["a1", "abcdefg8", "zzzzzzzz", "z0123456"] : List Str) := by
      simp only [List.mem_cons, List.not_mem_nil, or_false] at hd
      rcases hd with rfl | rfl | rfl | rfl <;> exact ⟨_, rfl, by simp⟩
    repeat array_get_dec
    have hl : (dH hs).length = hs.length := List.length_map _
    refine cX (aU (by simp only [List.length_cons, List.length_nil]; omega)) ?_
    rw [show dH hs ++ [D.tup [.str x, .str "number"]] = dH (hs ++ [(x, .number)]) by simp [dH, hd]; rfl]
    repeat array_get_dec
    have hxn : Nm x := by
      simp only [List.mem_cons, List.not_mem_nil, or_false] at hx
      simp only [Nm, qS, List.mem_cons, List.not_mem_nil, or_false]
      rcases hx with h | h | h | h <;> simp [h]
    have hxx : x ∉ nH hs := fun z => by
      simp only [List.mem_cons, List.not_mem_nil, or_false] at hx
      rcases hx with rfl | rfl | rfl | rfl <;> exact absurd (mm _ z) (by decide +kernel)
    have en : nH (hs ++ [(x, Kd.number)]) = nH hs ++ [x] := by simp [nH]
    refine p _ s3 ⟨fun y hy => ?_, ?_, by simp, by rw [List.length_append]; simp only [List.length_cons, List.length_nil]; omega⟩ (by rw [List.length_append]; simp only [List.length_cons, List.length_nil]; omega) ?_ (by omega) m3
    · rcases List.mem_append.mp hy with hy | hy
      · exact ok.nm y hy
      · rw [List.mem_singleton.mp hy]; exact hxn
    · rw [en, List.nodup_append]
      exact ⟨ok.nd, by simp, fun a ha b hb e => hxx (by rw [← List.mem_singleton.mp hb, ← e]; exact ha)⟩
    · rw [en, List.mem_append, List.mem_singleton]
      rintro (z | z)
      · exact zz z
      · rw [← z] at hx
        exact absurd hx (by decide +kernel)
  · repeat array_get_dec
    exact p hs s2 ok (by omega) zz (by omega) m2
/-- a worth drawn -/
def cD : Vl → D
  | .day i => .tup [.str "day", .int i]
  | v => pd v
theorem yK {k : Kd} (hn : 2 ≤ n) (hlim : s.k ≤ lim) (hm : s.m = []) (p : ∀ v s', kdV v k → okV v → s'.k = s.k + 1 → s'.m = [] → P (cD v) s') : Wp (sem n 12 [.drw, .str "hill", .str k.s] s) E P := by
  obtain ⟨n, rfl⟩ := Nat.exists_eq_add_of_lt hn
  show Wp (fnD 4 (b_t (sem (1 + n))) [.drw, .str "hill", .str k.s] s) E P
  refine bo ?_
  unfold b_t
  repeat array_get_dec
  refine i8 (by omega) (by omega) hm fun r s1 h0 h1 e1 m1 => ?_
  repeat array_get_dec
  refine fM (fun _ => ?_) (fun _ => ?_)
  · repeat array_get_dec
    exact p .bk s1 trivial trivial e1 m1
  repeat array_get_dec
  cases k with
  | number =>
    refine fe (by decide +kernel) ?_
    repeat array_get_dec
    refine nY (fun d => ∃ i : Int, d = .int i) (by split <;> omega) (by simp only [List.length_cons, List.length_nil]; split <;> omega) (.cons ⟨_, rfl⟩ (.cons ⟨_, rfl⟩ (.cons ⟨_, rfl⟩ .nil))) ?_
    rintro d ⟨i, rfl⟩
    repeat array_get_dec
    exact p (.num i) s1 rfl trivial e1 m1
  | text =>
    refine dj (by decide +kernel) ?_
    repeat array_get_dec
    refine fe (by decide +kernel) ?_
    repeat array_get_dec
    refine aH (a := D.str "") (by kernel_rfl) ?_
    repeat array_get_dec
    refine nY (fun d => ∃ z : Str, PyData.strOk z = true ∧ d = .str z) (by omega) (by simp only [List.length_cons, List.length_nil]; omega) (.cons ⟨_, by decide +kernel, rfl⟩ (.cons ⟨_, by decide +kernel, rfl⟩ (.cons ⟨_, by decide +kernel, rfl⟩ (.cons ⟨_, by decide +kernel, rfl⟩ (.cons ⟨_, by decide +kernel, rfl⟩ (.cons ⟨_, by decide +kernel, rfl⟩ (.cons ⟨_, by decide +kernel, rfl⟩ .nil))))))) ?_
    rintro d ⟨z, hz, rfl⟩
    repeat array_get_dec
    exact p (.txt z) s1 rfl hz e1 m1
  | day =>
    refine dj (by decide +kernel) ?_
    repeat array_get_dec
    refine dj (by decide +kernel) ?_
    repeat array_get_dec
    refine nY (fun d => ∃ i : Int, d = .int i) (by omega) (by simp only [List.length_cons, List.length_nil]; omega) (.cons ⟨_, rfl⟩ (.cons ⟨_, rfl⟩ (.cons ⟨_, rfl⟩ (.cons ⟨_, rfl⟩ .nil)))) ?_
    rintro d ⟨i, rfl⟩
    repeat array_get_dec
    exact p (.day i) s1 rfl trivial e1 m1
theorem tZ (v : Vl) : sem (n + 1) 14 [cD v] s = some (.ok (pd v), s) := by cases v <;> kernel_rfl
end
end K20
set_option Elab.async false
set_option linter.all false
set_option maxRecDepth 100000
set_option maxHeartbeats 4000000
namespace K20
open PySem L2 Lay DM
local macro_rules
  | `(tactic| array_get_dec) => `(tactic| first
    | with_reducible refine Stp.go ?_
    | (with_reducible refine dE ?_ ?_; focus (first | decide | omega))
    | (with_reducible refine dF ?_ ?_; focus (first | decide | omega))
    | with_reducible refine cj ?_
    | (with_reducible refine dG ?_ ?_; focus decide)
    | (with_reducible refine cY ?_ ?_; focus (first | (left; decide) | (right; decide) | (left; omega) | (right; omega))))
local macro_rules
  | `(tactic| array_mem_dec) => `(tactic| first
    | (with_reducible refine fe ?_ ?_; focus (first | rfl | decide))
    | (with_reducible refine dj ?_ ?_; focus (first | rfl | decide)))
def dlV : Vl → Vl
  | .txt z => if z = "" then .bk else .txt z
  | .day i => .num i
  | v => v
def dlK : Kd → Kd
  | .day => .number
  | k => k
def dlH (hs : Hd) : Hd := hs.map fun p => (p.1, dlK p.2)
def dlR (L : Row) : Row := L.map dlV
def gj (Ls : Rws) : Rws := Ls.map dlR
theorem dlV2 (v : Vl) : dlV (dlV v) = dlV v := by
  cases v <;> try rfl
  rename_i z
  by_cases h : z = ""
  · simp [dlV, h]
  · simp [dlV, h]
theorem dlK2 (k : Kd) : dlK (dlK k) = dlK k := by cases k <;> rfl
theorem dlH2 (hs : Hd) : dlH (dlH hs) = dlH hs := by
  simp [dlH, dlK2]
theorem zf (Ls : Rws) : gj (gj Ls) = gj Ls := by
  simp only [gj, List.map_map]
  refine List.map_congr_left fun L _ => ?_
  simp only [Function.comp, dlR, List.map_map]
  exact List.map_congr_left fun v _ => dlV2 v
theorem zg (hs : Hd) : nH (dlH hs) = nH hs := by simp [nH, dlH]
theorem qa (hs : Hd) : (dlH hs).length = hs.length := by simp [dlH]
theorem yL {hs : Hd} (o : fO hs) : fO (dlH hs) := ⟨fun p hp => by
  obtain ⟨q, hq, rfl⟩ := List.mem_map.mp hp
  exact o.nm q hq, by rw [zg]; exact o.nd, fun e => o.ne (by
    rw [← List.length_eq_zero_iff, ← qa hs, e]
    rfl), by rw [qa]; exact o.le⟩
theorem zh {v : Vl} {k : Kd} (h : kdV v k) : kdV (dlV v) (dlK k) := by
  cases v with
  | bk => trivial
  | num i => cases (show k = .number from h); rfl
  | txt z =>
    cases (show k = .text from h)
    show kdV (if z = "" then Vl.bk else .txt z) .text
    split
    · trivial
    · rfl
  | day i => cases (show k = .day from h); rfl
theorem wM {v : Vl} (h : okV v) : okV (dlV v) := by
  cases v <;> try trivial
  rename_i z
  show okV (if z = "" then Vl.bk else .txt z)
  split
  · trivial
  · exact h
theorem zi {hs : Hd} {L : Row} (a : Al hs L) : Al (dlH hs) (dlR L) := by
  induction a with
  | nil => exact .nil
  | cons h1 h2 _ ih => exact .cons (zh h1) (wM h2) ih
theorem wN {hs : Hd} {Ls : Rws} (t : e8 hs Ls) : e8 (dlH hs) (gj Ls) := ⟨yL t.ok, by simpa [gj] using t.ll, fun L hL => by
  obtain ⟨M, hM, rfl⟩ := List.mem_map.mp hL
  exact zi (t.al M hM)⟩
def isE : Vl → Bool
  | .txt z => decide (z = "")
  | _ => false
theorem eqE (v : Vl) : orF cH (uY "Day" "number") (pd v) (.str "") = some (.bl (isE v)) := by
  cases v with
  | bk => rfl
  | num i => rfl
  | txt z => rfl
  | day i => rfl
theorem zj {v : Vl} (h : isE v = true) : pd (dlV v) = .non := by
  cases v <;> try (cases h; done)
  rename_i z
  simp only [isE, decide_eq_true_eq] at h
  simp [dlV, h, pd]
section
variable {n : Nat} {s : DS} {E : Xn → DS → Prop} {P : D → DS → Prop} {R : Res → DS → Prop} {hs : Hd} {Ls : Rws} {L : Row}
theorem t4 (v : Vl) : sem (n + 2) 8 [pd v] s = some (.ok (pd (dlV v)), s) := by
  refine cZ ?_
  show Wp (fnD 1 (b_r (sem (n + 1))) [pd v] s) _ _
  refine bo ?_
  unfold b_r
  repeat array_get_dec
  refine aH (eqE v) ?_
  repeat array_get_dec
  refine ⟨fun h => ?_, fun h => ?_⟩
  · repeat array_get_dec
    exact ⟨(zj h).symm, rfl⟩
  · repeat array_get_dec
    refine bF (f_m v) ?_
    refine ⟨?_, rfl⟩
    cases v <;> try rfl
    rename_i z
    simp only [isE, decide_eq_false_iff_not] at h
    simp [dlV, h, pd, pln]
theorem vJ (hl : hs.length ≤ 60) : sem (n + 1) 9 [.lst (dH hs)] s = some (.ok (.lst (dH (dlH hs))), s) := by
  refine cZ ?_
  show Wp (fnD 3 (b_s (sem n)) [.lst (dH hs)] s) _ _
  refine bo ?_
  unfold b_s
  repeat array_get_dec
  refine c9 (fun p : Str × Kd => hd p) (fun _ => true) (fun p => hd (p.1, dlK p.2)) hs (fun p hp => ?_) ?_
  · unfold hd
    repeat array_get_dec
    refine ⟨rfl, rfl, fun _ => ?_⟩
    repeat array_get_dec
    obtain ⟨x, k⟩ := p
    cases k with
    | number =>
      refine dj (by show decide ((Kd.number).s = "day") = false; decide +kernel) ?_
      repeat array_get_dec
      exact ⟨rfl, rfl⟩
    | text =>
      refine dj (by show decide ((Kd.text).s = "day") = false; decide +kernel) ?_
      repeat array_get_dec
      exact ⟨rfl, rfl⟩
    | day =>
      refine fe (by show decide ((Kd.day).s = "day") = true; decide +kernel) ?_
      repeat array_get_dec
      exact ⟨rfl, rfl⟩
  · rw [List.filter_eq_self.mpr (fun _ _ => rfl)]
    refine ⟨aU (by rw [List.length_map]; omega), ?_⟩
    refine ⟨?_, rfl⟩
    simp [dH, dlH, Function.comp]
theorem wO (L : Row) : (L.map fun v => pd (dlV v)) = pds (dlR L) := by simp [pds, dlR]
theorem t5 (t : e8 hs Ls) (hm : s.m = []) : sem (n + 5) 10 [tbD hs Ls] s = some (.ok (tbD (dlH hs) (gj Ls)), s) := by
  refine tP ?_
  show Wp (fnD 3 (b_p (sem (n + 4))) [tbD hs Ls] s) _ _
  refine bo ?_
  unfold b_p
  repeat array_get_dec
  refine ⟨rfl, ?_⟩
  repeat array_get_dec
  refine ⟨rfl, ?_⟩
  refine bF lG ?_
  repeat array_get_dec
  refine bF (vJ t.ok.le) ?_
  repeat array_get_dec
  refine ⟨rfl, ?_⟩
  repeat array_get_dec
  refine ⟨rfl, ?_⟩
  refine bF (lH t.ll) ?_
  repeat array_get_dec
  refine c9 (fun L : Row => .lst (pds L)) (fun _ => true) (fun L => .lst (pds (dlR L))) Ls (fun L hL => ?_) ?_
  · repeat array_get_dec
    refine ⟨rfl, rfl, fun _ => ?_⟩
    repeat array_get_dec
    refine c9 (fun v : Vl => pd v) (fun _ => true) (fun v => pd (dlV v)) L (fun v _ => ?_) ?_
    · repeat array_get_dec
      refine ⟨rfl, rfl, fun _ => ?_⟩
      repeat array_get_dec
      refine bF (t4 v) ?_
      exact ⟨rfl, rfl⟩
    · rw [List.filter_eq_self.mpr (fun _ _ => rfl)]
      have := (t.al L hL).len
      have := t.ok.le
      refine ⟨aU (by rw [List.length_map]; omega), ?_⟩
      rw [wO]
      exact ⟨rfl, rfl⟩
  rw [List.filter_eq_self.mpr (fun _ _ => rfl)]
  have := t.ll
  refine ⟨aU (by rw [List.length_map]; omega), ?_⟩
  rw [show (Ls.map fun L => D.lst (pds (dlR L))) = rwD (gj Ls) by simp [rwD, gj, Function.comp]]
  repeat array_get_dec
  refine ⟨rfl, ?_⟩
  refine lF (wN t) (by rw [hm]; rfl) ?_
  exact ⟨rfl, rfl⟩
/-- the law's own door -/
theorem vK (v : Vl) : sem (n + 1) 19 [pd v] s = some (.ok (pd (dlV v)), s) := by
  refine cZ ?_
  show Wp (fnD 1 (b_x (sem n)) [pd v] s) _ _
  refine bo ?_
  unfold b_x
  cases v with
  | bk =>
    repeat array_get_dec
    refine aH (a := D.bl false) (by kernel_rfl) ?_
    repeat (first | array_get_dec | array_mem_dec)
    refine aH (a := D.bl false) (by kernel_rfl) ?_
    repeat array_get_dec
    exact ⟨rfl, rfl⟩
  | num i =>
    repeat array_get_dec
    refine aH (a := D.bl false) (by kernel_rfl) ?_
    repeat (first | array_get_dec | array_mem_dec)
    refine aH (a := D.bl false) (by kernel_rfl) ?_
    repeat array_get_dec
    exact ⟨rfl, rfl⟩
  | txt z =>
    repeat array_get_dec
    refine aH (a := D.bl false) (by kernel_rfl) ?_
    repeat (first | array_get_dec | array_mem_dec)
    refine aH (a := D.bl (decide (z = ""))) rfl ?_
    repeat array_get_dec
    refine ⟨fun h => ?_, fun h => ?_⟩
    · have h : z = "" := by simpa using h
      exact ⟨by simp [dlV, h, pd], rfl⟩
    · have h : ¬ z = "" := by simpa using h
      exact ⟨by simp [dlV, h, pd], rfl⟩
  | day i =>
    repeat array_get_dec
    refine aH (a := D.bl true) (by kernel_rfl) ?_
    repeat (first | array_get_dec | array_mem_dec)
    refine aH (a := D.int i) (by kernel_rfl) ?_
    exact ⟨rfl, rfl⟩
end
end K20
set_option Elab.async false
set_option linter.all false
set_option maxRecDepth 100000
set_option maxHeartbeats 4000000
namespace K20
open PySem L2 Lay DM
local macro_rules
  | `(tactic| array_get_dec) => `(tactic| first
    | with_reducible refine Stp.go ?_
    | (with_reducible refine dE ?_ ?_; focus (first | decide | omega))
    | (with_reducible refine dF ?_ ?_; focus (first | decide | omega))
    | with_reducible refine cj ?_
    | (with_reducible refine dG ?_ ?_; focus decide)
    | (with_reducible refine cY ?_ ?_; focus (first | (left; decide) | (right; decide) | (left; omega) | (right; omega))))
local macro_rules
  | `(tactic| array_mem_dec) => `(tactic| first
    | (with_reducible refine fe ?_ ?_; focus (first | rfl | decide))
    | (with_reducible refine dj ?_ ?_; focus (first | rfl | decide)))
/-- no columns -/
def qT (d : D) : Prop := ∀ (n : Nat) (s : DS), sem (n + 2) 3 [d] s = some (.ok (.bl false), s)
/-- no row of such columns -/
def oW (hs : Hd) (d : D) : Prop := ∀ (n : Nat) (s : DS), sem (n + 4) 4 [d, .lst (dH hs)] s = some (.ok (.bl false), s)
def oX : List D := [.tup [.str "A", .str "number"], .tup [.str "a1b2c3d4e", .str "text"], .tup [.str "", .str "text"], .tup [.str "1a", .str "text"], .tup [.int 5, .str "text"], .tup [.str "a", .str "truth"]]
def oY : List D := [.tup [.str "a", .non], .tup [.str "a"], .tup [.str "a", .str "text", .str "text"], .lst [.str "a", .str "text"], .non, .str "ab", .tup [.str "a_b", .str "number"]]
theorem ip {xs : List D} {n : Nat} {Q : D → Prop} (h : Q (.lst (xs.drop n))) : WO (slX (.lst xs) (some (n : Int)) none) Q := by
  refine ⟨_, rfl, ?_⟩
  have e : cutD xs (some (n : Int)) none = xs.drop n := by
    have h0 : ¬ ((n : Int) < 0) := by omega
    unfold cutD
    simp [HT.sIx, h0]
    rcases Nat.le_total n xs.length with hl | hl
    · rw [Nat.min_eq_left hl, List.take_of_length_le (by simp)]
    · rw [Nat.min_eq_right hl, List.drop_of_length_le hl]
      simp
  rw [e]
  exact h
section
variable {n : Nat} {s : DS} {E : Xn → DS → Prop} {P : D → DS → Prop} {R : Res → DS → Prop} {hs : Hd} {Ls : Rws} {L : Row}
theorem vL {d : D} (h : d ∈ oX ++ oY) {x0 : Sl} : acB (n + 1) [x0, .val d, .no, .no] s = some (.rt (.bl false), s) := by
  simp only [oX, oY, List.cons_append, List.nil_append, List.mem_cons, List.not_mem_nil, or_false] at h
  rcases h with rfl | rfl | rfl | rfl | rfl | rfl | rfl | rfl | rfl | rfl | rfl | rfl | rfl <;> kernel_rfl
theorem t7 {x0 : Sl} {d : D} {rest : List D} (h : d ∈ oX ++ oY) : ∀ (hs' : Hd) (x1 : Sl), (∀ p ∈ hs', Nm p.1) → R (.rt (.bl false)) s → Wr (b7 (.one 1) (acB (n + 1)) (dH hs' ++ d :: rest) [x0, x1, .no, .no] s) R
  | [], x1, _, p => by
    show Wr (b7 _ _ (d :: rest) _ s) R
    refine ⟨.rt (.bl false), s, ?_, p⟩
    unfold b7
    show ((some [x0, Sl.val d, .no, .no]).bind fun ρ1 => (acB (n + 1) ρ1 s).bind fun x => _) = _
    rw [Option.bind_some, vL h]
    rfl
  | (y, k) :: hs', x1, nm, p => by
    show Wr (b7 _ _ (.tup [.str y, .str k.s] :: (dH hs' ++ d :: rest)) _ s) R
    repeat array_get_dec
    unfold acB
    repeat array_get_dec
    refine dj rfl ?_
    repeat (first | array_get_dec | array_mem_dec)
    refine bF (p5 (nm (y, k) (by simp))) ?_
    repeat (first | array_get_dec | array_mem_dec)
    refine aH (a := D.bl false) (by cases k <;> kernel_rfl) ?_
    repeat (first | array_get_dec | array_mem_dec)
    exact t7 h hs' _ (fun q hq => nm q (by simp [hq])) p
theorem yM : ∀ d ∈ oX ++ oY, pl d = true ∧ dep d ≤ 1 := by
  intro d h
  simp only [oX, oY, List.cons_append, List.nil_append, List.mem_cons, List.not_mem_nil, or_false] at h
  rcases h with rfl | rfl | rfl | rfl | rfl | rfl | rfl | rfl | rfl | rfl | rfl | rfl | rfl <;> exact ⟨by decide +kernel, by decide +kernel⟩
theorem yN {xs ys : List D} (h : ∀ d ∈ xs ++ ys, pl d = true ∧ dep d ≤ 1) : fJ (.lst (xs ++ ys)) :=
  ⟨gO.mpr fun x hx => (h x hx).1, Nat.le_trans (Nat.succ_le_succ (gQ (n := 1).mpr fun x hx => (h x hx).2)) (by decide)⟩
theorem t8 (nm : ∀ p ∈ hs, Nm p.1) : ∀ d ∈ dH hs, pl d = true ∧ dep d ≤ 1 := fun x hx => by
  obtain ⟨a, ha, rfl⟩ := List.mem_map.mp hx
  have := okNm (nm a ha)
  have k : PyData.strOk a.2.s = true := by cases a.2 <;> decide +kernel
  exact ⟨by simp [hd, DM.pl, pls, this, k], Nat.le_refl _⟩
theorem yO {h1 h2 : Hd} {d : D} (nm : ∀ p ∈ h1 ++ h2, Nm p.1) (h : d ∈ oX ++ oY) : qT (.lst (dH h1 ++ d :: dH h2)) := by
  intro n s
  refine cZ ?_
  show Wp (fnD 4 (b_k (sem (n + 1))) [.lst (dH h1 ++ d :: dH h2)] s) _ _
  refine bo ?_
  rw [cS]
  repeat array_get_dec
  refine dj rfl ?_
  repeat array_get_dec
  refine fb (yN fun x hx => ?_) fK ?_
  · rcases List.mem_append.mp hx with hx | hx
    · exact t8 (fun p hp => nm p (List.mem_append_left _ hp)) x hx
    · rcases List.mem_cons.mp hx with rfl | hx
      · exact yM _ h
      · exact t8 (fun p hp => nm p (List.mem_append_right _ hp)) x hx
  rw [kP, decide_eq_false (by simp)]
  repeat (first | array_get_dec | array_mem_dec)
  refine t7 h h1 _ (fun p hp => nm p (List.mem_append_left _ hp)) ?_
  exact ⟨rfl, rfl⟩
/-- a name told twice -/
theorem t9 {x : Str} {k' : Kd} : ∀ (hs : Hd) (l : List Str) (ρ : En), ρ.length = 4 → (l ++ nH hs).Nodup → x ∈ l ++ nH hs → l.length + hs.length ≤ 100 → gw (.many [.one 2, .one 3]) a6 (ai 2) ρ (dH hs ++ [hd (x, k')]) l s = some (.ok (.int ((l.length + hs.length : Nat) : Int)), s)
  | [], l, ρ, hr, _, hx, hl => by
    obtain ⟨a, b, c, d, rfl⟩ : ∃ a b c d, ρ = [a, b, c, d] := by
      match ρ, hr with
      | [a, b, c, d], _ => exact ⟨a, b, c, d, rfl⟩
    have hx : x ∈ l := by simpa using hx
    have e : XC.jx l x = l := by
      unfold XC.jx
      rw [if_pos]
      rw [List.any_eq_true]
      exact ⟨x, hx, by simp⟩
    simp only [List.length_nil] at hl
    show (if l.length < 4000 then gw (.many [.one 2, .one 3]) a6 (ai 2) [a, b, c, d] [] (XC.jx l x) s else none) = _
    rw [if_pos (by omega), e]
    show (if l.length ≤ 4000 then _ else _) = _
    rw [if_pos (by omega)]
    rfl
  | (y, k) :: hs, l, ρ, hr, nd, hx, hl => by
    obtain ⟨a, b, c, d, rfl⟩ : ∃ a b c d, ρ = [a, b, c, d] := by
      match ρ, hr with
      | [a, b, c, d], _ => exact ⟨a, b, c, d, rfl⟩
    have hy : ¬ y ∈ l := fun z => by
      rw [List.nodup_append] at nd
      exact nd.2.2 y z y (by simp) rfl
    show (if l.length < 4000 then gw (.many [.one 2, .one 3]) a6 (ai 2) [a, b, c, d] (dH hs ++ [hd (x, k')]) (XC.jx l y) s else none) = _
    simp only [List.length_cons] at hl
    rw [if_pos (by omega), nq hy, t9 hs (l ++ [y]) [a, b, c, d] rfl (by simpa using nd) (by simpa [or_assoc] using hx) (by simp only [List.length_append, List.length_cons, List.length_nil]; omega)]
    simp only [List.length_append, List.length_cons, List.length_nil]
    rw [show l.length + (0 + 1) + hs.length = l.length + (hs.length + 1) by omega]
theorem qb (hs : Hd) (p : Str × Kd) : dH hs ++ [hd p] = dH (hs ++ [p]) := by simp [dH]
theorem vM (ok : fO hs) {p : Str × Kd} (hp : p ∈ hs) : qT (.lst (dH hs ++ [hd p])) := by
  intro n s
  have l2 : (dH hs ++ [hd p]).length = hs.length + 1 := by simp [dH]
  have nm' : ∀ q ∈ hs ++ [p], Nm q.1 := fun q hq => by
    rcases List.mem_append.mp hq with hq | hq
    · exact ok.nm q hq
    · rw [List.mem_singleton.mp hq]; exact ok.nm p hp
  refine cZ ?_
  show Wp (fnD 4 (b_k (sem (n + 1))) [.lst (dH hs ++ [hd p])] s) _ _
  refine bo ?_
  rw [cS]
  repeat array_get_dec
  refine dj rfl ?_
  repeat array_get_dec
  refine fb (by rw [qb]; exact dW nm') fK ?_
  rw [kP, decide_eq_false (by simp)]
  repeat (first | array_get_dec | array_mem_dec)
  have go : ∀ R : Res → DS → Prop, (∀ x1, R (.nx [.val (.lst (dH hs ++ [hd p])), x1, .no, .no]) s) → Wr (b7 (.one 1) (acB (n + 1)) (dH hs ++ [hd p]) [.val (.lst (dH hs ++ [hd p])), .no, .no, .no] s) R := fun R hR => by
    have := tQ (n := n) (s := s) (R := R) (x0 := .val (.lst (dH hs ++ [hd p]))) (hs ++ [p]) .no nm' hR
    rw [← qb] at this
    exact this
  refine go _ fun x1 => ?_
  repeat array_get_dec
  refine nr ?_
  repeat array_get_dec
  obtain ⟨x, k⟩ := p
  refine bF (t9 hs [] _ rfl (by simpa using ok.nd) (List.mem_append_right _ (List.mem_map.mpr ⟨(x, k), hp, rfl⟩)) (by have := ok.le; simp only [List.length_nil]; omega)) ?_
  repeat array_get_dec
  refine ⟨?_, rfl⟩
  rw [l2]
  simp
  omega
theorem jf {d : D} (h : isF "list" d = some (.bl false)) : qT d := by
  intro n s
  refine cZ ?_
  show Wp (fnD 4 (b_k (sem (n + 1))) [d] s) _ _
  refine bo ?_
  rw [cS]
  repeat array_get_dec
  refine aH h ?_
  repeat (first | array_get_dec | array_mem_dec)
  exact ⟨rfl, rfl⟩
theorem vN : qT (.lst []) := by
  intro n s
  refine cZ ?_
  show Wp (fnD 4 (b_k (sem (n + 1))) [.lst []] s) _ _
  refine bo ?_
  rw [cS]
  repeat (first | array_get_dec | array_mem_dec)
  refine fb fK fK ?_
  repeat (first | array_get_dec | array_mem_dec)
  exact ⟨rfl, rfl⟩
theorem ua {d : D} (h : isF "list" d = some (.bl false)) : oW hs d := by
  intro n s
  refine cZ ?_
  show Wp (fnD 5 (b_j (sem (n + 3))) [d, .lst (dH hs)] s) _ _
  refine bo ?_
  unfold b_j
  repeat array_get_dec
  refine aH h ?_
  repeat (first | array_get_dec | array_mem_dec)
  exact ⟨rfl, rfl⟩
theorem nG {xs : List D} (h : xs.length ≠ hs.length) : oW hs (.lst xs) := by
  intro n s
  have l2 : (dH hs).length = hs.length := List.length_map _
  refine cZ ?_
  show Wp (fnD 5 (b_j (sem (n + 3))) [.lst xs, .lst (dH hs)] s) _ _
  refine bo ?_
  unfold b_j
  repeat array_get_dec
  refine dj rfl ?_
  repeat array_get_dec
  refine fe (by rw [l2]; simpa using (by omega : ¬ (xs.length : Int) = hs.length)) ?_
  repeat (first | array_get_dec | array_mem_dec)
  exact ⟨rfl, rfl⟩
end
end K20
set_option Elab.async false
set_option linter.all false
set_option maxRecDepth 100000
set_option maxHeartbeats 4000000
namespace K20
open PySem L2 Lay DM
local macro_rules
  | `(tactic| array_get_dec) => `(tactic| first
    | with_reducible refine Stp.go ?_
    | (with_reducible refine dE ?_ ?_; focus (first | decide | omega))
    | (with_reducible refine dF ?_ ?_; focus (first | decide | omega))
    | with_reducible refine cj ?_
    | (with_reducible refine dG ?_ ?_; focus decide)
    | (with_reducible refine cY ?_ ?_; focus (first | (left; decide) | (right; decide) | (left; omega) | (right; omega))))
local macro_rules
  | `(tactic| array_mem_dec) => `(tactic| first
    | (with_reducible refine fe ?_ ?_; focus (first | rfl | decide))
    | (with_reducible refine dj ?_ ?_; focus (first | rfl | decide)))
def dI (k : Nat) : List D := List.replicate k .non
/-- a worth of another kind -/
def BadW (k : Kd) (d : D) : Prop := ∀ (n : Nat) (s : DS), sem (n + 2) 2 [d, .str k.s] s = some (.ok (.bl false), s)
def oZ : List D := [.str "a", .bl true, .bl false, .obj "Day" ["number"] [.int 3], .tup [.str "a"]]
def o8 : List D := [.int 3, .bl true, .obj "Day" ["number"] [.int 0], .tup [.str "a"]]
def uc : List D := [.int 3, .str "a", .tup [.int 1, .int 2, .int 3], .bl true]
def oth : Kd → List D
  | .number => oZ
  | .text => o8
  | .day => uc
theorem vO {k : Kd} {d : D} (h : d ∈ oth k) : BadW k d := by
  intro n s
  cases k with
  | number =>
    simp only [oth, oZ, List.mem_cons, List.not_mem_nil, or_false] at h
    rcases h with rfl | rfl | rfl | rfl | rfl <;> kernel_rfl
  | text =>
    simp only [oth, o8, List.mem_cons, List.not_mem_nil, or_false] at h
    rcases h with rfl | rfl | rfl | rfl <;> kernel_rfl
  | day =>
    simp only [oth, uc, List.mem_cons, List.not_mem_nil, or_false] at h
    rcases h with rfl | rfl | rfl | rfl <;> kernel_rfl
theorem qc : ∀ (xs : List D) (hs : Hd), mF xs (dH hs) = (List.zip xs hs).map fun q => .tup [q.1, hd q.2]
  | [], _ => by cases ‹Hd› <;> rfl
  | x :: xs, [] => rfl
  | x :: xs, h :: hs => by
    show _ :: mF xs (dH hs) = _
    rw [qc xs hs]
    rfl
section
variable {n : Nat} {s : DS} {E : Xn → DS → Prop} {P : D → DS → Prop} {R : Res → DS → Prop} {hs : Hd} {Ls : Rws} {L : Row}
/-- each is told well or not; one isn't -/
theorem ud {xs : List D} (hl : xs.length = hs.length) (h60 : hs.length ≤ 60) (f : D × Str × Kd → Bool) (hf : ∀ q ∈ List.zip xs hs, ∀ (n : Nat) (s : DS), sem (n + 2) 2 [q.1, .str q.2.2.s] s = some (.ok (.bl (f q)), s)) (hb : (List.zip xs hs).all f = false) : oW hs (.lst xs) := by
  intro n s
  have l2 : (dH hs).length = hs.length := List.length_map _
  refine cZ ?_
  show Wp (fnD 5 (b_j (sem (n + 3))) [.lst xs, .lst (dH hs)] s) _ _
  refine bo ?_
  unfold b_j
  repeat array_get_dec
  refine dj rfl ?_
  repeat array_get_dec
  refine dj (by rw [l2, hl]; simp) ?_
  repeat array_get_dec
  refine aH (a := (List.zip xs hs).map fun q => D.tup [q.1, hd q.2]) (by show some (mF _ _) = _; rw [qc]) ?_
  refine c9 (fun q : D × Str × Kd => .tup [q.1, hd q.2]) (fun _ => true) (fun q => .bl (f q)) (List.zip xs hs) (fun q hq => ?_) ?_
  · unfold hd
    repeat array_get_dec
    refine ⟨rfl, rfl, fun _ => ?_⟩
    repeat array_get_dec
    refine bF (hf q hq (n + 1) s) ?_
    exact ⟨rfl, rfl⟩
  · rw [List.filter_eq_self.mpr (fun _ _ => rfl)]
    refine ⟨aU (by rw [List.length_map, List.length_zip]; omega), ?_⟩
    repeat array_get_dec
    refine ⟨?_, rfl⟩
    rw [List.all_map]
    exact congrArg D.bl hb
theorem zk (k : Kd) : ∀ (n : Nat) (s : DS), sem (n + 2) 2 [.non, .str k.s] s = some (.ok (.bl true), s) := fun n s => wH (v := .bk) trivial
theorem o9 {α β : Type} : ∀ (xs : List α) (ys : List β) (q : α × β), q ∈ List.zip xs ys → ∃ i : Nat, xs[i]? = some q.1 ∧ ys[i]? = some q.2 := fun xs ys q hq => by
  obtain ⟨i, hi⟩ := List.mem_iff_getElem?.mp hq
  rw [List.getElem?_zip_eq_some] at hi
  exact ⟨i, hi.1, hi.2⟩
theorem vP {i : Nat} {p : Str × Kd} {d : D} (h60 : hs.length ≤ 60) (hp : hs[i]? = some p) (hd' : BadW p.2 d) (hn : d ≠ .non) : oW hs (.lst ((dI hs.length).take i ++ [d] ++ (dI hs.length).drop (i + 1))) := by
  have hi : i < hs.length := (List.getElem?_eq_some_iff.mp hp).1
  have e : (dI hs.length).take i ++ [d] ++ (dI hs.length).drop (i + 1) = (dI hs.length).set i d := by
    rw [List.set_eq_take_append_cons_drop, if_pos (by simpa [dI] using hi)]
    simp
  rw [e]
  have hg : ∀ j x, ((dI hs.length).set i d)[j]? = some x → (j = i ∧ x = d) ∨ (j ≠ i ∧ x = .non) := fun j x h => by
    by_cases hj : i = j
    · subst hj
      rw [List.getElem?_set_self (by simpa [dI] using hi)] at h
      cases h
      exact .inl ⟨rfl, rfl⟩
    · rw [List.getElem?_set_ne hj] at h
      refine .inr ⟨fun z => hj z.symm, ?_⟩
      unfold dI at h
      rw [List.getElem?_replicate] at h
      split at h
      · cases h; rfl
      · cases h
  refine ud (by simp [dI]) h60 (fun q => match q.1 with | .non => true | _ => false) (fun q hq n s => ?_) ?_
  · obtain ⟨j, h1, h2⟩ := o9 _ _ _ hq
    rcases hg j _ h1 with ⟨rfl, e1⟩ | ⟨_, e1⟩
    · rw [hp] at h2
      cases h2
      rw [e1]
      rw [hd' n s]
      cases d <;> first | rfl | exact absurd rfl hn
    · rw [e1]
      exact zk _ n s
  · rw [List.all_eq_false]
    refine ⟨(d, p), ?_, ?_⟩
    · refine List.mem_iff_getElem?.mpr ⟨i, ?_⟩
      rw [List.getElem?_zip_eq_some]
      exact ⟨List.getElem?_set_self (by simpa [dI] using hi), hp⟩
    · cases d <;> first | (simp; done) | exact absurd rfl hn
theorem qd {k : Nat} {is : List Nat} {a : En → M (List D)} {ρ : En} {Q : List D → DS → Prop} (h : Wp (a ρ s) E fun x s1 => x.length = k ∧ Q (pick is x) s1) : Wp (mU k is a ρ s) E Q := by
  refine a9 (h.mono fun x s1 h => ?_)
  rw [if_pos h.1]
  exact cM h.2
def ntX (d : D) : Xn := ⟨"NoTable", ["row"], [d]⟩
/-- refused -/
def Ref (c r e : D) (n : Nat) : Prop := ∀ s : DS, s.m = [] → Wp (sem n 22 [.mob s.m.length, c, r] (s.push (.obj "Table" [] []))) (fun x s' => x = ntX e ∧ s' = s.push (.obj "Table" [] [])) fun _ _ => False
theorem wQ {c r : D} (h : qT c) : Ref c r .non (n + 3) := by
  intro s hm
  refine jb (m := b_f (sem (n + 2))) ?_
  rw [c7]
  repeat array_get_dec
  refine bF (h n _) ?_
  repeat (first | array_get_dec | array_mem_dec)
  exact ⟨⟨rfl, by decide⟩, rfl, rfl⟩
theorem zl {r : D} (ok : fO hs) (h : isF "list" r = some (.bl false)) : Ref (.lst (dH hs)) r .non (n + 4) := by
  intro s hm
  refine jb (m := b_f (sem (n + 3))) ?_
  rw [c7]
  repeat array_get_dec
  refine bF (f9 ok.nm ok.nd ok.ne ok.le) ?_
  repeat (first | array_get_dec | array_mem_dec)
  refine aH h ?_
  repeat (first | array_get_dec | array_mem_dec)
  exact ⟨⟨rfl, by decide⟩, rfl, rfl⟩
theorem ue {x0 x2 : Sl} {d : D} {rest : List D} (hl : hs.length ≤ 60) (h : oW hs d) : ∀ (Ls' : Rws) (i : Nat) (x3 x4 : Sl), (∀ L ∈ Ls', Al hs L) → (∀ ρ, R (.er ρ (ntX (.int ((i + Ls'.length : Nat) : Int)))) s) → Wr (b7 (.many [.one 3, .one 4]) (tiB (n + 4)) (dU i (rwD Ls' ++ d :: rest)) [x0, .val (.lst (dH hs)), x2, x3, x4] s) R
  | [], i, x3, x4, _, p => by
    show Wr (b7 _ _ (.tup [.int (i : Int), d] :: dU (i + 1) rest) _ s) R
    repeat array_get_dec
    unfold tiB
    repeat array_get_dec
    refine bF (h n s) ?_
    repeat (first | array_get_dec | array_mem_dec)
    exact ⟨⟨rfl, by decide⟩, p _⟩
  | L :: Ls', i, x3, x4, al, p => by
    show Wr (b7 _ _ (.tup [.int (i : Int), .lst (pds L)] :: dU (i + 1) (rwD Ls' ++ d :: rest)) _ s) R
    repeat array_get_dec
    unfold tiB
    repeat array_get_dec
    refine bF (p6 (al L (by simp)) hl) ?_
    repeat (first | array_get_dec | array_mem_dec)
    refine ue hl h Ls' (i + 1) _ _ (fun q hq => al q (by simp [hq])) fun ρ => ?_
    have := p ρ
    rw [List.length_cons, show i + (Ls'.length + 1) = i + 1 + Ls'.length by omega] at this
    exact this
theorem wR {d : D} {rest : List D} (ok : fO hs) (al : ∀ L ∈ Ls, Al hs L) (h : oW hs d) : Ref (.lst (dH hs)) (.lst (rwD Ls ++ d :: rest)) (.int (Ls.length : Int)) (n + 5) := by
  intro s hm
  refine jb (m := b_f (sem (n + 4))) ?_
  rw [c7]
  repeat array_get_dec
  refine bF (f9 ok.nm ok.nd ok.ne ok.le) ?_
  repeat (first | array_get_dec | array_mem_dec)
  refine ue (n := n) ok.le h Ls 0 _ _ al fun ρ => ?_
  rw [Nat.zero_add]
  exact ⟨rfl, rfl⟩
/-- what the law makes of it -/
theorem jM {c r e : D} {i : Nat} (hi : i < 2) (h : Ref c r e n) (hm : s.m = []) (he : cln 0 e = true) : sem (n + 1) 15 [c, r, .int (i : Int)] s = some (.ok (.lst [.str "refused", e, .bl true]), s) := by
  have nw : ∀ {P : D → DS → Prop} {E : Xn → DS → Prop}, E (ntX e) s → Wp (kW s.m.length "Table" (sem n 22 [.mob s.m.length, c, r] (s.push (.obj "Table" [] [])))) E P := fun hE => by
    rcases h s hm with ⟨_, _, _, z⟩ | ⟨x, s', e1, rfl, rfl⟩
    · exact z.elim
    · refine pL (.inr ⟨_, _, e1, iF _ _, by rw [hm]; show (cln 0 e && true) = true; rw [he]; rfl, ?_⟩) (by rw [hm]; rfl)
      rw [mJ]
      exact hE
  refine cZ ?_
  show Wp (fnD 6 (b_l (sem n)) [c, r, .int (i : Int)] s) _ _
  refine bo ?_
  unfold b_l
  have i01 : i = 0 ∨ i = 1 := by omega
  rcases i01 with rfl | rfl
  · repeat (first | array_get_dec | array_mem_dec)
    refine ⟨rfl, nw ?_⟩
    refine ⟨true, by kernel_rfl, fun _ => ⟨⟨by kernel_rfl, by simp⟩, ?_⟩, fun z => by cases z⟩
    show j9 _ _ (.nx [.val c, .val r, .val (.int _), .val .non, .val (.exc "NoTable" ["row"] [e]), .no]) s
    repeat (first | array_get_dec | array_mem_dec)
    refine aH (a := D.bl true) (by kernel_rfl) ?_
    repeat (first | array_get_dec | array_mem_dec)
    refine aH (a := e) (by kernel_rfl) ?_
    repeat (first | array_get_dec | array_mem_dec)
    refine aH (a := D.bl true) (by kernel_rfl) ?_
    repeat (first | array_get_dec | array_mem_dec)
    exact ⟨rfl, rfl⟩
  · repeat (first | array_get_dec | array_mem_dec)
    refine qd ?_
    repeat (first | array_get_dec | array_mem_dec)
    refine ⟨rfl, nw ?_⟩
    refine ⟨true, by kernel_rfl, fun _ => ⟨⟨by kernel_rfl, by simp⟩, ?_⟩, fun z => by cases z⟩
    show j9 _ _ (.nx [.val c, .val r, .val (.int _), .val .non, .val (.exc "NoTable" ["row"] [e]), .no]) s
    repeat (first | array_get_dec | array_mem_dec)
    refine aH (a := D.bl true) (by kernel_rfl) ?_
    repeat (first | array_get_dec | array_mem_dec)
    refine aH (a := e) (by kernel_rfl) ?_
    repeat (first | array_get_dec | array_mem_dec)
    refine aH (a := D.bl true) (by kernel_rfl) ?_
    repeat (first | array_get_dec | array_mem_dec)
    exact ⟨rfl, rfl⟩
end
end K20
set_option Elab.async false
set_option linter.all false
set_option maxRecDepth 100000
set_option maxHeartbeats 4000000
namespace K20
open PySem L2 Lay DM
local macro_rules
  | `(tactic| array_get_dec) => `(tactic| first
    | with_reducible refine Stp.go ?_
    | (with_reducible refine dE ?_ ?_; focus (first | decide | omega))
    | (with_reducible refine dF ?_ ?_; focus (first | decide | omega))
    | with_reducible refine cj ?_
    | (with_reducible refine dG ?_ ?_; focus decide)
    | (with_reducible refine cY ?_ ?_; focus (first | (left; decide) | (right; decide) | (left; omega) | (right; omega))))
local macro_rules
  | `(tactic| array_mem_dec) => `(tactic| first
    | (with_reducible refine fe ?_ ?_; focus (first | rfl | decide))
    | (with_reducible refine dj ?_ ?_; focus (first | rfl | decide)))
def brB (n : Nat) : DM.S :=
  (aB (nU 5 (qy [("number", (bE (ab (eC (.str "a")) (ab (eC (.bl true)) (ab (eC (.bl false)) (ab (eMk "Day" ["number"] (ab (eC (.int 3)) ak)) (ab (c3 (ab (eC (.str "a")) ak)) ak))))))), ("text", (bE (ab (eC (.int 3)) (ab (eC (.bl true)) (ab (eMk "Day" ["number"] (ab (eC (.int 0)) ak)) (ab (c3 (ab (eC (.str "a")) ak)) ak))))))]))
    (aB (qr 5 (eC (.str "day")) (bE (ab (eC (.int 3)) (ab (eC (.str "a")) (ab (c3 (ab (eC (.int 1)) (ab (eC (.int 2)) (ab (eC (.int 3)) ak)))) (ab (eC (.bl true)) ak))))))
    (aB (fF 5 (bO (.one 6) (eOp qv (ai 5) (eOp oIx (eOp oIx (ai 1) (ai 4)) (eC (.int 1))))))
    (aV (eOp bw (eOp bw (eSl slX (ai 2) cq (cu (ai 4))) (bE (ab (eOp oIx (ai 6) (eOp oMod (eOp oDiv (ai 3) (eC (.int 64))) (eCB cK (ab (ai 6) ak)))) ak))) (eSl slX (ai 2) (cu (eOp bw (ai 4) (eC (.int 1)))) cq))))))
theorem jN (n : Nat) : b_q (sem n) = (aB (bO (.one 3) (aw 1 (sem n 11) (ab (ai 0) ak)))
    (aB (sIf (tB' (eOp cH (eOp oMod (ai 3) (eC (.int 6))) (eC (.int 0)))) (aV (eOp oIx (bE (ab (eCB e9 (ab (ai 2) ak)) (ab (eC .non) (ab (eC (.int 5)) (ab (eC (.str "a")) ak))))) (eOp oMod (eOp oDiv (ai 3) (eC (.int 6))) (eC (.int 4))))) aT)
    (aB (sIf (tB' (eOp cH (eOp oMod (ai 3) (eC (.int 6))) (eC (.int 1)))) (aV (eOp bw (ai 2) (bE (ab (eC .non) ak)))) aT)
    (aB (sIf (tB' (eOp cH (eOp oMod (ai 3) (eC (.int 6))) (eC (.int 2)))) (aV (eSl slX (ai 2) (cu (eC (.int 1))) cq)) aT)
    (aB (bO (.one 4) (eOp oMod (eOp oDiv (ai 3) (eC (.int 6))) (eCB cK (ab (ai 2) ak))))
    (brB n)))))) := rfl
def rfC (n : Nat) : DM.S :=
  (aB (sIf (tB' (eOp cH (eOp oMod (aw 1 (sem n 11) (ab (ai 0) ak)) (eC (.int 2))) (eC (.int 0)))) (fX 7 (aw 3 (sem n 17) (ab (ai 0) (ab (ai 1) (ab (ai 6) ak))))) aT)
    (fF 7 (aV (eOp cH (aw 3 (sem n 15) (ab (ai 1) (ab (ai 7) (ab (eC (.int 1)) ak)))) (bE (ab (eC (.str "refused")) (ab (ai 5) (ab (eC (.bl true)) ak))))))))
def rfB (n : Nat) : DM.S :=
  (aB (bO (.one 5) (eOp oMod (aw 1 (sem n 11) (ab (ai 0) ak)) (eOp bw (eCB cK (ab (ai 2) ak)) (eC (.int 1)))))
    (aB (bO (.one 6) (eLc (.one 8) (iD isX (ai 1)) a6 (eC .non)))
    (aB (nU 7 (eOp lR (eOp bw (eSl slX (ai 2) cq (cu (ai 5))) (bE (ab (aw 3 (sem n 17) (ab (ai 0) (ab (ai 1) (ab (ai 6) ak)))) ak))) (eSl slX (ai 2) (cu (ai 5)) cq)))
    (rfC n))))
theorem fW (n : Nat) : b_w (sem n) = (aB (bO (.one 3) (aw 2 (sem n 16) (ab (ai 0) (ab (ai 1) ak))))
    (aB (iW (.one 4) (iDs isR (ab (eC (.int 2)) ak)) (sIf (tB' (eOp eT (aw 3 (sem n 15) (ab (ai 3) (ab (ai 2) (ab (ai 4) ak)))) (bE (ab (eC (.str "refused")) (ab (eC .non) (ab (eC (.bl true)) ak)))))) (aV (eC (.bl false))) aT))
    (aB (sIf (tB' (eOp eT (aw 3 (sem n 15) (ab (ai 1) (ab (eOp oIx (bE (ab (eCB e9 (ab (ai 2) ak)) (ab (eC .non) (ab (eC (.str "a")) ak)))) (eOp oMod (aw 1 (sem n 11) (ab (ai 0) ak)) (eC (.int 3)))) (ab (eC (.int 0)) ak)))) (bE (ab (eC (.str "refused")) (ab (eC .non) (ab (eC (.bl true)) ak)))))) (aV (eC (.bl false))) aT)
    (rfB n)))) := rfl
section
variable {n : Nat} {s : DS} {E : Xn → DS → Prop} {P : D → DS → Prop} {R : Res → DS → Prop} {hs : Hd} {Ls : Rws} {L : Row}
theorem qU (ok : fO hs) (hn : 2 ≤ n) (hlim : s.k ≤ lim) (hm : s.m = []) (p : ∀ d s', qT d → s'.k = s.k + 1 → s'.m = [] → P d s') : Wp (sem n 16 [.drw, .lst (dH hs)] s) E P := by
  obtain ⟨n, rfl⟩ : ∃ m, n = m + 1 := ⟨n - 1, by omega⟩
  have l2 : (dH hs).length = hs.length := List.length_map _
  have hne : 0 < hs.length := List.length_pos_iff.mpr ok.ne
  have l60 := ok.le
  show Wp (fnD 5 (b_v (sem n)) [.drw, .lst (dH hs)] s) E P
  refine bo ?_
  unfold b_v
  repeat array_get_dec
  refine i8 (by omega) (by omega) hm fun r s1 h0 h1 e1 m1 => ?_
  repeat array_get_dec
  rw [l2]
  refine fM (fun _ => ?_) (fun _ => ?_)
  · repeat array_get_dec
    refine fL (by omega) (by simp only [List.length_cons, List.length_nil]; omega) fun d hd => ?_
    repeat array_get_dec
    refine p d s1 ?_ e1 m1
    simp only [List.mem_cons, List.not_mem_nil, or_false] at hd
    rcases hd with rfl | rfl | rfl | rfl | rfl
    · exact jf rfl
    · exact jf rfl
    · exact jf rfl
    · exact jf rfl
    · exact vN
  repeat array_get_dec
  refine fM (fun _ => ?_) (fun _ => ?_)
  · repeat array_get_dec
    refine fL (Int.emod_nonneg _ (by rw [l2]; omega)) (Int.emod_lt_of_pos _ (by rw [l2]; omega)) fun d hd => ?_
    obtain ⟨q, hq, rfl⟩ := List.mem_map.mp hd
    repeat array_get_dec
    refine cX (aU (by simp only [List.length_cons, List.length_nil]; omega)) ?_
    repeat array_get_dec
    exact p _ s1 (vM ok hq) e1 m1
  repeat array_get_dec
  obtain ⟨j, hj, hj2⟩ : ∃ j : Nat, r % ((hs.length : Int) + 1) = (j : Int) ∧ j ≤ hs.length := by
    have h2 := Int.emod_nonneg r (show ((hs.length : Int) + 1) ≠ 0 by omega)
    have h3 := Int.emod_lt_of_pos r (show (0 : Int) < (hs.length : Int) + 1 by omega)
    exact ⟨(r % ((hs.length : Int) + 1)).toNat, by omega, by omega⟩
  rw [hj]
  refine gT ?_
  repeat array_get_dec
  refine fL (xs := oX ++ oY) (by omega) (by show _ < (13 : Int); omega) fun d hd => ?_
  repeat array_get_dec
  refine cX (aU (by rw [List.length_take]; simp only [List.length_cons, List.length_nil]; omega)) ?_
  repeat array_get_dec
  refine ip ?_
  refine cX (aU (by rw [List.length_append, List.length_take, List.length_drop]; simp only [List.length_cons, List.length_nil]; omega)) ?_
  repeat array_get_dec
  refine p _ s1 ?_ e1 m1
  rw [show (dH hs).take j ++ [d] ++ (dH hs).drop j = dH (hs.take j) ++ d :: dH (hs.drop j) by simp [dH, List.map_take, List.map_drop]]
  exact yO (fun q hq => ok.nm q (by rw [List.take_append_drop] at hq; exact hq)) hd
theorem yP {k : Kd} {d : D} (h : d ∈ oth k) : d ≠ .non := by
  rintro rfl
  cases k <;> simp [oth, oZ, o8, uc] at h
theorem vQ (k : Kd) : getD (["number", "text", "day"] : List Str) [.lst oZ, .lst o8, .lst uc] k.s = some (.lst (oth k)) := by
  cases k <;> kernel_rfl
theorem nJ (ok : fO hs) (hn : 2 ≤ n) (hlim : s.k ≤ lim) (hm : s.m = []) (p : ∀ d s', oW hs d → s'.k = s.k + 1 → s'.m = [] → P d s') : Wp (sem n 17 [.drw, .lst (dH hs), .lst (dI hs.length)] s) E P := by
  obtain ⟨n, rfl⟩ : ∃ m, n = m + 1 := ⟨n - 1, by omega⟩
  have l2 : (dH hs).length = hs.length := List.length_map _
  have l3 : (dI hs.length).length = hs.length := List.length_replicate
  have hne : 0 < hs.length := List.length_pos_iff.mpr ok.ne
  have l60 := ok.le
  show Wp (fnD 7 (b_q (sem n)) [.drw, .lst (dH hs), .lst (dI hs.length)] s) E P
  refine bo ?_
  rw [jN]
  repeat array_get_dec
  refine i8 (by omega) (by omega) hm fun r s1 h0 h1 e1 m1 => ?_
  repeat array_get_dec
  refine fM (fun _ => ?_) (fun _ => ?_)
  · repeat array_get_dec
    refine fL (by omega) (by simp only [List.length_cons, List.length_nil]; omega) fun d hd => ?_
    repeat array_get_dec
    refine p d s1 ?_ e1 m1
    simp only [List.mem_cons, List.not_mem_nil, or_false] at hd
    rcases hd with rfl | rfl | rfl | rfl <;> exact ua rfl
  repeat array_get_dec
  refine fM (fun _ => ?_) (fun _ => ?_)
  · repeat array_get_dec
    refine cX (aU (by simp only [List.length_cons, List.length_nil]; omega)) ?_
    repeat array_get_dec
    exact p _ s1 (nG (by simp only [List.length_append, List.length_cons, List.length_nil]; omega)) e1 m1
  repeat array_get_dec
  refine fM (fun _ => ?_) (fun _ => ?_)
  · repeat array_get_dec
    refine ip (n := 1) ?_
    repeat array_get_dec
    exact p _ s1 (nG (by rw [List.length_drop]; omega)) e1 m1
  repeat array_get_dec
  rw [l3]
  obtain ⟨j, hj, hj2⟩ : ∃ j : Nat, r / 6 % (hs.length : Int) = (j : Int) ∧ j < hs.length := by
    have h2 := Int.emod_nonneg (r / 6) (show (hs.length : Int) ≠ 0 by omega)
    have h3 := Int.emod_lt_of_pos (r / 6) (show (0 : Int) < (hs.length : Int) by omega)
    exact ⟨(r / 6 % (hs.length : Int)).toNat, by omega, by omega⟩
  rw [hj]
  repeat array_get_dec
  unfold brB
  repeat array_get_dec
  refine ⟨rfl, ?_⟩
  repeat array_get_dec
  refine ⟨rfl, ?_⟩
  repeat array_get_dec
  refine aH (a := D.dic ["number", "text"] [.lst oZ, .lst o8]) (by kernel_rfl) ?_
  repeat array_get_dec
  refine ⟨by decide, ?_⟩
  rw [show putD (["number", "text"] : List Str) [.lst oZ, .lst o8] "day" (.lst [.int 3, .str "a", .tup [.int 1, .int 2, .int 3], .bl true]) = ((["number", "text", "day"] : List Str), [.lst oZ, .lst o8, .lst uc]) by kernel_rfl]
  repeat array_get_dec
  obtain ⟨q, hq⟩ : ∃ q, hs[j]? = some q := ⟨hs[j], List.getElem?_eq_getElem hj2⟩
  refine gS (xs := dH hs) (j := j) (d := hd q) (by unfold dH; rw [List.getElem?_map, hq]; rfl) ?_
  unfold hd
  repeat array_get_dec
  refine aH (vQ q.2) ?_
  have ho : 0 < (oth q.2).length := by cases q.2 <;> decide
  repeat array_get_dec
  refine gT ?_
  repeat array_get_dec
  refine fL (Int.emod_nonneg _ (by omega)) (Int.emod_lt_of_pos _ (by omega)) fun d hd => ?_
  repeat array_get_dec
  refine cX (aU (by rw [List.length_take]; simp only [List.length_cons, List.length_nil]; omega)) ?_
  repeat array_get_dec
  refine ip (n := j + 1) ?_
  refine cX (aU (by rw [List.length_append, List.length_take, List.length_drop]; simp only [List.length_cons, List.length_nil]; omega)) ?_
  repeat array_get_dec
  exact p _ s1 (vP l60 hq (vO hd) (yP hd)) e1 m1
theorem uf : eT (.lst [.str "refused", .non, .bl true]) (.lst [.str "refused", .non, .bl true]) = some (.bl false) := by kernel_rfl
theorem iM (j : Int) : fJ (.lst [.str "refused", .int j, .bl true]) := ⟨by
  have : PyData.strOk "refused" = true := by decide +kernel
  simp [DM.pl, pls, this], Nat.le_trans (show _ ≤ 1 from Nat.le_refl _) (by decide)⟩
theorem qV (ok : fO hs) (al : ∀ L ∈ Ls, Al hs L) (hl : Ls.length ≤ 900) (hn : 10 ≤ n) (hlim : s.k + 6 ≤ lim) (hm : s.m = []) (p : ∀ s', s'.k ≤ s.k + 6 → s'.m = [] → P (.bl true) s') : Wp (sem n 18 [.drw, .lst (dH hs), .lst (rwD Ls)] s) E P := by
  obtain ⟨n, rfl⟩ : ∃ m, n = m + 7 + 1 := ⟨n - 8, by omega⟩
  have l2 : (dH hs).length = hs.length := List.length_map _
  have l3 : (rwD Ls).length = Ls.length := List.length_map _
  show Wp (fnD 9 (b_w (sem (n + 7))) [.drw, .lst (dH hs), .lst (rwD Ls)] s) E P
  refine bo ?_
  rw [fW]
  repeat array_get_dec
  refine qU ok (by omega) (by omega) hm fun c s1 hc e1 m1 => ?_
  repeat array_get_dec
  refine bF (jM (i := 0) (by decide) (wQ (n := n + 3) hc) m1 rfl) ?_
  repeat array_get_dec
  refine aH uf ?_
  repeat (first | array_get_dec | array_mem_dec)
  refine bF (jM (i := 1) (by decide) (wQ (n := n + 3) hc) m1 rfl) ?_
  repeat array_get_dec
  refine aH uf ?_
  repeat (first | array_get_dec | array_mem_dec)
  refine i8 (by omega) (by omega) m1 fun r s2 h0 h1 e2 m2 => ?_
  repeat array_get_dec
  refine fL (by omega) (by simp only [List.length_cons, List.length_nil]; omega) fun d hd => ?_
  have hd' : isF "list" d = some (.bl false) := by
    simp only [List.mem_cons, List.not_mem_nil, or_false] at hd
    rcases hd with rfl | rfl | rfl <;> rfl
  repeat array_get_dec
  refine bF (jM (i := 0) (by decide) (zl (n := n + 2) ok hd') m2 rfl) ?_
  repeat array_get_dec
  refine aH uf ?_
  repeat (first | array_get_dec | array_mem_dec)
  unfold rfB
  repeat array_get_dec
  refine i8 (by omega) (by omega) m2 fun r2 s3 h2 h3 e3 m3 => ?_
  repeat array_get_dec
  rw [l3]
  obtain ⟨j, hj, hj2⟩ : ∃ j : Nat, r2 % ((Ls.length : Int) + 1) = (j : Int) ∧ j ≤ Ls.length := by
    have h2 := Int.emod_nonneg r2 (show ((Ls.length : Int) + 1) ≠ 0 by omega)
    have h3 := Int.emod_lt_of_pos r2 (show (0 : Int) < (Ls.length : Int) + 1 by omega)
    exact ⟨(r2 % ((Ls.length : Int) + 1)).toNat, by omega, by omega⟩
  rw [hj]
  repeat array_get_dec
  clear hd
  refine c9 (fun p : Str × Kd => hd p) (fun _ => true) (fun _ => .non) hs (fun q hq => ?_) ?_
  · repeat array_get_dec
    refine ⟨rfl, rfl, fun _ => ?_⟩
    repeat array_get_dec
    exact ⟨rfl, rfl⟩
  rw [List.filter_eq_self.mpr (fun _ _ => rfl)]
  have l60 := ok.le
  refine ⟨aU (by rw [List.length_map]; omega), ?_⟩
  rw [show (hs.map fun _ => D.non) = dI hs.length by simp [dI, List.map_const']]
  repeat array_get_dec
  refine gT ?_
  repeat array_get_dec
  refine nJ ok (by omega) (by omega) m3 fun d1 s4 hd1 e4 m4 => ?_
  repeat array_get_dec
  refine cX (aU (by rw [List.length_take]; simp only [List.length_cons, List.length_nil]; omega)) ?_
  repeat array_get_dec
  refine ip ?_
  refine xO (aU (by rw [List.length_append, List.length_take, List.length_drop]; simp only [List.length_cons, List.length_nil]; omega)) ?_
  rw [show (rwD Ls).take j ++ [d1] ++ (rwD Ls).drop j = rwD (Ls.take j) ++ d1 :: rwD (Ls.drop j) by simp [rwD, List.map_take, List.map_drop]]
  repeat array_get_dec
  have lt : (Ls.take j).length = j := by rw [List.length_take]; omega
  have alt : ∀ L ∈ Ls.take j, Al hs L := fun L hL => al L (List.mem_of_mem_take hL)
  unfold rfC
  repeat array_get_dec
  refine i8 (by omega) (by omega) m4 fun r3 s5 h4 h5 e5 m5 => ?_
  repeat array_get_dec
  refine fM (fun _ => ?_) (fun _ => ?_)
  · repeat array_get_dec
    refine nJ ok (by omega) (by omega) m5 fun d2 s6 hd2 e6 m6 => ?_
    repeat array_get_dec
    have l5 : (rwD (Ls.drop j)).length ≤ 900 := by simp only [rwD, List.length_map, List.length_drop]; omega
    have l6 : (rwD (Ls.take j)).length ≤ 900 := by simp only [rwD, List.length_map, List.length_take]; omega
    refine ⟨by have : line = 100000 := rfl; rw [List.length_append, List.length_cons]; omega, ?_⟩
    rw [show rwD (Ls.take j) ++ d1 :: rwD (Ls.drop j) ++ [d2] = rwD (Ls.take j) ++ d1 :: (rwD (Ls.drop j) ++ [d2]) by simp]
    repeat array_get_dec
    refine bF (jM (i := 1) (by decide) (wR (n := n + 1) ok alt hd1) m6 rfl) ?_
    repeat array_get_dec
    rw [lt]
    refine fb (iM j) (iM j) ?_
    rw [dN _ (iM j).1]
    exact p s6 (by omega) m6
  · repeat array_get_dec
    refine bF (jM (i := 1) (by decide) (wR (n := n + 1) ok alt hd1) m5 rfl) ?_
    repeat array_get_dec
    rw [lt]
    refine fb (iM j) (iM j) ?_
    rw [dN _ (iM j).1]
    exact p s5 (by omega) m5
end
end K20
set_option Elab.async false
set_option linter.all false
set_option maxRecDepth 100000
set_option maxHeartbeats 4000000
namespace K20
open PySem L2 Lay DM
local macro_rules
  | `(tactic| array_get_dec) => `(tactic| first
    | with_reducible refine Stp.go ?_
    | (with_reducible refine dE ?_ ?_; focus (first | decide | omega))
    | (with_reducible refine dF ?_ ?_; focus (first | decide | omega))
    | with_reducible refine cj ?_
    | (with_reducible refine dG ?_ ?_; focus decide)
    | (with_reducible refine cY ?_ ?_; focus (first | (left; decide) | (right; decide) | (left; omega) | (right; omega))))
local macro_rules
  | `(tactic| array_mem_dec) => `(tactic| first
    | (with_reducible refine fe ?_ ?_; focus (first | rfl | decide))
    | (with_reducible refine dj ?_ ?_; focus (first | rfl | decide)))
theorem zm (v : Vl) : flO (pd v) = true := by cases v <;> rfl
theorem ug : ∀ L : Row, gc (pds L) = true
  | [] => rfl
  | v :: L => by
    show (flO (pd v) && gc (pds L)) = true
    rw [zm, ug L]
    rfl
theorem wU : ∀ hs : Hd, gc (dH hs) = true
  | [] => rfl
  | p :: hs => by
    show (flO (hd p) && gc (dH hs)) = true
    rw [wU hs]
    rfl
theorem iq {hs : Hd} (h60 : hs.length ≤ 60) : ∀ {Ls : Rws}, (∀ L ∈ Ls, Al hs L) → di (rwD Ls) = true
  | [], _ => rfl
  | L :: Ls, al => by
    show (gc (pds L) && decide ((pds L).length < 1000) && di (rwD Ls)) = true
    have hl := (al L (by simp)).len
    rw [ug, iq h60 (fun M hM => al M (by simp [hM])), decide_eq_true (by simp only [pds, List.length_map]; omega)]
    rfl
theorem uh (v : Vl) : eX "Day" "number" (pd v) (pd v) = some true := by
  cases v with
  | bk => rfl
  | num i => simp [eX, eqI, g9, fv, eqV, pd]
  | txt z => simp [eX, eqI, g9, fv, eqV, pd]
  | day i => simp [eX, eqI, g9, fv, eqV, pd]
theorem nK {α : Type} {f : α → D} {g : D → D → Option Bool} : ∀ l : List α, (∀ a ∈ l, g (f a) (f a) = some true) → eqZ g (l.map f) (l.map f) = some (l.map fun _ => true)
  | [], _ => rfl
  | a :: l, h => by
    show ((g (f a) (f a)).bind fun x => (eqZ g (l.map f) (l.map f)).map fun r => x :: r) = _
    rw [h a (by simp), nK l fun b hb => h b (by simp [hb])]
    rfl
theorem nM {α : Type} {f : α → D} {g : D → D → Option Bool} (l : List α) (h : ∀ a ∈ l, g (f a) (f a) = some true) : eqL g (.lst (l.map f)) (.lst (l.map f)) = some true := by
  simp only [eqL, if_pos]
  rw [nK l h]
  simp
theorem vR (Ls : Rws) : eqL (eqL (eX "Day" "number")) (.lst (rwD Ls)) (.lst (rwD Ls)) = some true := nM Ls fun L _ => nM L fun v _ => uh v
theorem ui {a b : D} (ha : fJ a) (hb : fJ b) (h : eqD a b = true) : eqP a b = some true := by
  obtain ⟨p, e1, s1⟩ := ha.toP
  obtain ⟨q, e2, s2⟩ := hb.toP
  unfold eqP
  rw [e1, e2, Option.bind_some, Option.bind_some, s1, s2]
  simp only [Bool.and_self, if_pos]
  rw [gR _ _ _ _ e1 e2, h]
theorem yQ {g : D → D → Option Bool} {hs : Hd} (h : hs ≠ []) : eqL (eqL g) (.lst (dH hs)) (.lst (dH hs)) = none := by
  cases hs with
  | nil => exact absurd rfl h
  | cons p hs =>
    simp only [eqL, if_pos]
    rfl
theorem qW {hs : Hd} {Ls : Rws} (ok : fO hs) : oF (orE (eqL (eqL (eX "Day" "number"))) eqP) (.tup [.lst (dH hs), .lst (rwD Ls)]) (.tup [.lst (dH hs), .lst (rwD Ls)]) = some (.bl false) := by
  have e1 : orE (eqL (eqL (eX "Day" "number"))) eqP (.lst (dH hs)) (.lst (dH hs)) = some true := by
    unfold orE
    rw [yQ ok.ne]
    exact ui (dW ok.nm) (dW ok.nm) (dN _ (dW ok.nm).1)
  have e2 : orE (eqL (eqL (eX "Day" "number"))) eqP (.lst (rwD Ls)) (.lst (rwD Ls)) = some true := by
    unfold orE
    rw [vR]
  simp only [oF, eqZ, e1, e2, Option.bind_some, Option.map_some]
  rfl
section
variable {n : Nat} {s : DS} {E : Xn → DS → Prop} {P : D → DS → Prop} {R : Res → DS → Prop} {hs : Hd} {Ls : Rws} {L : Row}
/-- a table made of lists that are changed afterwards -/
theorem f_ts (t : e8 hs Ls) (hm : s.m = []) : sem (n + 4) 26 [.lst (dH hs), .lst (rwD Ls)] s = some (.ok (tbD hs Ls), s) := by
  have key : Wr (d8 (sem (n + 3)) [.val (.mob 0), .val (.lst (dH hs)), .val (.lst (rwD Ls)), .no, .no] (s.push (.obj "Table" [] []))) fun r s' => (∃ x3 x4, r = .nx [.val (.mob 0), .val (.lst (dH hs)), .val (.lst (rwD Ls)), x3, x4]) ∧ s' = s.push (.obj "Table" [] []) := by
    unfold d8
    repeat array_get_dec
    refine bF (f9 t.ok.nm t.ok.nd t.ok.ne t.ok.le) ?_
    repeat (first | array_get_dec | array_mem_dec)
    exact tR t.ok.le Ls 0 _ _ t.al fun x3 x4 => ⟨⟨x3, x4, rfl⟩, rfl⟩
  obtain ⟨r, s', e, ⟨x3, x4, rfl⟩, rfl⟩ := key
  show oE "Table" "heads" "lines" 5 (d8 (sem (n + 3))) [.lst (dH hs), .lst (rwD Ls)] s = _
  have hp : (s.push (.obj "Table" [] [])).m = [.obj "Table" [] []] := by
    show s.m ++ _ = _
    rw [hm]
    rfl
  have hpop : (s.push (.obj "Table" [] [])).pop 0 = s := by
    show ({ s with m := (s.m ++ [_]).take 0 } : DS) = s
    rw [List.take_zero]
    cases s
    cases hm
    rfl
  have e' : d8 (sem (n + 3)) (env0 5 [.mob 0, .lst (dH hs), .lst (rwD Ls)]) (s.push (.obj "Table" [] [])) = _ := e
  have l1 : (dH hs).length < 1000 := by have := t.ok.le; simp only [dH, List.length_map]; omega
  have l2 : (rwD Ls).length < 1000 := by have := t.ll; simp only [rwD, List.length_map]; omega
  unfold oE
  rw [hm]
  try dsimp only
  rw [e']
  try dsimp only [List.getElem?_cons_zero, List.getElem?_cons_succ]
  rw [hp]
  show (if ("Table" : Str) = "Table" ∧ [Sl.val (D.mob 0), Sl.val (D.lst (dH hs)), Sl.val (D.lst (rwD Ls)), x3, x4].length = 5 ∧ gc (dH hs) = true ∧ di (rwD Ls) = true ∧ (dH hs).length < 1000 ∧ (rwD Ls).length < 1000 then some (Except.ok (D.obj "Table" ["heads", "lines"] [.lst (dH hs), .lst (rwD Ls)]), (s.push (.obj "Table" [] [])).pop 0) else none) = _
  rw [if_pos ⟨rfl, rfl, wU hs, iq t.ok.le t.al, l1, l2⟩, hpop]
  rfl
end
end K20
set_option Elab.async false
set_option linter.all false
set_option maxRecDepth 100000
set_option maxHeartbeats 4000000
namespace K20
open PySem L2 Lay DM
local macro_rules
  | `(tactic| array_get_dec) => `(tactic| first
    | with_reducible refine Stp.go ?_
    | (with_reducible refine dE ?_ ?_; focus (first | decide | omega))
    | (with_reducible refine dF ?_ ?_; focus (first | decide | omega))
    | with_reducible refine cj ?_
    | (with_reducible refine dG ?_ ?_; focus decide)
    | (with_reducible refine cY ?_ ?_; focus (first | (left; decide) | (right; decide) | (left; omega) | (right; omega))))
local macro_rules
  | `(tactic| array_mem_dec) => `(tactic| first
    | (with_reducible refine fe ?_ ?_; focus (first | rfl | decide))
    | (with_reducible refine dj ?_ ?_; focus (first | rfl | decide)))
def rrE (n : Nat) : DM.S :=
  (aB (bO (.one 11) (aw 1 (sem n 10) (ab (ai 6) ak)))
    (aB (bO (.one 12) (eLc (.many [(.one 16), (.one 17)]) (iD isX (ai 1)) a6 (c3 (ab (ai 16) (ab (eOp oIx (bE (ab (ai 17) (ab (eC (.str "number")) ak))) (eCB kG (ab (eOp cH (ai 17) (eC (.str "day"))) ak))) ak)))))
    (aB (bO (.one 13) (eLc (.one 4) (iD isX (ai 3)) a6 (eLc (.one 18) (iD isX (ai 4)) a6 (aw 1 (sem n 19) (ab (ai 18) ak)))))
    (aB (sIf (dQ (tB' (eOp eT (dB "Table" "columns" 1 (sem n 24) (ai 11) ak) (ai 12))) (tB' (eOp eT (dB "Table" "rows" 1 (sem n 25) (ai 11) ak) (ai 13)))) (aV (eC (.bl false))) aT)
    (aV (nQ (dv "Table" id (sem n 23) (jr 1 1 [0] (sem n 10) (ab (ai 11) ak)) (ai 11)) (aw 3 (sem n 18) (ab (ai 0) (ab (ai 1) (ab (ai 3) ak))))))))))
def rrF (n : Nat) : DM.S :=
  (aB (sIf (pj (tB' (eOp vb (ai 3) (bE ak))) (tB' (eOp eT (dv "Table" id (sem n 23) (eNew "Table" 3 (sem n 22) (ab (ai 1) (ab (eOp bw (ai 3) (eSl slX (ai 3) cq (cu (eC (.int 1))))) ak))) (ai 10)) (eOp (tp false (eqL (eX "Day" "number"))) (eOp oIx (ai 3) (eC (.int 0))) (ai 9))))) (aV (eC (.bl false))) aT)
    (rrE n))
def rrD (n : Nat) : DM.S :=
  (aB (bO (.one 9) (eLc (.one 15) (iD isX (ai 1)) a6 (eC .non)))
    (aB (bO (.one 10) (eNew "Table" 3 (sem n 22) (ab (ai 1) (ab (eOp bw (ai 3) (bE (ab (ai 9) ak))) ak))))
    (aB (sIf (dQ (tB' (dv "Table" id (sem n 23) (ai 6) (ai 10))) (bW (tB' (dv "Table" not (sem n 23) (ai 6) (eNew "Table" 3 (sem n 22) (ab (eOp bw (bE (ab (c3 (ab (eC (.str "zz")) (ab (eOp oIx (eOp oIx (ai 1) (eC (.int 0))) (eC (.int 1))) ak))) ak)) (eSl slX (ai 1) (cu (eC (.int 1))) cq)) (ab (ai 3) ak))))))) (aV (eC (.bl false))) aT)
    (rrF n))))
def rrC (n : Nat) : DM.S :=
  (aB (sIf (dQ (bW (tB' (dv "Table" id (sem n 23) (ai 6) (eNew "Table" 3 (sem n 22) (ab (ai 1) (ab (eUn vk (ai 3)) ak)))))) (tB' (je "Table" (sem n 23) (ai 6) (ai 3)))) (aV (eC (.bl false))) aT)
    (aB (sIf (tB' (dv "Table" not (sem n 23) (ai 6) (eNew "Table" 3 (sem n 22) (mU 2 [1, 0] (ab (ai 3) (ab (ai 1) ak)))))) (aV (eC (.bl false))) aT)
    (rrD n)))
def rrB (n : Nat) : DM.S :=
  (aB (kr 5 6 4 "Table" "heads" "lines" (gm (eCB du (ab (ai 1) ak)) (eLc (.one 4) (iD isX (ai 3)) a6 (eCB du (ab (ai 4) ak)))) (sem n 26))
    (aB (iW (.one 7) (iDs isR (ab (eC (.int 2)) ak)) (kx 8 4 (gm (dB "Table" "columns" 1 (sem n 24) (ai 6) ak) (dB "Table" "rows" 1 (sem n 25) (ai 6) ak)) (dQ (tB' (eOp (oF (orE (eqL (eqL (eX "Day" "number"))) eqP)) (ai 8) (c3 (ab (ai 1) (ab (ai 3) ak))))) (bW (tB' (eUn (isF "list") (eOp oIx (ai 8) (eC (.int 0)))))))))
    (rrC n)))
abbrev meA : En → M D := gm (eCB du (ab (ai 1) ak)) (eLc (.one 4) (iD isX (ai 3)) a6 (eCB du (ab (ai 4) ak)))
abbrev meB (n : Nat) : En → M D := gm (dB "Table" "columns" 1 (sem n 24) (ai 6) ak) (dB "Table" "rows" 1 (sem n 25) (ai 6) ak)
abbrev mcB : En → M Bool := dQ (tB' (eOp (oF (orE (eqL (eqL (eX "Day" "number"))) eqP)) (ai 8) (c3 (ab (ai 1) (ab (ai 3) ak))))) (bW (tB' (eUn (isF "list") (eOp oIx (ai 8) (eC (.int 0))))))
section
variable {n : Nat} {s : DS} {E : Xn → DS → Prop} {P : D → DS → Prop} {R : Res → DS → Prop} {hs : Hd} {Ls : Rws} {L : Row} {d2 d7 : D}
theorem blkA (t : e8 hs Ls) (hm : s.m = []) : kr 5 6 4 "Table" "heads" "lines" meA (sem (n + 4) 26) [.val .drw, .val (.lst (dH hs)), .val d2, .val (.lst (rwD Ls)), .no, .no, .no, .no, .no, .no, .no, .no, .no, .no, .no, .no, .no, .no, .no] s =
    some (.nx [.val .drw, .val (.lst (dH hs)), .val d2, .val (.lst (rwD Ls)), .no, .no, .val (tbD hs Ls), .no, .no, .no, .no, .no, .no, .no, .no, .no, .no, .no, .no], s) := by
  have l2 : (rwD Ls).length < 1000 := by have := t.ll; simp only [rwD, List.length_map]; omega
  have ro := iq t.ok.le t.al
  have em : meA [.val .drw, .val (.lst (dH hs)), .val d2, .val (.lst (rwD Ls)), .no, .no, .no, .no, .no, .no, .no, .no, .no, .no, .no, .no, .no, .no, .no] s = some (.ok (.tup [.lst (dH hs), .lst (rwD Ls)]), s) := by
    unfold meA gm
    rw [list_eq (i := 1) _ s (dH hs) rfl]
    simp only [bx]
    rw [m7 _ s (rwD Ls) (by show 4 < 19; decide) rfl l2 ro]
  unfold kr
  rw [if_pos ⟨rfl, by decide, by decide, by show 5 < 19; decide, by show 4 < 19; decide⟩, em]
  show (if di (rwD Ls) = true ∧ (rwD Ls).length < 1000 then _ else none) = _
  rw [if_pos ⟨ro, l2⟩, f_ts t hm]
  show (if ("Table" : Str) = "Table" ∧ (["heads", "lines"] : List Str) = (["heads", "lines"] : List Str) ∧ s.m.length = 0 then _ else none) = _
  rw [if_pos ⟨rfl, rfl, by rw [hm]; rfl⟩]
  rfl
theorem blkB (t : e8 hs Ls) (hm : s.m = []) : kx 8 4 (meB (n + 1)) mcB [.val .drw, .val (.lst (dH hs)), .val d2, .val (.lst (rwD Ls)), .no, .no, .val (tbD hs Ls), .val d7, .no, .no, .no, .no, .no, .no, .no, .no, .no, .no, .no] s =
    some (.nx [.val .drw, .val (.lst (dH hs)), .val d2, .val (.lst (rwD Ls)), .no, .no, .val (tbD hs Ls), .val d7, .no, .no, .no, .no, .no, .no, .no, .no, .no, .no, .no], s) := by
  have l1 : (dH hs).length < 1000 := by have := t.ok.le; simp only [dH, List.length_map]; omega
  have l2 : (rwD Ls).length < 1000 := by have := t.ll; simp only [rwD, List.length_map]; omega
  have ro := iq t.ok.le t.al
  have e1 : dB "Table" "columns" 1 (sem (n + 1) 24) (ai 6) ak [.val .drw, .val (.lst (dH hs)), .val d2, .val (.lst (rwD Ls)), .no, .no, .val (tbD hs Ls), .val d7, .no, .no, .no, .no, .no, .no, .no, .no, .no, .no, .no] s = some (.ok (.lst (dH hs)), s) := by
    refine cZ ?_
    repeat array_get_dec
    refine ⟨rfl, ?_⟩
    repeat array_get_dec
    refine ⟨rfl, ?_⟩
    refine bF lG ?_
    exact ⟨rfl, rfl⟩
  have e2 : dB "Table" "rows" 1 (sem (n + 1) 25) (ai 6) ak [.val .drw, .val (.lst (dH hs)), .val d2, .val (.lst (rwD Ls)), .no, .no, .val (tbD hs Ls), .val d7, .no, .no, .no, .no, .no, .no, .no, .no, .no, .no, .no] s = some (.ok (.lst (rwD Ls)), s) := by
    refine cZ ?_
    repeat array_get_dec
    refine ⟨rfl, ?_⟩
    repeat array_get_dec
    refine ⟨rfl, ?_⟩
    refine bF (lH t.ll) ?_
    exact ⟨rfl, rfl⟩
  have em : meB (n + 1) [.val .drw, .val (.lst (dH hs)), .val d2, .val (.lst (rwD Ls)), .no, .no, .val (tbD hs Ls), .val d7, .no, .no, .no, .no, .no, .no, .no, .no, .no, .no, .no] s = some (.ok (.tup [.lst (dH hs), .lst (rwD Ls)]), s) := by
    unfold meB gm
    rw [e1]
    simp only [bx]
    rw [e2]
  have ec : mcB [.val .drw, .val (.lst (dH hs)), .val d2, .val (.lst (rwD Ls)), .no, .no, .val (tbD hs Ls), .val d7, .val (.tup [.lst (dH hs), .lst (rwD Ls)]), .no, .no, .no, .no, .no, .no, .no, .no, .no, .no] s = some (.ok false, s) := by
    refine cZ ?_
    unfold mcB
    repeat array_get_dec
    refine aH (qW t.ok) ?_
    repeat (first | array_get_dec | array_mem_dec)
    exact ⟨rfl, rfl⟩
  unfold kx
  rw [if_pos ⟨rfl, by decide, by show 8 < 19; decide, by show 4 < 19; decide⟩, em]
  show (if di (rwD Ls) = true ∧ (dH hs).length < 1000 ∧ (rwD Ls).length < 1000 then _ else none) = _
  rw [if_pos ⟨ro, l1, l2⟩]
  show (match mcB [.val .drw, .val (.lst (dH hs)), .val d2, .val (.lst (rwD Ls)), .no, .no, .val (tbD hs Ls), .val d7, .val (.tup [.lst (dH hs), .lst (rwD Ls)]), .no, .no, .no, .no, .no, .no, .no, .no, .no, .no] s with
    | some (.ok b, s2) => if s2.m.length = 0 then _ else none
    | _ => none) = _
  rw [ec]
  show (if s.m.length = 0 then _ else none) = _
  rw [if_pos (by rw [hm]; rfl), if_neg (by simp)]
  rfl
end
end K20
set_option Elab.async false
set_option linter.all false
set_option maxRecDepth 100000
set_option maxHeartbeats 4000000
namespace K20
open PySem L2 Lay DM
local macro_rules
  | `(tactic| array_get_dec) => `(tactic| first
    | with_reducible refine Stp.go ?_
    | (with_reducible refine dE ?_ ?_; focus (first | decide | omega))
    | (with_reducible refine dF ?_ ?_; focus (first | decide | omega))
    | with_reducible refine cj ?_
    | (with_reducible refine dG ?_ ?_; focus decide)
    | (with_reducible refine cY ?_ ?_; focus (first | (left; decide) | (right; decide) | (left; omega) | (right; omega))))
local macro_rules
  | `(tactic| array_mem_dec) => `(tactic| first
    | (with_reducible refine fe ?_ ?_; focus (first | rfl | decide))
    | (with_reducible refine dj ?_ ?_; focus (first | rfl | decide)))
section
variable {n : Nat} {s : DS} {E : Xn → DS → Prop} {P : D → DS → Prop} {R : Res → DS → Prop} {hs : Hd} {Ls : Rws} {L : Row} {d2 d7 : D}
theorem uj {hs : Hd} {Ls : Rws} (al : ∀ L ∈ Ls, Al hs L) : fJ (.lst (rwD (gj Ls))) := by
  refine ⟨gO.mpr fun x hx => ?_, Nat.le_trans (Nat.succ_le_succ (gQ (n := 1).mpr fun x hx => ?_)) (by decide)⟩
  · obtain ⟨M, hM, rfl⟩ := List.mem_map.mp hx
    obtain ⟨L, hL, rfl⟩ := List.mem_map.mp hM
    refine gO.mpr fun y hy => ?_
    obtain ⟨v, hv, rfl⟩ := List.mem_map.mp hy
    obtain ⟨u, hu, rfl⟩ := List.mem_map.mp hv
    have ho := wM ((al L hL).ok u hu)
    cases u with
    | bk => rfl
    | num i => rfl
    | txt z =>
      by_cases h : z = ""
      · simp [dlV, h, pd, DM.pl]
      · simp only [dlV, if_neg h] at ho ⊢
        exact ho
    | day i => rfl
  · obtain ⟨M, hM, rfl⟩ := List.mem_map.mp hx
    refine Nat.succ_le_succ (gQ (n := 0).mpr fun y hy => ?_)
    obtain ⟨v, hv, rfl⟩ := List.mem_map.mp hy
    obtain ⟨L, hL, rfl⟩ := List.mem_map.mp hM
    obtain ⟨u, hu, rfl⟩ := List.mem_map.mp hv
    cases u with
    | bk => exact Nat.le_refl _
    | num i => exact Nat.le_refl _
    | txt z =>
      by_cases h : z = ""
      · simp [dlV, h, pd, dep]
      · simp [dlV, h, pd, dep]
    | day i => exact Nat.le_refl _
theorem wV {x4 x5 x7 x8 x9 x10 x14 x15 : Sl} (t : e8 hs Ls) (hn : 11 ≤ n) (hlim : s.k + 6 ≤ lim) (hm : s.m = []) (p : ∀ s', s'.k ≤ s.k + 6 → s'.m = [] → P (.bl true) s') :
    Wr (rrE n [.val .drw, .val (.lst (dH hs)), .val d2, .val (.lst (rwD Ls)), x4, x5, .val (tbD hs Ls), x7, x8, x9, x10, .no, .no, .no, x14, x15, .no, .no, .no] s) (mn E P) := by
  obtain ⟨n, rfl⟩ : ∃ m, n = m + 10 + 1 := ⟨n - 11, by omega⟩
  have l60 := t.ok.le
  have l9 := t.ll
  unfold rrE
  repeat array_get_dec
  refine bF (t5 (n := n + 6) t hm) ?_
  repeat array_get_dec
  refine c9 (fun p : Str × Kd => hd p) (fun _ => true) (fun p => hd (p.1, dlK p.2)) hs (fun q hq => ?_) ?_
  · unfold hd
    repeat array_get_dec
    refine ⟨rfl, rfl, fun _ => ?_⟩
    repeat array_get_dec
    obtain ⟨x, k⟩ := q
    cases k with
    | number =>
      refine dj (by show decide ((Kd.number).s = "day") = false; decide +kernel) ?_
      repeat array_get_dec
      exact ⟨rfl, rfl⟩
    | text =>
      refine dj (by show decide ((Kd.text).s = "day") = false; decide +kernel) ?_
      repeat array_get_dec
      exact ⟨rfl, rfl⟩
    | day =>
      refine fe (by show decide ((Kd.day).s = "day") = true; decide +kernel) ?_
      repeat array_get_dec
      exact ⟨rfl, rfl⟩
  rw [List.filter_eq_self.mpr (fun _ _ => rfl)]
  refine ⟨aU (by rw [List.length_map]; omega), ?_⟩
  rw [show (hs.map fun p => hd (p.1, dlK p.2)) = dH (dlH hs) by simp [dH, dlH, Function.comp]]
  repeat array_get_dec
  refine c9 (fun L : Row => .lst (pds L)) (fun _ => true) (fun L => .lst (pds (dlR L))) Ls (fun L hL => ?_) ?_
  · repeat array_get_dec
    refine ⟨rfl, rfl, fun _ => ?_⟩
    repeat array_get_dec
    refine c9 (fun v : Vl => pd v) (fun _ => true) (fun v => pd (dlV v)) L (fun v _ => ?_) ?_
    · repeat array_get_dec
      refine ⟨rfl, rfl, fun _ => ?_⟩
      repeat array_get_dec
      refine bF (vK v) ?_
      exact ⟨rfl, rfl⟩
    · rw [List.filter_eq_self.mpr (fun _ _ => rfl)]
      have := (t.al L hL).len
      refine ⟨aU (by rw [List.length_map]; omega), ?_⟩
      rw [wO]
      exact ⟨rfl, rfl⟩
  rw [List.filter_eq_self.mpr (fun _ _ => rfl)]
  refine ⟨aU (by rw [List.length_map]; omega), ?_⟩
  rw [show (Ls.map fun L => D.lst (pds (dlR L))) = rwD (gj Ls) by simp [rwD, gj, Function.comp]]
  repeat array_get_dec
  have td := wN t
  refine ⟨rfl, ?_⟩
  repeat array_get_dec
  refine ⟨rfl, ?_⟩
  refine bF lG ?_
  repeat array_get_dec
  refine sg (dW td.ok.nm) (dW td.ok.nm) ?_
  rw [dN _ (dW td.ok.nm).1]
  repeat (first | array_get_dec | array_mem_dec)
  refine ⟨rfl, ?_⟩
  repeat array_get_dec
  refine ⟨rfl, ?_⟩
  refine bF (lH td.ll) ?_
  repeat array_get_dec
  refine sg (uj t.al) (uj t.al) ?_
  rw [dN _ (uj t.al).1]
  repeat (first | array_get_dec | array_mem_dec)
  have ed : sem (n + 10 + 1) 10 [tbD (dlH hs) (gj Ls)] s = some (.ok (tbD (dlH hs) (gj Ls)), s) := by
    have := t5 (n := n + 6) td hm
    rw [dlH2, zf] at this
    exact this
  refine gb (n := n + 7) (b := true) (g := id) (hs := dlH hs) (A := gj Ls) (hs' := dlH hs) (B := gj Ls) (s := s) (s2 := s) (fun P hp => ?_) (fun P hp => ?_) (tV td.ok td.ll td.al (List.Perm.refl _)) ?_
  · repeat array_get_dec
    refine ⟨rfl, ?_⟩
    exact bF ed hp
  · repeat array_get_dec
    exact hp
  refine ⟨true, rfl, fun _ => ?_, fun z => (by cases z)⟩
  repeat array_get_dec
  exact qV t.ok t.al t.ll (by omega) hlim hm p
end
end K20
set_option Elab.async false
set_option linter.all false
set_option maxRecDepth 100000
set_option maxHeartbeats 4000000
namespace K20
open PySem L2 Lay DM
local macro_rules
  | `(tactic| array_get_dec) => `(tactic| first
    | with_reducible refine Stp.go ?_
    | (with_reducible refine dE ?_ ?_; focus (first | decide | omega))
    | (with_reducible refine dF ?_ ?_; focus (first | decide | omega))
    | with_reducible refine cj ?_
    | (with_reducible refine dG ?_ ?_; focus decide)
    | (with_reducible refine cY ?_ ?_; focus (first | (left; decide) | (right; decide) | (left; omega) | (right; omega))))
local macro_rules
  | `(tactic| array_mem_dec) => `(tactic| first
    | (with_reducible refine fe ?_ ?_; focus (first | rfl | decide))
    | (with_reducible refine dj ?_ ?_; focus (first | rfl | decide)))
/-- a row of blanks -/
def bkR (k : Nat) : Row := List.replicate k .bk
theorem vS (k : Nat) : pds (bkR k) = dI k := by simp [pds, bkR, dI, pd]
theorem pa : ∀ hs : Hd, Al hs (bkR hs.length)
  | [] => .nil
  | p :: hs => .cons trivial trivial (pa hs)
theorem qe (A B : Rws) : rwD A ++ rwD B = rwD (A ++ B) := by simp [rwD]
theorem vT (L : Row) : [D.lst (pds L)] = rwD [L] := rfl
theorem yR (v : Vl) : eX "Day" "number" (pd v) .non = some (ij v) := by
  cases v with
  | bk => rfl
  | num i => rfl
  | txt z => rfl
  | day i => rfl
theorem uk : ∀ L : Row, eqZ (eX "Day" "number") (pds L) (dI L.length) = some (L.map ij)
  | [] => rfl
  | v :: L => by
    show ((eX "Day" "number" (pd v) .non).bind fun x => (eqZ (eX "Day" "number") (pds L) (dI L.length)).map fun r => x :: r) = _
    rw [yR, uk L]
    rfl
theorem um : ∀ L : Row, (L.map ij).all id = decide (L = bkR L.length)
  | [] => rfl
  | v :: L => by
    show (ij v && (L.map ij).all id) = decide (v :: L = .bk :: bkR L.length)
    rw [um L]
    cases v with
    | bk => simp [ij]
    | num i => simp [ij]
    | txt z => simp [ij]
    | day i => simp [ij]
theorem vU {hs : Hd} {L : Row} (a : Al hs L) : tp false (eqL (eX "Day" "number")) (.lst (pds L)) (.lst (dI hs.length)) = some (.bl (decide (L = bkR hs.length))) := by
  have hl := a.len
  have l1 : (pds L).length = (dI hs.length).length := by simp [pds, dI, hl]
  unfold tp
  simp only [eqL, if_pos l1]
  rw [← hl, uk, Option.map_some, Option.map_some, um]
  simp
section
variable {n : Nat} {s : DS} {E : Xn → DS → Prop} {P : D → DS → Prop} {R : Res → DS → Prop} {hs : Hd} {Ls : Rws} {L : Row} {d2 d7 : D}
/-- Table(heads, rows) within an expression -/
theorem qf {ms : En → DM.M (List D)} {ρ : En} (t : e8 hs Ls) (hm : s.m = []) (h : ∀ Q : List D → DS → Prop, Q [.lst (dH hs), .lst (rwD Ls)] s → Wp (ms ρ s) E Q) (p : P (tbD hs Ls) s) : Wp (eNew "Table" 3 (sem (n + 4) 22) ms ρ s) E P := by
  refine a9 (h _ ?_)
  rw [if_pos (show [D.lst (dH hs), D.lst (rwD Ls)].length + 1 = 3 from rfl)]
  exact lF t (by rw [hm]; rfl) p
theorem e8.snoc (t : e8 hs Ls) (a : Al hs L) (h : Ls.length < 900) : e8 hs (Ls ++ [L]) := ⟨t.ok, by rw [List.length_append]; simp only [List.length_cons, List.length_nil]; omega, fun M hM => by
  rcases List.mem_append.mp hM with hM | hM
  · exact t.al M hM
  · rw [List.mem_singleton.mp hM]; exact a⟩
theorem qX {α : Type} {A : List α} {x y : α} : (A ++ [x]).Perm (A ++ [y]) ↔ x = y := by
  rw [List.perm_append_left_iff]
  constructor
  · intro h
    have := h.eq_singleton
    simpa using this
  · rintro rfl
    exact .refl _
theorem zo {x4 x5 x7 x8 x14 x15 : Sl} (t : e8 hs Ls) (hlL : Ls.length < 900) (hn : 11 ≤ n) (hlim : s.k + 6 ≤ lim) (hm : s.m = []) (p : ∀ s', s'.k ≤ s.k + 6 → s'.m = [] → P (.bl true) s') :
    Wr (rrF n [.val .drw, .val (.lst (dH hs)), .val d2, .val (.lst (rwD Ls)), x4, x5, .val (tbD hs Ls), x7, x8, .val (.lst (dI hs.length)), .val (tbD hs (Ls ++ [bkR hs.length])), .no, .no, .no, x14, x15, .no, .no, .no] s) (mn E P) := by
  obtain ⟨n, rfl⟩ : ∃ m, n = m + 4 := ⟨n - 4, by omega⟩
  have to := t.snoc (pa hs) hlL
  unfold rrF
  cases Ls with
  | nil =>
    repeat array_get_dec
    refine sU ?_
    rw [show (rwD []).isEmpty = true from rfl]
    repeat (first | array_get_dec | array_mem_dec)
    exact wV t (by omega) hlim hm p
  | cons L0 Ls =>
    have a0 := t.al L0 (by simp)
    have t0 := t.snoc a0 hlL
    repeat array_get_dec
    refine sU ?_
    rw [show (rwD (L0 :: Ls)).isEmpty = false from rfl]
    repeat (first | array_get_dec | array_mem_dec)
    obtain ⟨b, hb, eb⟩ := tX (n := n) (s := s) t.ok t0.ll to.ll t0.al to.al
    rw [qX] at hb
    refine gb (n := n) (b := b) (g := id) (hs := hs) (A := (L0 :: Ls) ++ [L0]) (hs' := hs) (B := (L0 :: Ls) ++ [bkR hs.length]) (s := s) (s2 := s) (fun P hp => ?_) (fun P hp => ?_) eb ?_
    · refine qf t0 hm (fun Q hq => ?_) hp
      repeat array_get_dec
      refine gT (n := 1) ?_
      repeat array_get_dec
      refine cX (aU (by have := t.ll; simp only [rwD, List.length_map, List.length_take, List.length_cons] at this ⊢; omega)) ?_
      rw [show rwD (L0 :: Ls) ++ (rwD (L0 :: Ls)).take 1 = rwD ((L0 :: Ls) ++ [L0]) by simp [rwD]]
      repeat array_get_dec
      exact hq
    · repeat array_get_dec
      exact hp
    · repeat array_get_dec
      refine gS (xs := rwD (L0 :: Ls)) (j := 0) (d := .lst (pds L0)) rfl ?_
      repeat array_get_dec
      refine aH (vU a0) ?_
      have e : b = decide (L0 = bkR hs.length) := by
        cases b with
        | true => exact (decide_eq_true (hb.mp rfl)).symm
        | false => exact (decide_eq_false fun z => by have := hb.mpr z; cases this).symm
      rw [← e]
      refine aH (a := D.bl false) (by cases b <;> kernel_rfl) ?_
      repeat (first | array_get_dec | array_mem_dec)
      exact wV t (by omega) hlim hm p
theorem zp {p q : Str × Kd} {hs hs' : Hd} (h : p.1 ≠ q.1) : eqD (.lst (dH (p :: hs))) (.lst (dH (q :: hs'))) = false := by
  have h1 : (p.1 == q.1) = false := by simpa using h
  show (((p.1 == q.1) && _) && _) = false
  rw [h1]
  rfl
theorem zq {x4 x5 x7 x8 x14 : Sl} (t : e8 hs Ls) (hlL : Ls.length < 900) (hz : ("zz" : Str) ∉ nH hs) (hn : 11 ≤ n) (hlim : s.k + 6 ≤ lim) (hm : s.m = []) (p : ∀ s', s'.k ≤ s.k + 6 → s'.m = [] → P (.bl true) s') :
    Wr (rrD n [.val .drw, .val (.lst (dH hs)), .val d2, .val (.lst (rwD Ls)), x4, x5, .val (tbD hs Ls), x7, x8, .no, .no, .no, .no, .no, x14, .no, .no, .no, .no] s) (mn E P) := by
  obtain ⟨n, rfl⟩ : ∃ m, n = m + 4 := ⟨n - 4, by omega⟩
  have to := t.snoc (pa hs) hlL
  have l60 := t.ok.le
  unfold rrD
  repeat array_get_dec
  refine c9 (fun p : Str × Kd => hd p) (fun _ => true) (fun _ => .non) hs (fun q hq => ?_) ?_
  · repeat array_get_dec
    refine ⟨rfl, rfl, fun _ => ?_⟩
    repeat array_get_dec
    exact ⟨rfl, rfl⟩
  rw [List.filter_eq_self.mpr (fun _ _ => rfl)]
  refine ⟨aU (by rw [List.length_map]; omega), ?_⟩
  rw [show (hs.map fun _ => D.non) = dI hs.length by simp [dI, List.map_const']]
  repeat array_get_dec
  refine cX (aU (by have := t.ll; simp only [rwD, List.length_map, List.length_cons, List.length_nil]; omega)) ?_
  rw [show rwD Ls ++ [D.lst (dI hs.length)] = rwD (Ls ++ [bkR hs.length]) by rw [← vS, vT, qe]]
  repeat array_get_dec
  refine ⟨rfl, ?_⟩
  refine lF to (by rw [hm]; rfl) ?_
  repeat array_get_dec
  -- not the same as with a row more
  obtain ⟨b, hb, eb⟩ := tX (n := n) (s := s) t.ok t.ll to.ll t.al to.al
  have hb : b = false := by
    cases b with
    | false => rfl
    | true =>
      have := (hb.mp rfl).length_eq
      rw [List.length_append] at this
      simp at this
  subst hb
  refine gb (n := n) (b := false) (g := id) (hs := hs) (A := Ls) (hs' := hs) (B := Ls ++ [bkR hs.length]) (s := s) (s2 := s) (fun P hp => ?_) (fun P hp => ?_) eb ?_
  · repeat array_get_dec
    exact hp
  · repeat array_get_dec
    exact hp
  refine ⟨false, rfl, fun z => (by cases z), fun _ => ?_⟩
  repeat array_get_dec
  -- not the same as with another name
  obtain ⟨q, tl, rfl⟩ : ∃ q tl, hs = q :: tl := by
    cases hs with
    | nil => exact absurd rfl t.ok.ne
    | cons q tl => exact ⟨q, tl, rfl⟩
  have tz : e8 (("zz", q.2) :: tl) Ls := ⟨⟨fun y hy => by
    rcases List.mem_cons.mp hy with rfl | hy
    · show ("zz" : Str) ∈ qS
      decide +kernel
    · exact t.ok.nm y (List.mem_cons_of_mem _ hy), by
    have nd := t.ok.nd
    rw [lE, List.nodup_cons] at nd ⊢
    exact ⟨fun z => hz (by rw [lE]; exact List.mem_cons_of_mem _ z), nd.2⟩, by simp, by simpa using t.ok.le⟩, t.ll, fun L hL => (t.al L hL).kinds rfl⟩
  have ez := yH (n := n) (s := s) (A := Ls) (B := Ls) t.ok tz.ok (zp (p := q) (q := ("zz", q.2)) fun e => hz (by rw [lE, e]; exact List.mem_cons_self))
  refine gb (n := n) (b := false) (g := not) (hs := q :: tl) (A := Ls) (hs' := ("zz", q.2) :: tl) (B := Ls) (s := s) (s2 := s) (fun P hp => ?_) (fun P hp => ?_) ez ?_
  · repeat array_get_dec
    exact hp
  · refine qf tz hm (fun Q hq => ?_) hp
    repeat array_get_dec
    refine gS (xs := dH (q :: tl)) (j := 0) (d := hd q) rfl ?_
    unfold hd
    repeat array_get_dec
    refine ip (n := 1) ?_
    repeat array_get_dec
    refine cX (aU (by simp only [dH, List.length_cons, List.length_nil, List.length_map, List.length_drop] at l60 ⊢; omega)) ?_
    rw [show [D.tup [D.str "zz", D.str q.2.s]] ++ (dH (q :: tl)).drop 1 = dH (("zz", q.2) :: tl) from rfl]
    repeat array_get_dec
    exact hq
  refine ⟨true, rfl, fun z => (by cases z), fun _ => ?_⟩
  repeat (first | array_get_dec | array_mem_dec)
  exact zo t hlL (by omega) hlim hm p
theorem zr {x4 x5 x7 x8 x14 : Sl} (t : e8 hs Ls) (hlL : Ls.length < 900) (hz : ("zz" : Str) ∉ nH hs) (hn : 11 ≤ n) (hlim : s.k + 6 ≤ lim) (hm : s.m = []) (p : ∀ s', s'.k ≤ s.k + 6 → s'.m = [] → P (.bl true) s') :
    Wr (rrC n [.val .drw, .val (.lst (dH hs)), .val d2, .val (.lst (rwD Ls)), x4, x5, .val (tbD hs Ls), x7, x8, .no, .no, .no, .no, .no, x14, .no, .no, .no, .no] s) (mn E P) := by
  obtain ⟨n, rfl⟩ : ∃ m, n = m + 4 := ⟨n - 4, by omega⟩
  have tr : e8 hs Ls.reverse := ⟨t.ok, by rw [List.length_reverse]; exact t.ll, fun L hL => t.al L (List.mem_reverse.mp hL)⟩
  unfold rrC
  repeat array_get_dec
  refine gb (n := n) (b := true) (g := id) (hs := hs) (A := Ls) (hs' := hs) (B := Ls.reverse) (s := s) (s2 := s) (fun P hp => ?_) (fun P hp => ?_) (tV t.ok t.ll t.al (List.reverse_perm Ls).symm) ?_
  · repeat array_get_dec
    exact hp
  · refine qf tr hm (fun Q hq => ?_) hp
    repeat array_get_dec
    refine aH (a := D.lst (rwD Ls.reverse)) (by show some (D.lst (rwD Ls).reverse) = _; simp [rwD, List.map_reverse]) ?_
    repeat array_get_dec
    exact hq
  refine ⟨true, rfl, fun z => (by cases z), fun _ => ?_⟩
  repeat (first | array_get_dec | array_mem_dec)
  refine tY (n := n + 3) (hs := hs) (A := Ls) (xs := rwD Ls) (s := s) (fun P hp => ?_) (fun P hp => ?_) ?_
  · repeat array_get_dec
    exact hp
  · repeat array_get_dec
    exact hp
  refine ⟨false, rfl, fun z => (by cases z), fun _ => ?_⟩
  repeat (first | array_get_dec | array_mem_dec)
  refine gb (n := n) (b := true) (g := not) (hs := hs) (A := Ls) (hs' := hs) (B := Ls) (s := s) (s2 := s) (fun P hp => ?_) (fun P hp => ?_) (tV t.ok t.ll t.al (List.Perm.refl _)) ?_
  · repeat array_get_dec
    exact hp
  · refine qf t hm (fun Q hq => ?_) hp
    refine qd ?_
    repeat array_get_dec
    exact hq
  refine ⟨false, rfl, fun z => (by cases z), fun _ => ?_⟩
  repeat (first | array_get_dec | array_mem_dec)
  exact zq t hlL hz (by omega) hlim hm p
theorem zt (t : e8 hs Ls) (hlL : Ls.length < 900) (hz : ("zz" : Str) ∉ nH hs) (hn : 11 ≤ n) (hlim : s.k + 6 ≤ lim) (hm : s.m = []) (p : ∀ s', s'.k ≤ s.k + 6 → s'.m = [] → P (.bl true) s') :
    Wr (rrB n [.val .drw, .val (.lst (dH hs)), .val d2, .val (.lst (rwD Ls)), .no, .no, .no, .no, .no, .no, .no, .no, .no, .no, .no, .no, .no, .no, .no] s) (mn E P) := by
  obtain ⟨n, rfl⟩ : ∃ m, n = m + 4 := ⟨n - 4, by omega⟩
  unfold rrB
  repeat array_get_dec
  refine ⟨_, _, blkA t hm, ?_⟩
  repeat array_get_dec
  refine ⟨_, _, blkB (n := n + 3) (d7 := .int 0) t hm, ?_⟩
  repeat array_get_dec
  refine ⟨_, _, blkB (n := n + 3) (d7 := .int 1) t hm, ?_⟩
  repeat array_get_dec
  exact zr t hlL hz (by omega) hlim hm p
end
end K20
set_option Elab.async false
set_option linter.all false
set_option maxRecDepth 100000
set_option maxHeartbeats 4000000
namespace K20
open PySem L2 Lay DM
local macro_rules
  | `(tactic| array_get_dec) => `(tactic| first
    | with_reducible refine Stp.go ?_
    | (with_reducible refine dE ?_ ?_; focus (first | decide | omega))
    | (with_reducible refine dF ?_ ?_; focus (first | decide | omega))
    | with_reducible refine cj ?_
    | (with_reducible refine dG ?_ ?_; focus decide)
    | (with_reducible refine cY ?_ ?_; focus (first | (left; decide) | (right; decide) | (left; omega) | (right; omega))))
local macro_rules
  | `(tactic| array_mem_dec) => `(tactic| first
    | (with_reducible refine fe ?_ ?_; focus (first | rfl | decide))
    | (with_reducible refine dj ?_ ?_; focus (first | rfl | decide)))
theorem j0 (n : Nat) : b_z (sem n) = (aB (bO (.one 1) (aw 1 (sem n 20) (ab (ai 0) ak)))
    (aB (bO (.one 2) (eOp oMod (aw 1 (sem n 11) (ab (ai 0) ak)) (eC (.int 6))))
    (aB (bO (.one 3) (eLc (.one 14) (iDs isR (ab (ai 2) ak)) a6 (eLc (.many [(.one 16), (.one 17)]) (iD isX (ai 1)) a6 (aw 1 (sem n 14) (ab (aw 3 (sem n 12) (ab (ai 0) (ab (eC (.str "hill")) (ab (ai 17) ak)))) ak)))))
    (aB (bO (.one 3) (eOp bw (ai 3) (eSl slX (ai 3) cq (cu (eOp oMod (aw 1 (sem n 11) (ab (ai 0) ak)) (eC (.int 3)))))))
    (rrB n))))) := rfl
section
variable {n : Nat} {s : DS} {E : Xn → DS → Prop} {P : D → DS → Prop} {R : Res → DS → Prop} {hs : Hd} {Ls : Rws} {L : Row} {v1 v2 v3 v4 v5 v6 v7 v8 v9 v10 v11 v12 v13 v15 v18 : Sl}
theorem uo (hn : 2 ≤ n) : ∀ (hs : Hd) (s : DS) (v14 v16 v17 : Sl) (QL : List D → DS → Prop), s.k + hs.length ≤ lim → s.m = [] → (∀ (L : Row) s', s'.k = s.k + hs.length → s'.m = [] → Al hs L → QL (pds L) s') →
    Wp (c8 (.many [(.one 16), (.one 17)]) a6 (aw 1 (sem n 14) (ab (aw 3 (sem n 12) (ab (ai 0) (ab (eC (.str "hill")) (ab (ai 17) ak)))) ak)) [.val .drw, v1, v2, v3, v4, v5, v6, v7, v8, v9, v10, v11, v12, v13, v14, v15, v16, v17, v18] (dH hs) s) E QL
  | [], s, _, _, _, QL, hlim, hm, q => gN (q [] s rfl hm .nil)
  | (x, k) :: hs, s, v14, v16, v17, QL, hlim, hm, q => by
    have ih := uo hn hs
    obtain ⟨n, rfl⟩ : ∃ m, n = m + 1 := ⟨n - 1, by omega⟩
    simp only [List.length_cons] at hlim
    show Wp (c8 _ _ _ _ (.tup [.str x, .str k.s] :: dH hs) s) E QL
    repeat array_get_dec
    refine yK hn (by omega) hm fun v s1 hv ho e1 m1 => ?_
    repeat array_get_dec
    refine bF (tZ v) ?_
    repeat array_get_dec
    refine ih s1 _ _ _ _ (by omega) m1 fun L s' q1 q2 q3 => ?_
    exact q (v :: L) s' (by simp only [List.length_cons]; omega) q2 (.cons hv ho q3)
theorem qg {hs : Hd} (hn : 2 ≤ n) (hl : hs.length ≤ 5) : ∀ (ds : List D) (s : DS) (v14 v16 v17 : Sl) (QL : List D → DS → Prop), s.k + 5 * ds.length ≤ lim → s.m = [] → (∀ (Ls : Rws) s', s'.k ≤ s.k + 5 * ds.length → s'.m = [] → Ls.length = ds.length → (∀ L ∈ Ls, Al hs L) → QL (rwD Ls) s') →
    Wp (c8 (.one 14) a6 (eLc (.many [(.one 16), (.one 17)]) (iD isX (ai 1)) a6 (aw 1 (sem n 14) (ab (aw 3 (sem n 12) (ab (ai 0) (ab (eC (.str "hill")) (ab (ai 17) ak)))) ak))) [.val .drw, .val (.lst (dH hs)), v2, v3, v4, v5, v6, v7, v8, v9, v10, v11, v12, v13, v14, v15, v16, v17, v18] ds s) E QL
  | [], s, _, _, _, QL, hlim, hm, q => gN (q [] s (Nat.le_refl _) hm rfl (fun L hL => nomatch hL))
  | d :: ds, s, v14, v16, v17, QL, hlim, hm, q => by
    have ih := qg hn hl ds
    simp only [List.length_cons] at hlim
    repeat array_get_dec
    refine uo hn hs s _ _ _ _ (by omega) hm fun L s1 q1 q2 q3 => ?_
    refine ⟨aU (by simp only [pds, List.length_map, q3.len]; omega), ?_⟩
    refine ih s1 _ _ _ _ (by omega) q2 fun Ls s' u1 u2 u3 u4 => ?_
    exact q (L :: Ls) s' (by simp only [List.length_cons]; omega) u2 (by simp [u3]) (fun M hM => by
      rcases List.mem_cons.mp hM with rfl | hM
      · exact q3
      · exact u4 M hM)
theorem vV (hn : 12 ≤ n) (h9 : s.k + 80 ≤ 900000) (hlim : s.k + 80 ≤ lim) (hm : s.m = []) (p : ∀ s', s'.k ≤ s.k + 80 → P (.bl true) s') : Wp (sem n 21 [.drw] s) E P := by
  obtain ⟨n, rfl⟩ : ∃ m, n = m + 1 := ⟨n - 1, by omega⟩
  show Wp (fnD 19 (b_z (sem n)) [.drw] s) E P
  refine bo ?_
  rw [j0]
  repeat array_get_dec
  refine yJ (by omega) (by omega) hm fun hs s1 ok l5 zz u1 m1 => ?_
  repeat array_get_dec
  refine i8 (by omega) (by omega) m1 fun r s2 h0 h1 e2 m2 => ?_
  repeat array_get_dec
  have hds : ∃ ds : List D, isR [.int (r % 6)] = some ds ∧ ds.length ≤ 5 := by
    have z6 : r % 6 = 0 ∨ r % 6 = 1 ∨ r % 6 = 2 ∨ r % 6 = 3 ∨ r % 6 = 4 ∨ r % 6 = 5 := by omega
    rcases z6 with z | z | z | z | z | z <;> rw [z]
    · exact ⟨_, rfl, by decide⟩
    · exact ⟨_, rfl, by decide⟩
    · exact ⟨_, rfl, by decide⟩
    · exact ⟨_, rfl, by decide⟩
    · exact ⟨_, rfl, by decide⟩
    · exact ⟨_, rfl, by decide⟩
  obtain ⟨dd, e5, d1⟩ := hds
  refine aH e5 ?_
  refine qg (by omega) l5 dd s2 _ _ _ _ (by omega) m2 fun Ls s3 q1 q2 q3 q4 => ?_
  refine ⟨aU (by simp only [rwD, List.length_map]; omega), ?_⟩
  repeat array_get_dec
  refine i8 (by omega) (by omega) q2 fun r2 s4 h2 h3 e4 m4 => ?_
  repeat array_get_dec
  obtain ⟨j, hj, hj2⟩ : ∃ j : Nat, r2 % 3 = (j : Int) ∧ j ≤ 2 := ⟨(r2 % 3).toNat, by omega, by omega⟩
  rw [hj]
  refine gT (n := j) ?_
  rw [show (rwD Ls).take j = rwD (Ls.take j) by simp [rwD, List.map_take]]
  repeat array_get_dec
  have hcut : (Ls.take j).length ≤ 2 := by rw [List.length_take]; omega
  refine cX (aU (by simp only [rwD, List.length_map]; omega)) ?_
  rw [qe]
  repeat array_get_dec
  have t : e8 hs (Ls ++ Ls.take j) := ⟨ok, by rw [List.length_append]; omega, fun L hL => by
    rcases List.mem_append.mp hL with hL | hL
    · exact q4 L hL
    · exact q4 L (List.mem_of_mem_take hL)⟩
  refine zt t (by rw [List.length_append]; omega) zz (by omega) (by omega) m4 fun s' u m' => p s' (by omega)
end
end K20
set_option Elab.async false
set_option linter.all false
set_option maxRecDepth 100000
set_option maxHeartbeats 4000000
namespace K20
open PySem PySem.Spec PyProof.Rows L2 Lay NdefX LamX GD DM
section
variable {P : Program} {w : World} {K : PySem.W.Frag} {mg : Str → Option Value} {base : Heap} (T : Tx K mg w)
theorem lM (d : Zw) : FnG P w K mg base (L2.CX P w) 1 T.f_e T.fd_e ["_law_draws_here"] (spF K (Gm T d) false 1 next) := by
  refine GD.Fun.okG T.F_e dw (fun vs H Q E h => ?_) (fun cdv A outer s H vs Q E hcv hg hr h => ?_)
  · obtain ⟨av, s, ds, d, s', a, r, hl, _⟩ := h
    rw [r.len, hl]
    rfl
  · obtain ⟨av, s0, ds, res, s', a, r, hl, e, q⟩ := h
    unfold next at e
    split at e
    · split at e
      · rename_i hk
        obtain ⟨rfl, rfl⟩ : Except.ok (D.int (eD s0).1) = res ∧ (eD s0).2 = s' := by cases e; exact ⟨rfl, rfl⟩
        have q : Done (cb K (Gm T d)) av (eD s0).2 H (.int (eD s0).1) Q := q
        obtain ⟨v, rfl, rv⟩ := ah.one (C := cb K (Gm T d)) r
        have hv := rv.w9
        subst hv
        have hd : H d.dr = some (.lst [.int s0.n, .int (s0.k : Int), .bl s0.b]) := a.wo.dr
        have hk' : s0.k ≤ 1000000 := hk
        have w0 : Wo K (Gm T d) av H s0 := a.wo
        have ad : av (Gm T d).dr := a.ad _ (.inl rfl)
        clear e hk
        obtain ⟨n, k, b, m⟩ := s0
        have hk : k ≤ 1000000 := hk'
        clear hk'
        refine ⟨_, (pss_cons (ps_asg (pe_op op_add (pe_ix (r := rIxL K) ix_list (pv 0) pe_int (fun _ _ => rfl)) pe_int) (pg_sub (pv 0) pe_int set_list))
    (pss_cons (ps_set (i := 1) dw.nd rfl (.inl rfl) (pe_ix (r := rIxL K) ix_list (pv 0) pe_int (fun _ _ => rfl)))
    (pss_cons (ps_if (pt_val (pe_ix (r := rIxL K) ix_list (pv 0) pe_int (fun _ _ => rfl))) (pss_cons (ps_set (i := 2) dw.nd rfl (.inl rfl) (pe_op op_mod (pe_ix (r := rIxL K) ix_list (pv 0) pe_int (fun _ _ => rfl)) (pe_op op_pow pe_int pe_int)))
    (pss_cons (ps_asg (pe_op op_fdiv (pe_ix (r := rIxL K) ix_list (pv 0) pe_int (fun _ _ => rfl)) (pe_op op_pow pe_int pe_int)) (pg_sub (pv 0) pe_int set_list))
    (pss_one (ps_ret (pv 2))))) pss_nil)
    (pss_cons (ps_set (i := 2) dw.nd rfl (.inl rfl) (pe_op op_mod (pe_op op_mul (pe_op op_add (pe_op op_add (pe_op op_mod (pe_ix (r := rIxL K) ix_list (pv 0) pe_int (fun _ _ => rfl)) pe_int) (pe_op op_mul (pe_op op_mul (pv 1) (pv 1)) pe_int)) (pv 1)) pe_int) pe_int))
    (pss_cons (ps_set (i := 2) dw.nd rfl (.inl rfl) (pe_op op_mod (pe_op op_mul (pv 2) (pv 2)) pe_int))
    (pss_one (ps_ret (pe_op op_fdiv (pe_op op_mod (pe_op op_mul (pv 2) (pe_op op_add (pv 2) pe_int)) pe_int) pe_int)))))))), ?_⟩
        refine ⟨_, rfl, d.dr, _, _, _, rfl, rfl, .inl (.inl hd), atI_nat (j := 1) rfl, _, _, rfl, rfl, _, rfl, d.dr, _, _, 1, rfl, rfl, hd, rfl, ?_⟩
        have k1 : Go (Gm T d) H (upd H d.dr (.lst [.int n, .int ((k : Int) + 1), .bl b])) := Go.draw (Γ := Gm T d)
        have w1 : Wo K (Gm T d) av (upd H d.dr (.lst [.int n, .int ((k : Int) + 1), .bl b])) ⟨n, k + 1, b, m⟩ := w0.draw (s' := ⟨n, k + 1, b, m⟩) rfl ad
        have hd1 : (upd H d.dr (.lst [.int n, .int ((k : Int) + 1), .bl b])) d.dr = some (.lst [.int n, .int ((k : Int) + 1), .bl b]) := upd_same
        show tSeq _ _ _ _ (upd H d.dr (.lst [.int n, .int ((k : Int) + 1), .bl b]))
        generalize upd H d.dr (.lst [.int n, .int ((k : Int) + 1), .bl b]) = H1 at k1 hd1 w1 ⊢
        refine ⟨_, rfl, d.dr, _, _, _, rfl, rfl, .inl (.inl hd1), atI_nat (j := 1) rfl, ?_⟩
        refine ⟨_, rfl, d.dr, _, _, _, rfl, rfl, .inl (.inl hd1), atI_nat (j := 2) rfl, _, rfl, ?_⟩
        cases b with
        | true =>
          refine iteT ⟨_, rfl, d.dr, _, _, _, rfl, rfl, .inl (.inl hd1), atI_nat (j := 0) rfl, _, _, rfl, rfl, ⟨by decide, by decide, by decide⟩, _, _, rfl, rfl, (by show (0 : Int) < 10 ^ 6; decide), ?_⟩
          refine ⟨_, rfl, d.dr, _, _, _, rfl, rfl, .inl (.inl hd1), atI_nat (j := 0) rfl, _, _, rfl, rfl, ⟨by decide, by decide, by decide⟩, _, _, rfl, rfl, ⟨by decide, by decide⟩, _, rfl, d.dr, _, _, 0, rfl, rfl, hd1, rfl, ?_⟩
          refine ⟨_, rfl, ?_⟩
          exact q (.int _) _ (k1.trans (Go.draw (Γ := Gm T d))) (w1.draw (s' := ⟨n / 10 ^ 6, k + 1, true, m⟩) rfl ad) (.int _)
        | false =>
          refine iteF ?_
          refine ⟨_, rfl, d.dr, _, _, _, rfl, rfl, .inl (.inl hd1), atI_nat (j := 0) rfl, _, _, rfl, rfl, (by show (0 : Int) < 1000003; decide), _, rfl, _, rfl, _, _, rfl, rfl, .inl ⟨by omega, by omega⟩, _, _, rfl, rfl, .inr ⟨by decide, by decide⟩, _, _, rfl, rfl, _, rfl, _, _, rfl, rfl, _, _, rfl, rfl, .inr ⟨by decide, by decide⟩, _, _, rfl, rfl, (by show (0 : Int) < 2147483629; decide), ?_⟩
          refine ⟨_, rfl, _, rfl, _, _, rfl, rfl, .inl (modB _ (by decide) (by decide)), _, _, rfl, rfl, (by show (0 : Int) < 2147483587; decide), ?_⟩
          refine ⟨_, rfl, _, rfl, _, _, rfl, rfl, _, _, rfl, rfl, .inl (modB _ (by decide) (by decide)), _, _, rfl, rfl, (by show (0 : Int) < 2147483579; decide), _, _, rfl, rfl, ⟨by decide, by decide⟩, ?_⟩
          exact q (.int _) _ k1 w1 (.int _)
      · cases e
    · cases e
theorem bu : ∀ n (d : Zw), All P w K mg base T d (sem n) (3 * n)
  | 0, d => ⟨a8, a8, a8, a8, a8, a8, a8, a8, a8, a8, fun _ => a8, a8, a8, a8, a8, fun _ => a8, a8, a8, fun _ => a8, a8, a8, fun _ => a8, a8, a8, a8, a8, tK, tJ⟩
  | n + 1, d => ⟨nj T d (bu n), oO T d (bu n), nk T d (bu n), jI T d (bu n), qR T d (bu n), oP T d (bu n), oQ T d (bu n), oR T d (bu n), jW T d (bu n), i4 T d (bu n), fun hz => i5 T d (bu n) hz, (lM T d).mono (by omega), lB T d (bu n), jY T d (bu n), jJ T d (bu n), fun hz => lC T d (bu n) hz, gi T d (bu n), i7 T d (bu n), fun hz => fw T d (bu n) hz, lD T d (bu n), gE T d (bu n), fun hz => jZ T d (bu n) hz, ig T d (bu n), i6 T d (bu n), iL T d (bu n), jX T d (bu n), oS T d (bu n), oU T d (bu n)⟩
def uq : Sp := fun vs H Q _ => ∃ c : Int, vs = [.int c] ∧ ∀ d n b H', H d = none → Same H H' → H' d = some (.lst [.int n, .int 0, .bl b]) → Q (.ref d) H'
theorem fq : FnG P w K mg base (L2.CX P w) 1 T.f_af T.fd_af ["_law_cell_here"] uq := by
  refine GD.Fun.okG T.F_af jT (fun vs H Q E h => ?_) (fun cdv A outer s H vs Q E hcv hg hr h => ?_)
  · obtain ⟨c, rfl, _⟩ := h
    rfl
  · obtain ⟨c, rfl, q⟩ := h
    refine ⟨_, (pss_one (ps_ret (pe_lst (pa_cons (pe_op op_mod (pv 0) (pe_op pb (pe_op pb (pe_op op_pow pe_int pe_int) pe_int) pe_int)) (pa_cons pe_int (pa_cons (pe_cmpR op_ge (pv 0) (pe_op op_pow pe_int pe_int) (nomark _)) pa_nil)))))), ?_⟩
    have hbig : (0 : Int) < ((10 ^ (60 : Int).toNat) ^ (60 : Int).toNat) ^ (4 : Int).toNat := by decide +kernel
    have b1 : q5 (10 ^ (60 : Int).toNat) 60 := ⟨by decide, by decide +kernel⟩
    have b2 : q5 ((10 ^ (60 : Int).toNat) ^ (60 : Int).toNat) 4 := ⟨by decide, by decide +kernel⟩
    refine ⟨_, rfl, _, _, rfl, rfl, ⟨by decide, by decide, by decide⟩, _, _, rfl, rfl, b1, _, _, rfl, rfl, b2, _, _, rfl, rfl, hbig, ?_⟩
    generalize ((10 ^ (60 : Int).toNat) ^ (60 : Int).toNat) ^ (4 : Int).toNat = big
    refine ⟨_, rfl, _, _, rfl, rfl, ⟨by decide, by decide, by decide⟩, _, _, rfl, rfl, (by show 3 ≤ sizeLine; decide), fun d nd => ?_⟩
    exact q d _ _ _ nd (bV nd) upd_same
/-- a draws' list at d, at most m draws made -/
def bZ (H : Hp) (m : Nat) (d : Addr) : Prop := ∃ (n : Int) (k : Nat) (b : Bool), H d = some (.lst [.int n, .int (k : Int), .bl b]) ∧ k ≤ m
theorem bZ.ne {H : Hp} {m : Nat} {d D : Addr} {ds : List Addr} (h : bZ H m d) (hD : H D = some (.lst (ds.map V.ref))) : D ≠ d := by
  rintro rfl
  obtain ⟨n, k, b, e, _⟩ := h
  rw [e] at hD
  cases ds with
  | nil => cases hD
  | cons x r => cases hD
theorem bZ.upd1 {H : Hp} {m : Nat} {d D : Addr} {ds es : List Addr} (h : bZ H m d) (hD : H D = some (.lst (ds.map V.ref))) : bZ (L2.upd H D (.lst (es.map V.ref))) m d := by
  have n := h.ne hD
  obtain ⟨x, k, b, e, le⟩ := h
  exact ⟨x, k, b, by rw [upd_ne (Ne.symm n)]; exact e, le⟩
theorem gW {Ts : List NTab} {H : Hp} {p : Addr} {xs : List V} {o : HO} (t : TabsN Ts H) (h : H p = some (.lst xs)) : TabsN Ts (L2.upd H p o) := fun r hr => by
  obtain ⟨ps, e, e2, e3⟩ := t r hr
  refine ⟨ps, (by
    rw [upd_ne]
    · exact e
    · rintro z; rw [z, h] at e; cases e), e2, fun pos cv hc => ?_⟩
  obtain ⟨c, e4, e5⟩ := e3 pos cv hc
  exact ⟨c, e4, by
    rw [upd_ne]
    · exact e5
    · rintro z; rw [z, h] at e5; cases e5⟩
theorem bZ.new1 {H : Hp} {m : Nat} {d p : Addr} {o : HO} (h : bZ H m d) (hp : H p = none) : bZ (L2.upd H p o) m d := by
  obtain ⟨x, k, b, e, le⟩ := h
  exact ⟨x, k, b, bV hp _ _ e, le⟩
theorem bZ.same {H H' : Hp} {m : Nat} {d : Addr} (h : bZ H m d) (s : Same H H') : bZ H' m d := by
  obtain ⟨x, k, b, e, le⟩ := h
  exact ⟨x, k, b, s _ _ e, le⟩
theorem bZ.mono {H : Hp} {m m' : Nat} {d : Addr} (h : bZ H m d) (l : m ≤ m') : bZ H m' d := by
  obtain ⟨x, k, b, e, le⟩ := h
  exact ⟨x, k, b, e, by omega⟩
/-- [elt for x in a list] -/
theorem vW {xs : List V} {g : TG} {te : TE} {wi : TI} {σ : L2.St} {H : Hp} {Q : VK} {vs : List Nat} (T0 : Hp → Prop) (Pv : Addr → Addr → Nat → Hp → Prop) (hw : ∀ R : It → Hp → Prop, (∀ a H1, H1 a = some (.lst xs) → T0 H1 → R (Itl K a) H1) → wi σ H R)
    (h0 : ∀ a D H1, H1 a = some (.lst xs) → T0 H1 → H1 D = none → Pv a D 0 (upd H1 D (.lst [])))
    (hl : ∀ a D i H, i ≤ xs.length → Pv a D i H → H a = some (.lst xs))
    (hs : ∀ a D i x H, xs[i]? = some x → Pv a D i H → g x (wipe σ vs) H fun σ2 H2 => wipe σ2 vs = wipe σ vs ∧ te σ2 H2 fun y H4 => ∃ acc, H4 D = some (.lst acc) ∧ acc.length < sizeLine ∧ Pv a D (i + 1) (upd H4 D (.lst (acc ++ [y]))))
    (hm : ∀ (x : V) (H : Hp) (F G : L2.St → Hp → Prop), (∀ σ H, F σ H → G σ H) → g x (wipe σ vs) H F → g x (wipe σ vs) H G)
    (hd : ∀ a D H, Pv a D xs.length H → Q (.ref D) H) : tLc wi g tYes te vs σ H Q := by
  refine hw _ fun a H1 ha t0 => ?_
  intro D nD
  refine ⟨fun i m H => m = xs.length - i ∧ i ≤ xs.length ∧ Pv a D i H, ⟨xs.length, by simp, Nat.zero_le _, h0 a D H1 ha t0 nD⟩, ?_⟩
  rintro i m H ⟨rfl, hi, p⟩
  have q : SqL K H a xs := .inl (.inl (hl a D i H hi p))
  by_cases hlt : i < xs.length
  · refine .inr ⟨⟨xs, xs[i], q, by simp [hlt]⟩, Pv a D (i + 1), fun H' p' => ⟨xs.length - (i + 1), by omega, rfl, hlt, p'⟩, fun x H' y => ?_⟩
    obtain ⟨e, y⟩ := y
    subst e
    exact hm _ _ _ _ (fun σ2 H2 h => ⟨h.1, by
      show if true = true then _ else Pv a D (i + 1) H2
      rw [if_pos rfl]
      exact h.2⟩) (hs a D i x _ (y xs q) p)
  · have e : i = xs.length := by omega
    subst e
    exact .inl ⟨⟨xs, q, Nat.le_refl _⟩, hd a D H p⟩
theorem vX {ds : List Addr} {n i : Nat} {y : V} (h : (List.replicate n (ds.map V.ref)).flatten[i]? = some y) : ∃ d, d ∈ ds ∧ y = .ref d := by
  have hm := List.mem_of_getElem? h
  obtain ⟨l, h1, h2⟩ := List.mem_flatten.mp hm
  rw [(List.mem_replicate.mp h1).2] at h2
  obtain ⟨d, h3, rfl⟩ := List.mem_map.mp h2
  exact ⟨d, h3, rfl⟩
theorem vY {ds : List Addr} {n : Nat} : (List.replicate n (ds.map V.ref)).flatten.length = n * ds.length := by
  rw [List.length_flatten, List.map_replicate, List.sum_replicate_nat, List.length_map]
theorem yS : FnG P w K mg base (L2.CX P w) (3 * 12 + 1) T.f_ah T.fd_ah ["_law_script"] (tO K) := by
  have fq := fq (P := P) (w := w) (base := base) T
  have fk := FnG.ex (p := fun _ : Addr => True) fun (d : Addr) _ => (bu (P := P) (w := w) (base := base) T 12 (z0 d)).fk (fun _ h => h)
  refine GD.Fun.okG T.F_ah ly (fun vs H Q E h => ?_) (fun cdv A outer s H vs Q E hcv hg hr h => ?_)
  · obtain ⟨a, ns, rfl, _⟩ := h
    rfl
  · obtain ⟨a, ns, rfl, hS, hlen, hT0, q⟩ := h
    have TT : ∀ H, (∀ x ∈ ([] : List Str), H (tabAt K x).2 = some (.tbl #[])) → ∀ d, TabsN (Gm T (z0 d)).T H := fun H h d p hp => by
      exact nomatch hp
    refine ⟨_, (pss_cons (ps_for (passes_of rfl) rfl (pi_list (pe_op op_rep (pe_lc (own := [("_law_cell_here", 2)]) (g := gName 2) (tt := tYes) rfl ly.nd (pi_list (pe_op op_cat (pe_slice sl_list (pv 0) po_none (po_some pe_int)) (pe_lst (pa_cons pe_int pa_nil)))) (blkOk_by (own := [("_law_cell_here", 2)]) (N := ["_law_script", "_law_draws_here", "_law_cell_here"]) (sc := defScope gn) (by decide +kernel)) (fun _ _ _ _ _ => pg_name (i := 2) ly.nd rfl (Or.inl rfl)) (fun _ _ _ _ _ => pts_nil) (fun _ _ _ _ _ => (aA fq hg (hr.mono (by omega)) (by rfl) T.g_af T.F_af.kp T.b_af we (pa_cons (pv 2) pa_nil)))) pe_int)) (pg_name (i := 1) ly.nd rfl (.inl rfl))
      (pss_one (ps_if (pt_not (pt_truth (aA fk hg (hr.mono (by omega)) (by rfl) T.g_z T.F_z.kp T.b_z we (pa_cons (pv 1) pa_nil)) (by intro _; rfl))) (pss_one (ps_ret pe_bl)) pss_nil)))
    (pss_one (ps_ret pe_bl))), ?_⟩
    have hlc : (L2.cutV (ns.map V.int) none (some 8)).length ≤ 63 := by
      have h1 := cutV_length (ns.map V.int) none (some 8)
      rw [List.length_map] at h1
      omega
    have hc8 : (L2.cutV (ns.map V.int) none (some 8) ++ [V.int 0]).length ≤ 64 := by
      rw [List.length_append]
      show _ + 1 ≤ _
      omega
    delta tSeq tFor iList tOp
    refine vW (K := K) (xs := L2.cutV (ns.map V.int) none (some 8) ++ [V.int 0])
      (fun H => ∀ d, TabsN (Gm T (z0 d)).T H) (fun p3 D i H2 => H2 p3 = some (.lst (L2.cutV (ns.map V.int) none (some 8) ++ [V.int 0])) ∧ ∃ ds : List Addr, ds.length = i ∧ H2 D = some (.lst (ds.map V.ref)) ∧ p3 ≠ D ∧ (∀ d ∈ ds, bZ H2 0 d) ∧ ∀ d, TabsN (Gm T (z0 d)).T H2)
      (fun R r => ?_) (fun p3 D H1 hp3 t0 nD => ⟨bV nD _ _ hp3, [], rfl, upd_same, ne_of_none hp3 nD, fun d hd => (nomatch hd), fun d => (t0 d).ext (bV nD)⟩) (fun p3 D i H _ h => h.1) ?_ ?hm ?_
    case hm => exact fun _ _ _ _ f h => f _ _ h
    · refine ⟨_, rfl, _, rfl, a, _, rfl, hS, fun p1 n1 => ?_⟩
      refine ⟨(by show 1 ≤ sizeLine; decide), fun p2 n2 => ?_⟩
      have n12 : p1 ≠ p2 := fun e => by
        subst e
        rw [upd_same] at n2
        cases n2
      refine ⟨p1, p2, _, _, rfl, rfl, (by rw [upd_ne n12, upd_same]), upd_same, Nat.le_of_lt (small1000 (by simp only [List.length_cons, List.length_nil]; omega)), fun p3 n3 => ?_⟩
      exact ⟨p3, rfl, ⟨_, .inl (.inl upd_same)⟩, r p3 _ upd_same fun d => (((TT _ hT0 d).ext (bV n1)).ext (bV n2)).ext (bV n3)⟩
    · rintro p3 D i y H2 hi ⟨h3, ds, hl, hD, nD, hds, ht⟩
      obtain ⟨c, rfl⟩ := items_int hi
      have hi2 : i < (L2.cutV (ns.map V.int) none (some 8) ++ [V.int 0]).length := (List.getElem?_eq_some_iff.mp hi).1
      refine ⟨rfl, ?_⟩
      refine ⟨_, rfl, c, rfl, fun d n b H4 nd s4 hd4 => ?_⟩
      have nDd : D ≠ d := ne_of_none hD nd
      refine ⟨_, s4 _ _ hD, small1000 (by rw [List.length_map]; omega), ?_⟩
      refine ⟨by rw [upd_ne nD]; exact s4 _ _ h3, ds ++ [d], by rw [List.length_append, hl]; rfl, by rw [upd_same, List.map_append]; rfl, nD, fun d' h' => ?_, fun d' => gW ((ht d').ext s4) (s4 _ _ hD)⟩
      rw [show ds.map V.ref ++ [V.ref d] = (ds ++ [d]).map V.ref by rw [List.map_append]; rfl]
      refine bZ.upd1 ?_ (s4 _ _ hD)
      rcases List.mem_append.mp h' with h' | h'
      · exact (hds d' h').same s4
      · rw [List.mem_singleton.mp h']
        exact ⟨n, 0, b, hd4, Nat.le_refl _⟩
    · rintro p3 D H2 ⟨h3, ds, hl, hD, nD, hds, ht⟩
      have hdl : ds.length ≤ 64 := by omega
      refine ⟨D, 3, ds.map V.ref, rfl, rfl, hD, by decide, by decide, Nat.le_of_lt (small1000 (by rw [List.length_map]; show ds.length * 3 ≤ 1000; omega)), fun p4 n4 => ?_⟩
      have hlim : lim = 1000000 := rfl
      have rl := vY (ds := ds) (n := 3)
      refine ⟨p4, rfl, ⟨_, .inl (.inl upd_same)⟩, for_list (K := K) (a := p4) (xs := (List.replicate 3 (ds.map V.ref)).flatten)
        (fun j σ H5 => ∃ v1 v2, σ = [some (.ref a), v1, v2] ∧ H5 p4 = some (.lst (List.replicate 3 (ds.map V.ref)).flatten) ∧ (∀ d ∈ ds, p4 ≠ d) ∧ (∀ d ∈ ds, bZ H5 (80 * j) d) ∧ ∀ d, TabsN (Gm T (z0 d)).T H5)
        ⟨none, none, rfl, upd_same, fun d hd e => ?_, fun d hd => (hds d hd).new1 n4, fun d => (ht d).ext (bV n4)⟩ (fun i σ H2 _ ⟨_, _, _, h, _⟩ => .inl (.inl h)) ?_ ?_⟩
      · obtain ⟨x, k, b, e1, _⟩ := hds d hd
        rw [← e, n4] at e1
        cases e1
      · rintro j y σ H5 hj ⟨v1, v2, rfl, h5, hn, hd5, ht5⟩
        obtain ⟨d, hd, rfl⟩ := vX hj
        have hj2 : j < (List.replicate 3 (ds.map V.ref)).flatten.length := (List.getElem?_eq_some_iff.mp hj).1
        obtain ⟨n, k, b, e5, le5⟩ := hd5 d hd
        have w5 : Wo K (Gm T (z0 d)) (Gm T (z0 d)).ch H5 ⟨n, k, b, []⟩ := ⟨e5, ht5 d, by simp [Gm, z0], rfl, fun i a d h1 _ => by simp [Gm, z0] at h1⟩
        refine ⟨_, rfl, d, trivial, ?_⟩
        have hk5 : k + 80 ≤ 900000 := by omega
        refine xP (P := fun x s' => x = .bl true ∧ s'.k ≤ k + 80) (at0 w5) (.cons .drw .nil) rfl (vV (n := 12) (by decide) hk5 (by show k + _ ≤ lim; omega) rfl fun s' hk => ⟨rfl, hk⟩) fun dd s6 v6 H6 pp g6 w6 r6 => ?_
        obtain ⟨rfl, k6⟩ := pp
        cases r6.dA
        refine ⟨_, rfl, iteF ?_⟩
        refine ⟨_, _, rfl, stays w5 g6 (hn d hd) (fun z => nomatch z) h5, hn, fun d' hd' => ?_, fun _ => w6.tb⟩
        by_cases ed : d' = d
        · subst ed
          exact ⟨s6.n, s6.k, s6.b, w6.dr, by have : s6.k ≤ k + 80 := k6; omega⟩
        · obtain ⟨n', k', b', e', le'⟩ := hd5 d' hd'
          exact ⟨n', k', b', stays w5 g6 ed (fun z => nomatch z) e', by omega⟩
      · rintro σ H5 _
        exact q _
end
end K20
set_option Elab.async false
set_option linter.all false
set_option maxRecDepth 100000
set_option maxHeartbeats 4000000
namespace K20
open PySem PySem.Spec PyProof.Rows L2 Lay NdefX LamX GD DM
theorem all_mk : wG := by
  intro l w K h mg fa C_c C_b C_a nm_a q_a N_a bs_a sn_a sub_a ab_a col_a dd_a k0_a k1_a k2_a k3_a k5_a f_ag od_ag an_ag sl_ag oc_ag kV_ag dc_ag pm_ag cd_ag ct_ag f_ae od_ae an_ae sl_ae oc_ae kV_ae dc_ae pm_ae cd_ae ct_ae f_h od_h an_h sl_h oc_h kV_h dc_h pm_h cd_h ct_h f_aa od_aa an_aa sl_aa oc_aa kV_aa dc_aa pm_aa cd_aa ct_aa f_ab od_ab an_ab sl_ab oc_ab kV_ab dc_ab pm_ab cd_ab ct_ab f_ac od_ac an_ac sl_ac oc_ac kV_ac dc_ac pm_ac cd_ac ct_ac f_k od_k an_k sl_k oc_k kV_k dc_k pm_k cd_k ct_k f_j od_j an_j sl_j oc_j kV_j dc_j pm_j cd_j ct_j f_m od_m an_m sl_m oc_m kV_m dc_m pm_m cd_m ct_m f_n od_n an_n sl_n oc_n kV_n dc_n pm_n cd_n ct_n f_o od_o an_o sl_o oc_o kV_o dc_o pm_o cd_o ct_o f_f od_f an_f sl_f oc_f kV_f dc_f pm_f cd_f ct_f f_d od_d an_d sl_d oc_d kV_d dc_d pm_d cd_d ct_d f_i od_i an_i sl_i oc_i kV_i dc_i pm_i cd_i ct_i f_g od_g an_g sl_g oc_g kV_g dc_g pm_g cd_g ct_g f_r od_r an_r sl_r oc_r kV_r dc_r pm_r cd_r ct_r f_s od_s an_s sl_s oc_s kV_s dc_s pm_s cd_s ct_s f_p od_p an_p sl_p oc_p kV_p dc_p pm_p cd_p ct_p f_af od_af an_af sl_af oc_af kV_af dc_af pm_af cd_af ct_af f_e od_e an_e sl_e oc_e kV_e dc_e pm_e cd_e ct_e f_t od_t an_t sl_t oc_t kV_t dc_t pm_t cd_t ct_t f_u od_u an_u sl_u oc_u kV_u dc_u pm_u cd_u ct_u f_ad od_ad an_ad sl_ad oc_ad kV_ad dc_ad pm_ad cd_ad ct_ad f_l od_l an_l sl_l oc_l kV_l dc_l pm_l cd_l ct_l f_v od_v an_v sl_v oc_v kV_v dc_v pm_v cd_v ct_v f_q od_q an_q sl_q oc_q kV_q dc_q pm_q cd_q ct_q f_w od_w an_w sl_w oc_w kV_w dc_w pm_w cd_w ct_w f_x od_x an_x sl_x oc_x kV_x dc_x pm_x cd_x ct_x f_y od_y an_y sl_y oc_y kV_y dc_y pm_y cd_y ct_y f_z od_z an_z sl_z oc_z kV_z dc_z pm_z cd_z ct_z f_ah od_ah an_ah sl_ah oc_ah kV_ah dc_ah pm_ah cd_ah ct_ah q_ai t_aj t_ak t_al X G hfa aC_c pg_c hd_c po_c sa_c mk_c kc_c n_Day_number aC_b pg_b hd_b po_b sa_b mk_b kc_b n_Table_heads n_Table_lines aC_a xL_a sa_a ex_a ty_a kC_a ga_a gg_a hd_a ca_a sg_a tk_a mr_a n_NoTable_row i_a t_a l_ag c_ag k_ag a_ae i_ae l_ae c_ae k_ae a_h i_h l_h c_h k_h a_aa l_aa c_aa k_aa a_ab l_ab c_ab k_ab a_ac l_ac c_ac k_ac a_k l_k c_k k_k a_j l_j c_j k_j a_m l_m c_m k_m a_n l_n c_n k_n a_o l_o c_o k_o a_f i_f l_f c_f k_f a_d i_d l_d c_d k_d a_i i_i l_i c_i k_i a_g i_g l_g c_g k_g a_r l_r c_r k_r a_s l_s c_s k_s a_p l_p c_p k_p a_af l_af c_af k_af a_e l_e c_e k_e a_t l_t c_t k_t a_u l_u c_u k_u a_ad l_ad c_ad k_ad a_l l_l c_l k_l a_v l_v c_v k_v a_q l_q c_q k_q a_w l_w c_w k_w a_x l_x c_x k_x a_y l_y c_y k_y a_z l_z c_z k_z a_ah l_law c_ah k_ah z_isinstance z_int z_bool z_all z_str z_len z_list z_tuple z_zip z_enumerate z_max z_ValueError z_range e_cls_Day e_get e_tak e_mro_Day e_kNone_Day e_kbool_Day e_kint_Day e_kstr_Day e_ktup_Day e_klst_Day e_fNone_Day e_fint_Day e_fstr_Day e_fself_Day e_ostr_Day e_oint_Day x_NoTable_NoTable i_ValueError_NoTable e_cls_Table e_mro_Table e_ne_Table e_snn_Day e_fl_Table e_kl_Table a_ai t_ai a_aj a_ak a_al
  have e := hfa.symm.trans (PySem.W.mg_of X G a_ah)
  cases e
  have F_ag := fun_mk (st := aQ) l_ag c_ag k_ag
  have b_ag := F_ag.binds (ps := ["self", "row"]) fun _ _ _ _ _ _ us hl => match us, hl with | [_, _], _ => rfl
  have F_ae := fun_mk (st := bp) l_ae c_ae k_ae
  have b_ae := F_ae.binds (ps := ["self", "number"]) fun _ _ _ _ _ _ us hl => match us, hl with | [_, _], _ => rfl
  have F_h := fun_mk (st := bH) l_h c_h k_h
  have b_h := F_h.binds (ps := ["self", "other"]) fun _ _ _ _ _ _ us hl => match us, hl with | [_, _], _ => rfl
  have F_aa := fun_mk (st := b5) l_aa c_aa k_aa
  have b_aa := F_aa.binds (ps := ["thing"]) fun _ _ _ _ _ _ us hl => match us, hl with | [_], _ => rfl
  have F_ab := fun_mk (st := ck) l_ab c_ab k_ab
  have b_ab := F_ab.binds (ps := ["thing"]) fun _ _ _ _ _ _ us hl => match us, hl with | [_], _ => rfl
  have F_ac := fun_mk (st := b6) l_ac c_ac k_ac
  have b_ac := F_ac.binds (ps := ["thing", "kind"]) fun _ _ _ _ _ _ us hl => match us, hl with | [_, _], _ => rfl
  have F_k := fun_mk (st := ba) l_k c_k k_k
  have b_k := F_k.binds (ps := ["thing"]) fun _ _ _ _ _ _ us hl => match us, hl with | [_], _ => rfl
  have F_j := fun_mk (st := cR) l_j c_j k_j
  have b_j := F_j.binds (ps := ["thing", "columns"]) fun _ _ _ _ _ _ us hl => match us, hl with | [_, _], _ => rfl
  have F_m := fun_mk (st := cB) l_m c_m k_m
  have b_m := F_m.binds (ps := ["worth"]) fun _ _ _ _ _ _ us hl => match us, hl with | [_], _ => rfl
  have F_n := fun_mk (st := cm) l_n c_n k_n
  have b_n := F_n.binds (ps := ["row"]) fun _ _ _ _ _ _ us hl => match us, hl with | [_], _ => rfl
  have F_o := fun_mk (st := cC) l_o c_o k_o
  have b_o := F_o.binds (ps := ["rows"]) fun _ _ _ _ _ _ us hl => match us, hl with | [_], _ => rfl
  have F_f := fun_mk (st := aF) l_f c_f k_f
  have b_f := F_f.binds (ps := ["self", "columns", "rows"]) fun _ _ _ _ _ _ us hl => match us, hl with | [_, _, _], _ => rfl
  have F_d := fun_mk (st := bb) l_d c_d k_d
  have b_d := F_d.binds (ps := ["self", "other"]) fun _ _ _ _ _ _ us hl => match us, hl with | [_, _], _ => rfl
  have F_i := fun_mk (st := aY) l_i c_i k_i
  have b_i := F_i.binds (ps := ["self"]) fun _ _ _ _ _ _ us hl => match us, hl with | [_], _ => rfl
  have F_g := fun_mk (st := aZ) l_g c_g k_g
  have b_g := F_g.binds (ps := ["self"]) fun _ _ _ _ _ _ us hl => match us, hl with | [_], _ => rfl
  have F_r := fun_mk (st := bD) l_r c_r k_r
  have b_r := F_r.binds (ps := ["worth"]) fun _ _ _ _ _ _ us hl => match us, hl with | [_], _ => rfl
  have F_s := fun_mk (st := aW) l_s c_s k_s
  have b_s := F_s.binds (ps := ["columns"]) fun _ _ _ _ _ _ us hl => match us, hl with | [_], _ => rfl
  have F_p := fun_mk (st := aX) l_p c_p k_p
  have b_p := F_p.binds (ps := ["table"]) fun _ _ _ _ _ _ us hl => match us, hl with | [_], _ => rfl
  have F_af := fun_mk (st := bI) l_af c_af k_af
  have b_af := F_af.binds (ps := ["_law_cell_here"]) fun _ _ _ _ _ _ us hl => match us, hl with | [_], _ => rfl
  have F_e := fun_mk (st := bY) l_e c_e k_e
  have b_e := F_e.binds (ps := ["_law_draws_here"]) fun _ _ _ _ _ _ us hl => match us, hl with | [_], _ => rfl
  have F_t := fun_mk (st := bL) l_t c_t k_t
  have b_t := F_t.binds (ps := ["_law_draws_here", "_law_tongue", "_law_kind"]) fun _ _ _ _ _ _ us hl => match us, hl with | [_, _, _], _ => rfl
  have F_u := fun_mk (st := bq) l_u c_u k_u
  have b_u := F_u.binds (ps := ["_law_draws_here", "_law_tongue", "_law_letters"]) fun _ _ _ _ _ _ us hl => match us, hl with | [_, _, _], _ => rfl
  have F_ad := fun_mk (st := bj) l_ad c_ad k_ad
  have b_ad := F_ad.binds (ps := ["_law_worth"]) fun _ _ _ _ _ _ us hl => match us, hl with | [_], _ => rfl
  have F_l := fun_mk (st := bM) l_l c_l k_l
  have b_l := F_l.binds (ps := ["_law_a_columns", "_law_a_rows", "_law_way"]) fun _ _ _ _ _ _ us hl => match us, hl with | [_, _, _], _ => rfl
  have F_v := fun_mk (st := aK) l_v c_v k_v
  have b_v := F_v.binds (ps := ["_law_draws_here", "_law_heads_here"]) fun _ _ _ _ _ _ us hl => match us, hl with | [_, _], _ => rfl
  have F_q := fun_mk (st := bc) l_q c_q k_q
  have b_q := F_q.binds (ps := ["_law_draws_here", "_law_heads_here", "_law_row"]) fun _ _ _ _ _ _ us hl => match us, hl with | [_, _, _], _ => rfl
  have F_w := fun_mk (st := aD) l_w c_w k_w
  have b_w := F_w.binds (ps := ["_law_draws_here", "_law_heads_here", "_law_a_rows"]) fun _ _ _ _ _ _ us hl => match us, hl with | [_, _, _], _ => rfl
  have F_x := fun_mk (st := bN) l_x c_x k_x
  have b_x := F_x.binds (ps := ["_law_worth"]) fun _ _ _ _ _ _ us hl => match us, hl with | [_], _ => rfl
  have F_y := fun_mk (st := aN) l_y c_y k_y
  have b_y := F_y.binds (ps := ["_law_draws_here"]) fun _ _ _ _ _ _ us hl => match us, hl with | [_], _ => rfl
  have F_z := fun_mk (st := aR) l_z c_z k_z
  have b_z := F_z.binds (ps := ["_law_draws_here"]) fun _ _ _ _ _ _ us hl => match us, hl with | [_], _ => rfl
  have F_ah := fun_mk (st := gn) l_law c_ah k_ah
  have b_ah := F_ah.binds (ps := ["_law_script"]) fun _ _ _ _ _ _ us hl => match us, hl with | [_], _ => rfl
  exact ⟨_, fun s v => .of_eq rfl, fun base _ _ => yS (T := { C_c := C_c, g_c := PySem.W.mg_of X G aC_c, cl_c := ⟨pg_c, hd_c, po_c, sa_c⟩, n_Day_number := n_Day_number, C_b := C_b, g_b := PySem.W.mg_of X G aC_b, cl_b := ⟨pg_b, hd_b, po_b, sa_b⟩, n_Table_heads := n_Table_heads, n_Table_lines := n_Table_lines, C_a := C_a, g_a := PySem.W.mg_of X G aC_a, O_a := ⟨⟨_, _, _, _, _, _, _, _, _, _, _, _, _, _, _, xL_a, by decide +kernel⟩, sa_a, ex_a, ty_a, kC_a⟩, X_a := ⟨ga_a, gg_a, ex_a, hd_a⟩, E_a := ⟨ga_a, gg_a, ex_a, hd_a, ca_a, sg_a, tk_a, mr_a⟩, n_NoTable_row := n_NoTable_row, i_a := i_a, t_a := t_a, f_ag := f_ag, fd_ag := PySem.W.fnOf "__init__" "NoTable.__init__" (defArgs aQ) (defBody aQ) (defScope aQ) .none kV_ag dc_ag pm_ag an_ag cd_ag ct_ag, F_ag := F_ag, b_ag := b_ag, f_ae := f_ae, fd_ae := PySem.W.fnOf "__init__" "Day.__init__" (defArgs bp) (defBody bp) (defScope bp) .none kV_ae dc_ae pm_ae an_ae cd_ae ct_ae, F_ae := F_ae, b_ae := b_ae, M_c := ⟨mk_c, a_ae, i_ae, kc_c⟩, f_h := f_h, fd_h := PySem.W.fnOf "__eq__" "Day.__eq__" (defArgs bH) (defBody bH) (defScope bH) .none kV_h dc_h pm_h an_h cd_h ct_h, F_h := F_h, b_h := b_h, m_h := ⟨a_h, i_h, k_h⟩, f_aa := f_aa, fd_aa := PySem.W.fnOf "is_whole" "is_whole" (defArgs b5) (defBody b5) (defScope b5) .none kV_aa dc_aa pm_aa an_aa cd_aa ct_aa, F_aa := F_aa, b_aa := b_aa, g_aa := PySem.W.mg_of X G a_aa, f_ab := f_ab, fd_ab := PySem.W.fnOf "is_name" "is_name" (defArgs ck) (defBody ck) (defScope ck) .none kV_ab dc_ab pm_ab an_ab cd_ab ct_ab, F_ab := F_ab, b_ab := b_ab, g_ab := PySem.W.mg_of X G a_ab, f_ac := f_ac, fd_ac := PySem.W.fnOf "is_worth" "is_worth" (defArgs b6) (defBody b6) (defScope b6) .none kV_ac dc_ac pm_ac an_ac cd_ac ct_ac, F_ac := F_ac, b_ac := b_ac, g_ac := PySem.W.mg_of X G a_ac, f_k := f_k, fd_k := PySem.W.fnOf "are_columns" "are_columns" (defArgs ba) (defBody ba) (defScope ba) .none kV_k dc_k pm_k an_k cd_k ct_k, F_k := F_k, b_k := b_k, g_k := PySem.W.mg_of X G a_k, f_j := f_j, fd_j := PySem.W.fnOf "is_row" "is_row" (defArgs cR) (defBody cR) (defScope cR) .none kV_j dc_j pm_j an_j cd_j ct_j, F_j := F_j, b_j := b_j, g_j := PySem.W.mg_of X G a_j, f_m := f_m, fd_m := PySem.W.fnOf "plainly" "plainly" (defArgs cB) (defBody cB) (defScope cB) .none kV_m dc_m pm_m an_m cd_m ct_m, F_m := F_m, b_m := b_m, g_m := PySem.W.mg_of X G a_m, f_n := f_n, fd_n := PySem.W.fnOf "row_key" "row_key" (defArgs cm) (defBody cm) (defScope cm) .none kV_n dc_n pm_n an_n cd_n ct_n, F_n := F_n, b_n := b_n, g_n := PySem.W.mg_of X G a_n, f_o := f_o, fd_o := PySem.W.fnOf "counted" "counted" (defArgs cC) (defBody cC) (defScope cC) .none kV_o dc_o pm_o an_o cd_o ct_o, F_o := F_o, b_o := b_o, g_o := PySem.W.mg_of X G a_o, f_f := f_f, fd_f := PySem.W.fnOf "__init__" "Table.__init__" (defArgs aF) (defBody aF) (defScope aF) .none kV_f dc_f pm_f an_f cd_f ct_f, F_f := F_f, b_f := b_f, M_b := ⟨mk_b, a_f, i_f, kc_b⟩, f_d := f_d, fd_d := PySem.W.fnOf "__eq__" "Table.__eq__" (defArgs bb) (defBody bb) (defScope bb) .none kV_d dc_d pm_d an_d cd_d ct_d, F_d := F_d, b_d := b_d, m_d := ⟨a_d, i_d, k_d⟩, f_i := f_i, fd_i := PySem.W.fnOf "columns" "Table.columns" (defArgs aY) (defBody aY) (defScope aY) .none kV_i dc_i pm_i an_i cd_i ct_i, F_i := F_i, b_i := b_i, m_i := ⟨a_i, i_i, k_i⟩, f_g := f_g, fd_g := PySem.W.fnOf "rows" "Table.rows" (defArgs aZ) (defBody aZ) (defScope aZ) .none kV_g dc_g pm_g an_g cd_g ct_g, F_g := F_g, b_g := b_g, m_g := ⟨a_g, i_g, k_g⟩, f_r := f_r, fd_r := PySem.W.fnOf "dale_worth" "dale_worth" (defArgs bD) (defBody bD) (defScope bD) .none kV_r dc_r pm_r an_r cd_r ct_r, F_r := F_r, b_r := b_r, g_r := PySem.W.mg_of X G a_r, f_s := f_s, fd_s := PySem.W.fnOf "dale_columns" "dale_columns" (defArgs aW) (defBody aW) (defScope aW) .none kV_s dc_s pm_s an_s cd_s ct_s, F_s := F_s, b_s := b_s, g_s := PySem.W.mg_of X G a_s, f_p := f_p, fd_p := PySem.W.fnOf "through_door" "through_door" (defArgs aX) (defBody aX) (defScope aX) .none kV_p dc_p pm_p an_p cd_p ct_p, F_p := F_p, b_p := b_p, g_p := PySem.W.mg_of X G a_p, f_af := f_af, fd_af := PySem.W.fnOf "_law_draws" "_law_draws" (defArgs bI) (defBody bI) (defScope bI) .none kV_af dc_af pm_af an_af cd_af ct_af, F_af := F_af, b_af := b_af, g_af := PySem.W.mg_of X G a_af, f_e := f_e, fd_e := PySem.W.fnOf "_law_next" "_law_next" (defArgs bY) (defBody bY) (defScope bY) .none kV_e dc_e pm_e an_e cd_e ct_e, F_e := F_e, b_e := b_e, g_e := PySem.W.mg_of X G a_e, f_t := f_t, fd_t := PySem.W.fnOf "_law_cell" "_law_cell" (defArgs bL) (defBody bL) (defScope bL) .none kV_t dc_t pm_t an_t cd_t ct_t, F_t := F_t, b_t := b_t, g_t := PySem.W.mg_of X G a_t, f_u := f_u, fd_u := PySem.W.fnOf "_law_heads" "_law_heads" (defArgs bq) (defBody bq) (defScope bq) .none kV_u dc_u pm_u an_u cd_u ct_u, F_u := F_u, b_u := b_u, g_u := PySem.W.mg_of X G a_u, f_ad := f_ad, fd_ad := PySem.W.fnOf "_law_handed" "_law_handed" (defArgs bj) (defBody bj) (defScope bj) .none kV_ad dc_ad pm_ad an_ad cd_ad ct_ad, F_ad := F_ad, b_ad := b_ad, g_ad := PySem.W.mg_of X G a_ad, f_l := f_l, fd_l := PySem.W.fnOf "_law_made" "_law_made" (defArgs bM) (defBody bM) (defScope bM) .none kV_l dc_l pm_l an_l cd_l ct_l, F_l := F_l, b_l := b_l, g_l := PySem.W.mg_of X G a_l, f_v := f_v, fd_v := PySem.W.fnOf "_law_bad_columns" "_law_bad_columns" (defArgs aK) (defBody aK) (defScope aK) .none kV_v dc_v pm_v an_v cd_v ct_v, F_v := F_v, b_v := b_v, g_v := PySem.W.mg_of X G a_v, f_q := f_q, fd_q := PySem.W.fnOf "_law_bad_row" "_law_bad_row" (defArgs bc) (defBody bc) (defScope bc) .none kV_q dc_q pm_q an_q cd_q ct_q, F_q := F_q, b_q := b_q, g_q := PySem.W.mg_of X G a_q, f_w := f_w, fd_w := PySem.W.fnOf "_law_refused_right" "_law_refused_right" (defArgs aD) (defBody aD) (defScope aD) .none kV_w dc_w pm_w an_w cd_w ct_w, F_w := F_w, b_w := b_w, g_w := PySem.W.mg_of X G a_w, f_x := f_x, fd_x := PySem.W.fnOf "_law_door" "_law_door" (defArgs bN) (defBody bN) (defScope bN) .none kV_x dc_x pm_x an_x cd_x ct_x, F_x := F_x, b_x := b_x, g_x := PySem.W.mg_of X G a_x, f_y := f_y, fd_y := PySem.W.fnOf "_law_more_heads" "_law_more_heads" (defArgs aN) (defBody aN) (defScope aN) .none kV_y dc_y pm_y an_y cd_y ct_y, F_y := F_y, b_y := b_y, g_y := PySem.W.mg_of X G a_y, f_z := f_z, fd_z := PySem.W.fnOf "_law_right" "_law_right" (defArgs aR) (defBody aR) (defScope aR) .none kV_z dc_z pm_z an_z cd_z ct_z, F_z := F_z, b_z := b_z, g_z := PySem.W.mg_of X G a_z, f_ah := fa, fd_ah := PySem.W.fnOf "law" "law" (defArgs gn) (defBody gn) (defScope gn) .none kV_ah dc_ah pm_ah an_ah cd_ah ct_ah, F_ah := F_ah, b_ah := b_ah, g_ah := PySem.W.mg_of X G a_ah, z_isinstance := PySem.W.mg_none_of X G z_isinstance, z_int := PySem.W.mg_none_of X G z_int, z_bool := PySem.W.mg_none_of X G z_bool, z_all := PySem.W.mg_none_of X G z_all, z_str := PySem.W.mg_none_of X G z_str, z_len := PySem.W.mg_none_of X G z_len, z_list := PySem.W.mg_none_of X G z_list, z_tuple := PySem.W.mg_none_of X G z_tuple, z_zip := PySem.W.mg_none_of X G z_zip, z_enumerate := PySem.W.mg_none_of X G z_enumerate, z_max := PySem.W.mg_none_of X G z_max, z_ValueError := PySem.W.mg_none_of X G z_ValueError, z_range := PySem.W.mg_none_of X G z_range, e_cls_Day := e_cls_Day, e_get := e_get, e_tak := e_tak, e_mro_Day := e_mro_Day, e_kNone_Day := e_kNone_Day, e_kbool_Day := e_kbool_Day, e_kint_Day := e_kint_Day, e_kstr_Day := e_kstr_Day, e_ktup_Day := e_ktup_Day, e_klst_Day := e_klst_Day, e_fNone_Day := e_fNone_Day, e_fint_Day := e_fint_Day, e_fstr_Day := e_fstr_Day, e_fself_Day := e_fself_Day, e_ostr_Day := e_ostr_Day, e_oint_Day := e_oint_Day, x_NoTable_NoTable := x_NoTable_NoTable, i_ValueError_NoTable := i_ValueError_NoTable, e_cls_Table := e_cls_Table, e_mro_Table := e_mro_Table, e_ne_Table := e_ne_Table, e_snn_Day := e_snn_Day, e_fl_Table := e_fl_Table, e_kl_Table := e_kl_Table, a_ai := q_ai, g_ai := PySem.W.mg_of X G a_ai, w_ai := t_ai, t_aj := t_aj, g_aj := PySem.W.mg_of X G a_aj, t_ak := t_ak, g_ak := PySem.W.mg_of X G a_ak, t_al := t_al, g_al := PySem.W.mg_of X G a_al }) ⟩
end K20
theorem PySem.Challenge.cw_askford_k20_tables_holds : PySem.Challenge.rw_askford_k20_tables.Holds := by
  exact K20.fin K20.all_mk
