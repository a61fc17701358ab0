import PyProof.Rows.All
import Wide.All
import OpenK.AllK
import Wide.FinOn
import HandS.ForMost
import HandS.MakeKwOnly
import HandS.IsInst
import HandS.OwnEq
import HandS.Wide
import HandS.ForExc
import HandS.ExcInit
import HandS.ExcIs
import HandS.ExcField
import KE.KExcIs
import HandS.Walk
import HandS.NoneIn
import HandS.Deep
import HandS.TupMul
import HandS.TupAny
import HandS.Nested
import HandS.NestedK
import HandS.EndTab
import HandS.Style
import HandS.Words
import HandS.List
import PyProof.ReprRoads
import HandS.ExcOwn
import HandS.WordsExc
import PyProof.SumWalkG
import HandS.Dict
import HandS.More
import HandS.RaiseOp
import HandS.WrittenGet
import PySem.Challenge.RW_askford_k10_parts_and_kinds
set_option Elab.async false
set_option linter.all false
set_option maxRecDepth 100000
set_option maxHeartbeats 2000000
namespace Lay
open PySem PySem.Spec PyProof.Rows L2
/-! ### == and != by an own __eq__, of anything on the right -/
section
variable {prog : Program} {w : World} {A : Around} {E : Value → Shared → Prop} {s : Shared} {K : PySem.W.Frag} {x C f : Addr} {ox : Obj} {od : Option Obj} {b tb : Value}
theorem objNe_entry (hu : A.units < cLine) (X : K.In s.heap) (I : PySem.W.InstAt s.heap x ox C od) (hs : PySem.W.findIn K (.ref C) "__eq__" = some (some (.ref f))) (hf : PySem.W.isFn K (.ref f) = true) {Q : Fin → Shared → Prop}
    (hcall : wpAny (model prog w) A (call (.ref f) [.ref x, b]) (fun v s' => ∃ r, v = .bool r ∧ Q (.done (.ret (.bool (!r)))) s') E s) :
    wpAny (model prog w) A (Builtin.«object.__ne__» ⟨[.ref x, b], []⟩) Q E s := by
  unfold Builtin.«object.__ne__»
  repeat (first
    | with_reducible refine wpAny_cRoomFor hu ?_
    | (refine wpAny_bind (m := callSpecialIfBound? (.ref x) (Str.ofString "__eq__") [b])
        (PySem.W.ifBound_K X I hs hf (wpAny_mono hcall (fun r s' hr => by
          obtain ⟨b, rfl, hq⟩ := hr
          repeat (first | exact hq | exact wpAny_pure hq | exact wpAny_truthy_bool hq | (refine wpAny_bind (m := truthy (.bool _)) (wpAny_truthy_bool ?_)) | wp_step)) fun _ _ e => e)))
    | wp_step)
theorem ifBound_objNe {M : Model} {args : List Value} {Q : Option Value → Shared → Prop} (X : K.In s.heap) (I : PySem.W.InstAt s.heap x ox C od) (hs : PySem.W.findIn K (.ref C) "__ne__" = some (some (.builtin "object.__ne__")))
    (h : wpAny M A (call (.builtin "object.__ne__") (.ref x :: args)) (fun v => Q (some v)) E s) : wpAny M A (callSpecialIfBound? (.ref x) "__ne__" args) Q E s := by
  simp only [callSpecialIfBound?, bindSpecialIfBound?]
  refine wpAny_holding (wpAny_bind (wpAny_bind (wpAny_bind (I.type.here ((PySem.W.looks_findIn X hs).here ?_)))))
  refine wpAny_bind (wpAny_askSetting (wpAny_ite ?_))
  have fin : wpAny M A (call (.builtin "object.__ne__") ([.ref x] ++ args) >>= fun v => pure (some v)) Q E s := wpAny_bind (wpAny_mono h (fun v s' h' => wpAny_pure h') fun _ _ h' => h')
  split
  · exact wpAny_bind (wpAny_of_eq (F.cmp_object.ne.bind _) (wpAny_pure (by exact fin)))
  · exact wpAny_tryCatch (wpAny_bind (wpAny_of_eq (F.cmp_object.ne.bind _) (wpAny_pure (by exact fin))))
theorem call_objNe {Q : Value → Shared → Prop} (hu : A.units + 1 < cLine) (X : K.In s.heap) (I : PySem.W.InstAt s.heap x ox C od) (hm : PySem.W.mroIn K C (.type "object") = some true)
    (hs : PySem.W.findIn K (.ref C) "__eq__" = some (some (.ref f))) (hf : PySem.W.isFn K (.ref f) = true)
    (hcall : wpAny (model prog w) A.in1 (call (.ref f) [.ref x, b]) (fun v s' => ∃ r, v = .bool r ∧ Q (.bool (!r)) s') E s) :
    wpAny (model prog w) A (call (.builtin "object.__ne__") [.ref x, b]) Q E s :=
  wpAny_call (codeAny_call_builtin F.cmp_object.ne.plain F.cmpEntry_ne (PySem.W.check_slot F.cmpKind_ne F.cmpSplit_ne (I.type.andThen (PySem.W.looks_mroIn X hm)) (F.cmpArgs_ne _ _)
    (objNe_entry (A := A.in1) hu X I hs hf hcall)))
theorem ne_own {Q : Value → Shared → Prop} (hu : A.units + 1 < cLine) (X : K.In s.heap) (I : PySem.W.InstAt s.heap x ox C od) (hb : PySem.W.Looks (model prog w) s.heap (typeOf b) tb) (hn : PySem.W.notFirst K C tb = true)
    (hm : PySem.W.mroIn K C (.type "object") = some true) (hN : PySem.W.findIn K (.ref C) "__ne__" = some (some (.builtin "object.__ne__")))
    (hs : PySem.W.findIn K (.ref C) "__eq__" = some (some (.ref f))) (hf : PySem.W.isFn K (.ref f) = true)
    (hcall : wpAny (model prog w) A.in1 (call (.ref f) [.ref x, b]) (fun v s' => ∃ r, v = .bool r ∧ Q (.bool (!r)) s') E s) :
    wpAny (model prog w) A (richCompare .NotEq (.ref x) b) Q E s := by
  have one : wpAny (model prog w) A (tryCompare (.ref x) "__ne__" b) (fun r s' => ∃ v, r = some v ∧ Q v s') E s := by
    unfold tryCompare
    refine wpAny_bind (ifBound_objNe X I hN (call_objNe hu X I hm hs hf (wpAny_mono hcall (fun v s' hv => ?_) fun _ _ e => e)))
    obtain ⟨r, rfl, q⟩ := hv
    exact ⟨r, rfl, wpAny_pure ⟨_, rfl, q⟩⟩
  unfold richCompare
  simp only [oneThing_ref]
  refine wpAny_holding (wpAny_bind (wpAny_cRoomFor (Nat.lt_of_succ_lt hu) ?_))
  rw [cmpInfo_NotEq]
  dsimp only
  refine wpAny_bind (I.type.here (wpAny_bind (hb.here ?_)))
  split
  · rename_i q
    have e : PySem.W.subIn K tb (.ref C) = some false := by
      rcases Bool.or_eq_true_iff.mp hn with e | e
      · rw [beq_iff_eq.mp e] at q; simp at q
      · exact beq_iff_eq.mp e
    refine wpAny_bind ((PySem.W.looks_subIn X e).here ?_)
    simp only [Bool.false_eq_true, if_false]
    refine wpAny_bind (wpAny_mono one (fun r s' z => ?_) fun _ _ e => e)
    obtain ⟨v, rfl, hq⟩ := z
    exact wpAny_pure hq
  · refine wpAny_bind (wpAny_pure ?_)
    simp only [Bool.false_eq_true, if_false]
    refine wpAny_bind (wpAny_mono one (fun r s' z => ?_) fun _ _ e => e)
    obtain ⟨v, rfl, hq⟩ := z
    exact wpAny_pure hq
end
/-- what an own == asks and tells: x an instance of C, y of a type that does not go first, then the promise of __eq__ -/
def rOwn (K : PySem.W.Frag) (C : Addr) (sp : Sp) (E : XK) (g : Bool → Bool) : R2 := fun x y H Q => ∃ a dx fs t, x = .ref a ∧ H a = some (.ins C dx fs) ∧ TyX K H y t ∧ PySem.W.notFirst K C t = true ∧ sp [x, y] H (fun v H' => ∃ b, v = .bl b ∧ Q (.bl (g b)) H') E
section
variable {X : Cx} {CX : CXT} {n : Nat} {C f : Addr} {fd : FuncData} {ps : List Str} {sp : Sp} {E : XK}
theorem run_own (F : FnOk X.prog X.w X.K X.mg X.base CX n f fd ps sp) (hb : Binds X.K fd ps []) (hx : Passes CX X E) {A : Around} (hr : Room n A) (hfr : A.frames = X.A.frames) {pins : List (Addr × Obj)} {σ : L2.St} {H : Hp} {s : Shared} {x y : V} {u v : Value} {R : V → Hp → Prop}
    (I : Inv X pins σ H s) (rx : RelV x u) (ry : RelV y v) (hsp : sp [x, y] H R E) : wpAny (model X.prog X.w) A (call (.ref f) [u, v]) (EP X pins σ R) X.xe s := by
  have e0 : Env0 X.prog X.w X.K X.mg X.base A X.stack s H := by
    have e := I.env0
    exact ⟨by rw [hfr]; exact e.frames, e.mod, e.bs, e.bsz, e.funs, e.frf, e.hok, e.bare⟩
  have hl := F.len _ _ _ _ hsp
  have r2 : Vals [x, y] [u, v] := .cons rx (.cons ry .nil)
  refine wpAny_call (codeAny_mono (F.run A X.stack s H ⟨[u, v], []⟩ [u, v] [x, y] _ E hr e0 (by
    have := hb s [u, v] I.kIn (by simpa using hl)
    simpa using this) r2 hsp) fun r s' hq => ?_)
  cases r with
  | error e => exact hx pins σ H s e s' I hq
  | ok fl =>
    cases fl with
    | ret w => exact I.after hq
    | next => exact False.elim hq
    | brk => exact False.elim hq
    | cont => exact False.elim hq
theorem op_ownEq (F : FnOk X.prog X.w X.K X.mg X.base CX n f fd ps sp) (hs : PySem.W.findIn X.K (.ref C) "__eq__" = some (some (.ref f))) (hf : PySem.W.isFn X.K (.ref f) = true) (hb : Binds X.K fd ps []) (hx : Passes CX X E) (hr : Room n X.A) :
    OpR X (compareOp .Eq) (rOwn X.K C sp E id) := by
  intro pins s σ H x y v u Q I rx ry hq
  obtain ⟨a, dx, fs, t, rfl, ha, ty, hn, hsp⟩ := hq
  cases rx
  obtain ⟨mA, J, _⟩ := ins_get I.hok ha
  obtain ⟨od, J, _⟩ := J.look
  obtain ⟨m, hF⟩ := I.fr
  obtain ⟨P, Z, p, _⟩ := kit_of I ry ty
  show wpAny (model X.prog X.w) X.A (richCompare .Eq (.ref a) u) (EP X pins σ Q) X.xe s
  refine PySem.W.cmp_K (op := .Eq) (tb := t) hr.units0 hF I.ok.mod.kin J (Z.ty _ _ I.kIn p) hn hs hf ?_
  refine wpAny_mono (run_own (x := V.ref a) (u := Value.ref a) F hb hx hr rfl I rfl ry hsp) (fun r s' z => ?_) fun _ _ e => e
  obtain ⟨z1, H', I', rz, b, rfl, q⟩ := z
  cases rz
  exact ⟨.bl b, H', I', rfl, q⟩
theorem op_ownNe (F : FnOk X.prog X.w X.K X.mg X.base CX n f fd ps sp) (hs : PySem.W.findIn X.K (.ref C) "__eq__" = some (some (.ref f))) (hf : PySem.W.isFn X.K (.ref f) = true) (hN : PySem.W.findIn X.K (.ref C) "__ne__" = some (some (.builtin "object.__ne__")))
    (hm : PySem.W.mroIn X.K C (.type "object") = some true) (hb : Binds X.K fd ps []) (hx : Passes CX X E) (hr : Room (n + 1) X.A) :
    OpR X (compareOp .NotEq) (rOwn X.K C sp E not) := by
  intro pins s σ H x y v u Q I rx ry hq
  obtain ⟨a, dx, fs, t, rfl, ha, ty, hn, hsp⟩ := hq
  cases rx
  obtain ⟨mA, J, _⟩ := ins_get I.hok ha
  obtain ⟨od, J, _⟩ := J.look
  obtain ⟨P, Z, p, _⟩ := kit_of I ry ty
  show wpAny (model X.prog X.w) X.A (richCompare .NotEq (.ref a) u) (EP X pins σ Q) X.xe s
  refine ne_own (hu_of hr) I.kIn J (Z.ty _ _ I.kIn p) hn hm hN hs hf ?_
  refine wpAny_mono (run_own (x := V.ref a) (u := Value.ref a) F hb hx hr.in1 rfl I rfl ry hsp) (fun r s' z => ?_) fun _ _ e => e
  obtain ⟨z1, H', I', rz, b, rfl, q⟩ := z
  cases rz
  exact ⟨b, rfl, .bl (!b), H', I', rfl, q⟩
end
/-! ### powers of great numbers -/
section
variable {X : Cx}
def CPowW (i j : Int) : Prop := 0 ≤ j ∧ (Builtin.Int.intBits i : Int) * j ≤ 2 ^ 27
theorem op_powW : OpR X (binaryOp .Pow) (rI CPowW fun i j => .int (i ^ j.toNat)) := opI fun _ _ _ _ _ _ _ hc q => pow_int hc.1 hc.2 q
end
/-! ### f(k = v, ..) -/
section
variable {X : Cx} {CX : CXT} {k n : Nat} {f : Addr} {fd : FuncData} {ps ks : List Str} {sp : Sp} {E : XK} {x : Str} {p pos : Pos} {kws : List Keyword} {tk : TA} {g : List Value → List Value → List Value} {gV : List V → List V → List V}
theorem pe_callK0 (F : FnOk X.prog X.w X.K X.mg X.base CX k f fd ps sp) (hr : Room k X.A) (hg : Gl X x) (hm : X.mg x = some (.ref f)) (hk : PySem.W.keepIn X.K (.ref f) = true) (hb : KBn X.K fd ps 0 ks g gV) (hx : Passes CX X E) (hkw : PK X kws tk)
    (hall : (backToKw pos (keywordEach kws X.env)).all (·.1.isSome) = true := by rfl) (hks : (backToKw pos (keywordEach kws X.env)).filterMap (·.1) = ks := by rfl) (hdb : (x == ("__debug__" : Str)) = false := by decide)
    (hpl : ((backTo pos (starEach [] X.env)).any (·.1) || (backToKw pos (keywordEach kws X.env)).any (·.1.isNone)) = false := by rfl) :
    PE X (.Call (.Name x p) [] kws pos) (tCallN 0 ks.length sp gV E tNil tk) := by
  refine ⟨fun pins s σ H Q I h => ?_⟩
  refine wpAny_Call_Name_kw (ld_glob I hg hm ?_ hdb)
  refine PySem.W.callWith_KW0 (h₀ := X.base) I.ok.mod.kin hk hall ?_ hpl
  refine thn (hkw.run pos pins s σ H _ I h) fun ws s2 ⟨zs, H2, I2, rz, l1, l2, q2⟩ => ⟨I2.kIn, ?_⟩
  rw [hks]
  exact run_fnN (us := []) (vs := []) F hr hb hx I2 .nil rz rfl l2 q2
end
section
variable {K : PySem.W.Frag}
/-- how a call by names binds (no defaults): g puts the values in the parameters' order -/
theorem Fun_kbn {x qual : Str} {st : Stmt} {f : Addr} {fd : FuncData} {ps : List Str} (F : Fun K x qual st f fd) (n : Nat) (ks : List Str) (g : {α : Type} → List α → List α → List α)
    (hrel : ∀ {vs zs : List V} {us ws : List Value}, Vals vs us → Vals zs ws → Vals (g vs zs) (g us ws))
    (h : ∀ (kV doc pm : Value) (an : Option Addr) (cdv ct : Value) (us ws : List Value), us.length = n → ws.length = ks.length → bindArgs (PySem.W.fnOf x qual (defArgs st) (defBody st) (defScope st) .none kV doc pm an cdv ct) ⟨us, ks.zip ws⟩ = pure (ps.zip (g us ws))) :
    KBn K fd ps n ks (fun us ws => g us ws) (fun vs zs => g vs zs) := by
  obtain ⟨oc, od, kV, doc, pm, an, cdv, ct, osl, rfl, lk, hcd⟩ := F.ex
  exact ⟨fun s us ws _ l1 l2 => .of_eq (h kV doc pm an cdv ct us ws l1 l2), fun r1 r2 => hrel r1 r2⟩
end
end Lay
set_option Elab.async false
set_option linter.all false
set_option maxRecDepth 100000
set_option maxHeartbeats 2000000
namespace Lay
open PySem PySem.Spec PyProof.Rows PySem.W
section
variable {M : Model} {K : Frag}
theorem exm_tup {cs : List Value} {cls : Value} {tp e : Addr} {b : Bool} {h : Heap} (X : K.In h) (LT : Looks M h (typeOf (.ref e)) cls) (hp : h.get? tp = some { cls := .type "tuple", data := .seq cs.toArray }) (hx : exmAny K cls cs = some b) :
    Looks M h (excMatches (.ref e) (.ref tp)) b := by
  intro A Q E s k₀ q
  obtain ⟨hh, g, d, tk, os⟩ := s
  have k : ∀ b o, h.get? b = some o → hh.get? b = some o := k₀
  have LT0 : Looks M h (isInstance (.ref tp) (.type "tuple")) true := ((Looks.ld hp).andThen .now).andThen (Looks.of_pure isSubtype_tuple_tuple)
  have LT := LT.keeps k
  have LT0 := LT0.keeps k
  have hp' := k _ _ hp
  unfold excMatches
  refine wpAny_bind (LT0.at ?_)
  dsimp only
  rw [if_pos rfl]
  first
    | refine wpAny_bind (wpAny_seqItems hp' rfl ?_)
    | refine wpAny_bind (wpAny_bind (wpAny_seqItems hp' rfl (wpAny_pure ?_)))
  dsimp only [Option.getD_some, Option.getD]
  refine wpAny_bind (wpAny_pure ?_)
  have hall : ∀ (rest : List Value) (b' : Bool), exmAny K cls rest = some b' → ∀ c ∈ rest, Looks M hh (isExcClass c) true := by
    intro rest
    induction rest with
    | nil => intro b' _ c hc; cases hc
    | cons c0 r ih =>
      intro b' hb c hc
      obtain ⟨b1, d1, x1, y1, z1⟩ := exmAny_cons hb
      rcases List.mem_cons.mp hc with e | hc
      · subst e
        exact (exm_cls (M := M) X x1).1.keeps k
      · exact ih d1 y1 c hc
  refine wpAny_bind (wpAny_forIn_list _ (fun rest _ s' => s' = { heap := hh, gens := g, drawn := d, toks := tk, os := os } ∧ ∀ c ∈ rest, Looks M hh (isExcClass c) true) _ ?_ ?_ cs PUnit.unit ⟨rfl, hall cs b hx⟩)
  · rintro c rest _ s' ⟨rfl, hc⟩
    refine wpAny_bind ((hc c List.mem_cons_self).at ?_)
    simp only [Bool.not_true, Bool.false_eq_true, if_false]
    exact wpAny_pure ⟨rfl, fun c' h' => hc c' (List.mem_cons_of_mem _ h')⟩
  rintro _ s' ⟨rfl, _⟩
  refine wpAny_bind (LT.at ?_)
  refine wpAny_bind (wpAny_forIn_list _ (fun rest z s' => s' = { heap := hh, gens := g, drawn := d, toks := tk, os := os } ∧ z = (none, ()) ∧ exmAny K cls rest = some b) _ ?_ ?_ cs (none, ()) ⟨rfl, rfl, hx⟩)
  · rintro c rest z s' ⟨rfl, rfl, hc⟩
    obtain ⟨b1, d1, x1, y1, z1⟩ := exmAny_cons hc
    have S1 := (exm_cls (M := M) X x1).2.keeps k
    refine wpAny_bind (S1.at ?_)
    cases b1 with
    | true =>
      simp only [if_true]
      refine wpAny_pure ?_
      have : b = true := by rw [z1]; rfl
      subst this
      exact wpAny_pure q
    | false =>
      simp only [Bool.false_eq_true, if_false]
      refine wpAny_pure ⟨rfl, rfl, ?_⟩
      rw [z1]
      exact y1
  · rintro z s' ⟨rfl, rfl, hc⟩
    have : b = false := by
      have e : some false = some b := hc
      exact (Option.some.inj e).symm
    subst this
    exact wpAny_pure q
end
end Lay
namespace Lay
open PySem PySem.Spec PyProof.Rows L2
theorem flying_kept {B h h' : Heap} {l : List Env} {e : Addr} {Z : Obj → Prop} (k : ∀ b o, h.get? b = some o → h'.get? b = some o) (x : HandSPX.FlyingZ B l e Z h) : HandSPX.FlyingZ B l e Z h' := by
  obtain ⟨k1, k2, k3, oe, vs, T, oT, ts, he, hz, hd, h1, hn, hT, h2, h3, h4⟩ := x
  exact ⟨fun b o q => k _ _ (k1 b o q), k2, k3.of_keeps (fun b o q _ => ⟨o, k _ _ q, rfl⟩), oe, vs, T, oT, ts, k _ _ he, hz, hd, h1, hn, hT, k _ _ h2, h3, h4⟩
/-- an exception of the class cls with the own dict d, kept at a -/
def excAt (a : Addr) (cls : Value) (d : Option Addr) : HO := .ext fun h => ∃ o, h.get? a = some o ∧ Zc cls d o ∧ ∃ vs, o.data = .fields vs
theorem inv_track {X : Cx} {pins : List (Addr × Obj)} {σ : L2.St} {H : Hp} {s : Shared} (I : Inv X pins σ H s) {a : Addr} {cls : Value} {d : Option Addr} {oe : Obj} (ha : s.heap.get? a = some oe) (hz : Zc cls d oe) (hd : ∃ vs, oe.data = .fields vs) (na : H a = none)
    (n0 : X.s_0.heap.get? a = none) (nL : a ≠ X.env.locals) (nC : ∀ x c, X.env.cells.lookup x = some c → c ≠ a) (nP : ∀ p ∈ X.pn ++ pins, p.1 ≠ a) : Inv X pins σ (upd H a (excAt a cls d)) s := by
  have ne : ∀ b u, H b = some u → b ≠ a := fun b u e z => by rw [z, na] at e; cases e
  refine ⟨I.ok, I.os, I.bare, ⟨I.base.keep, I.base.slot, fun b o e n x => ?_, I.base.there, fun b xs e => ?_, fun b o u e => ?_, fun b ps e => ?_⟩, I.loc, I.cell, ?_, fun x c e => ?_, fun p hp => ?_, fun b u e => ?_, I.len⟩
  · have nb : b ≠ a := fun z => by rw [z, n0] at e; cases e
    rw [upd_ne nb]
    exact I.base.free b o e n x
  · have q := I.base.tups b xs e
    rw [upd_ne (ne _ _ q)]
    exact q
  · have q := I.base.frzs b o u e
    rw [upd_ne (ne _ _ q)]
    exact q
  · obtain ⟨more, q⟩ := I.base.tbls b ps e
    exact ⟨more, by rw [upd_ne (ne _ _ q)]; exact q⟩
  · rw [upd_ne (Ne.symm nL)]
    exact I.free
  · rw [upd_ne (nC x c e)]
    exact I.freeC x c e
  · obtain ⟨h1, h2, h3, h4, h5⟩ := I.pin p hp
    exact ⟨h1, by rw [upd_ne (nP p hp)]; exact h2, h3, h4, h5⟩
  · by_cases z : b = a
    · subst z
      rw [upd_same] at e
      cases e
      exact ⟨⟨oe, ha, hz, hd⟩, ⟨oe, ha⟩, fun h1 h2 ⟨o, e1, e2, e3⟩ k => ⟨o, k o e1, e2, e3⟩⟩
    · rw [upd_ne z] at e
      exact (I.hok b u e).stay (fun _ _ _ q => q) (fun c q => by rw [upd_ne (ne _ _ q)]; exact q) fun c xs q => by rw [upd_ne (ne _ _ q)]; exact q
inductive NamesAll (X : Cx) : List Expr → List Value → Prop
  | nil : NamesAll X [] []
  | cons {x : Str} {c : Value} {np : Pos} {es : List Expr} {cs : List Value} (hc : Names X x c) (r : NamesAll X es cs) : NamesAll X (.Name x np :: es) (c :: cs)
theorem NamesAll.suite {X : Cx} {es : List Expr} {cs : List Value} (h : NamesAll X es cs) (a : Addr) (pn : List (Addr × Obj)) : NamesAll (X.suite a pn) es cs := by
  induction h with
  | nil => exact .nil
  | cons hc _ ih => exact .cons hc ih
theorem eval_name {X : Cx} {pins : List (Addr × Obj)} {σ : L2.St} {H : Hp} {s : Shared} {x : Str} {c : Value} {np : Pos} {Q E : Value → Shared → Prop} (I : Inv X pins σ H s) (hc : Names X x c) (q : Q c s) : wpAny (model X.prog X.w) X.A (eval (.Name x np) X.env) Q E s := by
  obtain ⟨hg, hdbg, hm | ⟨hm, hv, hnn⟩⟩ := hc
  · exact ld_glob I hg hm q hdbg
  · exact ld_blt I hg hm hv q hnn hdbg
theorem items_names {X : Cx} {pins : List (Addr × Obj)} {σ : L2.St} {H : Hp} {s : Shared} {es : List Expr} {cs : List Value} {pos : Pos} {E : Value → Shared → Prop} (I : Inv X pins σ H s) (h : NamesAll X es cs) : ∀ {Q : List Value → Shared → Prop}, Q cs s → wpAny (model X.prog X.w) X.A (spliced (backTo pos (starEach es X.env))) Q E s := by
  induction h with
  | nil => intro Q q; exact wpAny_items_nil q
  | cons hc _ ih => intro Q q; exact wpAny_items_cons (eval_name I hc (ih q)) rfl
/-- what the clause 'except (c1, c2, ..) as n' wishes of an exception of the body; behind the suite the exception is kept at a -/
def wKeep (K : PySem.W.Frag) (cs : List Value) (i : Nat) (ts : Addr → Value → Option Addr → TS) (Wout : WX) (D : Ends) : WX := fun cls d σ H =>
  ∃ b, PySem.W.exmAny K cls cs = some b ∧ (b = true → ∀ a, H a = none → ts a cls d { nx := fun σ' H' => H' a = none → D.nx (σ'.set i none) (upd H' a (excAt a cls d)), rt := D.rt, bk := fun σ' H' => D.bk (σ'.set i none) H', ct := fun σ' H' => D.ct (σ'.set i none) H' } (σ.set i (some (.ref a))) H) ∧
    (b = false → Wout cls d σ H)
section
variable {X : Cx} {n : Str} {es : List Expr} {cs : List Value} {i : Nat} {body suite : List Stmt} {b₀ : Stmt} {tpos pos pos' : Pos} {kk : Nat} {tb : WX → TS} {ts : Addr → Value → Option Addr → TS} {Wout : WX}
theorem ps_try_keep (hs : X.stack = X.env :: X.outer) (hf : X.env.frame = some X.env.locals) (hex : X.ex = []) (hN : X.N.Nodup) (hi : X.N[i]? = some n) (hln : X.env.kindOf n = some .local) (hc : NamesAll X es cs) (hl : cs.length ≤ sizeLine) (tk : Takes X Wout)
    (hb : ∀ (W : WX) (pn : List (Addr × Obj)) (xe : Value → Shared → Prop), Takes (X.tr pn xe) W → PassesOwn (model X.prog X.w) X.A X.env xe → PSs (X.tr pn xe) body (tb W))
    (hsu : ∀ (a : Addr) (oe : Obj) (cls : Value) (d : Option Addr) (pn : List (Addr × Obj)), Zc cls d oe → (∃ vs, oe.data = .fields vs) → PSs (X.suite a ((a, oe) :: pn)) (b₀ :: suite) (ts a cls d)) :
    PS X (.Try body [.ExceptHandler (some (.Tuple es kk tpos)) (some n) (b₀ :: suite) pos'] [] [] pos) (fun D σ H => tb (wKeep X.K cs i ts Wout D) D σ H) := by
  refine ⟨fun pins s σ H D I h => ?_⟩
  have ok := I.ok
  have hfr : X.A.frames = some (X.env :: X.outer) := by rw [ok.frames, hs]
  have hloc : Loc X.env.scope n := .inl hln
  refine wpAny_Try_except ?_
  refine wpAny_mono ((hb (wKeep X.K cs i ts Wout D) (X.pn ++ pins) (fun e s₁ => wpAny (model X.prog X.w) X.A (noteFrame e X.env) (fun _ s₂ => wpAny (model X.prog X.w) X.A (setFlight e none) (fun _ s₃ =>
    wpAny (model X.prog X.w) X.A (handleBy e X.env [.ExceptHandler (some (.Tuple es kk tpos)) (some n) (b₀ :: suite) pos']) (SP X pins D) X.xe s₃) X.xe s₂) X.xe s₁) (fun u s' xx => ?_) PassesOwn.looking).run [] s σ H D (I.toTry _) h) (fun f s1 hsp => ?_) (fun e s1 he => he)
  · -- the catch
    obtain ⟨a, B, sI, pins', σ', H', cls, d, rfl, J', nb, up, sky, na, os, ag, b, hb1, hyes, hno⟩ := xx
    have J : Inv X pins σ' H' sI := J'.ofTry ok
    have sky' : Sky B (X.env :: X.outer) a (Zc cls d) X.env.locals s'.heap := by rw [← hs]; exact sky
    show wpAny (model X.prog X.w) X.A (noteFrame (.ref a) X.env) _ _ _
    refine Sky.land Zc.steady hfr hf sky' fun h3 fl3 up3 => ?_
    have J3 : Inv X pins σ' H' { s' with heap := h3 } := J.landed nb fl3.1 (up.trans up3) os ag
    obtain ⟨oe3, vs3, he3, hz3, hd3⟩ := fl3.there
    have notFr : ∀ {h : Heap} {o : Obj} {vs : Array Value}, h.FunFrames B (X.env :: X.outer) → h.get? a = some o → o.data = .fields vs → a ∉ frs (X.env :: X.outer) := fun {h o vs} ff e dd hm => by
      obtain ⟨_, o', e', hnf⟩ := ff.mem hm
      rw [e] at e'; cases e'
      exact hnf _ dd
    have nfr := notFr fl3.2.2.1 he3 hd3
    have nL : a ≠ X.env.locals := fun z => nfr (List.mem_filterMap.mpr ⟨X.env, List.mem_cons_self, by rw [hf, z]⟩)
    have nF : a ∉ X.fs := fun hm => by
      obtain ⟨e, he, q⟩ := List.mem_filterMap.mp hm
      exact nfr (List.mem_filterMap.mpr ⟨e, List.mem_cons_of_mem _ he, q⟩)
    have nI : sI.heap.get? a = none := by
      cases q : sI.heap.get? a with
      | none => rfl
      | some o =>
        have q2 := nb a o q (by rw [hs]; exact nfr)
        rw [fl3.2.1] at q2
        cases q2
    have n0 : X.s_0.heap.get? a = none := by
      cases q : X.s_0.heap.get? a with
      | none => rfl
      | some o =>
        obtain ⟨o', q2⟩ := J.base.there a o q (by rw [hex]; simp)
        rw [nI] at q2
        cases q2
    have nC : ∀ x c, X.env.cells.lookup x = some c → c ≠ a := fun x c e z => by
      obtain ⟨v, o, ho, _⟩ := J.cell x c e
      rw [z, nI] at ho
      cases ho
    have nP : ∀ p ∈ X.pn ++ pins, p.1 ≠ a := fun p hp z => by
      have q := (J.pin p hp).1
      rw [z, nI] at q
      cases q
    have S3 := J3.suite he3 hd3 na nL nF
    refine wpAny_handleBy_cons (codeAny_handlers_test ?_) (by intro q; cases q)
    have LT : PySem.W.Looks (model X.prog X.w) h3 (typeOf (.ref a)) cls := fun A Q E s k q => wpAny_typeOf_ref (k _ _ he3) (by rw [hz3.1]; exact q)
    have kp : ∀ q o, h3.get? q = some o → (h3.push { cls := .type "tuple", data := .seq cs.toArray }).get? q = some o := fun _ _ z => Heap.get?_push_of_some _ z
    have J3' : Inv X pins σ' H' { s' with heap := h3.push { cls := .type "tuple", data := .seq cs.toArray } } := J3.kept kp
    have fl3' := flying_kept kp fl3
    have up3' : sI.heap.UpToSlots (h3.push { cls := .type "tuple", data := .seq cs.toArray }) := (up.trans up3).trans (Heap.UpToSlots.of_keeps kp)
    have LM := exm_tup (M := model X.prog X.w) (J3'.kIn) (LT.keeps kp) (Heap.get?_push_size h3 rfl) hb1
    have test : ∀ {Q : Value → Shared → Prop} {E : Value → Shared → Prop}, Q (.ref h3.objs.size) { s' with heap := h3.push { cls := .type "tuple", data := .seq cs.toArray } } → wpAny (model X.prog X.w) (X.A.mark (some (.ref a))) (eval (.Tuple es kk tpos) X.env) Q E { s' with heap := h3 } := fun {Q E} q =>
      wpAny_Tuple (items_names (X := X.suite a ((a, oe3) :: (X.pn ++ pins))) S3 (hc.suite a _) ⟨hl, q⟩)
    refine test (LM.here ?_)
    cases b with
    | true =>
      refine codeAny_handlers_suite_as ?_
      refine HandSPX.lands_againZ fl3' fun h4 fl4 up4 => ?_
      have J4 : Inv X pins σ' H' { s' with heap := h4 } := J.landed nb fl4.1 (up3'.trans up4) os ag
      obtain ⟨oe4, vs4, he4, hz4, hd4⟩ := fl4.there
      have S4 := J4.suite he4 hd4 na nL nF
      refine store_ok (X := X.suite a ((a, oe4) :: (X.pn ++ pins))) (v := .ref a) S4 hN hi hloc rfl (fun s5 S5 => ?_) (.inr hln)
      refine wpAny_mono ((hsu a oe4 cls d (X.pn ++ pins) hz4 ⟨_, hd4⟩).run [] s5 _ H' _ S5 (hyes rfl a na)) (fun f s6 hsp => ?_) (fun _ _ z => False.elim z)
      cases f with
      | next =>
        obtain ⟨σ6, H6, S6, q6⟩ := hsp
        obtain ⟨p1, p2, _, _, _⟩ := S6.pin (a, oe4) (List.mem_append_left _ List.mem_cons_self)
        have T6 := inv_track (S6.unsuite ok) (cls := cls) (d := d) p1 hz4 ⟨_, hd4⟩ p2 n0 nL nC nP
        exact gone_ok T6 hN hi hln fun s7 J7 => ⟨_, _, J7, q6 p2⟩
      | brk =>
        obtain ⟨σ6, H6, S6, q6⟩ := hsp
        exact gone_ok (S6.unsuite ok) hN hi hln fun s7 J7 => ⟨_, _, J7, q6⟩
      | cont =>
        obtain ⟨σ6, H6, S6, q6⟩ := hsp
        exact gone_ok (S6.unsuite ok) hN hi hln fun s7 J7 => ⟨_, _, J7, q6⟩
      | ret u =>
        obtain ⟨v6, σ6, H6, S6, r6, q6⟩ := hsp
        exact gone_ok (S6.unsuite ok) hN hi hln fun s7 J7 => ⟨_, _, _, J7, r6, q6⟩
    | false =>
      show wpAny _ X.A (handleBy (.ref a) X.env []) _ _ _
      refine wpAny_handleBy_nil ?_
      obtain ⟨k1, k2, k3, oe, vs, T, oT, ts', he, hz, hd, h1, hr⟩ := id fl3'
      unfold PySem.passOn
      refine wpAny_bind (wpAny_field he hd h1 ?_)
      rw [if_neg (show ¬ ((Value.ref T == Value.none) = true) from by simp)]
      have fin : wpAny (model X.prog X.w) X.A (setFlight (.ref a) X.env.frame) (fun _ s4 => wpAny (model X.prog X.w) X.A (throw (.ref a) : Sem Flow) (SP X pins D) X.xe s4) X.xe { s' with heap := h3.push { cls := .type "tuple", data := .seq cs.toArray } } := by
        rw [hf]
        refine HandSPX.setFlight_upZ fl3' fun h4 hh4 up4 => wpAny_throw (tk _ _ ?_)
        exact ⟨a, B, sI, pins, σ', H', cls, d, rfl, J, nb, up3'.trans up4, .inr (.inr (by rw [hs]; exact hh4)), na, os, ag, hno rfl⟩
      first
        | exact wpAny_bind (wpAny_pure (wpAny_bind fin))
        | exact wpAny_bind fin
  · cases f with
    | next =>
      obtain ⟨σ', H', J', q⟩ := hsp
      exact wpAny_execs_nil ⟨σ', H', J'.ofTry ok, q⟩
    | brk =>
      obtain ⟨σ', H', J', q⟩ := hsp
      exact ⟨σ', H', J'.ofTry ok, q⟩
    | cont =>
      obtain ⟨σ', H', J', q⟩ := hsp
      exact ⟨σ', H', J'.ofTry ok, q⟩
    | ret u =>
      obtain ⟨v, σ', H', J', r, q⟩ := hsp
      exact ⟨v, σ', H', J'.ofTry ok, r, q⟩
end
end Lay
namespace Lay
open PySem PySem.Spec PyProof.Rows L2
/-- a kept exception of the own class D: at a; its own dict, if it has one, holds the fields fs -/
def ExcKept (H : Hp) (a D : Addr) (fs : List (Str × V)) : Prop := (fs = [] ∧ H a = some (excAt a (.ref D) none)) ∨ ∃ d, H a = some (excAt a (.ref D) (some d)) ∧ H d = some (.xd fs)
theorem ExcKept.same {H H' : Hp} {a D : Addr} {fs : List (Str × V)} (h : ExcKept H a D fs) (s : Same H H') : ExcKept H' a D fs := by
  rcases h with ⟨e, h⟩ | ⟨d, h1, h2⟩
  · exact .inl ⟨e, s _ _ h⟩
  · exact .inr ⟨d, s _ _ h1, s _ _ h2⟩
theorem kept_inst {X : Cx} {pins : List (Addr × Obj)} {σ : L2.St} {H : Hp} {s : Shared} {a D : Addr} {fs : List (Str × V)} (I : Inv X pins σ H s) (h : ExcKept H a D fs) : ∃ ox od, PySem.W.InstAt s.heap a ox D od := by
  rcases h with ⟨_, h⟩ | ⟨d, h1, h2⟩
  · have x : ObjOk X.prog X.w H s.heap a (.ext fun h => ∃ o, h.get? a = some o ∧ Zc (.ref D) none o ∧ ∃ vs, o.data = .fields vs) := I.hok a _ h
    obtain ⟨⟨o, e1, e2, vs, e3⟩, _⟩ := x
    refine ⟨o, none, e1, e2.1, ?_, ?_⟩
    · unfold PySem.W.notCls
      rw [e3]
    · rw [e2.2]
      trivial
  · have x : ObjOk X.prog X.w H s.heap a (.ext fun h => ∃ o, h.get? a = some o ∧ Zc (.ref D) (some d) o ∧ ∃ vs, o.data = .fields vs) := I.hok a _ h1
    obtain ⟨⟨o, e1, e2, vs, e3⟩, _⟩ := x
    obtain ⟨mA, hns, hr⟩ := (show ObjOk X.prog X.w H s.heap d (.xd fs) from I.hok d _ h2)
    obtain ⟨od, ho, hl⟩ := lookIn_ns hns
    refine ⟨o, some od, e1, e2.1, ?_, ?_⟩
    · unfold PySem.W.notCls
      rw [e3]
    · rw [e2.2]
      exact ho
theorem ExcC.kit {K : PySem.W.Frag} {D : Addr} (C : ExcC K D) {x : Addr} {ox : Obj} {od : Option Obj} : PySem.W.KitX K (.ref x) (.ref D) (fun h => PySem.W.InstAt h x ox D od) := by
  obtain ⟨cd, hc, _⟩ := PySem.W.any_some C.hd
  exact PySem.W.kitx_exc (by rw [hc]; rfl) C.hg C.hk C.hs C.ha C.hn C.ht C.hm
/-- isinstance(e, c), e a kept exception -/
def rIsX (K : PySem.W.Frag) : List V → Hp → VK → Prop := fun xs H Q => ∃ (a D : Addr) (fs : List (Str × V)) (c : V) (u : Value) (b : Bool), xs = [.ref a, c] ∧ ExcC K D ∧ ExcKept H a D fs ∧ ClsV c u ∧ PySem.W.kitOne K (.ref D) u = some b ∧ Q (.bl b) H
/-- isinstance(e, (c1, c2, ..)) -/
def rIsXT (K : PySem.W.Frag) : List V → Hp → VK → Prop := fun xs H Q => ∃ (a D : Addr) (fs : List (Str × V)) (tp : Addr) (cs : List V) (us : List Value) (b : Bool), xs = [.ref a, .ref tp] ∧ ExcC K D ∧ ExcKept H a D fs ∧ H tp = some (.tup cs) ∧ Paired ClsV cs us ∧ PySem.W.kitAny K (.ref D) us = some b ∧ Q (.bl b) H
section
variable {X : Cx}
theorem call_isX : CallR X (.builtin "isinstance") (rIsX X.K) := by
  intro pins s σ H xs us Q I r h
  obtain ⟨a, D, fs, c, u, b, rfl, C, hk, k, e, q⟩ := h
  obtain ⟨u1, u2, rfl, r1, r2⟩ := vals2 r
  have e2 := k.eq r2
  subst e2
  cases (show u1 = Value.ref a from r1)
  obtain ⟨ox, od, J⟩ := kept_inst I hk
  exact PySem.W.kia_one (ExcC.kit C) I.kIn J e (fun z => nomatch z) fun tk => ⟨.bl b, H, I.tok tk, rfl, q⟩
theorem call_isXT : CallR X (.builtin "isinstance") (rIsXT X.K) := by
  intro pins s σ H xs us Q I r h
  obtain ⟨a, D, fs, tp, cs, ws, b, rfl, C, hk, hT, k, e, q⟩ := h
  obtain ⟨u1, u2, rfl, r1, r2⟩ := vals2 r
  cases (show u2 = Value.ref tp from r2)
  cases (show u1 = Value.ref a from r1)
  obtain ⟨ox, od, J⟩ := kept_inst I hk
  obtain ⟨_, its, rv, o, h1, h2, n, h3⟩ := (show ObjOk X.prog X.w H s.heap tp (.tup cs) from I.hok tp _ hT)
  have e3 := ClsV.all k rv
  subst e3
  obtain ⟨oc, od', dt, sl⟩ := o
  simp only at h2 h3
  subst h2 h3
  exact PySem.W.kia_tup (ExcC.kit C) I.kIn J h1 e (fun z => nomatch z) fun tk => ⟨.bl b, H, I.tok tk, rfl, q⟩
/-- e.f, e a kept exception -/
def tXk (K : PySem.W.Frag) (f : Str) (te : TE) : TE := fun σ H Q => te σ H fun x H1 => ∃ (a D d : Addr) (fs : List (Str × V)) (v : V), x = .ref a ∧ XfC K D ∧ PySem.W.findIn K (.ref D) f = some none ∧ H1 a = some (excAt a (.ref D) (some d)) ∧ H1 d = some (.xd fs) ∧ fs.lookup f = some v ∧ Q v H1
theorem pe_xk {e : Expr} {te : TE} {pos : Pos} {n : Str} (he : PE X e te) (hb : attributeBase e n X.env (eval e X.env) = eval e X.env := by rfl) : PE X (.Attribute e n pos) (tXk X.K n te) := by
  refine ⟨fun pins s σ H Q I h => ?_⟩
  refine attr_of hb (thn (he.run pins s σ H _ I h) fun u s1 hh => ?_)
  obtain ⟨x, H1, I1, rx, a, D, d, fs, v, ex, T, hno, ha, ed, l, q⟩ := hh
  subst ex
  obtain rfl : u = Value.ref a := rx
  have x : ObjOk X.prog X.w H1 s1.heap a (.ext fun h => ∃ o, h.get? a = some o ∧ Zc (.ref D) (some d) o ∧ ∃ vs, o.data = .fields vs) := I1.hok a _ ha
  obtain ⟨⟨oe, e1, e2, vs, e3⟩, _⟩ := x
  obtain ⟨mA, hns, hr⟩ := (show ObjOk X.prog X.w H1 s1.heap d (.xd fs) from I1.hok d _ ed)
  obtain ⟨od, ho, hl⟩ := lookIn_ns hns
  obtain ⟨u, hu, ru⟩ := RelO.some_of (v := v) (o := mA n) (by rw [← l]; exact hr n)
  have J : PySem.W.InstAt s1.heap a oe D (some od) := ⟨e1, e2.1, by unfold PySem.W.notCls; rw [e3] <;> rfl, by rw [e2.2]; exact ho⟩
  exact HandSPX.exc_get I1.kIn J T.ga T.gg T.exC (PySem.W.findObj_own T.hdC hno rfl (by rw [hl, hu])) (handed_of ru) ⟨v, H1, I1.tok _, ru, q⟩
end
end Lay
set_option Elab.async false
set_option linter.all false
set_option maxRecDepth 100000
set_option maxHeartbeats 2000000
/-! The data layer, second version: data with objects, errors, and a world (what is drawn from, the tables of code objects). -/
namespace DM
open PySem L2 Lay NdefX LamX
/-! ### data, draws, slots -/
inductive D where
  | non
  | bl (b : Bool)
  | int (i : Int)
  | str (x : Str)
  | lst (xs : List D)
  | tup (xs : List D)
  | dic (ks : List Str) (xs : List D)
  | obj (c : Str) (ns : List Str) (xs : List D)
  | exc (c : Str) (ns : List Str) (xs : List D)
  | drw
structure DS where
  n : Int
  k : Nat
  b : Bool
/-- an error: its class, the names of its fields, what they hold -/
structure Xn where
  c : Str
  ns : List Str
  xs : List D
abbrev M (α : Type) := DS → Option (Except Xn α × DS)
/-- what stands for a whole run: where the draws lie, the tables of code objects, the classes -/
structure Wc where
  dr : Addr
  T : List NTab
  cl : Str → Option Addr
def Wc.ch (Γ : Wc) : Addr → Prop := fun a => a = Γ.dr ∨ ∃ p ∈ Γ.T, p.1 = a
inductive Sl where
  | no
  | val (d : D)
  | own (d : D)
  | lam (k : Nat)
abbrev En := List Sl
abbrev Av := Addr → Prop
/-! ### heaps -/
def Kp (av : Av) (H H' : Hp) : Prop := ∀ a o, ¬ av a → H a = some o → H' a = some o
def Lv (H H' : Hp) : Prop := ∀ a, H a ≠ none → H' a ≠ none
theorem Kp.refl {av : Av} {H : Hp} : Kp av H H := fun _ _ _ h => h
theorem Kp.trans {av : Av} {H H1 H2 : Hp} (a : Kp av H H1) (b : Kp av H1 H2) : Kp av H H2 := fun x o n h => b x o n (a x o n h)
theorem Kp.mono {av av2 : Av} {H H' : Hp} (k : Kp av H H') (h : ∀ a, av a → av2 a) : Kp av2 H H' := fun a o n e => k a o (fun z => n (h a z)) e
theorem same_upd {H : Hp} {p : Addr} {o : HO} (h : H p = none) : Same H (upd H p o) := fun b x e => by
  rw [upd_ne (ne_of_none e h)]
  exact e
theorem Kp.of {av : Av} {H H' : Hp} (s : Same H H') : Kp av H H' := fun a o _ h => s a o h
theorem Kp.new {av : Av} {H : Hp} {p : Addr} {o : HO} (h : H p = none) : Kp av H (upd H p o) := .of (same_upd h)
theorem Kp.upd {av : Av} {H : Hp} {p : Addr} {o : HO} (h : av p) : Kp av H (upd H p o) := fun a u n e => by
  rw [upd_ne (fun z => n (by rw [z]; exact h))]
  exact e
theorem Lv.refl {H : Hp} : Lv H H := fun _ h => h
theorem Lv.trans {H H1 H2 : Hp} (a : Lv H H1) (b : Lv H1 H2) : Lv H H2 := fun x h => b x (a x h)
theorem Lv.upd {H : Hp} {p : Addr} {o : HO} : Lv H (upd H p o) := fun a h => by
  by_cases e : a = p
  · subst e
    rw [upd_same]
    simp
  · rw [upd_ne e]
    exact h
/-- as it was but for what may change -/
structure Go (Γ : Wc) (H H' : Hp) : Prop where
  kp : Kp Γ.ch H H'
  lv : Lv H H'
theorem Go.refl {Γ : Wc} {H : Hp} : Go Γ H H := ⟨.refl, .refl⟩
theorem Go.trans {Γ : Wc} {H H1 H2 : Hp} (a : Go Γ H H1) (b : Go Γ H1 H2) : Go Γ H H2 := ⟨a.kp.trans b.kp, a.lv.trans b.lv⟩
theorem Go.new {Γ : Wc} {H : Hp} {p : Addr} {o : HO} (h : H p = none) : Go Γ H (upd H p o) := ⟨.new h, .upd⟩
/-- the world stands: the draws, the tables -/
structure Wo (Γ : Wc) (H : Hp) (s : DS) : Prop where
  dr : H Γ.dr = some (.lst [.int s.n, .int (s.k : Int), .bl s.b])
  tb : TabsN Γ.T H
theorem Wo.same {Γ : Wc} {H H' : Hp} {s : DS} (h : Wo Γ H s) (k : Same H H') : Wo Γ H' s := ⟨k _ _ h.dr, h.tb.ext k⟩
theorem Wo.new {Γ : Wc} {H : Hp} {p : Addr} {s : DS} {o : HO} (h : Wo Γ H s) (n : H p = none) : Wo Γ (upd H p o) s := h.same (same_upd n)
theorem TabN.some {H : Hp} {P : Addr} {nm : Nat → Nat → Str} (t : TabN H P nm) : H P ≠ none := by
  obtain ⟨ps, h, _⟩ := t
  rw [h]; simp
theorem Wo.al {Γ : Wc} {H : Hp} {s : DS} (h : Wo Γ H s) {a : Addr} (z : Γ.ch a) : H a ≠ none := by
  rcases z with z | ⟨p, hp, z⟩
  · rw [z, h.dr]; simp
  · rw [← z]; exact TabN.some (h.tb p hp)
theorem Wo.nc {Γ : Wc} {H : Hp} {s : DS} (h : Wo Γ H s) {a : Addr} (z : Γ.ch a) (c : Addr) (q : Str) : H a ≠ some (CodeO c q) := by
  rcases z with z | ⟨p, hp, z⟩
  · rw [z, h.dr]
    intro e
    cases e
  · obtain ⟨ps, e1, _⟩ := h.tb p hp
    rw [← z, e1]
    intro e
    cases e
theorem Go.nc {Γ : Wc} {H H' : Hp} {s : DS} {a : Addr} (g : Go Γ H H') (w : Wo Γ H' s) (al : H a ≠ none) (n : ∀ c q, H a ≠ some (CodeO c q)) (c : Addr) (q : Str) : H' a ≠ some (CodeO c q) := by
  by_cases z : Γ.ch a
  · exact w.nc z c q
  · cases e : H a with
    | none => exact absurd e al
    | some o =>
      rw [g.kp a o z e, ← e]
      exact n c q
theorem nc_upd {H : Hp} {p a : Addr} {o : HO} (h : ∀ c q, H a ≠ some (CodeO c q)) (ho : ∀ c q, o ≠ CodeO c q) (c : Addr) (q : Str) : upd H p o a ≠ some (CodeO c q) := by
  by_cases e : a = p
  · subst e
    rw [upd_same]
    exact fun z => ho c q (Option.some.inj z)
  · rw [upd_ne e]
    exact h c q
/-- a list or dict at p, no code object, is changed: the world stands -/
theorem Wo.own {Γ : Wc} {H : Hp} {s : DS} {p : Addr} {o o' : HO} (h : Wo Γ H s) (nc : ¬ Γ.ch p) (e : H p = some o') (he : ∀ c q, o' ≠ CodeO c q) : Wo Γ (upd H p o) s := by
  refine ⟨by rw [upd_ne fun z => nc (.inl z.symm)]; exact h.dr, fun r hr => ?_⟩
  obtain ⟨ps, h1, h2, h3⟩ := h.tb r hr
  refine ⟨ps, by rw [upd_ne fun z => nc (.inr ⟨r, hr, z⟩)]; exact h1, h2, fun pos cv hc => ?_⟩
  obtain ⟨c, e1, e2⟩ := h3 pos cv hc
  exact ⟨c, e1, by rw [upd_ne fun z => he _ _ (Option.some.inj ((by rw [← z]; exact e2.symm : some _ = H p).trans e)).symm]; exact e2⟩
/-! ### what represents what -/
def WrT (K : PySem.W.Frag) (a : Addr) (xs : List V) : Prop := ∃ (o : Obj) (its : Array Value) (n : Nat), K.lookup a = some o ∧ o.cls = .type "tuple" ∧ o.data = .seq its n ∧ its.size ≤ sizeLine ∧ Vals xs its.toList
def TupAt (K : PySem.W.Frag) (H : Hp) (av : Av) (a : Addr) (xs : List V) : Prop := (¬ av a ∧ H a = some (.tup xs)) ∨ WrT K a xs
def zipK (ks : List Str) (vs : List V) : List (Key × V) := List.zipWith (fun k v => (Sum.inr k, v)) ks vs
mutual
inductive Rep (K : PySem.W.Frag) (H : Hp) (av : Av) (Γ : Wc) : V → D → Prop
  | non : Rep K H av Γ .non .non
  | bl (b : Bool) : Rep K H av Γ (.bl b) (.bl b)
  | int (i : Int) : Rep K H av Γ (.int i) (.int i)
  | str (x : Str) : Rep K H av Γ (.str x) (.str x)
  | lst {a : Addr} {vs : List V} {ds : List D} : ¬ av a → H a = some (.lst vs) → RepAll K H av Γ vs ds → Rep K H av Γ (.ref a) (.lst ds)
  | tup {a : Addr} {vs : List V} {ds : List D} : TupAt K H av a vs → RepAll K H av Γ vs ds → Rep K H av Γ (.ref a) (.tup ds)
  | dic {a : Addr} {ks : List Str} {vs : List V} {ds : List D} : ¬ av a → H a = some (.dK (zipK ks vs)) → ks.length = ds.length → RepAll K H av Γ vs ds → Rep K H av Γ (.ref a) (.dic ks ds)
  | obj {a C dx : Addr} {c : Str} {ns : List Str} {vs : List V} {ds : List D} : ¬ av a → Γ.cl c = some C → H a = some (.ins C dx (List.zip ns vs)) → ns.length = ds.length → RepAll K H av Γ vs ds → Rep K H av Γ (.ref a) (.obj c ns ds)
  | exc {a C dx : Addr} {c : Str} {ns : List Str} {vs : List V} {ds : List D} : ¬ av a → ¬ av dx → Γ.cl c = some C → H a = some (excAt a (.ref C) (some dx)) → H dx = some (.xd (List.zip ns vs)) → ns.length = ds.length → RepAll K H av Γ vs ds → Rep K H av Γ (.ref a) (.exc c ns ds)
  | drw : Rep K H av Γ (.ref Γ.dr) .drw
inductive RepAll (K : PySem.W.Frag) (H : Hp) (av : Av) (Γ : Wc) : List V → List D → Prop
  | nil : RepAll K H av Γ [] []
  | cons {v : V} {vs : List V} {d : D} {ds : List D} : Rep K H av Γ v d → RepAll K H av Γ vs ds → RepAll K H av Γ (v :: vs) (d :: ds)
end
section
variable {K : PySem.W.Frag} {H H' : Hp} {av av2 : Av} {Γ : Wc}
theorem TupAt.sq {a : Addr} {xs : List V} (h : TupAt K H av a xs) : SqT K H a xs := by
  rcases h with ⟨_, h⟩ | h
  · exact .inl (.inl h)
  · exact .inr h
theorem TupAt.kp {a : Addr} {xs : List V} (k : Kp av H H') (h : TupAt K H av a xs) : TupAt K H' av a xs := by
  rcases h with ⟨n, h⟩ | h
  · exact .inl ⟨n, k _ _ n h⟩
  · exact .inr h
theorem TupAt.wd {a : Addr} {xs : List V} (f : ∀ a, av2 a → av a ∨ H a = none) (h : TupAt K H av a xs) : TupAt K H av2 a xs := by
  rcases h with ⟨n, h⟩ | h
  · refine .inl ⟨fun z => ?_, h⟩
    rcases f a z with z | z
    · exact n z
    · rw [z] at h
      cases h
  · exact .inr h
mutual
theorem Rep.kp' (k : Kp av H H') : ∀ (d : D) (v : V), Rep K H av Γ v d → Rep K H' av Γ v d
  | .non, _, h => by cases h; exact .non
  | .bl b, _, h => by cases h; exact .bl b
  | .int i, _, h => by cases h; exact .int i
  | .str x, _, h => by cases h; exact .str x
  | .drw, _, h => by cases h; exact .drw
  | .lst ds, _, h => by
    cases h with
    | lst n s r => exact .lst n (k _ _ n s) (RepAll.kp' k ds _ r)
  | .tup ds, _, h => by
    cases h with
    | tup t r => exact .tup (t.kp k) (RepAll.kp' k ds _ r)
  | .dic ks ds, _, h => by
    cases h with
    | dic n s l r => exact .dic n (k _ _ n s) l (RepAll.kp' k ds _ r)
  | .obj c ns ds, _, h => by
    cases h with
    | obj n q s l r => exact .obj n q (k _ _ n s) l (RepAll.kp' k ds _ r)
  | .exc c ns ds, _, h => by
    cases h with
    | exc n n2 q s s2 l r => exact .exc n n2 q (k _ _ n s) (k _ _ n2 s2) l (RepAll.kp' k ds _ r)
theorem RepAll.kp' (k : Kp av H H') : ∀ (ds : List D) (vs : List V), RepAll K H av Γ vs ds → RepAll K H' av Γ vs ds
  | [], _, h => by cases h; exact .nil
  | d :: ds, _, h => by
    cases h with
    | cons a r => exact .cons (Rep.kp' k d _ a) (RepAll.kp' k ds _ r)
end
theorem Rep.kp {v : V} {d : D} (h : Rep K H av Γ v d) (k : Kp av H H') : Rep K H' av Γ v d := Rep.kp' k d v h
theorem RepAll.kp {vs : List V} {ds : List D} (h : RepAll K H av Γ vs ds) (k : Kp av H H') : RepAll K H' av Γ vs ds := RepAll.kp' k ds vs h
mutual
theorem Rep.wd' (f : ∀ a, av2 a → av a ∨ H a = none) : ∀ (d : D) (v : V), Rep K H av Γ v d → Rep K H av2 Γ v d
  | .non, _, h => by cases h; exact .non
  | .bl b, _, h => by cases h; exact .bl b
  | .int i, _, h => by cases h; exact .int i
  | .str x, _, h => by cases h; exact .str x
  | .drw, _, h => by cases h; exact .drw
  | .lst ds, _, h => by
    cases h with
    | lst n s r =>
      refine .lst (fun z => ?_) s (RepAll.wd' f ds _ r)
      rcases f _ z with z | z
      · exact n z
      · rw [z] at s
        cases s
  | .tup ds, _, h => by
    cases h with
    | tup t r => exact .tup (t.wd f) (RepAll.wd' f ds _ r)
  | .dic ks ds, _, h => by
    cases h with
    | dic n s l r =>
      refine .dic (fun z => ?_) s l (RepAll.wd' f ds _ r)
      rcases f _ z with z | z
      · exact n z
      · rw [z] at s
        cases s
  | .obj c ns ds, _, h => by
    cases h with
    | obj n q s l r =>
      refine .obj (fun z => ?_) q s l (RepAll.wd' f ds _ r)
      rcases f _ z with z | z
      · exact n z
      · rw [z] at s
        cases s
  | .exc c ns ds, _, h => by
    cases h with
    | exc n n2 q s s2 l r =>
      refine .exc (fun z => ?_) (fun z => ?_) q s s2 l (RepAll.wd' f ds _ r)
      · rcases f _ z with z | z
        · exact n z
        · rw [z] at s
          cases s
      · rcases f _ z with z | z
        · exact n2 z
        · rw [z] at s2
          cases s2
theorem RepAll.wd' (f : ∀ a, av2 a → av a ∨ H a = none) : ∀ (ds : List D) (vs : List V), RepAll K H av Γ vs ds → RepAll K H av2 Γ vs ds
  | [], _, h => by cases h; exact .nil
  | d :: ds, _, h => by
    cases h with
    | cons a r => exact .cons (Rep.wd' f d _ a) (RepAll.wd' f ds _ r)
end
theorem Rep.wd {v : V} {d : D} (h : Rep K H av Γ v d) (f : ∀ a, av2 a → av a ∨ H a = none) : Rep K H av2 Γ v d := Rep.wd' f d v h
theorem RepAll.wd {vs : List V} {ds : List D} (h : RepAll K H av Γ vs ds) (f : ∀ a, av2 a → av a ∨ H a = none) : RepAll K H av2 Γ vs ds := RepAll.wd' f ds vs h
theorem RepAll.len : ∀ {vs : List V} {ds : List D}, RepAll K H av Γ vs ds → vs.length = ds.length
  | _, [], h => by cases h; rfl
  | _, d :: ds, h => by
    cases h with
    | cons a r => simp [RepAll.len r]
theorem RepAll.get : ∀ {vs : List V} {ds : List D} {i : Nat} {d : D}, RepAll K H av Γ vs ds → ds[i]? = some d → ∃ v, vs[i]? = some v ∧ Rep K H av Γ v d
  | _, [], i, d, h, e => by simp at e
  | _, d0 :: ds, 0, d, h, e => by
    cases h with
    | cons a r =>
      simp at e
      subst e
      exact ⟨_, rfl, a⟩
  | _, d0 :: ds, i + 1, d, h, e => by
    cases h with
    | cons a r =>
      simp at e
      obtain ⟨v, h1, h2⟩ := RepAll.get r e
      exact ⟨v, by simpa using h1, h2⟩
theorem RepAll.getV : ∀ {vs : List V} {ds : List D} {i : Nat} {v : V}, RepAll K H av Γ vs ds → vs[i]? = some v → ∃ d, ds[i]? = some d ∧ Rep K H av Γ v d
  | _, [], i, v, h, e => by cases h; simp at e
  | _, d0 :: ds, 0, v, h, e => by
    cases h with
    | cons a r =>
      simp at e
      subst e
      exact ⟨_, rfl, a⟩
  | _, d0 :: ds, i + 1, v, h, e => by
    cases h with
    | cons a r =>
      simp at e
      obtain ⟨d, h1, h2⟩ := RepAll.getV r e
      exact ⟨d, by simpa using h1, h2⟩
theorem RepAll.append : ∀ {vs ws : List V} {ds es : List D}, RepAll K H av Γ vs ds → RepAll K H av Γ ws es → RepAll K H av Γ (vs ++ ws) (ds ++ es)
  | _, _, [], _, h, h2 => by cases h; exact h2
  | _, _, d :: ds, _, h, h2 => by
    cases h with
    | cons a r => exact .cons a (RepAll.append r h2)
theorem RepAll.snoc {vs : List V} {v : V} {ds : List D} {d : D} (h : RepAll K H av Γ vs ds) (r : Rep K H av Γ v d) : RepAll K H av Γ (vs ++ [v]) (ds ++ [d]) := h.append (.cons r .nil)
theorem RepAll.drop : ∀ {vs : List V} {ds : List D} (n : Nat), RepAll K H av Γ vs ds → RepAll K H av Γ (vs.drop n) (ds.drop n)
  | _, _, 0, h => h
  | _, [], n + 1, h => by cases h; exact .nil
  | _, d :: ds, n + 1, h => by
    cases h with
    | cons a r => exact RepAll.drop n r
theorem RepAll.take : ∀ {vs : List V} {ds : List D} (n : Nat), RepAll K H av Γ vs ds → RepAll K H av Γ (vs.take n) (ds.take n)
  | _, _, 0, h => by simp; exact .nil
  | _, [], n + 1, h => by cases h; exact .nil
  | _, d :: ds, n + 1, h => by
    cases h with
    | cons a r => exact .cons a (RepAll.take n r)
theorem RepAll.set : ∀ {vs : List V} {ds : List D} {v : V} {d : D} (n : Nat), RepAll K H av Γ vs ds → Rep K H av Γ v d → RepAll K H av Γ (vs.set n v) (ds.set n d)
  | _, [], _, _, n, h, _ => by cases h; exact .nil
  | _, d :: ds, _, _, 0, h, r0 => by
    cases h with
    | cons a r => exact .cons r0 r
  | _, d :: ds, _, _, n + 1, h, r0 => by
    cases h with
    | cons a r => exact .cons a (RepAll.set n r r0)
theorem Rep.int_eq {v : V} {i : Int} (h : Rep K H av Γ v (.int i)) : v = .int i := by cases h; rfl
theorem Rep.str_eq {v : V} {x : Str} (h : Rep K H av Γ v (.str x)) : v = .str x := by cases h; rfl
theorem Rep.bl_eq {v : V} {b : Bool} (h : Rep K H av Γ v (.bl b)) : v = .bl b := by cases h; rfl
theorem Rep.non_eq {v : V} (h : Rep K H av Γ v .non) : v = .non := by cases h; rfl
theorem Rep.drw_eq {v : V} (h : Rep K H av Γ v .drw) : v = .ref Γ.dr := by cases h; rfl
theorem Rep.lst_at {v : V} {ds : List D} (h : Rep K H av Γ v (.lst ds)) : ∃ a vs, v = .ref a ∧ ¬ av a ∧ H a = some (.lst vs) ∧ RepAll K H av Γ vs ds := by
  cases h with
  | lst n s r => exact ⟨_, _, rfl, n, s, r⟩
theorem Rep.tup_at {v : V} {ds : List D} (h : Rep K H av Γ v (.tup ds)) : ∃ a vs, v = .ref a ∧ TupAt K H av a vs ∧ RepAll K H av Γ vs ds := by
  cases h with
  | tup t r => exact ⟨_, _, rfl, t, r⟩
theorem Rep.obj_at {v : V} {c : Str} {ns : List Str} {ds : List D} (h : Rep K H av Γ v (.obj c ns ds)) : ∃ a C dx vs, v = .ref a ∧ ¬ av a ∧ Γ.cl c = some C ∧ H a = some (.ins C dx (List.zip ns vs)) ∧ ns.length = ds.length ∧ RepAll K H av Γ vs ds := by
  cases h with
  | obj n q s l r => exact ⟨_, _, _, _, rfl, n, q, s, l, r⟩
theorem Rep.exc_at {v : V} {c : Str} {ns : List Str} {ds : List D} (h : Rep K H av Γ v (.exc c ns ds)) : ∃ a C dx vs, v = .ref a ∧ ¬ av a ∧ ¬ av dx ∧ Γ.cl c = some C ∧ H a = some (excAt a (.ref C) (some dx)) ∧ H dx = some (.xd (List.zip ns vs)) ∧ ns.length = ds.length ∧ RepAll K H av Γ vs ds := by
  cases h with
  | exc n n2 q s s2 l r => exact ⟨_, _, _, _, rfl, n, n2, q, s, s2, l, r⟩
theorem Rep.dic_at {v : V} {ks : List Str} {ds : List D} (h : Rep K H av Γ v (.dic ks ds)) : ∃ a vs, v = .ref a ∧ ¬ av a ∧ H a = some (.dK (zipK ks vs)) ∧ ks.length = ds.length ∧ RepAll K H av Γ vs ds := by
  cases h with
  | dic n s l r => exact ⟨_, _, rfl, n, s, l, r⟩
end
/-! ### plain data of D -/
mutual
def toP : D → Option PyData
  | .non => some .none
  | .bl b => some (.bool b)
  | .int i => some (.int i)
  | .str x => some (.str x)
  | .lst xs => (toPs xs).map .list
  | .tup xs => (toPs xs).map .tuple
  | .dic _ _ => none
  | .obj _ _ _ => none
  | .exc _ _ _ => none
  | .drw => none
def toPs : List D → Option (List PyData)
  | [] => some []
  | x :: xs => (toP x).bind fun a => (toPs xs).map fun r => a :: r
end
section
variable {K : PySem.W.Frag} {H : Hp} {av : Av} {Γ : Wc}
mutual
theorem Rep.dp' : ∀ (d : D) (v : V) (p : PyData), Rep K H av Γ v d → toP d = some p → Dp K H v p
  | .non, _, p, h, e => by cases h; simp [toP] at e; subst e; exact .non
  | .bl b, _, p, h, e => by cases h; simp [toP] at e; subst e; exact .bl b
  | .int b, _, p, h, e => by cases h; simp [toP] at e; subst e; exact .int b
  | .str b, _, p, h, e => by cases h; simp [toP] at e; subst e; exact .str b
  | .dic _ _, _, p, h, e => by simp [toP] at e
  | .drw, _, p, h, e => by simp [toP] at e
  | .obj _ _ _, _, p, h, e => by simp [toP] at e
  | .exc _ _ _, _, p, h, e => by simp [toP] at e
  | .lst ds, _, p, h, e => by
    cases h with
    | lst n s r =>
      simp only [toP, Option.map_eq_some_iff] at e
      obtain ⟨ps, e, rfl⟩ := e
      exact .lst (.inl (.inl s)) (RepAll.dp' ds _ ps r e)
  | .tup ds, _, p, h, e => by
    cases h with
    | tup t r =>
      simp only [toP, Option.map_eq_some_iff] at e
      obtain ⟨ps, e, rfl⟩ := e
      exact .tup t.sq (RepAll.dp' ds _ ps r e)
theorem RepAll.dp' : ∀ (ds : List D) (vs : List V) (ps : List PyData), RepAll K H av Γ vs ds → toPs ds = some ps → DpAll K H vs ps
  | [], _, ps, h, e => by cases h; simp [toPs] at e; subst e; exact .nil
  | d :: ds, _, ps, h, e => by
    cases h with
    | cons a r =>
      simp only [toPs, Option.bind_eq_some_iff, Option.map_eq_some_iff] at e
      obtain ⟨p, e1, qs, e2, rfl⟩ := e
      exact .cons (Rep.dp' d _ p a e1) (RepAll.dp' ds _ qs r e2)
end
theorem Rep.dp {v : V} {d : D} {p : PyData} (h : Rep K H av Γ v d) (e : toP d = some p) : Dp K H v p := Rep.dp' d v p h e
end
end DM
set_option Elab.async false
set_option linter.all false
set_option maxRecDepth 100000
set_option maxHeartbeats 2000000
namespace DM
open PySem L2 Lay NdefX LamX
/-! ### where one stands -/
/-- what is the same for a whole def: the written part, the world, its lambdas -/
structure Cc where
  K : PySem.W.Frag
  Γ : Wc
  lo : Nat → Addr → Addr → HO
  lq : Nat → Str
def LamAt (C : Cc) (H : Hp) (av : Av) (k : Nat) (v : V) : Prop := ∃ f c', v = .ref f ∧ ¬ av f ∧ ¬ av c' ∧ H f = some (C.lo k f c') ∧ H c' = some (CodeO c' (C.lq k))
theorem LamAt.kp {C : Cc} {H H' : Hp} {av : Av} {k : Nat} {v : V} (h : LamAt C H av k v) (g : Kp av H H') : LamAt C H' av k v := by
  obtain ⟨f, c, e, n1, n2, h1, h2⟩ := h
  exact ⟨f, c, e, n1, n2, g _ _ n1 h1, g _ _ n2 h2⟩
theorem LamAt.wd {C : Cc} {H : Hp} {av av2 : Av} {k : Nat} {v : V} (h : LamAt C H av k v) (g : ∀ a, av2 a → av a ∨ H a = none) : LamAt C H av2 k v := by
  obtain ⟨f, c, e, n1, n2, h1, h2⟩ := h
  refine ⟨f, c, e, fun z => ?_, fun z => ?_, h1, h2⟩
  · rcases g _ z with z | z
    · exact n1 z
    · rw [z] at h1; cases h1
  · rcases g _ z with z | z
    · exact n2 z
    · rw [z] at h2; cases h2
/-- slots of some values, told by data -/
structure SlotsOk (C : Cc) (H : Hp) (av : Av) (σ : L2.St) (ρ : En) : Prop where
  val : ∀ (i : Nat) (d : D), ρ[i]? = some (Sl.val d) → ∃ v, σ[i]? = some (some v) ∧ Rep C.K H av C.Γ v d
  lam : ∀ (i k : Nat), ρ[i]? = some (Sl.lam k) → ∃ v, σ[i]? = some (some v) ∧ LamAt C H av k v
structure OkE (C : Cc) (av : Av) (σ : L2.St) (ρ : En) (s : DS) (H : Hp) : Prop where
  len : σ.length = ρ.length
  wo : Wo C.Γ H s
  ad : ∀ a, C.Γ.ch a → av a
  al : ∀ a, av a → H a ≠ none
  nc : ∀ a, av a → ∀ c q, H a ≠ some (CodeO c q)
  sl : SlotsOk C H av σ ρ
theorem SlotsOk.kp {C : Cc} {H H' : Hp} {av : Av} {σ : L2.St} {ρ : En} (h : SlotsOk C H av σ ρ) (k : Kp av H H') : SlotsOk C H' av σ ρ :=
  ⟨fun i d e => let ⟨v, h1, h2⟩ := h.val i d e; ⟨v, h1, h2.kp k⟩, fun i d e => let ⟨v, h1, h2⟩ := h.lam i d e; ⟨v, h1, h2.kp k⟩⟩
theorem SlotsOk.wd {C : Cc} {H : Hp} {av av2 : Av} {σ : L2.St} {ρ : En} (h : SlotsOk C H av σ ρ) (f : ∀ a, av2 a → av a ∨ H a = none) : SlotsOk C H av2 σ ρ :=
  ⟨fun i d e => let ⟨v, h1, h2⟩ := h.val i d e; ⟨v, h1, h2.wd f⟩, fun i d e => let ⟨v, h1, h2⟩ := h.lam i d e; ⟨v, h1, h2.wd f⟩⟩
theorem Kp.ch {av : Av} {Γ : Wc} {H H' : Hp} (h : Kp Γ.ch H H') (ad : ∀ a, Γ.ch a → av a) : Kp av H H' := h.mono ad
section
variable {C : Cc} {av : Av} {σ : L2.St} {ρ : En} {s s' : DS} {H H' : Hp}
theorem OkE.step (o : OkE C av σ ρ s H) (g : Go C.Γ H H') (d : Wo C.Γ H' s') : OkE C av σ ρ s' H' :=
  ⟨o.len, d, o.ad, fun a z => g.lv a (o.al a z), fun a z => g.nc d (o.al a z) (o.nc a z), o.sl.kp (g.kp.ch o.ad)⟩
/-- what an operation needs of its surroundings -/
structure At (C : Cc) (av : Av) (s : DS) (H : Hp) : Prop where
  wo : Wo C.Γ H s
  ad : ∀ a, C.Γ.ch a → av a
  al : ∀ a, av a → H a ≠ none
  nc : ∀ a, av a → ∀ c q, H a ≠ some (CodeO c q)
theorem OkE.at_ (o : OkE C av σ ρ s H) : At C av s H := ⟨o.wo, o.ad, o.al, o.nc⟩
theorem At.fresh {p : Addr} (o : At C av s H) (h : H p = none) : ¬ av p := fun z => o.al p z h
theorem At.step (o : At C av s H) (g : Go C.Γ H H') (d : Wo C.Γ H' s') : At C av s' H' := ⟨d, o.ad, fun a z => g.lv a (o.al a z), fun a z => g.nc d (o.al a z) (o.nc a z)⟩
end
/-- an error told by data: its class, its own dict -/
def RepX (C : Cc) (H : Hp) (av : Av) (x : Xn) (cls : Value) (dd : Option Addr) : Prop := ∃ A, C.Γ.cl x.c = some A ∧ cls = .ref A ∧
  ((x.ns = [] ∧ x.xs = [] ∧ dd = none) ∨ ∃ d vs, dd = some d ∧ ¬ av d ∧ H d = some (.xd (List.zip x.ns vs)) ∧ x.ns.length = x.xs.length ∧ RepAll C.K H av C.Γ vs x.xs)
theorem RepX.wd {C : Cc} {H : Hp} {av av2 : Av} {x : Xn} {cls : Value} {dd : Option Addr} (h : RepX C H av x cls dd) (f : ∀ a, av2 a → av a ∨ H a = none) : RepX C H av2 x cls dd := by
  obtain ⟨A, h1, h2, h⟩ := h
  refine ⟨A, h1, h2, ?_⟩
  rcases h with h | ⟨d, vs, e, n, hd, hl, r⟩
  · exact .inl h
  · refine .inr ⟨d, vs, e, fun z => ?_, hd, hl, r.wd f⟩
    rcases f _ z with z | z
    · exact n z
    · rw [z] at hd; cases hd
/-! ### what a reading computes -/
abbrev TG' (γ : Type) := L2.St → Hp → (γ → Hp → Prop) → Prop
abbrev RG (α γ : Type) := Hp → Av → γ → α → Prop
/-- behind: the result, or the error -/
def Fin' {α γ : Type} (C : Cc) (W : WX) (R : RG α γ) (av : Av) (σ : L2.St) (H : Hp) (s' : DS) (Q : γ → Hp → Prop) : Except Xn α → Prop
  | .ok a => ∀ v H', Go C.Γ H H' → Wo C.Γ H' s' → R H' av v a → Q v H'
  | .error x => ∀ cls dd H', Go C.Γ H H' → Wo C.Γ H' s' → RepX C H' av x cls dd → W cls dd σ H'
theorem Fin'.go {α γ : Type} {C : Cc} {W : WX} {R : RG α γ} {av : Av} {σ : L2.St} {H H1 : Hp} {s' : DS} {Q : γ → Hp → Prop} {r : Except Xn α} (h : Fin' C W R av σ H s' Q r) (g : Go C.Γ H H1) : Fin' C W R av σ H1 s' Q r := by
  cases r with
  | ok a => exact fun v H' g' d r => h v H' (g.trans g') d r
  | error x => exact fun c d H' g' w r => h c d H' (g.trans g') w r
/-- the reading t is told by the plain function m -/
def SG {α γ : Type} (C : Cc) (W : WX) (R : RG α γ) (t : TG' γ) (m : En → M α) : Prop := ∀ av σ ρ s H r s' (Q : γ → Hp → Prop), OkE C av σ ρ s H → m ρ s = some (r, s') → Fin' C W R av σ H s' Q r → t σ H Q
def rV (C : Cc) : RG D V := fun H av v d => Rep C.K H av C.Γ v d
def rVs (C : Cc) : RG (List D) (List V) := fun H av vs ds => RepAll C.K H av C.Γ vs ds
def rB : RG Bool Bool := fun _ _ b c => b = c
def rOI : RG (Option Int) (Option Int) := fun _ _ b c => b = c
abbrev SE (C : Cc) (W : WX) (t : TE) (m : En → M D) : Prop := SG C W (rV C) t m
abbrev SA (C : Cc) (W : WX) (t : TA) (m : En → M (List D)) : Prop := SG C W (rVs C) t m
abbrev ST (C : Cc) (W : WX) (t : TT) (m : En → M Bool) : Prop := SG C W rB t m
abbrev SO (C : Cc) (W : WX) (t : TO) (m : En → M (Option Int)) : Prop := SG C W rOI t m
/-- one behind the other -/
def bx {α β : Type} (x : Option (Except Xn α × DS)) (f : α → DS → Option (Except Xn β × DS)) : Option (Except Xn β × DS) := match x with
  | none => none
  | some (.error e, s) => some (.error e, s)
  | some (.ok a, s) => f a s
def ox {α : Type} (x : Option α) (s : DS) : Option (Except Xn α × DS) := x.map fun a => (.ok a, s)
section
variable {C : Cc} {W : WX} {α β γ δ : Type} {R : RG α γ} {R' : RG β δ} {t : TG' γ} {m : En → M α}
theorem SG.bind {av : Av} {σ : L2.St} {ρ : En} {s s' : DS} {H : Hp} {r : Except Xn β} {f : α → DS → Option (Except Xn β × DS)} {Q : γ → Hp → Prop} {Q' : δ → Hp → Prop} (h : SG C W R t m) (o : OkE C av σ ρ s H) (e : bx (m ρ s) f = some (r, s')) (q : Fin' C W R' av σ H s' Q' r)
    (k : ∀ a s1 v H1, Go C.Γ H H1 → OkE C av σ ρ s1 H1 → R H1 av v a → f a s1 = some (r, s') → Fin' C W R' av σ H1 s' Q' r → Q v H1) : t σ H Q := by
  cases z : m ρ s with
  | none => rw [z] at e; cases e
  | some p =>
    obtain ⟨a, s1⟩ := p
    rw [z] at e
    cases a with
    | error x =>
      cases e
      exact h av σ ρ s H _ _ Q o z fun c dd H' g w rx => q c dd H' g w rx
    | ok a => exact h av σ ρ s H _ _ Q o z fun v H1 g w rv => k a s1 v H1 g (o.step g w) rv e (q.go g)
theorem ox_some {x : Option α} {s s' : DS} {r : Except Xn α} (h : ox x s = some (r, s')) : ∃ a, x = some a ∧ r = .ok a ∧ s' = s := by
  unfold ox at h
  cases x with
  | none => cases h
  | some a => cases h; exact ⟨a, rfl, rfl, rfl⟩
end
/-! ### the plain functions -/
def eVar (i : Nat) : En → M D := fun ρ s => match ρ[i]? with
  | some (Sl.val d) => some (.ok d, s)
  | _ => none
def eC (d : D) : En → M D := fun _ s => some (.ok d, s)
def eOp (f : D → D → Option D) (a b : En → M D) : En → M D := fun ρ s => bx (a ρ s) fun x s1 => bx (b ρ s1) fun y s2 => ox (f x y) s2
def eUn (f : D → Option D) (a : En → M D) : En → M D := fun ρ s => bx (a ρ s) fun x s1 => ox (f x) s1
def aNil : En → M (List D) := fun _ s => some (.ok [], s)
def aCons (a : En → M D) (b : En → M (List D)) : En → M (List D) := fun ρ s => bx (a ρ s) fun x s1 => bx (b ρ s1) fun y s2 => some (.ok (x :: y), s2)
def line : Nat := 100000
def mkT (xs : List D) : Option D := if xs.length ≤ line then some (.tup xs) else none
def mkL (xs : List D) : Option D := if xs.length ≤ line then some (.lst xs) else none
def eTup (a : En → M (List D)) : En → M D := fun ρ s => bx (a ρ s) fun x s1 => ox (mkT x) s1
def eLst (a : En → M (List D)) : En → M D := fun ρ s => bx (a ρ s) fun x s1 => ox (mkL x) s1
def eCB (f : List D → Option D) (a : En → M (List D)) : En → M D := fun ρ s => bx (a ρ s) fun x s1 => ox (f x) s1
def eIf (c : En → M Bool) (a b : En → M D) : En → M D := fun ρ s => bx (c ρ s) fun x s1 => if x = true then a ρ s1 else b ρ s1
def isB : D → Option Bool
  | .bl b => some b
  | _ => none
def tB' (a : En → M D) : En → M Bool := fun ρ s => bx (a ρ s) fun x s1 => ox (isB x) s1
def tAnd' (a b : En → M Bool) : En → M Bool := fun ρ s => bx (a ρ s) fun x s1 => if x = true then b ρ s1 else some (.ok false, s1)
def tOr' (a b : En → M Bool) : En → M Bool := fun ρ s => bx (a ρ s) fun x s1 => if x = true then some (.ok true, s1) else b ρ s1
def tNot' (a : En → M Bool) : En → M Bool := fun ρ s => bx (a ρ s) fun x s1 => some (.ok (!x), s1)
def tYes' : En → M Bool := fun _ s => some (.ok true, s)
def eAnd (a b : En → M D) : En → M D := fun ρ s => bx (a ρ s) fun x s1 => match x with
  | .bl true => b ρ s1
  | .bl false => some (.ok (.bl false), s1)
  | _ => none
def eOr (a b : En → M D) : En → M D := fun ρ s => bx (a ρ s) fun x s1 => match x with
  | .bl true => some (.ok (.bl true), s1)
  | .bl false => b ρ s1
  | _ => none
def eNot : D → Option D
  | .bl b => some (.bl (!b))
  | _ => none
def isI : D → Option (Option Int)
  | .int i => some (some i)
  | _ => none
def oNone : En → M (Option Int) := fun _ s => some (.ok none, s)
def oSome (a : En → M D) : En → M (Option Int) := fun ρ s => bx (a ρ s) fun x s1 => ox (isI x) s1
def eSl (f : D → Option Int → Option Int → Option D) (a : En → M D) (l u : En → M (Option Int)) : En → M D := fun ρ s => bx (a ρ s) fun x s1 => bx (l ρ s1) fun y s2 => bx (u ρ s2) fun z s3 => ox (f x y z) s3
/-! ### the rules by values -/
def Done (C : Cc) (av : Av) (s : DS) (H : Hp) (d : D) (Q : VK) : Prop := ∀ v H', Go C.Γ H H' → Wo C.Γ H' s → Rep C.K H' av C.Γ v d → Q v H'
theorem Done.pure {C : Cc} {av : Av} {s : DS} {H : Hp} {d : D} {Q : VK} {v : V} (h : Done C av s H d Q) (a : At C av s H) (r : Rep C.K H av C.Γ v d) : Q v H := h v H .refl a.wo r
def OpS (C : Cc) (r : R2) (f : D → D → Option D) : Prop := ∀ av s H x y a b c Q, At C av s H → Rep C.K H av C.Γ x a → Rep C.K H av C.Γ y b → f a b = some c → Done C av s H c Q → r x y H Q
def UnS (C : Cc) (r : V → Hp → VK → Prop) (f : D → Option D) : Prop := ∀ av s H x a c Q, At C av s H → Rep C.K H av C.Γ x a → f a = some c → Done C av s H c Q → r x H Q
def CbS (C : Cc) (r : List V → Hp → VK → Prop) (f : List D → Option D) : Prop := ∀ av s H vs ds c Q, At C av s H → RepAll C.K H av C.Γ vs ds → f ds = some c → Done C av s H c Q → r vs H Q
def SlS (C : Cc) (r : V → Option Int → Option Int → Hp → VK → Prop) (f : D → Option Int → Option Int → Option D) : Prop := ∀ av s H x a l u c Q, At C av s H → Rep C.K H av C.Γ x a → f a l u = some c → Done C av s H c Q → r x l u H Q
/-- either of two readings; either of two functions -/
def orR (r1 r2 : R2) : R2 := fun x y H Q => r1 x y H Q ∨ r2 x y H Q
theorem orR_op {X : Cx} {f : Value → Value → Sem Value} {r1 r2 : R2} (h1 : OpR X f r1) (h2 : OpR X f r2) : OpR X f (orR r1 r2) := fun pins s σ H x y v u Q I rx ry h => h.elim (h1 pins s σ H x y v u Q I rx ry) (h2 pins s σ H x y v u Q I rx ry)
def orF (f g : D → D → Option D) : D → D → Option D := fun a b => match f a b with
  | some c => some c
  | none => g a b
theorem os_or {C : Cc} {r1 r2 : R2} {f g : D → D → Option D} (h1 : OpS C r1 f) (h2 : OpS C r2 g) : OpS C (orR r1 r2) (orF f g) := by
  intro av s H x y a b c Q o ra rb e q
  unfold orF at e
  split at e
  · rename_i c' hc
    cases e
    exact .inl (h1 av s H x y a b _ Q o ra rb hc q)
  · exact .inr (h2 av s H x y a b c Q o ra rb e q)
section
variable {C : Cc} {W : WX} {ta tb te : TE} {ma mb me : En → M D} {t u : TT} {mt mu : En → M Bool} {ts : TA} {ms : En → M (List D)}
theorem se_var {i : Nat} : SE C W (tVar i) (eVar i) := by
  intro av σ ρ s H r s' Q o e q
  unfold eVar at e
  split at e
  · rename_i d' hd
    cases e
    obtain ⟨v, h1, h2⟩ := o.sl.val i _ hd
    exact ⟨v, h1, q v H .refl o.wo h2⟩
  · cases e
theorem se_c {v : V} {d : D} (h : ∀ H av, Rep C.K H av C.Γ v d) : SE C W (tC v) (eC d) := fun av σ ρ s H r s' Q o e q => by
  cases e
  exact q _ H .refl o.wo (h H av)
theorem se_int {i : Int} : SE C W (tC (.int i)) (eC (.int i)) := se_c fun _ _ => .int i
theorem se_str {i : Str} : SE C W (tC (.str i)) (eC (.str i)) := se_c fun _ _ => .str i
theorem se_bl {i : Bool} : SE C W (tC (.bl i)) (eC (.bl i)) := se_c fun _ _ => .bl i
theorem se_non : SE C W (tC .non) (eC .non) := se_c fun _ _ => .non
theorem Fin'.done {av : Av} {σ : L2.St} {H : Hp} {s : DS} {Q : VK} {d : D} (q : Fin' C W (rV C) av σ H s Q (.ok d)) : Done C av s H d Q := q
theorem se_op {r : R2} {f : D → D → Option D} (hr : OpS C r f) (ha : SE C W ta ma) (hb : SE C W tb mb) : SE C W (tOp r ta tb) (eOp f ma mb) := by
  intro av σ ρ s H r' s' Q o e q
  refine ha.bind o e q fun x s1 v H1 g1 o1 r1 e q => ?_
  refine hb.bind o1 e q fun y s2 w H2 g2 o2 r2 e q => ?_
  obtain ⟨z, e3, rfl, rfl⟩ := ox_some e
  exact hr av _ H2 v w x y _ Q o2.at_ (r1.kp (g2.kp.ch o.ad)) r2 e3 q.done
theorem se_un {r : V → Hp → VK → Prop} {f : D → Option D} (hr : UnS C r f) (ha : SE C W ta ma) : SE C W (tUn r ta) (eUn f ma) := by
  intro av σ ρ s H r' s' Q o e q
  refine ha.bind o e q fun x s1 v H1 g1 o1 r1 e q => ?_
  obtain ⟨z, e3, rfl, rfl⟩ := ox_some e
  exact hr av _ H1 v x _ Q o1.at_ r1 e3 q.done
theorem sa_nil : SA C W tNil aNil := fun av σ ρ s H d s' Q o e q => by
  cases e
  exact q _ H .refl o.wo .nil
theorem sa_cons (ha : SE C W ta ma) (hs : SA C W ts ms) : SA C W (tCons ta ts) (aCons ma ms) := by
  intro av σ ρ s H r s' Q o e q
  refine ha.bind o e q fun x s1 v H1 g1 o1 r1 e q => ?_
  refine hs.bind o1 e q fun y s2 w H2 g2 o2 r2 e q => ?_
  cases e
  exact q _ H2 .refl o2.wo (.cons (r1.kp (g2.kp.ch o.ad)) r2)
theorem line_le {n : Nat} (h : n ≤ line) : n ≤ sizeLine := Nat.le_trans h (by decide)
theorem line_lt {n : Nat} (h : n ≤ line) : n < sizeLine := Nat.lt_of_le_of_lt h (by decide)
theorem Rep.newT {H : Hp} {av : Av} {p : Addr} {s : DS} {vs : List V} {ds : List D} (a : At C av s H) (h : H p = none) (r : RepAll C.K H av C.Γ vs ds) : Rep C.K (upd H p (.tup vs)) av C.Γ (.ref p) (.tup ds) := .tup (.inl ⟨a.fresh h, upd_same⟩) (r.kp (.new h))
theorem Rep.newL {H : Hp} {av : Av} {p : Addr} {s : DS} {vs : List V} {ds : List D} (a : At C av s H) (h : H p = none) (r : RepAll C.K H av C.Γ vs ds) : Rep C.K (upd H p (.lst vs)) av C.Γ (.ref p) (.lst ds) := .lst (a.fresh h) upd_same (r.kp (.new h))
theorem Done.newT {av : Av} {p : Addr} {s : DS} {H : Hp} {vs : List V} {ds : List D} {Q : VK} (q : Done C av s H (.tup ds) Q) (a : At C av s H) (h : H p = none) (r : RepAll C.K H av C.Γ vs ds) : Q (.ref p) (upd H p (.tup vs)) := q _ _ (.new h) (a.wo.new h) (.newT a h r)
theorem Done.newL {av : Av} {p : Addr} {s : DS} {H : Hp} {vs : List V} {ds : List D} {Q : VK} (q : Done C av s H (.lst ds) Q) (a : At C av s H) (h : H p = none) (r : RepAll C.K H av C.Γ vs ds) : Q (.ref p) (upd H p (.lst vs)) := q _ _ (.new h) (a.wo.new h) (.newL a h r)
theorem mkT_some {xs : List D} {d : D} (h : mkT xs = some d) : xs.length ≤ line ∧ d = .tup xs := by
  unfold mkT at h
  split at h
  · rename_i hl; cases h; exact ⟨hl, rfl⟩
  · cases h
theorem mkL_some {xs : List D} {d : D} (h : mkL xs = some d) : xs.length ≤ line ∧ d = .lst xs := by
  unfold mkL at h
  split at h
  · rename_i hl; cases h; exact ⟨hl, rfl⟩
  · cases h
theorem se_tup (hs : SA C W ts ms) : SE C W (tTup ts) (eTup ms) := by
  intro av σ ρ s H r s' Q o e q
  refine hs.bind o e q fun x s1 vs H1 g1 o1 r1 e q => ?_
  obtain ⟨z, e3, rfl, rfl⟩ := ox_some e
  obtain ⟨hl, rfl⟩ := mkT_some e3
  exact ⟨line_le (by rw [r1.len]; exact hl), fun p hp => q.done.newT o1.at_ hp r1⟩
theorem se_lst (hs : SA C W ts ms) : SE C W (tLst ts) (eLst ms) := by
  intro av σ ρ s H r s' Q o e q
  refine hs.bind o e q fun x s1 vs H1 g1 o1 r1 e q => ?_
  obtain ⟨z, e3, rfl, rfl⟩ := ox_some e
  obtain ⟨hl, rfl⟩ := mkL_some e3
  exact ⟨line_le (by rw [r1.len]; exact hl), fun p hp => q.done.newL o1.at_ hp r1⟩
theorem se_cb {r : List V → Hp → VK → Prop} {f : List D → Option D} (hr : CbS C r f) (hs : SA C W ts ms) : SE C W (tCB r ts) (eCB f ms) := by
  intro av σ ρ s H r' s' Q o e q
  refine hs.bind o e q fun x s1 vs H1 g1 o1 r1 e q => ?_
  obtain ⟨z, e3, rfl, rfl⟩ := ox_some e
  exact hr av _ H1 vs x _ Q o1.at_ r1 e3 q.done
theorem se_if (hc : ST C W t mt) (ha : SE C W ta ma) (hb : SE C W tb mb) : SE C W (tIf t ta tb) (eIf mt ma mb) := by
  intro av σ ρ s H r s' Q o e q
  refine hc.bind o e q fun b s1 v H1 g1 o1 r1 e q => ?_
  cases r1
  cases b with
  | true =>
    rw [if_pos rfl] at e ⊢
    exact ha av σ ρ s1 H1 r s' Q o1 e q
  | false =>
    rw [if_neg (by simp)] at e ⊢
    exact hb av σ ρ s1 H1 r s' Q o1 e q
theorem st_b (ha : SE C W ta ma) : ST C W (tB ta) (tB' ma) := by
  intro av σ ρ s H r s' Q o e q
  refine ha.bind o e q fun x s1 v H1 g1 o1 r1 e q => ?_
  obtain ⟨z, e3, rfl, rfl⟩ := ox_some e
  cases x <;> simp [isB] at e3
  subst e3
  exact ⟨_, Rep.bl_eq r1, q _ H1 .refl o1.wo rfl⟩
theorem st_test (ha : SE C W ta ma) : ST C W (tTest ta) (tB' ma) := st_b ha
theorem st_and (h1 : ST C W t mt) (h2 : ST C W u mu) : ST C W (tAnd t u) (tAnd' mt mu) := by
  intro av σ ρ s H r s' Q o e q
  refine h1.bind o e q fun b s1 v H1 g1 o1 r1 e q => ?_
  cases r1
  cases b with
  | true =>
    rw [if_pos rfl] at e ⊢
    exact h2 av σ ρ s1 H1 r s' Q o1 e q
  | false =>
    rw [if_neg (by simp)] at e ⊢
    cases e
    exact q _ H1 .refl o1.wo rfl
theorem st_or (h1 : ST C W t mt) (h2 : ST C W u mu) : ST C W (tOr t u) (tOr' mt mu) := by
  intro av σ ρ s H r s' Q o e q
  refine h1.bind o e q fun b s1 v H1 g1 o1 r1 e q => ?_
  cases r1
  cases b with
  | true =>
    rw [if_pos rfl] at e ⊢
    cases e
    exact q _ H1 .refl o1.wo rfl
  | false =>
    rw [if_neg (by simp)] at e ⊢
    exact h2 av σ ρ s1 H1 r s' Q o1 e q
theorem st_not (h1 : ST C W t mt) : ST C W (tNot t) (tNot' mt) := by
  intro av σ ρ s H r s' Q o e q
  refine h1.bind o e q fun b s1 v H1 g1 o1 r1 e q => ?_
  cases r1
  cases e
  exact q _ H1 .refl o1.wo rfl
theorem st_yes : ST C W tYes tYes' := fun av σ ρ s H r s' Q o e q => by
  cases e
  exact q _ H .refl o.wo rfl
theorem se_and (ha : SE C W ta ma) (hb : SE C W tb mb) : SE C W (tAndV ta tb) (eAnd ma mb) := by
  intro av σ ρ s H r s' Q o e q
  refine ha.bind o e q fun x s1 v H1 g1 o1 r1 e q => ?_
  cases x with
  | bl c =>
    cases c with
    | true => exact ⟨true, Rep.bl_eq r1, iteT (hb av σ ρ s1 H1 r s' Q o1 e q)⟩
    | false =>
      cases e
      exact ⟨false, Rep.bl_eq r1, iteF (q _ H1 .refl o1.wo (.bl false))⟩
  | _ => cases e
theorem se_or (ha : SE C W ta ma) (hb : SE C W tb mb) : SE C W (tOrV ta tb) (eOr ma mb) := by
  intro av σ ρ s H r s' Q o e q
  refine ha.bind o e q fun x s1 v H1 g1 o1 r1 e q => ?_
  cases x with
  | bl c =>
    cases c with
    | false => exact ⟨false, Rep.bl_eq r1, iteF (hb av σ ρ s1 H1 r s' Q o1 e q)⟩
    | true =>
      cases e
      exact ⟨true, Rep.bl_eq r1, iteT (q _ H1 .refl o1.wo (.bl true))⟩
  | _ => cases e
theorem so_none : SO C W tNoPart oNone := fun av σ ρ s H b s' Q o e q => by
  cases e
  exact q _ H .refl o.wo rfl
theorem so_some (ha : SE C W ta ma) : SO C W (tPart ta) (oSome ma) := by
  intro av σ ρ s H b s' Q o e q
  refine ha.bind o e q fun x s1 v H1 g1 o1 r1 e q => ?_
  obtain ⟨z, e3, rfl, rfl⟩ := ox_some e
  cases x <;> simp [isI] at e3
  subst e3
  exact ⟨_, Rep.int_eq r1, q _ H1 .refl o1.wo rfl⟩
theorem se_sl {r : V → Option Int → Option Int → Hp → VK → Prop} {f : D → Option Int → Option Int → Option D} {tl tu : TO} {ml mu : En → M (Option Int)} (hr : SlS C r f) (ha : SE C W ta ma) (hl : SO C W tl ml) (hu : SO C W tu mu) : SE C W (L2.tSl r ta tl tu) (eSl f ma ml mu) := by
  intro av σ ρ s H r' s' Q o e q
  refine ha.bind o e q fun x s1 v H1 g1 o1 r1 e q => ?_
  refine hl.bind o1 e q fun l s2 _ H2 g2 o2 r2 e q => ?_
  cases r2
  refine hu.bind o2 e q fun u s3 _ H3 g3 o3 r3 e q => ?_
  cases r3
  obtain ⟨z, e4, rfl, rfl⟩ := ox_some e
  exact hr av _ H3 v x l u _ Q o3.at_ ((Rep.kp r1 (g2.kp.ch o.ad)).kp (g3.kp.ch o.ad)) e4 q.done
end
end DM
set_option Elab.async false
set_option linter.all false
set_option maxRecDepth 100000
set_option maxHeartbeats 2000000
namespace DM
open PySem L2 Lay NdefX LamX
/-! ### operations on intsD, texts, lists -/
def oI (c : Int → Int → Bool) (g : Int → Int → D) : D → D → Option D
  | .int i, .int j => if c i j then some (g i j) else none
  | _, _ => none
def oI0 (g : Int → Int → D) : D → D → Option D
  | .int i, .int j => some (g i j)
  | _, _ => none
def oNeg : D → Option D
  | .int i => some (.int (-i))
  | _ => none
def oAddS : D → D → Option D
  | .str x, .str y => if x.length + y.length ≤ line then some (.str (x ++ y)) else none
  | _, _ => none
def oCat : D → D → Option D
  | .lst x, .lst y => if x.length + y.length ≤ line then some (.lst (x ++ y)) else none
  | _, _ => none
def oCatT : D → D → Option D
  | .tup x, .tup y => if x.length + y.length ≤ line then some (.tup (x ++ y)) else none
  | _, _ => none
def eqF : D → D → Option Bool
  | .int i, .int j => some (decide (i = j))
  | .str i, .str j => some (decide (i = j))
  | .bl i, .bl j => some (decide (i = j))
  | .non, .non => some true
  | .non, .int _ => some false
  | .non, .str _ => some false
  | .int _, .non => some false
  | .str _, .non => some false
  | .int _, .str _ => some false
  | .str _, .int _ => some false
  | _, _ => none
def oEq (a b : D) : Option D := (eqF a b).map .bl
def oNe (a b : D) : Option D := (eqF a b).map fun k => .bl (!k)
def oIx : D → D → Option D
  | .lst xs, .int i => atI xs i
  | .tup xs, .int i => atI xs i
  | _, _ => none
def oEqD (a b : D) : Option D := (toP a).bind fun p => (toP b).bind fun q => if SeqAt.shaped p && SeqAt.shaped q then some (.bl (PyData.eqv p q)) else none
def oNeD (a b : D) : Option D := (toP a).bind fun p => (toP b).bind fun q => if SeqAt.shaped p && SeqAt.shaped q then some (.bl (!PyData.eqv p q)) else none
def oInD : D → D → Option D
  | a, .lst xs => (toP a).bind fun p => (toPs xs).bind fun qs => if SeqAt.shaped p && SeqAt.shaped (.list qs) then some (.bl (qs.any fun z => PyData.eqv z p)) else none
  | _, _ => none
def flatD : D → Bool
  | .non => true
  | .bl _ => true
  | .int _ => true
  | .str _ => true
  | _ => false
def eqFl : D → D → Bool
  | .non, .non => true
  | .bl a, .bl b => a == b
  | .bl a, .int b => (if a then 1 else 0) == b
  | .int a, .bl b => a == (if b then 1 else 0)
  | .int a, .int b => a == b
  | .str a, .str b => a == b
  | _, _ => false
def oIn : D → D → Option D
  | a, .lst xs => if flatD a && xs.all flatD then some (.bl (xs.any fun y => eqFl y a)) else none
  | a, .tup xs => if flatD a && xs.all flatD then some (.bl (xs.any fun y => eqFl y a)) else none
  | _, _ => none
def bLen : List D → Option D
  | [.lst xs] => some (.int xs.length)
  | [.tup xs] => some (.int xs.length)
  | _ => none
def bInt : List D → Option D
  | [.int i] => some (.int i)
  | [.bl b] => some (.int (if b then 1 else 0))
  | _ => none
def bStr : List D → Option D
  | [.int i] => if i.natAbs.log2 < 1920 then some (.str (toString i)) else none
  | _ => none
def intsD : List D → Option (List Int)
  | [] => some []
  | .int i :: xs => (intsD xs).map fun r => i :: r
  | _ => none
def bSum : List D → Option D
  | [.lst xs] => (intsD xs).map fun ns => .int ns.sum
  | _ => none
def bTuple : List D → Option D
  | [.lst xs] => some (.tup xs)
  | [.tup xs] => some (.tup xs)
  | _ => none
def cutD (xs : List D) (lo hi : Option Int) : List D := (xs.drop (HT.sIx xs.length 0 lo)).take (HT.sIx xs.length xs.length hi - HT.sIx xs.length 0 lo)
def slL : D → Option Int → Option Int → Option D
  | .lst xs, lo, hi => some (.lst (cutD xs lo hi))
  | _, _, _ => none
def slT : D → Option Int → Option Int → Option D
  | .tup xs, lo, hi => some (.tup (cutD xs lo hi))
  | _, _, _ => none
def slS : D → Option Int → Option Int → Option D
  | .str z, lo, hi => if z.length ≤ line then some (.str (cutS z lo hi)) else none
  | _, _, _ => none
section
variable {C : Cc}
theorem bindE {α β : Type} {x : Option α} {f : α → Option β} {z : β} (h : x.bind f = some z) : ∃ y, x = some y ∧ f y = some z := Option.bind_eq_some_iff.mp h
theorem mapE {α β : Type} {x : Option α} {f : α → β} {z : β} (h : x.map f = some z) : ∃ y, x = some y ∧ f y = z := Option.map_eq_some_iff.mp h
theorem os_I {c : Int → Int → Bool} {Cn : Int → Int → Prop} {g : Int → Int → Int} (h : ∀ i j, c i j = true → Cn i j) : OpS C (rI Cn fun i j => .int (g i j)) (oI c fun i j => .int (g i j)) := by
  intro av s H x y a b z Q o ra rb e q
  cases a <;> cases b <;> simp [oI] at e
  obtain ⟨e1, rfl⟩ := e
  exact ⟨_, _, ra.int_eq, rb.int_eq, h _ _ e1, q.pure o (.int _)⟩
theorem os_I0 {g : Int → Int → Int} : OpS C (rI0 fun i j => .int (g i j)) (oI0 fun i j => .int (g i j)) := by
  intro av s H x y a b z Q o ra rb e q
  cases a <;> cases b <;> simp [oI0] at e
  subst e
  exact ⟨_, _, ra.int_eq, rb.int_eq, q.pure o (.int _)⟩
theorem os_B0 {g : Int → Int → Bool} : OpS C (rI0 fun i j => .bl (g i j)) (oI0 fun i j => .bl (g i j)) := by
  intro av s H x y a b z Q o ra rb e q
  cases a <;> cases b <;> simp [oI0] at e
  subst e
  exact ⟨_, _, ra.int_eq, rb.int_eq, q.pure o (.bl _)⟩
theorem os_add : OpS C (rI0 fun i j => .int (i + j)) (oI0 fun i j => .int (i + j)) := os_I0
theorem os_sub : OpS C (rI0 fun i j => .int (i - j)) (oI0 fun i j => .int (i - j)) := os_I0
def cMul (i j : Int) : Bool := (decide (-(2 ^ 64) < i) && decide (i < 2 ^ 64)) || (decide (-(2 ^ 64) < j) && decide (j < 2 ^ 64))
def cDiv (i j : Int) : Bool := decide (0 < j) && decide (j < 1073741824)
def cMod (i j : Int) : Bool := decide (0 < j)
def cPow (i j : Int) : Bool := decide (0 ≤ j) && decide (j ≤ 1000000) && decide (i.natAbs < 2 ^ 64)
theorem os_mul : OpS C (rI CMul fun i j => .int (i * j)) (oI cMul fun i j => .int (i * j)) := os_I fun i j h => by
  simp only [cMul, Bool.or_eq_true, Bool.and_eq_true, decide_eq_true_eq] at h
  exact h
theorem os_fdiv : OpS C (rI CDiv fun i j => .int (i / j)) (oI cDiv fun i j => .int (i / j)) := os_I fun i j h => by
  simp only [cDiv, Bool.and_eq_true, decide_eq_true_eq] at h
  exact h
theorem os_mod : OpS C (rI (fun _ j => 0 < j) fun i j => .int (i % j)) (oI cMod fun i j => .int (i % j)) := os_I fun i j h => by
  simpa [cMod] using h
theorem os_pow : OpS C (rI CPow fun i j => .int (i ^ j.toNat)) (oI cPow fun i j => .int (i ^ j.toNat)) := os_I fun i j h => by
  simp only [cPow, Bool.and_eq_true, decide_eq_true_eq] at h
  exact ⟨h.1.1, h.1.2, h.2⟩
theorem un_negS : ∀ av s H x a c Q, At C av s H → Rep C.K H av C.Γ x a → oNeg a = some c → Done C av s H c Q → rU (fun i => .int (-i)) x H Q := by
  intro av s H x a c Q o r e q
  cases a <;> simp [oNeg] at e
  subst e
  exact ⟨_, r.int_eq, q.pure o (.int _)⟩
theorem os_addS : OpS C (fun x y H Q => ∃ i j, x = .str i ∧ y = .str j ∧ i.length + j.length ≤ sizeLine ∧ Q (.str (i ++ j)) H) oAddS := by
  intro av s H x y a b z Q o ra rb e q
  cases a <;> cases b <;> simp [oAddS] at e
  obtain ⟨e1, rfl⟩ := e
  exact ⟨_, _, ra.str_eq, rb.str_eq, line_le e1, q.pure o (.str _)⟩
theorem os_cat : OpS C rCat oCat := by
  intro av s H x y a b z Q o ra rb e q
  cases a <;> cases b <;> simp [oCat] at e
  obtain ⟨e1, rfl⟩ := e
  obtain ⟨p, vs, rfl, n, h1, r1⟩ := ra.lst_at
  obtain ⟨p2, ws, rfl, n2, h2, r2⟩ := rb.lst_at
  exact ⟨p, p2, vs, ws, rfl, rfl, h1, h2, line_le (by rw [r1.len, r2.len]; exact e1), fun l hl => q.newL o hl (r1.append r2)⟩
theorem os_catT : OpS C (rCatA C.K) oCatT := by
  intro av s H x y a b z Q o ra rb e q
  cases a <;> cases b <;> simp [oCatT] at e
  obtain ⟨e1, rfl⟩ := e
  obtain ⟨p, vs, rfl, h1, r1⟩ := ra.tup_at
  obtain ⟨p2, ws, rfl, h2, r2⟩ := rb.tup_at
  refine ⟨p, p2, vs, ws, rfl, rfl, h1.sq, h2.sq, line_le (by rw [r1.len, r2.len]; exact e1), fun z => ?_, fun _ z => ?_, fun _ _ l hl => q.newT o hl (r1.append r2)⟩
  · subst z
    cases r1
    exact q.pure o rb
  · subst z
    cases r2
    rw [List.append_nil] at q
    exact q.pure o ra
theorem os_eq : OpS C rEq oEq := by
  intro av s H x y a b z Q o ra rb e q
  unfold oEq at e
  obtain ⟨k, e1, rfl⟩ := mapE e
  cases a <;> cases b <;> simp [eqF] at e1 <;> first | (have h1 := ra.int_eq) | (have h1 := ra.str_eq) | (have h1 := ra.bl_eq) | (have h1 := ra.non_eq)
  all_goals first | (have h2 := rb.int_eq) | (have h2 := rb.str_eq) | (have h2 := rb.bl_eq) | (have h2 := rb.non_eq)
  all_goals
    subst h1 h2
    refine ⟨rfl, ?_⟩
    have q' := q.pure o (.bl _)
    subst e1
    simpa using q'
theorem os_ne : OpS C rNe oNe := by
  intro av s H x y a b z Q o ra rb e q
  unfold oNe at e
  obtain ⟨k, e1, rfl⟩ := mapE e
  cases a <;> cases b <;> simp [eqF] at e1 <;> first | (have h1 := ra.int_eq) | (have h1 := ra.str_eq) | (have h1 := ra.bl_eq) | (have h1 := ra.non_eq)
  all_goals first | (have h2 := rb.int_eq) | (have h2 := rb.str_eq) | (have h2 := rb.bl_eq) | (have h2 := rb.non_eq)
  all_goals
    subst h1 h2
    refine ⟨rfl, ?_⟩
    have q' := q.pure o (.bl _)
    subst e1
    simpa using q'
theorem atI_rep {av : Av} {H : Hp} {vs : List V} {ds : List D} {i : Int} {d : D} (r : RepAll C.K H av C.Γ vs ds) (e : atI ds i = some d) : ∃ v, atI vs i = some v ∧ Rep C.K H av C.Γ v d := by
  unfold atI at e ⊢
  obtain ⟨j, e1, e2⟩ := bindE e
  obtain ⟨v, h1, h2⟩ := r.get e2
  exact ⟨v, by rw [r.len, e1]; exact h1, h2⟩
theorem os_ix : OpS C (rIx C.K) oIx := by
  intro av s H x y a b z Q o ra rb e q
  cases a <;> cases b <;> simp [oIx] at e
  · obtain ⟨p, vs, rfl, n, h1, r1⟩ := ra.lst_at
    obtain ⟨v, h2, h3⟩ := atI_rep r1 e
    exact .inl ⟨p, vs, _, v, rfl, rb.int_eq, SqL.of h1, h2, q.pure o h3⟩
  · obtain ⟨p, vs, rfl, h1, r1⟩ := ra.tup_at
    obtain ⟨v, h2, h3⟩ := atI_rep r1 e
    exact .inr (.inl ⟨p, vs, _, v, rfl, rb.int_eq, h1.sq, h2, q.pure o h3⟩)
theorem os_eqD : OpS C (rEqD C.K) oEqD := by
  intro av s H x y a b z Q o ra rb e q
  obtain ⟨p, e1, e⟩ := bindE e
  obtain ⟨p2, e2, e⟩ := bindE e
  split at e
  · rename_i hs
    simp at hs
    cases e
    exact ⟨p, p2, ra.dp e1, rb.dp e2, hs.1, hs.2, q.pure o (.bl _)⟩
  · cases e
theorem os_neD : OpS C (rNeD C.K) oNeD := by
  intro av s H x y a b z Q o ra rb e q
  obtain ⟨p, e1, e⟩ := bindE e
  obtain ⟨p2, e2, e⟩ := bindE e
  split at e
  · rename_i hs
    simp at hs
    cases e
    exact ⟨p, p2, ra.dp e1, rb.dp e2, hs.1, hs.2, q.pure o (.bl _)⟩
  · cases e
theorem os_inD : OpS C (rInD C.K) oInD := by
  intro av s H x y a b z Q o ra rb e q
  cases b <;> try (exact nomatch (show (none : Option D) = some z from e))
  obtain ⟨p, e1, e⟩ := bindE e
  obtain ⟨qs, e2, e⟩ := bindE e
  split at e
  · rename_i hs
    simp at hs
    cases e
    exact ⟨p, qs, ra.dp e1, rb.dp (by simp [toP, e2]), hs.1, hs.2, q.pure o (.bl _)⟩
  · cases e
theorem flat_of {av : Av} {H : Hp} {v : V} {d : D} (r : Rep C.K H av C.Γ v d) (h : flatD d = true) : flatV v = true := by
  cases r <;> first | rfl | (exact absurd h (by simp [flatD]))
theorem eqFl_of {av : Av} {H : Hp} {v w : V} {d e : D} (r : Rep C.K H av C.Γ v d) (r2 : Rep C.K H av C.Γ w e) (h : flatD d = true) (h2 : flatD e = true) : eqV v w = eqFl d e := by
  cases r <;> cases r2 <;> first | rfl | (exact absurd h (by simp [flatD])) | (exact absurd h2 (by simp [flatD]))
theorem flats_of {av : Av} {H : Hp} : ∀ {vs : List V} {ds : List D}, RepAll C.K H av C.Γ vs ds → ds.all flatD = true → vs.all flatV = true
  | _, [], r, h => by cases r; rfl
  | _, d :: ds, r, h => by
    cases r with
    | cons a r =>
      rw [List.all_cons, Bool.and_eq_true] at h ⊢
      exact ⟨flat_of a h.1, flats_of r h.2⟩
theorem inV_of {av : Av} {H : Hp} {w : V} {e : D} (r2 : Rep C.K H av C.Γ w e) (h2 : flatD e = true) : ∀ {vs : List V} {ds : List D}, RepAll C.K H av C.Γ vs ds → ds.all flatD = true → inV w vs = ds.any fun y => eqFl y e
  | _, [], r, h => by cases r; rfl
  | _, d :: ds, r, h => by
    cases r with
    | cons a r =>
      rw [List.all_cons, Bool.and_eq_true] at h
      have ih := inV_of r2 h2 r h.2
      unfold inV at ih ⊢
      rw [List.any_cons, List.any_cons, ih, eqFl_of a r2 h.1 h2]
theorem os_in : OpS C (rIn C.K false) oIn := by
  intro av s H x y a b z Q o ra rb e q
  cases b <;> try (exact nomatch (show (none : Option D) = some z from e))
  · simp only [oIn] at e
    split at e
    · rename_i hs
      simp only [Bool.and_eq_true] at hs
      cases e
      obtain ⟨p, vs, rfl, n, h1, r1⟩ := rb.lst_at
      refine ⟨p, vs, rfl, .inl (SqL.of h1), flat_of ra hs.1, flats_of r1 hs.2, ?_⟩
      have q' := q.pure o (.bl _)
      rw [if_neg (by simp), inV_of ra hs.1 r1 hs.2]
      exact q'
    · cases e
  · simp only [oIn] at e
    split at e
    · rename_i hs
      simp only [Bool.and_eq_true] at hs
      cases e
      obtain ⟨p, vs, rfl, h1, r1⟩ := rb.tup_at
      refine ⟨p, vs, rfl, .inr h1.sq, flat_of ra hs.1, flats_of r1 hs.2, ?_⟩
      have q' := q.pure o (.bl _)
      rw [if_neg (by simp), inV_of ra hs.1 r1 hs.2]
      exact q'
    · cases e
theorem cutV_rep {av : Av} {H : Hp} {vs : List V} {ds : List D} {lo hi : Option Int} (r : RepAll C.K H av C.Γ vs ds) : RepAll C.K H av C.Γ (cutV vs lo hi) (cutD ds lo hi) := by
  unfold cutV cutD
  rw [r.len]
  exact (r.drop _).take _
theorem ss_L : SlS C (rSlL C.K) slL := by
  intro av s H x a l u c Q o r e q
  cases a <;> simp [slL] at e
  subst e
  obtain ⟨p, vs, rfl, n, h1, r1⟩ := r.lst_at
  exact ⟨p, vs, rfl, SqL.of h1, fun t ht => q.newL o ht (cutV_rep r1)⟩
theorem ss_T : SlS C (rSlA C.K) slT := by
  intro av s H x a l u c Q o r e q
  cases a <;> simp [slT] at e
  subst e
  obtain ⟨p, vs, rfl, h1, r1⟩ := r.tup_at
  refine ⟨p, vs, rfl, h1.sq, fun z => ?_, fun _ t ht => q.newT o ht (cutV_rep r1)⟩
  refine q.pure o ?_
  rename_i xs
  have e : cutD xs l u = xs := by
    unfold cutD
    rw [← r1.len, z.1, z.2]
    simp [r1.len]
  rw [e]
  exact r
theorem ss_S : SlS C rSlS slS := by
  intro av s H x a l u c Q o r e q
  cases a <;> simp [slS] at e
  obtain ⟨e1, rfl⟩ := e
  exact ⟨_, r.str_eq, line_le e1, q.pure o (.str _)⟩
/-! ### built-ins -/
theorem RepAll.one {av : Av} {H : Hp} {vs : List V} {d : D} (r : RepAll C.K H av C.Γ vs [d]) : ∃ v, vs = [v] ∧ Rep C.K H av C.Γ v d := by
  cases r with
  | cons a r =>
    cases r
    exact ⟨_, rfl, a⟩
theorem cb_len : CbS C (fun xs H Q => ∃ p ys, xs = [.ref p] ∧ (SqL C.K H p ys ∨ SqT C.K H p ys) ∧ Q (.int ys.length) H) bLen := by
  intro av s H vs ds c Q o r e q
  unfold bLen at e
  split at e
  · cases e
    obtain ⟨v, rfl, r1⟩ := r.one
    obtain ⟨p, ys, rfl, n, h1, r2⟩ := r1.lst_at
    refine ⟨p, ys, rfl, .inl (SqL.of h1), ?_⟩
    rw [r2.len]
    exact q.pure o (.int _)
  · cases e
    obtain ⟨v, rfl, r1⟩ := r.one
    obtain ⟨p, ys, rfl, h1, r2⟩ := r1.tup_at
    refine ⟨p, ys, rfl, .inr h1.sq, ?_⟩
    rw [r2.len]
    exact q.pure o (.int _)
  · cases e
theorem cb_int : CbS C (fun xs H Q => (∃ i, xs = [.int i] ∧ Q (.int i) H) ∨ ∃ k, xs = [.bl k] ∧ Q (.int (if k then 1 else 0)) H) bInt := by
  intro av s H vs ds c Q o r e q
  unfold bInt at e
  split at e
  · cases e
    obtain ⟨v, rfl, r1⟩ := r.one
    exact .inl ⟨_, by rw [r1.int_eq], q.pure o (.int _)⟩
  · cases e
    obtain ⟨v, rfl, r1⟩ := r.one
    exact .inr ⟨_, by rw [r1.bl_eq], q.pure o (.int _)⟩
  · cases e
theorem cb_str : CbS C (fun xs H Q => ∃ i, xs = [.int i] ∧ i.natAbs.log2 < 1920 ∧ Q (.str (toString i)) H) bStr := by
  intro av s H vs ds c Q o r e q
  unfold bStr at e
  split at e
  · split at e
    · rename_i hz
      cases e
      obtain ⟨v, rfl, r1⟩ := r.one
      exact ⟨_, by rw [r1.int_eq], hz, q.pure o (.str _)⟩
    · cases e
  · cases e
theorem intsD_rep {av : Av} {H : Hp} : ∀ {vs : List V} {ds : List D} {ns : List Int}, RepAll C.K H av C.Γ vs ds → intsD ds = some ns → vs = ns.map V.int
  | _, [], _, r, e => by cases r; simp [intsD] at e; subst e; rfl
  | _, d :: ds, _, r, e => by
    cases r with
    | cons a r =>
      cases d <;> simp [intsD] at e
      obtain ⟨t, e1, rfl⟩ := e
      rw [List.map_cons, a.int_eq, intsD_rep r e1]
theorem cb_sum : CbS C (rSum C.K) bSum := by
  intro av s H vs ds c Q o r e q
  unfold bSum at e
  split at e
  · obtain ⟨ns, e1, rfl⟩ := mapE e
    obtain ⟨v, rfl, r1⟩ := r.one
    obtain ⟨p, ys, rfl, n, h1, r2⟩ := r1.lst_at
    have := intsD_rep r2 e1
    subst this
    exact ⟨p, ns, rfl, SqL.of h1, q.pure o (.int _)⟩
  · cases e
theorem cb_tuple : CbS C (fun xs H Q => ∃ p ys, xs = [.ref p] ∧ ((SqL C.K H p ys ∧ ∀ l, H l = none → Q (.ref l) (upd H l (.tup ys))) ∨ (SqT C.K H p ys ∧ Q (.ref p) H))) bTuple := by
  intro av s H vs ds c Q o r e q
  unfold bTuple at e
  split at e
  · cases e
    obtain ⟨v, rfl, r1⟩ := r.one
    obtain ⟨p, ys, rfl, n, h1, r2⟩ := r1.lst_at
    exact ⟨p, ys, rfl, .inl ⟨SqL.of h1, fun l hl => q.newT o hl r2⟩⟩
  · cases e
    obtain ⟨v, rfl, r1⟩ := r.one
    obtain ⟨p, ys, rfl, h1, r2⟩ := r1.tup_at
    exact ⟨p, ys, rfl, .inr ⟨h1.sq, q.pure o r1⟩⟩
  · cases e
/-! ### isinstance -/
def tyD : D → Option String
  | .non => some "NoneType"
  | .bl _ => some "bool"
  | .int _ => some "int"
  | .str _ => some "str"
  | .lst _ => some "list"
  | .tup _ => some "tuple"
  | .dic _ _ => some "dict"
  | .obj _ _ _ => none
  | .exc _ _ _ => none
  | .drw => some "list"
theorem ty_of {av : Av} {s : DS} {H : Hp} {v : V} {d : D} {t : String} (o : At C av s H) (r : Rep C.K H av C.Γ v d) (e : tyD d = some t) : TyX C.K H v (.type t) := by
  cases r with
  | non => cases e; exact .base .non
  | bl b => cases e; exact .base (.bl b)
  | int b => cases e; exact .base (.int b)
  | str b => cases e; exact .base (.str b)
  | lst n h r => cases e; exact .base (.lst h)
  | tup t r =>
    cases e
    rcases t with ⟨_, h⟩ | ⟨ob, its, n, h1, h2, h3, h4, h5⟩
    · exact .base (.tup h)
    · exact .kTuple h1 h2
  | dic n h l r => cases e; exact .base (.dK h)
  | obj n q s l r => cases e
  | exc n n2 q s s2 l r => cases e
  | drw => cases e; exact .base (.lst o.wo.dr)
def isF (T : String) (d : D) : Option D := (tyD d).bind fun t => (kitB t T).map .bl
theorem se_isi {W : WX} {T : String} {ta : TE} {ma : En → M D} (ha : SE C W ta ma) : SE C W (tCB (rIsi C.K) (tCons ta (tCons (tC (.ty T)) tNil))) (eUn (isF T) ma) := by
  intro av σ ρ s H r' s' Q o e q
  refine ha.bind o e q fun x s1 v H1 g1 o1 r1 e q => ?_
  obtain ⟨z, e3, rfl, rfl⟩ := ox_some e
  obtain ⟨t, e5, e6⟩ := bindE e3
  obtain ⟨k, e7, rfl⟩ := mapE e6
  exact ⟨v, .ty T, .type t, .type T, k, rfl, .ty T, ty_of o1.at_ r1 e5, kit_ty e7, q _ H1 .refl o1.wo (.bl k)⟩
end
end DM
set_option Elab.async false
set_option linter.all false
set_option maxRecDepth 100000
set_option maxHeartbeats 2000000
namespace DM
open PySem L2 Lay NdefX LamX
/-! ### what is walked -/
structure Far (av : Av) (H : Hp) (av2 : Av) (H2 : Hp) : Prop where
  nw : ∀ a, av2 a → av a ∨ H a = none
  sub : ∀ a, av a → av2 a
  kp : Kp av2 H H2
  al : ∀ a, av2 a → H2 a ≠ none
def ItOk (C : Cc) (av : Av) (J : It) (H : Hp) (ds : List D) : Prop := ∃ G Y, Walk J ds.length G Y ∧ ∀ av2 H2, Far av H av2 H2 → G H2 ∧
  ∀ i x H3, i < ds.length → Y i H2 x H3 → (H3 = H2 ∨ ∃ T o, H2 T = none ∧ H3 = upd H2 T o) ∧ ∃ d, ds[i]? = some d ∧ Rep C.K H3 av2 C.Γ x d
def rIt (C : Cc) : RG (List D) It := fun H av J ds => ItOk C av J H ds
abbrev SI (C : Cc) (W : WX) (wi : TI) (m : En → M (List D)) : Prop := SG C W (rIt C) wi m
def isL : D → Option (List D)
  | .lst xs => some xs
  | _ => none
def isT : D → Option (List D)
  | .tup xs => some xs
  | _ => none
def isS : D → Option (List D)
  | .str z => some (z.cps.toList.map fun c => .str ⟨#[c]⟩)
  | _ => none
def isR : List D → Option (List D)
  | [.int j] => if decide (-(2 ^ 62) ≤ j) && decide (j < 2 ^ 62) then some ((List.range j.toNat).map fun (i : Nat) => .int (0 + i)) else none
  | _ => none
def isR2 : List D → Option (List D)
  | [.int i, .int j] => if decide (-(2 ^ 62) ≤ i) && decide (i < 2 ^ 62) && (decide (-(2 ^ 62) ≤ j) && decide (j < 2 ^ 62)) then some ((List.range (j - i).toNat).map fun (k : Nat) => .int (i + k)) else none
  | _ => none
def enumD (n : Nat) : List D → List D
  | [] => []
  | d :: ds => .tup [.int (n : Int), d] :: enumD (n + 1) ds
def isE : List D → Option (List D)
  | [.lst xs] => some (enumD 0 xs)
  | _ => none
def iD (f : D → Option (List D)) (a : En → M D) : En → M (List D) := fun ρ s => bx (a ρ s) fun x s1 => ox (f x) s1
def iDs (f : List D → Option (List D)) (a : En → M (List D)) : En → M (List D) := fun ρ s => bx (a ρ s) fun x s1 => ox (f x) s1
theorem enumD_len : ∀ (ds : List D) (n : Nat), (enumD n ds).length = ds.length
  | [], _ => rfl
  | d :: ds, n => by simp [enumD, enumD_len ds]
theorem enumD_get : ∀ (ds : List D) (n i : Nat) (d : D), ds[i]? = some d → (enumD n ds)[i]? = some (.tup [.int ((n + i : Nat) : Int), d])
  | [], _, _, _, e => by simp at e
  | d0 :: ds, n, 0, d, e => by simp at e; subst e; simp [enumD]
  | d0 :: ds, n, i + 1, d, e => by
    simp at e
    have := enumD_get ds (n + 1) i d e
    simp only [enumD, List.getElem?_cons_succ, this]
    congr 4
    omega
section
variable {C : Cc} {W : WX} {te : TE} {me : En → M D} {ta : TA} {ms : En → M (List D)}
theorem si_list (he : SE C W te me) : SI C W (iList C.K te) (iD isL me) := by
  intro av σ ρ s H r s' R o e q
  refine he.bind o e q fun x s1 v H1 g1 o1 r1 e q => ?_
  obtain ⟨ds, e3, rfl, rfl⟩ := ox_some e
  cases x <;> simp [isL] at e3
  subst e3
  obtain ⟨a, vs, rfl, n, h1, r2⟩ := Rep.lst_at r1
  refine ⟨a, rfl, ⟨vs, SqL.of h1⟩, q _ H1 .refl o1.wo ⟨_, _, by rw [← r2.len]; exact walk_list (xs := vs), fun av2 H2 f => ?_⟩⟩
  have h2 : H2 a = some (.lst vs) := f.kp a _ (fun z => by rcases f.nw a z with z | z; exact n z; rw [z] at h1; cases h1) h1
  refine ⟨SqL.of h2, fun i y H3 hi hy => ?_⟩
  obtain ⟨rfl, hy⟩ := hy
  obtain ⟨d, e1, e2⟩ := r2.getV hy
  exact ⟨.inl rfl, d, e1, (e2.wd f.nw).kp f.kp⟩
theorem si_tup (he : SE C W te me) : SI C W (iTup C.K te) (iD isT me) := by
  intro av σ ρ s H r s' R o e q
  refine he.bind o e q fun x s1 v H1 g1 o1 r1 e q => ?_
  obtain ⟨ds, e3, rfl, rfl⟩ := ox_some e
  cases x <;> simp [isT] at e3
  subst e3
  obtain ⟨a, vs, rfl, h1, r2⟩ := Rep.tup_at r1
  refine ⟨a, rfl, ⟨vs, h1.sq⟩, q _ H1 .refl o1.wo ⟨_, _, by rw [← r2.len]; exact walk_tup (xs := vs), fun av2 H2 f => ?_⟩⟩
  refine ⟨((h1.wd f.nw).kp f.kp).sq, fun i y H3 hi hy => ?_⟩
  obtain ⟨rfl, hy⟩ := hy
  obtain ⟨d, e1, e2⟩ := r2.getV hy
  exact ⟨.inl rfl, d, e1, (e2.wd f.nw).kp f.kp⟩
theorem si_str (he : SE C W te me) : SI C W (iStr te) (iD isS me) := by
  intro av σ ρ s H r s' R o e q
  refine he.bind o e q fun x s1 v H1 g1 o1 r1 e q => ?_
  obtain ⟨ds, e3, rfl, rfl⟩ := ox_some e
  cases x <;> simp [isS] at e3
  rename_i z
  subst e3
  refine ⟨z, Rep.str_eq r1, q _ H1 .refl o1.wo ⟨_, _, by simpa using walk_str (z := z), fun av2 H2 f => ⟨trivial, fun i y H3 hi hy => ?_⟩⟩⟩
  obtain ⟨rfl, c, hc, rfl⟩ := hy
  exact ⟨.inl rfl, .str ⟨#[c]⟩, by simp [hc], .str _⟩
theorem si_range (he : SA C W ta ms) : SI C W (iRng1 ta) (iDs isR ms) := by
  intro av σ ρ s H r s' R o e q
  refine he.bind o e q fun x s1 v H1 g1 o1 r1 e q => ?_
  obtain ⟨ds, e3, rfl, rfl⟩ := ox_some e
  unfold isR at e3
  split at e3
  · split at e3
    · rename_i j hj
      simp only [Bool.and_eq_true, decide_eq_true_eq] at hj
      cases e3
      obtain ⟨v, rfl, r2⟩ := RepAll.one r1
      refine ⟨j, by rw [r2.int_eq], hj.1, hj.2, q _ H1 .refl o1.wo ⟨_, _, by rw [List.length_map, List.length_range]; exact walk_range (lo := 0) (n := j.toNat), fun av2 H2 f => ⟨trivial, fun i y H3 hi hy => ?_⟩⟩⟩
      obtain ⟨rfl, rfl⟩ := hy
      rw [List.length_map, List.length_range] at hi
      exact ⟨.inl rfl, .int (0 + i), by rw [List.getElem?_map, List.getElem?_range hi]; rfl, .int _⟩
    · cases e3
  · cases e3
theorem si_enum (he : SA C W ta ms) : SI C W (iEnum C.K ta) (iDs isE ms) := by
  intro av σ ρ s H r s' R o e q
  refine he.bind o e q fun x s1 v H1 g1 o1 r1 e q => ?_
  obtain ⟨ds, e3, rfl, rfl⟩ := ox_some e
  unfold isE at e3
  split at e3
  · rename_i xs
    cases e3
    obtain ⟨v, rfl, r2⟩ := RepAll.one r1
    obtain ⟨a, vs, rfl, n, h1, r2⟩ := r2.lst_at
    refine ⟨a, vs, rfl, SqL.of h1, q _ H1 .refl o1.wo ⟨_, _, by rw [enumD_len, ← r2.len]; exact walk_enum (xs := vs), fun av2 H2 f => ?_⟩⟩
    have h2 : H2 a = some (.lst vs) := f.kp a _ (fun z => by rcases f.nw a z with z | z; exact n z; rw [z] at h1; cases h1) h1
    refine ⟨SqL.of h2, fun i y H3 hi hy => ?_⟩
    obtain ⟨T, u, w, rfl, hT, rfl, hu, hw⟩ := hy
    cases hu
    obtain ⟨d, e1, e2⟩ := r2.getV hw
    have e3 := (e2.wd f.nw).kp f.kp
    refine ⟨.inr ⟨T, _, hT, rfl⟩, .tup [.int ((i : Nat) : Int), d], ?_, .tup (.inl ⟨fun z => f.al T z hT, upd_same⟩) (.cons (.int _) (.cons (e3.kp (.new hT)) .nil))⟩
    rw [enumD_get xs 0 i d e1]
    simp
  · cases e3
/-! ### either way of walking -/
def orI (w1 w2 : TI) : TI := fun σ H R => w1 σ H R ∨ w2 σ H R
theorem orI_pi {X : Cx} {tg e : Expr} {w1 w2 : TI} (h1 : PI X tg e w1) (h2 : PI X tg e w2) : PI X tg e (orI w1 w2) := ⟨fun pins s σ H R I h => h.elim (h1.run pins s σ H R I) (h2.run pins s σ H R I)⟩
def orD (f g : D → Option (List D)) : D → Option (List D) := fun x => match f x with
  | some c => some c
  | none => g x
theorem si_or {w1 w2 : TI} {f g : D → Option (List D)} (h1 : SI C W w1 (iD f me)) (h2 : SI C W w2 (iD g me)) : SI C W (orI w1 w2) (iD (orD f g) me) := by
  intro av σ ρ s H r s' R o e q
  unfold iD at e h1 h2
  cases z : me ρ s with
  | none => rw [z] at e; cases e
  | some p =>
    obtain ⟨x, s1⟩ := p
    rw [z] at e
    cases x with
    | error x => exact .inl (h1 av σ ρ s H r s' R o (by show bx (me ρ s) _ = _; rw [z]; exact e) q)
    | ok x =>
      obtain ⟨ds, e3, rfl, rfl⟩ := ox_some e
      unfold orD at e3
      split at e3
      · rename_i c hc
        cases e3
        exact .inl (h1 av σ ρ s H _ _ R o (by show bx (me ρ s) _ = _; rw [z]; show ox (f x) _ = _; rw [hc]; rfl) q)
      · exact .inr (h2 av σ ρ s H _ _ R o (by show bx (me ρ s) _ = _; rw [z]; show ox (g x) _ = _; rw [e3]; rfl) q)
end
/-! ### targets -/
inductive Tgt where
  | one (i : Nat)
  | many (ts : List Tgt)
  | unl (is : List Nat)
mutual
def Tgt.slots : Tgt → List Nat
  | .one i => [i]
  | .many ts => slotsL ts
  | .unl is => is
def slotsL : List Tgt → List Nat
  | [] => []
  | t :: ts => t.slots ++ slotsL ts
end
mutual
def flat : Tgt → D → Option (List D)
  | .one _, d => some [d]
  | .many ts, .tup ds => flats ts ds
  | .unl is, .lst ds => if ds.length = is.length then some ds else none
  | _, _ => none
def flats : List Tgt → List D → Option (List D)
  | [], [] => some []
  | t :: ts, d :: ds => (flat t d).bind fun a => (flats ts ds).map fun b => a ++ b
  | _, _ => none
end
def setM {α : Type} : List Nat → List α → List α → List α
  | i :: is, d :: ds, ρ => setM is ds (ρ.set i d)
  | _, _, ρ => ρ
def vals (ds : List D) : En := ds.map Sl.val
def Tgt.set (t : Tgt) (ρ : En) (d : D) : Option En := (flat t d).map fun ds => setM t.slots (vals ds) ρ
def gsU : List Nat → TGs
  | [] => gNil
  | i :: is => gCons (gName i) (gsU is)
mutual
def gOf (K : PySem.W.Frag) : Tgt → TG
  | .one i => gName i
  | .many ts => gTup K ts.length (gsOf K ts)
  | .unl is => gUnl K is.length (gsU is)
def gsOf (K : PySem.W.Frag) : List Tgt → TGs
  | [] => gNil
  | t :: ts => gCons (gOf K t) (gsOf K ts)
end
theorem setM_len {α : Type} : ∀ (is : List Nat) (ds ρ : List α), (setM is ds ρ).length = ρ.length
  | [], _, ρ => by simp [setM]
  | i :: is, [], ρ => by simp [setM]
  | i :: is, d :: ds, ρ => by simp [setM, setM_len is]
theorem setM_app {α : Type} : ∀ (is js : List Nat) (a b ρ : List α), a.length = is.length → setM (is ++ js) (a ++ b) ρ = setM js b (setM is a ρ)
  | [], js, [], b, ρ, _ => rfl
  | [], js, _ :: _, b, ρ, h => by simp at h
  | i :: is, js, [], b, ρ, h => by simp at h
  | i :: is, js, x :: a, b, ρ, h => by
    simp only [List.cons_append, setM]
    exact setM_app is js a b _ (by simpa using h)
theorem gsU_run : ∀ {is : List Nat} {vs : List V} {σ : L2.St} {H : Hp} {Q : L2.St → Hp → Prop}, vs.length = is.length → Q (setM is (vs.map some) σ) H → gsU is vs σ H Q
  | [], [], σ, H, Q, _, q => ⟨rfl, q⟩
  | [], _ :: _, σ, H, Q, h, q => by simp at h
  | i :: is, [], σ, H, Q, h, q => by simp at h
  | i :: is, v :: vs, σ, H, Q, h, q => ⟨v, vs, rfl, gsU_run (by simpa using h) q⟩
section
variable {C : Cc}
mutual
theorem gOf_run {H : Hp} {av : Av} : ∀ (tg : Tgt) {v : V} {d : D} {ds : List D}, Rep C.K H av C.Γ v d → flat tg d = some ds → ∃ vs, RepAll C.K H av C.Γ vs ds ∧ vs.length = tg.slots.length ∧ ∀ (σ : L2.St) (Q : L2.St → Hp → Prop), Q (setM tg.slots (vs.map some) σ) H → gOf C.K tg v σ H Q
  | .one i, v, d, ds, r, e => by
    cases e
    exact ⟨[v], .cons r .nil, rfl, fun σ Q q => q⟩
  | .many ts, v, d, ds, r, e => by
    cases d <;> simp [flat] at e
    rename_i xs
    obtain ⟨a, vs, rfl, h1, r1⟩ := r.tup_at
    obtain ⟨ws, h2, h3, h4, h5⟩ := gsOf_run ts r1 e
    refine ⟨ws, h2, by simpa [Tgt.slots] using h3, fun σ Q q => ?_⟩
    unfold gOf
    exact ⟨a, vs, rfl, h1.sq, h4, h5 σ Q (by simpa [Tgt.slots] using q)⟩
  | .unl is, v, d, ds, r, e => by
    cases d <;> simp [flat] at e
    obtain ⟨e1, rfl⟩ := e
    obtain ⟨a, vs, rfl, n, h1, r1⟩ := r.lst_at
    have hvl : vs.length = is.length := by rw [r1.len, e1]
    refine ⟨vs, r1, by simpa [Tgt.slots] using hvl, fun σ Q q => ?_⟩
    unfold gOf
    exact ⟨a, vs, rfl, SqL.of h1, hvl, gsU_run hvl (by simpa [Tgt.slots] using q)⟩
theorem gsOf_run {H : Hp} {av : Av} : ∀ (ts : List Tgt) {us : List V} {xs ds : List D}, RepAll C.K H av C.Γ us xs → flats ts xs = some ds → ∃ vs, RepAll C.K H av C.Γ vs ds ∧ vs.length = (slotsL ts).length ∧ us.length = ts.length ∧ ∀ (σ : L2.St) (Q : L2.St → Hp → Prop), Q (setM (slotsL ts) (vs.map some) σ) H → gsOf C.K ts us σ H Q
  | [], us, xs, ds, r, e => by
    cases xs <;> simp [flats] at e
    subst e
    cases r
    exact ⟨[], .nil, rfl, rfl, fun σ Q q => ⟨rfl, q⟩⟩
  | t :: ts, us, xs, ds, r, e => by
    cases xs with
    | nil => simp [flats] at e
    | cons x xs =>
      cases r with
      | @cons u us _ _ a r =>
        simp only [flats, Option.bind_eq_some_iff, Option.map_eq_some_iff] at e
        obtain ⟨b, e1, c, e2, rfl⟩ := e
        obtain ⟨v1, h1, h2, h3⟩ := gOf_run t a e1
        obtain ⟨v2, k1, k2, k3, k4⟩ := gsOf_run ts r e2
        refine ⟨v1 ++ v2, h1.append k1, by simp [slotsL, h2, k2], by simp [k3], fun σ Q q => ?_⟩
        unfold gsOf
        refine ⟨u, us, rfl, h3 σ _ (k4 _ Q ?_)⟩
        rw [slotsL, List.map_append, setM_app _ _ _ _ _ (by rw [List.length_map, h2])] at q
        exact q
end
theorem SlotsOk.set {H : Hp} {av : Av} {σ : L2.St} {ρ : En} {v : V} {d : D} (hl : σ.length = ρ.length) (h : SlotsOk C H av σ ρ) (r : Rep C.K H av C.Γ v d) (i : Nat) : SlotsOk C H av (σ.set i (some v)) (ρ.set i (.val d)) := by
  refine ⟨fun j e hj => ?_, fun j k hj => ?_⟩
  · by_cases hji : i = j
    · subst hji
      by_cases hi : i < ρ.length
      · rw [List.getElem?_set_self hi] at hj
        cases hj
        exact ⟨v, by rw [List.getElem?_set_self (by rw [hl]; exact hi)], r⟩
      · rw [List.getElem?_eq_none (by simpa using hi)] at hj
        cases hj
    · rw [List.getElem?_set_ne hji] at hj ⊢
      exact h.val j e hj
  · by_cases hji : i = j
    · subst hji
      by_cases hi : i < ρ.length
      · rw [List.getElem?_set_self hi] at hj
        cases hj
      · rw [List.getElem?_eq_none (by simpa using hi)] at hj
        cases hj
    · rw [List.getElem?_set_ne hji] at hj ⊢
      exact h.lam j k hj
theorem SlotsOk.setM {H : Hp} {av : Av} : ∀ {is : List Nat} {vs : List V} {ds : List D} {σ : L2.St} {ρ : En}, σ.length = ρ.length → SlotsOk C H av σ ρ → RepAll C.K H av C.Γ vs ds → SlotsOk C H av (DM.setM is (vs.map some) σ) (DM.setM is (vals ds) ρ)
  | [], vs, ds, σ, ρ, hl, h, r => by simpa [DM.setM] using h
  | i :: is, _, [], σ, ρ, hl, h, r => by cases r; simpa [DM.setM, vals] using h
  | i :: is, _, d :: ds, σ, ρ, hl, h, r => by
    cases r with
    | cons a r => exact SlotsOk.setM (is := is) (by simp [hl]) (h.set hl a i) r
end
end DM
set_option Elab.async false
set_option linter.all false
set_option maxRecDepth 100000
set_option maxHeartbeats 2000000
namespace DM
open PySem L2 Lay NdefX LamX
/-! ### slots wiped -/
theorem wipe_get (σ : L2.St) : ∀ (vs : List Nat) (i : Nat), (wipe σ vs)[i]? = if i ∈ vs then (if i < σ.length then some none else none) else σ[i]?
  | [], i => by simp [wipe]
  | v :: vs, i => by
    unfold wipe
    by_cases h : v = i
    · subst h
      rw [if_pos (by simp)]
      by_cases hv : v < σ.length
      · rw [List.getElem?_set_self (by rw [wipe_length]; exact hv), if_pos hv]
      · rw [List.getElem?_eq_none (by simp only [List.length_set, wipe_length]; omega), if_neg hv]
    · rw [List.getElem?_set_ne h, wipe_get σ vs i]
      have h' : ¬ i = v := fun e => h e.symm
      simp [h']
theorem setM_get {α : Type} : ∀ (is : List Nat) (ds ρ : List α) (i : Nat), i ∉ is → (setM is ds ρ)[i]? = ρ[i]?
  | [], _, ρ, i, _ => by simp [setM]
  | j :: is, [], ρ, i, _ => by simp [setM]
  | j :: is, d :: ds, ρ, i, h => by
    simp only [List.mem_cons, not_or] at h
    unfold setM
    rw [setM_get is ds _ i h.2, List.getElem?_set_ne (fun e => h.1 e.symm)]
theorem wipe_setM (σ : L2.St) (is : List Nat) (vs : List (Option V)) : wipe (setM is vs (wipe σ is)) is = wipe σ is := by
  apply List.ext_getElem?
  intro i
  rw [wipe_get, wipe_get]
  by_cases h : i ∈ is
  · rw [if_pos h, if_pos h, setM_len, wipe_length]
  · rw [if_neg h, if_neg h, setM_get is vs _ i h, wipe_get, if_neg h]
/-! ### comprehensions -/
def wipeE (ρ : En) : List Nat → En
  | [] => ρ
  | v :: vs => (wipeE ρ vs).set v .no
theorem wipeE_len (ρ : En) : ∀ vs : List Nat, (wipeE ρ vs).length = ρ.length
  | [] => rfl
  | v :: vs => by unfold wipeE; rw [List.length_set, wipeE_len ρ vs]
theorem wipeE_get (σ : En) : ∀ (vs : List Nat) (i : Nat), (wipeE σ vs)[i]? = if i ∈ vs then (if i < σ.length then some .no else none) else σ[i]?
  | [], i => by simp [wipeE]
  | v :: vs, i => by
    unfold wipeE
    by_cases h : v = i
    · subst h
      rw [if_pos (by simp)]
      by_cases hv : v < σ.length
      · rw [List.getElem?_set_self (by rw [wipeE_len]; exact hv), if_pos hv]
      · rw [List.getElem?_eq_none (by simp only [List.length_set, wipeE_len]; omega), if_neg hv]
    · rw [List.getElem?_set_ne h, wipeE_get σ vs i]
      have h' : ¬ i = v := fun e => h e.symm
      simp [h']
theorem SlotsOk.wipe {C : Cc} {H : Hp} {av : Av} {σ : L2.St} {ρ : En} (h : SlotsOk C H av σ ρ) (is : List Nat) : SlotsOk C H av (L2.wipe σ is) (wipeE ρ is) := by
  refine ⟨fun i d e => ?_, fun i d e => ?_⟩
  all_goals
    rw [wipeE_get] at e
    by_cases hm : i ∈ is
    · rw [if_pos hm] at e
      split at e <;> cases e
    · rw [if_neg hm] at e
      rw [wipe_get, if_neg hm]
      first | exact h.val i d e | exact h.lam i d e
/-- one target: the slots behind it -/
theorem tgt_run {C : Cc} {tg : Tgt} {H : Hp} {av : Av} {v : V} {d : D} {σ : L2.St} {ρ ρ' : En} {Q : L2.St → Hp → Prop} (r : Rep C.K H av C.Γ v d) (hl : σ.length = ρ.length) (h : SlotsOk C H av σ ρ) (e : tg.set ρ d = some ρ')
    (q : ∀ vs ds, vs.length = tg.slots.length → RepAll C.K H av C.Γ vs ds → ρ' = DM.setM tg.slots (vals ds) ρ → σ.length = ρ'.length → SlotsOk C H av (DM.setM tg.slots (vs.map some) σ) ρ' → Q (DM.setM tg.slots (vs.map some) σ) H) : gOf C.K tg v σ H Q := by
  unfold Tgt.set at e
  obtain ⟨ds, e1, rfl⟩ := mapE e
  obtain ⟨vs, h1, h2, h3⟩ := gOf_run tg r e1
  exact h3 σ Q (q vs ds h2 h1 rfl (by rw [setM_len, hl]) (h.setM hl h1))
/-- no error -/
def okx {α β : Type} (x : Option (Except Xn α × DS)) (f : α → DS → Option β) : Option β := match x with
  | some (.ok a, s) => f a s
  | _ => none
theorem okx_some {α β : Type} {x : Option (Except Xn α × DS)} {f : α → DS → Option β} {z : β} (h : okx x f = some z) : ∃ a s, x = some (.ok a, s) ∧ f a s = some z := by
  unfold okx at h
  split at h
  · exact ⟨_, _, rfl, h⟩
  · cases h
theorem bx_ok {α β : Type} {x : Option (Except Xn α × DS)} {f : α → DS → Option (Except Xn β × DS)} {z : β} {s' : DS} (h : bx x f = some (.ok z, s')) : ∃ a s, x = some (.ok a, s) ∧ f a s = some (.ok z, s') := by
  unfold bx at h
  split at h
  · cases h
  · cases h
  · exact ⟨_, _, rfl, h⟩
def lcGo (tg : Tgt) (tt : En → M Bool) (te : En → M D) (ρ : En) : List D → M (List D)
  | [], s => some (.ok [], s)
  | d :: ds, s => (tg.set ρ d).bind fun ρ1 => bx (tt ρ1 s) fun b s1 => if b = true then bx (te ρ1 s1) fun y s2 => bx (lcGo tg tt te ρ ds s2) fun r s3 => some (.ok (y :: r), s3) else lcGo tg tt te ρ ds s1
def eLc (tg : Tgt) (mi : En → M (List D)) (tt : En → M Bool) (te : En → M D) : En → M D := fun ρ s => bx (mi ρ s) fun x s1 => okx (lcGo tg tt te (wipeE ρ tg.slots) x s1) fun y s2 => ox (mkL y) s2
def wF : WX := fun _ _ _ _ => False
end DM
set_option Elab.async false
set_option linter.all false
set_option maxRecDepth 100000
set_option maxHeartbeats 2000000
namespace DM
open PySem L2 Lay NdefX LamX
/-! ### statements -/
def avO (ae : Av) (os : List Addr) : Av := fun a => ae a ∨ a ∈ os
def OwnAt (C : Cc) (H : Hp) (av : Av) (p : Addr) : D → Prop
  | .lst ds => ∃ vs, H p = some (.lst vs) ∧ RepAll C.K H av C.Γ vs ds
  | .dic ks ds => ∃ vs, H p = some (.dK (zipK ks vs)) ∧ ks.length = ds.length ∧ RepAll C.K H av C.Γ vs ds
  | _ => False
theorem OwnAt.move {C : Cc} {H H' : Hp} {av av2 : Av} {p : Addr} {d : D} (h : OwnAt C H av p d) (e : ∀ o, H p = some o → H' p = some o) (f : ∀ vs ds, RepAll C.K H av C.Γ vs ds → RepAll C.K H' av2 C.Γ vs ds) : OwnAt C H' av2 p d := by
  cases d <;> first | exact h.elim | skip
  · obtain ⟨vs, h1, h2⟩ := h
    exact ⟨vs, e _ h1, f _ _ h2⟩
  · obtain ⟨vs, h1, h2, h3⟩ := h
    exact ⟨vs, e _ h1, h2, f _ _ h3⟩
theorem OwnAt.rep {C : Cc} {H : Hp} {av : Av} {p : Addr} {d : D} (h : OwnAt C H av p d) (n : ¬ av p) : Rep C.K H av C.Γ (.ref p) d := by
  cases d <;> first | exact h.elim | skip
  · obtain ⟨vs, h1, h2⟩ := h
    exact .lst n h1 h2
  · obtain ⟨vs, h1, h2, h3⟩ := h
    exact .dic n h1 h2 h3
theorem OwnAt.some {C : Cc} {H : Hp} {av : Av} {p : Addr} {d : D} (h : OwnAt C H av p d) : H p ≠ none := by
  cases d <;> first | exact h.elim | skip
  · obtain ⟨vs, h1, h2⟩ := h
    rw [h1]; simp
  · obtain ⟨vs, h1, h2, h3⟩ := h
    rw [h1]; simp
theorem OwnAt.noCode {C : Cc} {H : Hp} {av : Av} {p : Addr} {d : D} (h : OwnAt C H av p d) : ∃ o, H p = Option.some o ∧ ∀ c q, o ≠ CodeO c q := by
  cases d <;> first | exact h.elim | skip
  · obtain ⟨vs, h1, h2⟩ := h
    exact ⟨_, h1, fun _ _ z => by cases z⟩
  · obtain ⟨vs, h1, h2, h3⟩ := h
    exact ⟨_, h1, fun _ _ z => by cases z⟩
/-- a slot that is no value -/
theorem SlotsOk.off {C : Cc} {H : Hp} {av : Av} {σ σ' : L2.St} {ρ : En} {sl : Sl} (h : SlotsOk C H av σ ρ) (i : Nat) (hv : ∀ d, sl ≠ .val d) (hm : ∀ k, sl ≠ .lam k) (hσ : ∀ j : Nat, i ≠ j → σ'[j]? = σ[j]?) : SlotsOk C H av σ' (ρ.set i sl) := by
  refine ⟨fun j d hj => ?_, fun j d hj => ?_⟩
  all_goals
    by_cases hji : i = j
    · subst hji
      by_cases hi : i < ρ.length
      · rw [List.getElem?_set_self hi] at hj
        first | exact absurd (Option.some.inj hj) (hv _) | exact absurd (Option.some.inj hj) (hm _)
      · rw [List.getElem?_eq_none (by simpa using hi)] at hj
        cases hj
    · rw [List.getElem?_set_ne hji] at hj
      rw [hσ j hji]
      first | exact h.val j d hj | exact h.lam j d hj
structure Ok (C : Cc) (E0 : Hp) (ae : Av) (os : List Addr) (σ : L2.St) (ρ : En) (s : DS) (H : Hp) : Prop where
  go : Go C.Γ E0 H
  len : σ.length = ρ.length
  wo : Wo C.Γ H s
  ad : ∀ a, C.Γ.ch a → ae a
  al : ∀ a, ae a → E0 a ≠ none
  ow : ∀ p ∈ os, E0 p = none ∧ H p ≠ none
  nc : ∀ a, avO ae os a → ∀ c q, H a ≠ some (CodeO c q)
  sl : SlotsOk C H (avO ae os) σ ρ
  own : ∀ (i : Nat) (d : D), ρ[i]? = some (Sl.own d) → ∃ p, σ[i]? = some (some (.ref p)) ∧ p ∈ os ∧ OwnAt C H (avO ae os) p d
  dis : ∀ (i j : Nat) (d e : D) (p : Addr), i ≠ j → ρ[i]? = some (Sl.own d) → ρ[j]? = some (Sl.own e) → σ[i]? = some (some (.ref p)) → σ[j]? ≠ some (some (.ref p))
structure Fr (ae : Av) (os : List Addr) (H : Hp) (os' : List Addr) (H' : Hp) : Prop where
  kp : Kp (avO ae os) H H'
  nw : ∀ p ∈ os', p ∈ os ∨ H p = none
  lv : Lv H H'
theorem Fr.refl {ae : Av} {os : List Addr} {H : Hp} : Fr ae os H os H := ⟨.refl, fun _ h => .inl h, .refl⟩
theorem Fr.trans {ae : Av} {os os1 os2 : List Addr} {H H1 H2 : Hp} (a : Fr ae os H os1 H1) (b : Fr ae os1 H1 os2 H2) : Fr ae os H os2 H2 := by
  refine ⟨fun x o n h => b.kp x o (fun z => ?_) (a.kp x o n h), fun p hp => ?_, a.lv.trans b.lv⟩
  · rcases z with z | z
    · exact n (.inl z)
    · rcases a.nw x z with z | z
      · exact n (.inr z)
      · rw [z] at h; cases h
  · rcases b.nw p hp with z | z
    · exact a.nw p z
    · exact .inr (by
        cases e : H p with
        | none => rfl
        | some o => exact absurd z (a.lv p (by rw [e]; simp)))
section
variable {C : Cc} {E0 : Hp} {ae : Av} {os : List Addr} {σ : L2.St} {ρ : En} {s s' : DS} {H H' : Hp}
theorem Go.fr (g : Go C.Γ H H') (ad : ∀ a, C.Γ.ch a → ae a) : Fr ae os H os H' := ⟨g.kp.mono fun a z => .inl (ad a z), fun _ h => .inl h, g.lv⟩
theorem Ok.toE (o : Ok C E0 ae os σ ρ s H) : OkE C (avO ae os) σ ρ s H :=
  ⟨o.len, o.wo, fun a z => .inl (o.ad a z), fun a z => by rcases z with z | z; exact o.go.lv a (o.al a z); exact (o.ow a z).2, o.nc, o.sl⟩
theorem Ok.noch (o : Ok C E0 ae os σ ρ s H) {p : Addr} (h : p ∈ os) : ¬ C.Γ.ch p := fun e => o.al p (o.ad p e) (o.ow p h).1
theorem Ok.noae (o : Ok C E0 ae os σ ρ s H) {p : Addr} (h : p ∈ os) : ¬ ae p := fun e => o.al p e (o.ow p h).1
theorem Ok.step (o : Ok C E0 ae os σ ρ s H) (g : Go C.Γ H H') (d : Wo C.Γ H' s') : Ok C E0 ae os σ ρ s' H' :=
  have k : Kp (avO ae os) H H' := g.kp.mono fun a z => .inl (o.ad a z)
  ⟨o.go.trans g, o.len, d, o.ad, o.al, fun p h => ⟨(o.ow p h).1, g.lv p (o.ow p h).2⟩, fun a z => g.nc d (o.toE.al a z) (o.nc a z), o.sl.kp k, fun i x e => by
    obtain ⟨p, h1, h2, h3⟩ := o.own i x e
    exact ⟨p, h1, h2, h3.move (fun ob z => g.kp p ob (o.noch h2) z) fun vs ds r => r.kp k⟩, o.dis⟩
/-- a slot set to a value -/
theorem Ok.setV {v : V} {d : D} (o : Ok C E0 ae os σ ρ s H) (r : Rep C.K H (avO ae os) C.Γ v d) (i : Nat) : Ok C E0 ae os (σ.set i (some v)) (ρ.set i (.val d)) s H := by
  have gt : ∀ (j : Nat) (e : D), (ρ.set i (Sl.val d))[j]? = some (Sl.own e) → i ≠ j ∧ ρ[j]? = some (Sl.own e) := fun j e hj => by
    by_cases hji : i = j
    · subst hji
      by_cases hi : i < ρ.length
      · rw [List.getElem?_set_self hi] at hj
        cases hj
      · rw [List.getElem?_eq_none (by simpa using hi)] at hj
        cases hj
    · rw [List.getElem?_set_ne hji] at hj
      exact ⟨hji, hj⟩
  refine ⟨o.go, by simp [o.len], o.wo, o.ad, o.al, o.ow, o.nc, o.sl.set o.len r i, fun j e hj => ?_, fun j l e f p hn h1 h2 h3 => ?_⟩
  · obtain ⟨n, hj⟩ := gt j e hj
    obtain ⟨p, h1, h2, h3⟩ := o.own j e hj
    exact ⟨p, by rw [List.getElem?_set_ne n]; exact h1, h2, h3⟩
  · obtain ⟨n1, h1⟩ := gt j e h1
    obtain ⟨n2, h2⟩ := gt l f h2
    rw [List.getElem?_set_ne n1] at h3
    rw [List.getElem?_set_ne n2]
    exact o.dis j l e f p hn h1 h2 h3
theorem Ok.setMV : ∀ {is : List Nat} {vs : List V} {ds : List D} {σ : L2.St} {ρ : En}, Ok C E0 ae os σ ρ s H → RepAll C.K H (avO ae os) C.Γ vs ds → Ok C E0 ae os (DM.setM is (vs.map some) σ) (DM.setM is (vals ds) ρ) s H
  | [], vs, ds, σ, ρ, o, r => by simpa [DM.setM] using o
  | i :: is, _, [], σ, ρ, o, r => by cases r; simpa [DM.setM, vals] using o
  | i :: is, _, d :: ds, σ, ρ, o, r => by
    cases r with
    | cons a r => exact Ok.setMV (is := is) (o.setV a i) r
/-- one target -/
theorem Ok.tgt {tg : Tgt} {v : V} {d : D} {ρ' : En} {Q : L2.St → Hp → Prop} (o : Ok C E0 ae os σ ρ s H) (r : Rep C.K H (avO ae os) C.Γ v d) (e : tg.set ρ d = some ρ') (q : ∀ σ', Ok C E0 ae os σ' ρ' s H → Q σ' H) : gOf C.K tg v σ H Q :=
  tgt_run r o.len o.sl e fun vs ds hl ra hρ _ _ => q _ (by rw [hρ]; exact o.setMV ra)
/-- a new object of one's own -/
theorem Ok.setO {p : Addr} {ob : HO} {d : D} (o : Ok C E0 ae os σ ρ s H) (hp : H p = none) (ho : OwnAt C (upd H p ob) (avO ae (p :: os)) p d) (i : Nat) : Ok C E0 ae (p :: os) (σ.set i (some (.ref p))) (ρ.set i (.own d)) s (upd H p ob) := by
  have e0 : E0 p = none := by
    cases e : E0 p with
    | none => rfl
    | some ob' => exact absurd hp (o.go.lv p (by rw [e]; simp))
  have nw : ∀ a, avO ae (p :: os) a → avO ae os a ∨ H a = none := fun a z => by
    rcases z with z | z
    · exact .inl (.inl z)
    · rcases List.mem_cons.mp z with z | z
      · rw [z]; exact .inr hp
      · exact .inl (.inr z)
  have ne : ∀ {q : Addr}, H q ≠ none → q ≠ p := fun hq e => hq (by rw [e]; exact hp)
  have gt : ∀ (j : Nat) (e : D), i ≠ j → (ρ.set i (Sl.own d))[j]? = some (Sl.own e) → ρ[j]? = some (Sl.own e) := fun j e hji hj => by
    rw [List.getElem?_set_ne hji] at hj
    exact hj
  refine ⟨o.go.trans (.new hp), by simp [o.len], o.wo.new hp, o.ad, o.al, fun q hq => ?_, fun a z => ?_, ?_, fun j e hj => ?_, fun j l e f q hn h1 h2 h3 => ?_⟩
  · rcases List.mem_cons.mp hq with rfl | hq
    · exact ⟨e0, by rw [upd_same]; simp⟩
    · exact ⟨(o.ow q hq).1, Lv.upd q (o.ow q hq).2⟩
  · by_cases e : a = p
    · subst e
      obtain ⟨u, h1, h2⟩ := ho.noCode
      rw [h1]
      exact fun c q z => h2 c q (Option.some.inj z)
    · rw [upd_ne e]
      refine o.nc a ?_
      rcases z with z | z
      · exact .inl z
      · exact .inr ((List.mem_cons.mp z).resolve_left e)
  · exact ((o.sl.wd nw).kp (.new hp)).off i (fun _ z => by cases z) (fun _ z => by cases z) fun j hj => List.getElem?_set_ne hj
  · by_cases hji : i = j
    · subst hji
      by_cases hi : i < ρ.length
      · rw [List.getElem?_set_self hi] at hj
        cases hj
        exact ⟨p, by rw [List.getElem?_set_self (by rw [o.len]; exact hi)], List.mem_cons_self, ho⟩
      · rw [List.getElem?_eq_none (by simpa using hi)] at hj
        cases hj
    · rw [List.getElem?_set_ne hji] at hj ⊢
      obtain ⟨q, h1, h2, h3⟩ := o.own j e hj
      exact ⟨q, h1, List.mem_cons_of_mem _ h2, h3.move (fun ob z => by rw [upd_ne (ne h3.some)]; exact z) fun vs ds r => (r.wd nw).kp (.new hp)⟩
  · by_cases hj : i = j
    · subst hj
      have h2' := gt l f hn h2
      obtain ⟨q', h4, h5, h6⟩ := o.own l f h2'
      rw [List.getElem?_set_ne hn, h4]
      intro e
      cases e
      by_cases hi : i < ρ.length
      · rw [List.getElem?_set_self (by rw [o.len]; exact hi)] at h3
        cases h3
        exact h6.some hp
      · rw [List.getElem?_eq_none (by simpa using hi)] at h1
        cases h1
    · have h1' := gt j e hj h1
      by_cases hl : i = l
      · subst hl
        rw [List.getElem?_set_ne hj] at h3
        obtain ⟨q', h4, h5, h6⟩ := o.own j e h1'
        rw [h3] at h4
        cases h4
        by_cases hi : i < ρ.length
        · rw [List.getElem?_set_self (by rw [o.len]; exact hi)]
          intro e
          cases e
          exact h6.some hp
        · rw [List.getElem?_eq_none (by simpa using hi)] at h2
          cases h2
      · rw [List.getElem?_set_ne hj] at h3
        rw [List.getElem?_set_ne hl]
        exact o.dis j l e f q hn h1' (gt l f hl h2) h3
/-- an own object changed -/
theorem Ok.chg {p : Addr} {ob : HO} {d d' : D} {i : Nat} (o : Ok C E0 ae os σ ρ s H) (hi : ρ[i]? = some (Sl.own d)) (hσ : σ[i]? = some (some (.ref p))) (ho : OwnAt C (upd H p ob) (avO ae os) p d') : Ok C E0 ae os σ (ρ.set i (.own d')) s (upd H p ob) := by
  obtain ⟨p', h1, h2, h3⟩ := o.own i d hi
  rw [hσ] at h1
  cases h1
  have nd := o.noch h2
  have k : Kp (avO ae os) H (upd H p ob) := .upd (.inr h2)
  have hlt : i < ρ.length := by
    by_cases h : i < ρ.length
    · exact h
    · rw [List.getElem?_eq_none (by simpa using h)] at hi
      cases hi
  refine ⟨⟨fun a u n e => ?_, o.go.lv.trans .upd⟩, by simp [o.len], ?_, o.ad, o.al, fun q hq => ⟨(o.ow q hq).1, Lv.upd q (o.ow q hq).2⟩, fun a z => ?_, (o.sl.kp k).off i (fun _ z => by cases z) (fun _ z => by cases z) fun j hj => rfl, fun j e hj => ?_, fun j l e f q hn g1 g2 g3 => ?_⟩
  · rw [upd_ne (fun z => by rw [z, (o.ow p h2).1] at e; cases e)]
    exact o.go.kp a u n e
  · obtain ⟨ho', he1, he2⟩ := h3.noCode
    exact o.wo.own nd he1 he2
  · by_cases e : a = p
    · subst e
      obtain ⟨u, e1, e2⟩ := ho.noCode
      rw [e1]
      exact fun c q z => e2 c q (Option.some.inj z)
    · rw [upd_ne e]
      exact o.nc a z
  · by_cases hji : i = j
    · subst hji
      rw [List.getElem?_set_self hlt] at hj
      cases hj
      exact ⟨p, hσ, h2, ho⟩
    · rw [List.getElem?_set_ne hji] at hj
      obtain ⟨q, g1, g2, g3⟩ := o.own j e hj
      have hq : q ≠ p := fun z => o.dis i j d e p hji hi hj hσ (by rw [← z]; exact g1)
      exact ⟨q, g1, g2, g3.move (fun u z => by rw [upd_ne hq]; exact z) fun vs ds r => r.kp k⟩
  · have back : ∀ (m : Nat) (x : D), (ρ.set i (Sl.own d'))[m]? = some (Sl.own x) → ∃ y, ρ[m]? = some (Sl.own y) := fun m x hm => by
      by_cases hmi : i = m
      · subst hmi
        exact ⟨d, hi⟩
      · rw [List.getElem?_set_ne hmi] at hm
        exact ⟨x, hm⟩
    obtain ⟨e', g1⟩ := back j e g1
    obtain ⟨f', g2⟩ := back l f g2
    exact o.dis j l e' f' q hn g1 g2 g3
/-- no longer one's own -/
theorem Ok.share {d : D} {i : Nat} (o : Ok C E0 ae os σ ρ s H) (hi : ρ[i]? = some (Sl.own d)) : ∃ os', Ok C E0 ae os' σ (ρ.set i (.val d)) s H ∧ Fr ae os H os' H := by
  obtain ⟨p, h1, h2, h3⟩ := o.own i d hi
  have hlt : i < ρ.length := by
    by_cases h : i < ρ.length
    · exact h
    · rw [List.getElem?_eq_none (by simpa using h)] at hi
      cases hi
  have hm : ∀ q, q ∈ os.filter (fun q => decide (q ≠ p)) ↔ q ∈ os ∧ q ≠ p := fun q => by simp
  have nw : ∀ a, avO ae (os.filter fun q => decide (q ≠ p)) a → avO ae os a ∨ H a = none := fun a z => by
    rcases z with z | z
    · exact .inl (.inl z)
    · exact .inl (.inr ((hm a).mp z).1)
  refine ⟨os.filter fun q => decide (q ≠ p), ⟨o.go, by simp [o.len], o.wo, o.ad, o.al, fun q hq => o.ow q ((hm q).mp hq).1, fun a z => o.nc a (z.elim .inl fun z => .inr ((hm a).mp z).1), ?_, fun j e hj => ?_, fun j l e f q hn g1 g2 g3 => ?_⟩, ⟨.refl, fun q hq => .inl ((hm q).mp hq).1, .refl⟩⟩
  · have hset : σ.set i (some (.ref p)) = σ := by
      apply List.ext_getElem?
      intro j
      by_cases hj : i = j
      · subst hj
        rw [List.getElem?_set_self (by rw [o.len]; exact hlt), h1]
      · rw [List.getElem?_set_ne hj]
    have := (o.sl.wd nw).set (v := .ref p) (d := d) o.len (OwnAt.rep (h3.move (fun _ z => z) fun vs ds r => r.wd nw) fun z => by
      rcases z with z | z
      · exact o.noae h2 z
      · exact ((hm p).mp z).2 rfl) i
    rw [hset] at this
    exact this
  · by_cases hji : i = j
    · subst hji
      rw [List.getElem?_set_self hlt] at hj
      cases hj
    · rw [List.getElem?_set_ne hji] at hj
      obtain ⟨q, g1, g2, g3⟩ := o.own j e hj
      have hq : q ≠ p := fun z => o.dis i j d e p hji hi hj h1 (by rw [← z]; exact g1)
      exact ⟨q, g1, (hm q).mpr ⟨g2, hq⟩, g3.move (fun _ z => z) fun vs ds r => r.wd nw⟩
  · have back : ∀ (m : Nat) (x : D), (ρ.set i (Sl.val d))[m]? = some (Sl.own x) → ρ[m]? = some (Sl.own x) := fun m x hm => by
      by_cases hmi : i = m
      · subst hmi
        rw [List.getElem?_set_self hlt] at hm
        cases hm
      · rw [List.getElem?_set_ne hmi] at hm
        exact hm
    exact o.dis j l e f q hn (back j e g1) (back l f g2) g3
end
end DM
set_option Elab.async false
set_option linter.all false
set_option maxRecDepth 100000
set_option maxHeartbeats 2000000
namespace DM
open PySem L2 Lay NdefX LamX
inductive Res where
  | nx (ρ : En)
  | rt (d : D)
  | bk (ρ : En)
  | ct (ρ : En)
  | er (ρ : En) (x : Xn)
abbrev S := En → DS → Option (Res × DS)
def Post (C : Cc) (W : WX) (fr : Bool) (E0 : Hp) (ae : Av) (De : Ends) (os : List Addr) (H : Hp) (r : Res) (s' : DS) : Prop := match r with
  | .nx ρ' => ∀ os' σ' H', Ok C E0 ae os' σ' ρ' s' H' → Fr ae os H os' H' → De.nx σ' H'
  | .rt d => if fr = true then ∀ p H', Go C.Γ E0 H' → Wo C.Γ H' s' → E0 p = none → OwnAt C H' (avO ae [p]) p d → De.rt (.ref p) H' else ∀ v H', Go C.Γ E0 H' → Wo C.Γ H' s' → Rep C.K H' ae C.Γ v d → De.rt v H'
  | .bk ρ' => ∀ os' σ' H', Ok C E0 ae os' σ' ρ' s' H' → Fr ae os H os' H' → De.bk σ' H'
  | .ct ρ' => ∀ os' σ' H', Ok C E0 ae os' σ' ρ' s' H' → Fr ae os H os' H' → De.ct σ' H'
  | .er ρ' x => ∀ os' σ' H' cls dd, Ok C E0 ae os' σ' ρ' s' H' → Fr ae os H os' H' → RepX C H' (avO ae os') x cls dd → W cls dd σ' H'
theorem Post.fr {C : Cc} {W : WX} {fr : Bool} {E0 : Hp} {ae : Av} {De : Ends} {os os1 : List Addr} {H H1 : Hp} {r : Res} {s' : DS} (p : Post C W fr E0 ae De os H r s') (f : Fr ae os H os1 H1) : Post C W fr E0 ae De os1 H1 r s' := by
  cases r with
  | nx ρ' => exact fun os' σ' H' o g => p os' σ' H' o (f.trans g)
  | rt d => exact p
  | bk ρ' => exact fun os' σ' H' o g => p os' σ' H' o (f.trans g)
  | ct ρ' => exact fun os' σ' H' o g => p os' σ' H' o (f.trans g)
  | er ρ' x => exact fun os' σ' H' cls dd o g => p os' σ' H' cls dd o (f.trans g)
def SS (C : Cc) (W : WX) (fr : Bool) (t : TS) (m : S) : Prop := ∀ E0 ae os σ ρ s H r s' De, Ok C E0 ae os σ ρ s H → m ρ s = some (r, s') → Post C W fr E0 ae De os H r s' → t De σ H
/-- behind an expression: an error ends the statement -/
def bs {α : Type} (ρ : En) (x : Option (Except Xn α × DS)) (f : α → DS → Option (Res × DS)) : Option (Res × DS) := match x with
  | none => none
  | some (.error e, s) => some (.er ρ e, s)
  | some (.ok a, s) => f a s
section
variable {C : Cc} {W : WX} {fr : Bool} {α γ : Type} {R : RG α γ} {t : TG' γ} {m : En → M α}
theorem SG.bindS {E0 : Hp} {ae : Av} {De : Ends} {os : List Addr} {σ : L2.St} {ρ : En} {s s' : DS} {H : Hp} {r : Res} {f : α → DS → Option (Res × DS)} {Q : γ → Hp → Prop} (h : SG C W R t m) (o : Ok C E0 ae os σ ρ s H) (e : bs ρ (m ρ s) f = some (r, s')) (p : Post C W fr E0 ae De os H r s')
    (k : ∀ a s1 v H1, Go C.Γ H H1 → Ok C E0 ae os σ ρ s1 H1 → R H1 (avO ae os) v a → f a s1 = some (r, s') → Post C W fr E0 ae De os H1 r s' → Q v H1) : t σ H Q := by
  cases z : m ρ s with
  | none => rw [z] at e; cases e
  | some pr =>
    obtain ⟨a, s1⟩ := pr
    rw [z] at e
    cases a with
    | error x =>
      cases e
      exact h _ σ ρ s H _ _ Q o.toE z fun c dd H' g w rx => p os σ H' c dd (o.step g w) (g.fr o.ad) rx
    | ok a => exact h _ σ ρ s H _ _ Q o.toE z fun v H1 g w rv => k a s1 v H1 g (o.step g w) rv e (p.fr (g.fr o.ad))
end
/-! ### what is new: an object of one's own -/
def FinF (C : Cc) (W : WX) (av : Av) (σ : L2.St) (H : Hp) (s' : DS) (Q : VK) : Except Xn D → Prop
  | .ok d => ∀ p H', Go C.Γ H H' → Wo C.Γ H' s' → H p = none → OwnAt C H' (avO av [p]) p d → Q (.ref p) H'
  | .error x => ∀ cls dd H', Go C.Γ H H' → Wo C.Γ H' s' → RepX C H' av x cls dd → W cls dd σ H'
def SF (C : Cc) (W : WX) (t : TE) (m : En → M D) : Prop := ∀ av σ ρ s H r s' (Q : VK), OkE C av σ ρ s H → m ρ s = some (r, s') → FinF C W av σ H s' Q r → t σ H Q
section
variable {C : Cc} {W : WX} {fr : Bool} {t : TE} {m : En → M D}
theorem OwnAt.of {H : Hp} {av av2 : Av} {p : Addr} {d : D} (h : OwnAt C H av p d) (f : ∀ a, av2 a → av a ∨ H a = none) : OwnAt C H av2 p d := h.move (fun _ z => z) fun vs ds r => r.wd f
theorem Lv.back {H H' : Hp} {p : Addr} (l : Lv H H') (h : H' p = none) : H p = none := by
  cases e : H p with
  | none => rfl
  | some o => exact absurd h (l p (by rw [e]; simp))
theorem SF.se (h : SF C W t m) : SE C W t m := by
  intro av σ ρ s H r s' Q o e q
  refine h av σ ρ s H r s' Q o e ?_
  cases r with
  | error x => exact q
  | ok d => exact fun p H' g w n ow => q (.ref p) H' g w ((ow.of fun a z => .inl (.inl z)).rep fun z => o.al p z n)
theorem SF.bindS {E0 : Hp} {ae : Av} {De : Ends} {os : List Addr} {σ : L2.St} {ρ : En} {s s' : DS} {H : Hp} {r : Res} {f : D → DS → Option (Res × DS)} {Q : VK} (h : SF C W t m) (o : Ok C E0 ae os σ ρ s H) (e : bs ρ (m ρ s) f = some (r, s')) (p : Post C W fr E0 ae De os H r s')
    (k : ∀ a s1 b H1, Go C.Γ H H1 → Ok C E0 ae os σ ρ s1 H1 → H b = none → OwnAt C H1 (avO (avO ae os) [b]) b a → f a s1 = some (r, s') → Post C W fr E0 ae De os H1 r s' → Q (.ref b) H1) : t σ H Q := by
  cases z : m ρ s with
  | none => rw [z] at e; cases e
  | some pr =>
    obtain ⟨a, s1⟩ := pr
    rw [z] at e
    cases a with
    | error x =>
      cases e
      exact h _ σ ρ s H _ _ Q o.toE z fun c dd H' g w rx => p os σ H' c dd (o.step g w) (g.fr o.ad) rx
    | ok a => exact h _ σ ρ s H _ _ Q o.toE z fun b H1 g w n ow => k a s1 b H1 g (o.step g w) n ow e (p.fr (g.fr o.ad))
end
/-! ### the plain functions of statements -/
def sSet (tg : Tgt) (e : En → M D) : S := fun ρ s => bs ρ (e ρ s) fun x s1 => (tg.set ρ x).map fun ρ' => (.nx ρ', s1)
def sSeq (a b : S) : S := fun ρ s => (a ρ s).bind fun x => match x.1 with
  | .nx ρ' => b ρ' x.2
  | r => some (r, x.2)
def sIf (c : En → M Bool) (a b : S) : S := fun ρ s => bs ρ (c ρ s) fun x s1 => if x = true then a ρ s1 else b ρ s1
def sRet (e : En → M D) : S := fun ρ s => bs ρ (e ρ s) fun x s1 => some (.rt x, s1)
def sRetN : S := fun _ s => some (.rt .non, s)
def sRetO (i : Nat) : S := fun ρ s => match ρ[i]? with
  | some (Sl.own d) => some (.rt d, s)
  | _ => none
def sNext : S := fun ρ s => some (.nx ρ, s)
def sDrop (e : En → M D) : S := fun ρ s => bs ρ (e ρ s) fun _ s1 => some (.nx ρ, s1)
def sOwn (i : Nat) (e : En → M D) : S := fun ρ s => bs ρ (e ρ s) fun x s1 => some (.nx (ρ.set i (.own x)), s1)
def shr (i : Nat) (ρ : En) : En := match ρ[i]? with
  | some (Sl.own d) => ρ.set i (.val d)
  | _ => ρ
def sShare (i : Nat) (m : S) : S := fun ρ s => m (shr i ρ) s
/-- an own slot is only looked at -/
def sIfP (i : Nat) (c : En → M Bool) (a b : S) : S := fun ρ s => okx (c (shr i ρ) s) fun x s1 => if x = true then a ρ s1 else b ρ s1
def sAppend (i : Nat) (e : En → M D) : S := fun ρ s => match ρ[i]? with
  | some (Sl.own (.lst ds)) => bs ρ (e ρ s) fun x s1 => if ds.length < line then some (.nx (ρ.set i (.own (.lst (ds ++ [x])))), s1) else none
  | _ => none
def sExt (i : Nat) (e : En → M D) : S := fun ρ s => match ρ[i]? with
  | some (Sl.own (.lst ds)) => bs ρ (e ρ s) fun x s1 => match x with
    | .lst es => if ds.length + es.length ≤ line then some (.nx (ρ.set i (.own (.lst (ds ++ es)))), s1) else none
    | _ => none
  | _ => none
/-- a dict of texts, one more or another -/
def putD (ks : List Str) (ds : List D) (x : Str) (d : D) : List Str × List D := if ks.any (fun k => decide (k = x)) then (ks, List.zipWith (fun k v => if k = x then d else v) ks ds) else (ks ++ [x], ds ++ [d])
def sPut (i : Nat) (k v : En → M D) : S := fun ρ s => bs ρ (v ρ s) fun x s1 => match ρ[i]? with
  | some (Sl.own (.dic ks ds)) => bs ρ (k ρ s1) fun y s2 => match y with
    | .str z => if ks.length < line then some (.nx (ρ.set i (.own (.dic (putD ks ds z x).1 (putD ks ds z x).2))), s2) else none
    | _ => none
  | _ => none
def forGo (tg : Tgt) (b : S) : List D → S
  | [], ρ, s => some (.nx ρ, s)
  | d :: ds, ρ, s => (tg.set ρ d).bind fun ρ1 => (b ρ1 s).bind fun x => match x.1 with
    | .nx ρ' => forGo tg b ds ρ' x.2
    | .ct ρ' => forGo tg b ds ρ' x.2
    | .bk ρ' => some (.nx ρ', x.2)
    | r => some (r, x.2)
def sFor (tg : Tgt) (mi : En → M (List D)) (b : S) : S := fun ρ s => bs ρ (mi ρ s) fun x s1 => forGo tg b x ρ s1
section
variable {C : Cc} {W : WX} {fr : Bool} {te : TE} {me : En → M D} {t u : TS} {m n : S} {c : TT} {mc : En → M Bool} {ta : TA} {ms : En → M (List D)}
theorem ss_set {tg : Tgt} (he : SE C W te me) : SS C W fr (tAsg te (gOf C.K tg)) (sSet tg me) := by
  intro E0 ae os σ ρ s H r s' De o e p
  refine he.bindS o e p fun x s1 v H1 g1 o1 r1 e p => ?_
  obtain ⟨ρ', e2, e3⟩ := mapE e
  cases e3
  exact o1.tgt r1 e2 fun σ' o' => p os σ' H1 o' .refl
theorem ss_seq (h1 : SS C W fr t m) (h2 : SS C W fr u n) : SS C W fr (tSeq t u) (sSeq m n) := by
  intro E0 ae os σ ρ s H r s' De o e p
  obtain ⟨⟨x, s1⟩, e1, e⟩ := bindE e
  refine h1 E0 ae os σ ρ s H x s1 _ o e1 ?_
  cases x with
  | nx ρ' => exact fun os' σ' H' o' f => h2 E0 ae os' σ' ρ' s1 H' r s' De o' e (p.fr f)
  | rt d => cases e; exact p
  | bk d => cases e; exact p
  | ct d => cases e; exact p
  | er d x => cases e; exact p
theorem ss_if (hc : ST C W c mc) (h1 : SS C W fr t m) (h2 : SS C W fr u n) : SS C W fr (tIfS c t u) (sIf mc m n) := by
  intro E0 ae os σ ρ s H r s' De o e p
  refine hc.bindS o e p fun b s1 v H1 g1 o1 r1 e p => ?_
  cases r1
  cases b with
  | true =>
    rw [if_pos rfl] at e ⊢
    exact h1 E0 ae os σ ρ s1 H1 r s' De o1 e p
  | false =>
    rw [if_neg (by simp)] at e ⊢
    exact h2 E0 ae os σ ρ s1 H1 r s' De o1 e p
theorem ss_ret (he : SE C W te me) : SS C W false (tRet te) (sRet me) := by
  intro E0 ae os σ ρ s H r s' De o e p
  refine he.bindS o e p fun x s1 v H1 g1 o1 r1 e p => ?_
  cases e
  exact p v H1 o1.go o1.wo (Rep.wd r1 fun a z => .inl (.inl z))
theorem ss_retF (he : SF C W te me) : SS C W true (tRet te) (sRet me) := by
  intro E0 ae os σ ρ s H r s' De o e p
  refine he.bindS o e p fun x s1 b H1 g1 o1 n ow e p => ?_
  cases e
  exact p b H1 o1.go o1.wo (o.go.lv.back n) (ow.of fun a z => by
    rcases z with z | z
    · exact .inl (.inl (.inl z))
    · exact .inl (.inr z))
theorem ss_retN : SS C W false tRetN sRetN := by
  intro E0 ae os σ ρ s H r s' De o e p
  cases e
  exact p .non H o.go o.wo .non
theorem ss_retO {i : Nat} : SS C W fr (tRet (tVar i)) (sRetO i) := by
  intro E0 ae os σ ρ s H r s' De o e p
  unfold sRetO at e
  split at e
  · rename_i d hd
    cases e
    obtain ⟨q, h1, h2, h3⟩ := o.own i _ hd
    have hq := (o.ow q h2).1
    refine ⟨.ref q, h1, ?_⟩
    have h4 : OwnAt C H (avO ae [q]) q d := h3.of fun a z => by
      rcases z with z | z
      · exact .inl (.inl z)
      · rw [List.mem_singleton] at z
        rw [z]
        exact .inl (.inr h2)
    cases fr with
    | true => exact p q H o.go o.wo hq h4
    | false => exact p _ H o.go o.wo ((h3.of fun a z => .inl (.inl z)).rep (o.noae h2))
  · cases e
theorem ss_next : SS C W fr tNext sNext := by
  intro E0 ae os σ ρ s H r s' De o e p
  cases e
  exact p os σ H o .refl
theorem ss_drop (he : SE C W te me) : SS C W fr (tDrop te) (sDrop me) := by
  intro E0 ae os σ ρ s H r s' De o e p
  refine he.bindS o e p fun x s1 v H1 g1 o1 r1 e p => ?_
  cases e
  exact p os σ H1 o1 .refl
theorem ss_share {i : Nat} (h : SS C W fr t m) : SS C W fr t (sShare i m) := by
  intro E0 ae os σ ρ s H r s' De o e p
  unfold sShare shr at e
  split at e
  · rename_i d hd
    obtain ⟨os', o', f⟩ := o.share hd
    exact h E0 ae os' σ _ s H r s' De o' e (p.fr f)
  · exact h E0 ae os σ ρ s H r s' De o e p
end
end DM
set_option Elab.async false
set_option linter.all false
set_option maxRecDepth 100000
set_option maxHeartbeats 2000000
namespace DM
open PySem L2 Lay NdefX LamX
section
variable {C : Cc} {W : WX} {fr : Bool} {te : TE} {me : En → M D} {t u : TS} {m n : S} {c : TT} {mc : En → M Bool} {ta : TA} {ms : En → M (List D)}
theorem Ok.setOwn {E0 : Hp} {ae : Av} {os : List Addr} {σ : L2.St} {ρ : En} {s : DS} {H H1 : Hp} {p : Addr} {d : D} (o : Ok C E0 ae os σ ρ s H1) (g : Go C.Γ H H1) (o0 : Go C.Γ E0 H) (hal : ∀ p ∈ os, H p ≠ none) (hp : H p = none) (ho : OwnAt C H1 (avO (avO ae os) [p]) p d) (sl0 : SlotsOk C H (avO ae os) σ ρ)
    (own0 : ∀ (i : Nat) (d : D), ρ[i]? = some (Sl.own d) → ∃ p, σ[i]? = some (some (.ref p)) ∧ p ∈ os ∧ OwnAt C H (avO ae os) p d) (i : Nat) : Ok C E0 ae (p :: os) (σ.set i (some (.ref p))) (ρ.set i (.own d)) s H1 ∧ Fr ae os H (p :: os) H1 := by
  have eq : ∀ a, avO ae (p :: os) a ↔ avO (avO ae os) [p] a := fun a => by
    unfold avO
    rw [List.mem_cons, List.mem_singleton]
    constructor
    · rintro (z | z | z)
      · exact .inl (.inl z)
      · exact .inr z
      · exact .inl (.inr z)
    · rintro ((z | z) | z)
      · exact .inl z
      · exact .inr (.inr z)
      · exact .inr (.inl z)
  have ho' : OwnAt C H1 (avO ae (p :: os)) p d := ho.of fun a z => .inl ((eq a).mp z)
  have nw : ∀ a, avO ae (p :: os) a → avO ae os a ∨ H a = none := fun a z => by
    rcases (eq a).mp z with z | z
    · exact .inl z
    · rw [List.mem_singleton] at z; rw [z]; exact .inr hp
  have k1 : Kp (avO ae (p :: os)) H H1 := g.kp.mono fun a z => .inl (o.ad a z)
  have np : p ∉ os := fun z => hal p z hp
  have ne : ∀ {q : Addr}, q ∈ os → q ≠ p := fun hq e => np (by rw [← e]; exact hq)
  have gt : ∀ (j : Nat) (e : D), i ≠ j → (ρ.set i (Sl.own d))[j]? = some (Sl.own e) → ρ[j]? = some (Sl.own e) := fun j e hji hj => by
    rw [List.getElem?_set_ne hji] at hj
    exact hj
  refine ⟨⟨o.go, by simp [o.len], o.wo, o.ad, o.al, fun q hq => ?_, fun a z => ?_, ?_, fun j e hj => ?_, fun j l e f q hn h1 h2 h3 => ?_⟩, ⟨g.kp.mono fun a z => .inl (o.ad a z), fun q hq => ?_, g.lv⟩⟩
  · rcases List.mem_cons.mp hq with rfl | hq
    · exact ⟨o0.lv.back hp, ho.some⟩
    · exact o.ow q hq
  · rcases (eq a).mp z with z | z
    · exact o.nc a z
    · rw [List.mem_singleton] at z
      subst z
      obtain ⟨u, e1, e2⟩ := ho.noCode
      rw [e1]
      exact fun c q z => e2 c q (Option.some.inj z)
  · exact ((sl0.wd nw).kp k1).off i (fun _ z => by cases z) (fun _ z => by cases z) fun j hj => List.getElem?_set_ne hj
  · by_cases hji : i = j
    · subst hji
      by_cases hi : i < ρ.length
      · rw [List.getElem?_set_self hi] at hj
        cases hj
        exact ⟨p, by rw [List.getElem?_set_self (by rw [o.len]; exact hi)], List.mem_cons_self, ho'⟩
      · rw [List.getElem?_eq_none (by simpa using hi)] at hj
        cases hj
    · rw [List.getElem?_set_ne hji] at hj ⊢
      obtain ⟨q, h1, h2, h3⟩ := own0 j e hj
      exact ⟨q, h1, List.mem_cons_of_mem _ h2, h3.move (fun ob z => g.kp q ob (o.noch h2) z) fun vs ds r => (r.wd nw).kp k1⟩
  · by_cases hj : i = j
    · subst hj
      have h2' := gt l f hn h2
      obtain ⟨q', h4, h5, h6⟩ := o.own l f h2'
      rw [List.getElem?_set_ne hn, h4]
      intro e
      cases e
      by_cases hi : i < ρ.length
      · rw [List.getElem?_set_self (by rw [o.len]; exact hi)] at h3
        cases h3
        exact np h5
      · rw [List.getElem?_eq_none (by simpa using hi)] at h1
        cases h1
    · have h1' := gt j e hj h1
      by_cases hl : i = l
      · subst hl
        rw [List.getElem?_set_ne hj] at h3
        obtain ⟨q', h4, h5, h6⟩ := o.own j e h1'
        rw [h3] at h4
        cases h4
        by_cases hi : i < ρ.length
        · rw [List.getElem?_set_self (by rw [o.len]; exact hi)]
          intro e
          cases e
          exact np h5
        · rw [List.getElem?_eq_none (by simpa using hi)] at h2
          cases h2
      · rw [List.getElem?_set_ne hj] at h3
        rw [List.getElem?_set_ne hl]
        exact o.dis j l e f q hn h1' (gt l f hl h2) h3
  · rcases List.mem_cons.mp hq with rfl | hq
    · exact .inr hp
    · exact .inl hq
theorem ss_own {i : Nat} (he : SF C W te me) : SS C W fr (tAsg te (gName i)) (sOwn i me) := by
  intro E0 ae os σ ρ s H r s' De o e p
  refine he.bindS o e p fun x s1 b H1 g1 o1 n ow e p1 => ?_
  cases e
  obtain ⟨o2, f2⟩ := o1.setOwn g1 o.go (fun q hq => (o.ow q hq).2) n ow o.sl o.own i
  exact p (b :: os) _ H1 o2 f2
theorem ss_ifP {i : Nat} (hc : ST C W c mc) (h1 : SS C W fr t m) (h2 : SS C W fr u n) : SS C W fr (tIfS c t u) (sIfP i mc m n) := by
  intro E0 ae os σ ρ s H r s' De o e p
  have key : ∃ av, OkE C av σ (shr i ρ) s H := by
    unfold shr
    split
    · rename_i d hd
      obtain ⟨os', o', f⟩ := o.share hd
      exact ⟨_, o'.toE⟩
    · exact ⟨_, o.toE⟩
  obtain ⟨av, oe⟩ := key
  obtain ⟨b, s1, z, e⟩ := okx_some e
  refine hc av σ _ s H _ _ _ oe z fun v H1 g w rv => ?_
  cases rv
  have o1 := o.step g w
  have p1 := p.fr (g.fr (os := os) o.ad)
  cases b with
  | true =>
    rw [if_pos rfl] at e ⊢
    exact h1 E0 ae os σ ρ s1 H1 r s' De o1 e p1
  | false =>
    rw [if_neg (by simp)] at e ⊢
    exact h2 E0 ae os σ ρ s1 H1 r s' De o1 e p1
theorem ss_append {i : Nat} (he : SE C W te me) : SS C W fr (tDrop (tBM C.K "list" rAppend (tVar i) (tCons te tNil))) (sAppend i me) := by
  intro E0 ae os σ ρ s H r s' De o e p
  unfold sAppend at e
  split at e
  · rename_i ds hd
    obtain ⟨q, h1, h2, vs, h3, h4⟩ := o.own i _ hd
    refine ⟨.ref q, h1, .inl ⟨rfl, vs, SqL.of h3⟩, ?_⟩
    refine he.bindS o e p fun x s1 v H1 g1 o1 r1 e p => ?_
    split at e
    · rename_i hl
      cases e
      obtain ⟨q', h1', h2', vs', h3', h4'⟩ := o1.own i _ hd
      rw [h1] at h1'
      cases h1'
      exact ⟨q, vs', v, rfl, rfl, h3', line_lt (by rw [h4'.len]; omega), p os σ _ (o1.chg hd h1 ⟨_, upd_same, (h4'.snoc r1).kp (.upd (.inr h2))⟩) ⟨.upd (.inr h2), fun _ z => .inl z, .upd⟩⟩
    · cases e
  · cases e
theorem ss_ext {i : Nat} (he : SE C W te me) : SS C W fr (tAug i te rExt2) (sExt i me) := by
  intro E0 ae os σ ρ s H r s' De o e p
  unfold sExt at e
  split at e
  · rename_i ds hd
    obtain ⟨q, h1, h2, vs, h3, h4⟩ := o.own i _ hd
    refine ⟨.ref q, h1, ?_⟩
    refine he.bindS o e p fun x s1 v H1 g1 o1 r1 e p => ?_
    cases x <;> try (exact nomatch (show (none : Option (Res × DS)) = some (r, s') from e))
    dsimp only at e
    split at e
    · rename_i es hl
      cases e
      obtain ⟨q', h1', h2', vs', h3', h4'⟩ := o1.own i _ hd
      rw [h1] at h1'
      cases h1'
      obtain ⟨b, ws, rfl, nb, hb, rb⟩ := Rep.lst_at r1
      have hset : σ.set i (some (.ref q)) = σ := by
        apply List.ext_getElem?
        intro j
        by_cases hj : i = j
        · subst hj
          have hlt : i < σ.length := by
            by_cases h : i < σ.length
            · exact h
            · rw [List.getElem?_eq_none (by simpa using h)] at h1
              cases h1
          rw [List.getElem?_set_self hlt, h1]
        · rw [List.getElem?_set_ne hj]
      refine ⟨q, b, vs', ws, rfl, rfl, h3', hb, line_le (by rw [h4'.len, rb.len]; exact hl), ?_⟩
      show De.nx (σ.set i (some (.ref q))) _
      rw [hset]
      exact p os σ _ (o1.chg hd h1 ⟨_, upd_same, (h4'.append rb).kp (.upd (.inr h2))⟩) ⟨.upd (.inr h2), fun _ z => .inl z, .upd⟩
    · cases e
  · cases e
theorem zipK_any {z : Str} : ∀ {ks : List Str} {vs : List V}, ks.length = vs.length → (zipK ks vs).any (fun kv => decide (kv.1 = Sum.inr z)) = ks.any fun k => decide (k = z)
  | [], [], _ => rfl
  | [], _ :: _, h => by simp at h
  | _ :: _, [], h => by simp at h
  | k :: ks, v :: vs, h => by
    have ih := zipK_any (z := z) (ks := ks) (vs := vs) (by simpa using h)
    unfold zipK at ih ⊢
    rw [List.zipWith_cons_cons, List.any_cons, List.any_cons, ih]
    simp
theorem zipK_put {H : Hp} {av : Av} {v : V} {d : D} {z : Str} (rv : Rep C.K H av C.Γ v d) : ∀ {ks : List Str} {vs : List V} {ds : List D}, ks.length = ds.length → RepAll C.K H av C.Γ vs ds →
    ∃ ws, (zipK ks vs).map (fun kv => if kv.1 = Sum.inr z then (kv.1, v) else kv) = zipK ks ws ∧ RepAll C.K H av C.Γ ws (List.zipWith (fun k x => if k = z then d else x) ks ds)
  | [], _, _, _, _ => ⟨[], rfl, .nil⟩
  | k :: ks, _, [], h, _ => by simp at h
  | k :: ks, _, x :: ds, h, r => by
    cases r with
    | @cons u us _ _ a r =>
      obtain ⟨ws, h1, h2⟩ := zipK_put (z := z) rv (ks := ks) (by simpa using h) r
      by_cases hk : k = z
      · refine ⟨v :: ws, ?_, ?_⟩
        · unfold zipK at h1 ⊢
          rw [List.zipWith_cons_cons, List.map_cons, h1, List.zipWith_cons_cons]
          simp [hk]
        · rw [List.zipWith_cons_cons, if_pos hk]
          exact .cons rv h2
      · refine ⟨u :: ws, ?_, ?_⟩
        · unfold zipK at h1 ⊢
          rw [List.zipWith_cons_cons, List.map_cons, h1, List.zipWith_cons_cons]
          simp [hk]
        · rw [List.zipWith_cons_cons, if_neg hk]
          exact .cons a h2
theorem putK_zip {H : Hp} {av : Av} {v : V} {d : D} {z : Str} {ks : List Str} {vs : List V} {ds : List D} (hl : ks.length = ds.length) (r : RepAll C.K H av C.Γ vs ds) (rv : Rep C.K H av C.Γ v d) :
    ∃ ws, putK (zipK ks vs) (Sum.inr z) v = zipK (putD ks ds z d).1 ws ∧ RepAll C.K H av C.Γ ws (putD ks ds z d).2 ∧ (putD ks ds z d).1.length = (putD ks ds z d).2.length := by
  unfold putK putD
  rw [zipK_any (by rw [hl, r.len])]
  by_cases h : (ks.any fun k => decide (k = z)) = true
  · rw [if_pos h, if_pos h]
    obtain ⟨ws, h1, h2⟩ := zipK_put (z := z) rv hl r
    exact ⟨ws, h1, h2, by simp [hl]⟩
  · rw [if_neg h, if_neg h]
    refine ⟨vs ++ [v], ?_, r.snoc rv, by simp [hl]⟩
    unfold zipK
    rw [List.zipWith_append (by rw [hl, r.len])]
    rfl
theorem ss_put {i : Nat} {tk tv : TE} {mk mv : En → M D} (hk : SE C W tk mk) (hv : SE C W tv mv) : SS C W fr (sDPut (tVar i) tk tv) (sPut i mk mv) := by
  intro E0 ae os σ ρ s H r s' De o e p
  refine hv.bindS o e p fun x s1 v H1 g1 o1 r1 e p => ?_
  split at e
  · rename_i ks ds hd
    obtain ⟨q, h1, h2, vs, h3, h4⟩ := o1.own i _ hd
    refine ⟨.ref q, h1, ?_⟩
    refine hk.bindS o1 e p fun y s2 w H2 g2 o2 r2 e p => ?_
    cases y <;> try (exact nomatch (show (none : Option (Res × DS)) = some (r, s') from e))
    dsimp only at e
    split at e
    · rename_i z hl
      cases e
      obtain ⟨q', h1', h2', vs', h3', h4', h5'⟩ := o2.own i _ hd
      rw [h1] at h1'
      cases h1'
      have r1' := Rep.kp r1 (g2.kp.ch o1.toE.ad)
      obtain ⟨ws, hw1, hw2, hw3⟩ := putK_zip (z := z) h4' h5' r1'
      have hzl : (zipK ks vs').length < sizeLine := by
        unfold zipK
        rw [List.length_zipWith]
        exact line_lt (by omega)
      refine ⟨q, _, rfl, .inl ⟨zipK ks vs', .inr z, h3', Rep.str_eq r2, hzl, rfl⟩, ?_⟩
      rw [hw1]
      exact p os σ _ (o2.chg hd h1 ⟨ws, upd_same, hw3, hw2.kp (.upd (.inr h2))⟩) ⟨.upd (.inr h2), fun _ z => .inl z, .upd⟩
    · cases e
  · cases e
theorem ss_for {tg : Tgt} {wi : TI} {mi : En → M (List D)} (hi : SI C W wi mi) (hb : SS C W fr t m) : SS C W fr (tFor wi (gOf C.K tg) t) (sFor tg mi m) := by
  intro E0 ae os σ ρ s H r s' De o e p
  refine hi.bindS o e p fun ds s1 J H1 g1 o1 it e p1 => ?_
  obtain ⟨G, Y, w, it⟩ := it
  have far : ∀ {osc : List Addr} {σc : L2.St} {ρc : En} {sc : DS} {Hc : Hp}, Ok C E0 ae osc σc ρc sc Hc → Fr ae os H1 osc Hc → Far (avO ae os) H1 (fun a => avO ae os a ∨ avO ae osc a) Hc := fun oc fc =>
    ⟨fun a z => by
      rcases z with z | z | z
      · exact .inl z
      · exact .inl (.inl z)
      · rcases fc.nw a z with z | z
        · exact .inl (.inr z)
        · exact .inr z, fun a z => .inl z, fc.kp.mono fun a z => .inl z, fun a z => by
      rcases z with z | z
      · exact fc.lv a (o1.toE.al a z)
      · exact oc.toE.al a z⟩
  refine for_it w (Pv := fun i σc Hc => ∃ osc ρc sc, Ok C E0 ae osc σc ρc sc Hc ∧ Fr ae os H1 osc Hc ∧ forGo tg m (ds.drop i) ρc sc = some (r, s')) ⟨os, ρ, s1, o1, .refl, e⟩ ?_ ?_ ?_
  · rintro i σc Hc _ ⟨osc, ρc, sc, oc, fc, _⟩
    exact (it _ Hc (far oc fc)).1
  · rintro i x σc Hc H' hi' ⟨osc, ρc, sc, oc, fc, eg⟩ y
    obtain ⟨hH, d0, hd0, rx⟩ := (it _ Hc (far oc fc)).2 i x H' hi' y
    have rx' : Rep C.K H' (avO ae osc) C.Γ x d0 := rx.wd fun a z => .inl (.inr z)
    have hdrop : ds.drop i = d0 :: ds.drop (i + 1) := by
      rw [List.drop_eq_getElem_cons hi']
      rw [List.getElem?_eq_getElem hi'] at hd0
      cases hd0
      rfl
    rw [hdrop] at eg
    unfold forGo at eg
    obtain ⟨ρ1, et, eg⟩ := bindE eg
    obtain ⟨⟨b, s3⟩, eb, eg⟩ := bindE eg
    have step : Go C.Γ Hc H' ∧ Wo C.Γ H' sc := by
      rcases hH with rfl | ⟨T, ob, hT, rfl⟩
      · exact ⟨.refl, oc.wo⟩
      · exact ⟨.new hT, oc.wo.new hT⟩
    have fc' : Fr ae os H1 osc H' := fc.trans (step.1.fr o.ad)
    refine (oc.step step.1 step.2).tgt rx' et fun σ' o' => ?_
    refine hb E0 ae osc σ' ρ1 sc H' b s3 _ o' eb ?_
    cases b with
    | nx ρ' => exact fun os2 σ2 H2 o2 f2 => ⟨os2, ρ', s3, o2, fc'.trans f2, eg⟩
    | ct ρ' => exact fun os2 σ2 H2 o2 f2 => ⟨os2, ρ', s3, o2, fc'.trans f2, eg⟩
    | bk ρ' =>
      cases eg
      exact fun os2 σ2 H2 o2 f2 => p1 os2 σ2 H2 o2 (fc'.trans f2)
    | rt d =>
      cases eg
      exact p1
    | er ρ' x =>
      cases eg
      exact fun os2 σ2 H2 cls dd o2 f2 => p1 os2 σ2 H2 cls dd o2 (fc'.trans f2)
  · rintro σc Hc ⟨osc, ρc, sc, oc, fc, eg⟩
    rw [List.drop_length] at eg
    cases eg
    exact p1 osc σc Hc oc fc
end
end DM
set_option Elab.async false
set_option linter.all false
set_option maxRecDepth 100000
set_option maxHeartbeats 2000000
namespace DM
open PySem L2 Lay NdefX LamX
/-! ### expressions that tell what is new -/
def DoneF (C : Cc) (av : Av) (s : DS) (H : Hp) (d : D) (Q : VK) : Prop := ∀ p H', Go C.Γ H H' → Wo C.Γ H' s → H p = none → OwnAt C H' (avO av [p]) p d → Q (.ref p) H'
def OpF (C : Cc) (r : R2) (f : D → D → Option D) : Prop := ∀ av s H x y a b c Q, At C av s H → Rep C.K H av C.Γ x a → Rep C.K H av C.Γ y b → f a b = some c → DoneF C av s H c Q → r x y H Q
def CbF (C : Cc) (r : List V → Hp → VK → Prop) (f : List D → Option D) : Prop := ∀ av s H vs ds c Q, At C av s H → RepAll C.K H av C.Γ vs ds → f ds = some c → DoneF C av s H c Q → r vs H Q
section
variable {C : Cc} {W : WX} {ta tb te : TE} {ma mb me : En → M D} {ts : TA} {ms : En → M (List D)}
theorem FinF.go {av : Av} {σ : L2.St} {H H1 : Hp} {s' : DS} {Q : VK} {r : Except Xn D} (h : FinF C W av σ H s' Q r) (g : Go C.Γ H H1) : FinF C W av σ H1 s' Q r := by
  cases r with
  | ok a => exact fun p H' g' d n o => h p H' (g.trans g') d (g.lv.back n) o
  | error x => exact fun c d H' g' w r => h c d H' (g.trans g') w r
theorem SG.bindF {α γ : Type} {R : RG α γ} {t : TG' γ} {m : En → M α} {av : Av} {σ : L2.St} {ρ : En} {s s' : DS} {H : Hp} {r : Except Xn D} {f : α → DS → Option (Except Xn D × DS)} {Q : γ → Hp → Prop} {Q' : VK} (h : SG C W R t m) (o : OkE C av σ ρ s H) (e : bx (m ρ s) f = some (r, s')) (q : FinF C W av σ H s' Q' r)
    (k : ∀ a s1 v H1, Go C.Γ H H1 → OkE C av σ ρ s1 H1 → R H1 av v a → f a s1 = some (r, s') → FinF C W av σ H1 s' Q' r → Q v H1) : t σ H Q := by
  cases z : m ρ s with
  | none => rw [z] at e; cases e
  | some p =>
    obtain ⟨a, s1⟩ := p
    rw [z] at e
    cases a with
    | error x =>
      cases e
      exact h av σ ρ s H _ _ Q o z fun c dd H' g w rx => q c dd H' g w rx
    | ok a => exact h av σ ρ s H _ _ Q o z fun v H1 g w rv => k a s1 v H1 g (o.step g w) rv e (q.go g)
theorem FinF.done {av : Av} {σ : L2.St} {H : Hp} {s : DS} {Q : VK} {d : D} (q : FinF C W av σ H s Q (.ok d)) : DoneF C av s H d Q := q
theorem nw1 {av : Av} {H : Hp} {p : Addr} (h : H p = none) : ∀ a, avO av [p] a → av a ∨ H a = none := fun a z => by
  rcases z with z | z
  · exact .inl z
  · rw [List.mem_singleton] at z; rw [z]; exact .inr h
theorem DoneF.newL {av : Av} {p : Addr} {s : DS} {H : Hp} {vs : List V} {ds : List D} {Q : VK} (q : DoneF C av s H (.lst ds) Q) (a : At C av s H) (h : H p = none) (r : RepAll C.K H av C.Γ vs ds) : Q (.ref p) (upd H p (.lst vs)) :=
  q p _ (.new h) (a.wo.new h) h ⟨vs, upd_same, (r.wd (nw1 h)).kp (.new h)⟩
theorem DoneF.newD {av : Av} {p : Addr} {s : DS} {H : Hp} {ks : List Str} {vs : List V} {ds : List D} {Q : VK} (q : DoneF C av s H (.dic ks ds) Q) (a : At C av s H) (h : H p = none) (hl : ks.length = ds.length) (r : RepAll C.K H av C.Γ vs ds) : Q (.ref p) (upd H p (.dK (zipK ks vs))) :=
  q p _ (.new h) (a.wo.new h) h ⟨vs, upd_same, hl, (r.wd (nw1 h)).kp (.new h)⟩
theorem sf_lst (hs : SA C W ts ms) : SF C W (tLst ts) (eLst ms) := by
  intro av σ ρ s H r s' Q o e q
  refine hs.bindF o e q fun x s1 vs H1 g1 o1 r1 e q => ?_
  obtain ⟨z, e3, rfl, rfl⟩ := ox_some e
  obtain ⟨hl, rfl⟩ := mkL_some e3
  exact ⟨line_le (by rw [RepAll.len r1]; exact hl), fun p hp => q.done.newL o1.at_ hp r1⟩
theorem sf_dic : SF C W tDNewK (eC (.dic [] [])) := by
  intro av σ ρ s H r s' Q o e q
  cases e
  exact fun p hp => FinF.done q |>.newD o.at_ hp rfl .nil
theorem sf_op {r : R2} {f : D → D → Option D} (hr : OpF C r f) (ha : SE C W ta ma) (hb : SE C W tb mb) : SF C W (tOp r ta tb) (eOp f ma mb) := by
  intro av σ ρ s H r' s' Q o e q
  refine ha.bindF o e q fun x s1 v H1 g1 o1 r1 e q => ?_
  refine hb.bindF o1 e q fun y s2 w H2 g2 o2 r2 e q => ?_
  obtain ⟨z, e3, rfl, rfl⟩ := ox_some e
  exact hr av _ H2 v w x y _ Q o2.at_ (Rep.kp r1 (g2.kp.ch o.ad)) r2 e3 q.done
theorem sf_cb {r : List V → Hp → VK → Prop} {f : List D → Option D} (hr : CbF C r f) (hs : SA C W ts ms) : SF C W (tCB r ts) (eCB f ms) := by
  intro av σ ρ s H r' s' Q o e q
  refine hs.bindF o e q fun x s1 vs H1 g1 o1 r1 e q => ?_
  obtain ⟨z, e3, rfl, rfl⟩ := ox_some e
  exact hr av _ H1 vs x _ Q o1.at_ r1 e3 q.done
theorem of_cat : OpF C rCat oCat := by
  intro av s H x y a b z Q o ra rb e q
  cases a <;> cases b <;> simp [oCat] at e
  obtain ⟨e1, rfl⟩ := e
  obtain ⟨p, vs, rfl, n, h1, r1⟩ := ra.lst_at
  obtain ⟨p2, ws, rfl, n2, h2, r2⟩ := rb.lst_at
  exact ⟨p, p2, vs, ws, rfl, rfl, h1, h2, line_le (by rw [r1.len, r2.len]; exact e1), fun l hl => q.newL o hl (r1.append r2)⟩
theorem sf_lc {tg : Tgt} {wi : TI} {mi : En → M (List D)} {tt : TT} {mt : En → M Bool} (hi : SI C W wi mi) (ht : ST C wF tt mt) (he : SE C wF te me) : SF C W (tLc wi (gOf C.K tg) tt te tg.slots) (eLc tg mi mt me) := by
  intro av σ ρ s H rr s' Q o e q
  refine hi.bindF o e q fun ds s1 J H1 g1 o1 it e q => fun A hA => ?_
  obtain ⟨res, s2, e2, e⟩ := okx_some e
  obtain ⟨z, e3, rfl, rfl⟩ := ox_some e
  obtain ⟨hl, rfl⟩ := mkL_some e3
  obtain ⟨G, Y, w, it⟩ := it
  have nA : ¬ av A := fun z => o1.al A z hA
  have nd : ∀ {a}, C.Γ.ch a → A ≠ a := fun z e => nA (by rw [e]; exact o.ad _ z)
  have ncA : ¬ C.Γ.ch A := fun z => nd z rfl
  let av2 : Av := fun a => av a ∨ a = A
  let cA : Av := fun a => C.Γ.ch a ∨ a = A
  have sub : ∀ a, av a → av2 a := fun a z => .inl z
  have nw : ∀ a, av2 a → av a ∨ H1 a = none := fun a z => by
    rcases z with z | z
    · exact .inl z
    · rw [z]; exact .inr hA
  have cs : ∀ a, cA a → av2 a := fun a z => z.elim (fun z => .inl (o.ad a z)) .inr
  have far : ∀ Hc, Kp cA H1 Hc → Lv H1 Hc → Hc A ≠ none → Far av H1 av2 Hc := fun Hc k l hc =>
    ⟨nw, sub, k.mono cs, fun a z => by
      rcases z with z | z
      · exact l a (o1.al a z)
      · rw [z]; exact hc⟩
  refine lc_it w (Pv := fun i Hc => ∃ acc ds0 si r, Kp cA H1 Hc ∧ Lv H1 Hc ∧ Wo C.Γ Hc si ∧ Hc A = some (.lst acc) ∧ RepAll C.K Hc av2 C.Γ acc ds0 ∧ lcGo tg mt me (wipeE ρ tg.slots) (ds.drop i) si = some (.ok r, s') ∧ ds0 ++ r = res) ?_ ?_ ?_ ?_
  · exact ⟨[], [], s1, res, .new hA, .upd, o1.wo.new hA, upd_same, .nil, e2, rfl⟩
  · rintro i Hc _ ⟨acc, ds0, si, r, k, l, _, hc, _⟩
    exact (it av2 Hc (far Hc k l (by rw [hc]; simp))).1
  · rintro i x Hc H' hi' ⟨acc, ds0, si, r, k, l, dd, hc, ra, eg, er⟩ y
    have f := far Hc k l (by rw [hc]; simp)
    obtain ⟨hH, d0, hd0, rx⟩ := (it av2 Hc f).2 i x H' hi' y
    have hdrop : ds.drop i = d0 :: ds.drop (i + 1) := by
      rw [List.drop_eq_getElem_cons hi']
      rw [List.getElem?_eq_getElem hi'] at hd0
      cases hd0
      rfl
    rw [hdrop] at eg
    unfold lcGo at eg
    obtain ⟨ρ1, et, eg⟩ := bindE eg
    obtain ⟨b, s3, eb, eg⟩ := bx_ok eg
    have step : Go C.Γ Hc H' := by
      rcases hH with rfl | ⟨T, ob, hT, rfl⟩
      · exact .refl
      · exact .new hT
    have dd' : Wo C.Γ H' si := by
      rcases hH with rfl | ⟨T, ob, hT, rfl⟩
      · exact dd
      · exact dd.new hT
    have k' : Kp cA H1 H' := k.trans (step.kp.mono fun a z => .inl z)
    have l' : Lv H1 H' := l.trans step.lv
    have hc' : H' A = some (.lst acc) := step.kp A _ ncA hc
    have f' := far H' k' l' (by rw [hc']; simp)
    have ad2 : ∀ a, C.Γ.ch a → av2 a := fun a z => .inl (o.ad a z)
    have hs0 : SlotsOk C H' av2 (L2.wipe σ tg.slots) (wipeE ρ tg.slots) := ((SlotsOk.wipe o1.sl tg.slots).wd nw).kp f'.kp
    refine tgt_run rx (by rw [wipe_length, wipeE_len, o.len]) hs0 et fun vs dsv hvl rvs hρ hlen hs => ⟨wipe_setM σ tg.slots _, ?_⟩
    have ok : OkE C av2 (DM.setM tg.slots (vs.map some) (L2.wipe σ tg.slots)) ρ1 si H' := by
     refine ⟨by rw [setM_len]; exact hlen, dd', ad2, f'.al, fun a z => ?_, hs⟩
     by_cases e : a = A
     · rw [e, hc']
       intro c q z
       cases z
     · have z := z.resolve_right e
       by_cases hh : C.Γ.ch a
       · exact dd'.nc hh
       · cases e1 : H1 a with
         | none => exact absurd e1 (o1.al a z)
         | some u =>
           rw [k' a u (fun z => z.elim hh e) e1, ← e1]
           exact o1.nc a z
    refine ht av2 _ ρ1 si H' (.ok b) s3 _ ok eb fun b' H3 g3 d3 hb => ?_
    cases hb
    have ok3 := ok.step g3 d3
    have hc3 : H3 A = some (.lst acc) := g3.kp A _ ncA hc'
    have ra3 : RepAll C.K H3 av2 C.Γ acc ds0 := (ra.kp (step.kp.mono ad2)).kp (g3.kp.mono ad2)
    have k3 : Kp cA H1 H3 := k'.trans (g3.kp.mono fun a z => .inl z)
    cases b with
    | false =>
      rw [if_neg (by simp)] at eg ⊢
      exact ⟨acc, ds0, s3, r, k3, l'.trans g3.lv, d3, hc3, ra3, eg, er⟩
    | true =>
      rw [if_pos rfl] at eg ⊢
      obtain ⟨yv, s4, ey, eg⟩ := bx_ok eg
      obtain ⟨r', s5, e5, e6⟩ := bx_ok eg
      cases e6
      refine he av2 _ ρ1 s3 H3 (.ok yv) s4 _ ok3 ey fun v H4 g4 d4 r4 => ?_
      have hc4 : H4 A = some (.lst acc) := g4.kp A _ ncA hc3
      have ra4 : RepAll C.K H4 av2 C.Γ acc ds0 := ra3.kp (g4.kp.mono ad2)
      have hlen4 : acc.length ≤ line := by
        rw [ra4.len]
        rw [← er, List.length_append] at hl
        omega
      have ku : Kp av2 H4 (upd H4 A (.lst (acc ++ [v]))) := .upd (.inr rfl)
      refine ⟨acc, hc4, line_lt hlen4, acc ++ [v], ds0 ++ [yv], s4, r', (k3.trans (g4.kp.mono fun a z => .inl z)).trans (.upd (.inr rfl)), ((l'.trans g3.lv).trans g4.lv).trans .upd, d4.own ncA hc4 (fun _ _ z => by cases z), upd_same, (ra4.snoc r4).kp ku, e5, ?_⟩
      rw [← er]
      simp
  · rintro Hc ⟨acc, ds0, si, r, k, l, dd, hc, ra, eg, er⟩
    rw [List.drop_length] at eg
    cases eg
    rw [List.append_nil] at er
    subst er
    refine q A Hc ⟨fun a ob n h => k a ob (fun z => ?_) h, l⟩ dd hA ⟨acc, hc, ra.wd fun a z => .inl ?_⟩
    · rcases z with z | z
      · exact n z
      · rw [z, hA] at h
        cases h
    · rcases z with z | z
      · exact .inl z
      · exact .inr (List.mem_singleton.mp z)
theorem se_lc {tg : Tgt} {wi : TI} {mi : En → M (List D)} {tt : TT} {mt : En → M Bool} (hi : SI C W wi mi) (ht : ST C wF tt mt) (he : SE C wF te me) : SE C W (tLc wi (gOf C.K tg) tt te tg.slots) (eLc tg mi mt me) := (sf_lc hi ht he).se
end
end DM
set_option Elab.async false
set_option linter.all false
set_option maxRecDepth 100000
set_option maxHeartbeats 2000000
/-! Defs called where no text of an object is under way: the promise FnG, its making, the law's call, repr and str of data. -/
namespace GD
open PySem PySem.Spec PyProof.Rows L2
/-- as FnOk, for calls around which no repr is under way -/
structure FnG (P : Program) (w : World) (K : PySem.W.Frag) (mg : Str → Option Value) (base : Heap) (CX : CXT) (k : Nat) (f : Addr) (fd : FuncData) (ps : List Str) (sp : Sp) : Prop where
  lens : ∀ vs H Q E, sp vs H Q E → vs.length = ps.length
  runs : ∀ (A : Around) (o : List Env) (s : Shared) (H : Hp) (ar : Args) (us : List Value) (vs : List V) (Q : VK) (E : XK), A.guards = some [] → Room k A →
    Env0 P w K mg base A o s H → BindsTo s fd ar (ps.zip us) → Vals vs us → sp vs H Q E → codeAny (model P w) A (.call (.ref f) ar) (CR CX o P w H s Q E) s
section
variable {P : Program} {w : World} {K : PySem.W.Frag} {mg : Str → Option Value} {base : Heap} {CX : CXT} {k : Nat} {f : Addr} {fd : FuncData} {ps : List Str} {sp : Sp}
theorem FnG.of (F : FnOk P w K mg base CX k f fd ps sp) : FnG P w K mg base CX k f fd ps sp := ⟨F.len, fun A o s H ar us vs Q E _ hr e b r h => F.run A o s H ar us vs Q E hr e b r h⟩
theorem FnG.mono {j : Nat} (F : FnG P w K mg base CX j f fd ps sp) (h : j ≤ k) : FnG P w K mg base CX k f fd ps sp := ⟨F.lens, fun A o s H ar us vs Q E g hr => F.runs A o s H ar us vs Q E g (hr.mono h)⟩
/-- the making: from the body's walk, which may use that nothing is under way -/
theorem Fun.okG {x qual : Str} {st : Stmt} {N : List Str} (F : Fun K x qual st f fd) (S : FnScope N ps (defScope st)) (len : ∀ vs H Q E, sp vs H Q E → vs.length = ps.length)
    (hbody : ∀ (cdv : Value) (A : Around) (o : List Env) (s : Shared) (H : Hp) (vs : List V) (Q : VK) (E : XK), fd.code = cdv → A.guards = some [] → Room k (A.deeper (envOfC qual (defScope st) s.heap.objs.size f cdv)) → sp vs H Q E →
      ∃ t, PSs (cxOf CX P w K mg base N qual (defScope st) f cdv A o s H E) (defBody st) t ∧ t { nx := fun _ H' => Q .non H', rt := Q } (start N vs) H) : FnG P w K mg base CX (k + 1) f fd ps sp := by
  obtain ⟨oc, od, kV, doc, pm, an, cdv, ct, osl, rfl, lk, hcd⟩ := F.ex
  refine ⟨len, fun A o s H ar us vs Q E g hr e0 hb r hq => ?_⟩
  have hw : ∀ b ob, base.get? b = some ob → s.heap.get? b = some ob := fun b ob z => (e0.bs b ob z).1
  have inK := e0.mod.kin.keeps hw
  have noLim := e0.mod.nolimit.keeps hw
  have kinds : ∀ y ∈ ps.zip us, (defScope st).names.lookup y.1 = some .local ∨
      ((defScope st).names.lookup y.1 = some .cell ∧ ((cellsFrom (s.heap.objs.size + 1) (defScope st).names []).lookup y.1).isSome = true) := by
    intro y hy
    have hp := S.par y.1 (List.of_mem_zip (a := y.1) (b := y.2) hy).1
    rcases hp with z | z
    · exact Or.inl z
    · exact Or.inr ⟨z, PySem.W.cellsFrom_some _ _ _ (Or.inl z)⟩
  have go : ∀ bd : BindsTo s (PySem.W.fnOf x qual (defArgs st) (defBody st) (defScope st) .none kV doc pm an cdv ct) ar (ps.zip us),
      codeAny (model P w) A (.call (.ref f) ar) (CR CX o P w H s Q E) s := by
    intro bd
    refine codeAny_call_function hr.depth (inK _ _ lk) rfl S.co S.gen rfl
      (PySem.W.codeRec_of inK hcd) (bd _ _ _ _ ?_)
    refine wpAny_newFunctionEnv_cells S.kind kinds fun ev hev s2 z => ?_
    subst hev
    refine ⟨noLim.keeps z.toInCall.keep, codeAny_func ?_⟩
    obtain ⟨t, ht, hv⟩ := hbody cdv A o s H vs Q E rfl g (hr.deeper _) hq
    have J0 := inv_start (CX := CX) (E := E) S hr.hd e0 (len _ _ _ _ hq) r z
    refine wpAny_mono (ht.run [] s2 (start N vs) H _ J0 hv) (fun fl s' hs => ?_) fun _ _ q => q
    cases fl with
    | ret u => exact let ⟨v, σ', H', J, rv, q⟩ := hs; ⟨v, H', J.os, J.bare, J.base, J.hok, rv, q⟩
    | next => exact let ⟨σ', H', J, q⟩ := hs; ⟨V.non, H', J.os, J.bare, J.base, J.hok, rfl, q⟩
    | brk => exact (let ⟨_, _, _, q⟩ := hs; q.elim)
    | cont => exact (let ⟨_, _, _, q⟩ := hs; q.elim)
  exact go hb
end
/-- the law's own call, by such a promise: the script is read alone, all else stays -/
theorem law_callG {P : Program} {w : World} {K : PySem.W.Frag} {mg mb : Str → Option Value} {k : Nat} {fa a : Addr} {fd : FuncData} {x : Str} {sp : Sp} {s1 : Shared} {vs : List Value} {ns : List Int}
    (KX : K.In s1.heap) (hns : s1.heap.Ns mainGlobals mg) (hb : s1.heap.Ns builtinsNs mb) (hbb : ∀ x : Str, x ≠ "__name__" → mb x = bootBuiltins x)
    (hlim : s1.heap.NoLimit) (hgen : s1.gens = #[]) (ha : s1.heap.get? a = some { cls := .type "list", data := .seq vs.toArray }) (hi : IntsAre vs ns) (hl : ns.length ≤ sizeLine)
    (hr : Room k callerA) (F : ∀ base : Heap, K.In base → base.Ns mainGlobals mg → FnG P w K mg base CX0 k fa fd [x] sp)
    (hbind : ∀ (s : Shared) (u : Value), BindsTo s fd ⟨[u], []⟩ [(x, u)])
    (hsp : ∀ H : Hp, Only H → SqL K H a (ns.map V.int) → sp [.ref a] H (fun v _ => v = .bl true) fun _ _ _ => False) :
    codeAny (model P w) callerA (.call (.ref fa) ⟨[.ref a], []⟩)
      (fun r s' => r = .ok (.ret (.bool true)) ∧ OldK s1.heap s'.heap ∧ s'.os = s1.os ∧ AllBare s'.gens) s1 := by
  have rv := vals_ints hi
  -- what is tracked is the script alone, and locked
  have main : ∀ H : Hp, Only H → SqL K H a (ns.map V.int) → HOk P w H s1.heap → (∀ b, H b ≠ none → b = a) → (H a ≠ none → K.lookup a = none) →
      codeAny (model P w) callerA (.call (.ref fa) ⟨[.ref a], []⟩)
        (fun r s' => r = .ok (.ret (.bool true)) ∧ OldK s1.heap s'.heap ∧ s'.os = s1.os ∧ AllBare s'.gens) s1 := by
    intro H only sq hok isA noK
    have free : ∀ {b : Addr}, b ≠ a → H b = none := fun {b} hb' => by
      cases z : H b with
      | none => rfl
      | some u => exact absurd (isA b (by rw [z]; exact Option.some_ne_none _)) hb'
    have dictFree : ∀ {b : Addr} {ob : Obj} {es : Array DictEntry} {ep : Nat}, s1.heap.get? b = some ob → ob.data = .dict es ep → H b = none := by
      intro b ob es ep e d
      refine free fun z => ?_
      rw [z, ha] at e
      cases e
      cases d
    have ns2 : ∀ {b : Addr} {m : Str → Option Value}, s1.heap.Ns b m → (hidT s1.heap H).Ns b m := by
      rintro b m ⟨ob, es, ep, e, d, rr⟩
      exact ⟨ob, es, ep, hidT_get e (dictFree e d), d, rr⟩
    have inB : K.In (hidT s1.heap H) := by
      intro b ob e
      refine hidT_get (KX b ob e) ?_
      cases z : H b with
      | none => rfl
      | some u =>
        have hba := isA b (by rw [z]; exact Option.some_ne_none _)
        subst hba
        have := noK (by rw [z]; exact Option.some_ne_none _)
        rw [this] at e
        cases e
    obtain ⟨mc, l1, l2⟩ := hlim
    have hM : Mod K mg (hidT s1.heap H) := ⟨inB, ns2 hns, ⟨mb, ns2 hb, hbb⟩, ⟨mc, ns2 l1, l2⟩⟩
    have e0 : Env0 P w K mg (hidT s1.heap H) callerA [] s1 H := by
      refine ⟨rfl, hM, fun b ob e => of_hidT e, Nat.le_of_eq (hidT_size _ _), trivial, ?_, hok, .of_eq hgen⟩
      intro b hb'
      exact absurd hb' (List.not_mem_nil (a := b))
    have run := (F _ inB (ns2 hns)).runs callerA [] s1 H ⟨[.ref a], []⟩ [.ref a] [.ref a] _ _ rfl hr e0
      (hbind s1 (.ref a)) (.cons rfl .nil) (hsp H only sq)
    refine codeAny_mono run fun r s' h => ?_
    rcases r with e | fl
    · exact h.elim
    rcases fl with _ | _ | _ | u
    any_goals exact h.elim
    all_goals
      obtain ⟨v, H', os, bare, un, hok', r', q⟩ := h
      have q : v = .bl true := q
      subst q
      cases r'
      refine ⟨rfl, OldK.of_keep fun b ob e => ?_, os, bare⟩
      rcases only b with z | ⟨o2, xs, z⟩
      · exact un.keep b ob e z (fun m => absurd m (List.not_mem_nil (a := b))) (List.not_mem_nil (a := b))
      · have z2 := un.frzs b o2 _ z
        have g1 := (hok b _ z).1
        have g2 := (hok' b _ z2).1
        rw [e] at g1
        cases g1
        exact g2
  cases hk : K.lookup a with
  | some ob =>
    have e := (KX a ob hk).symm.trans ha
    cases e
    refine main (fun _ => none) (fun _ => .inl rfl) (.inr ⟨_, vs.toArray, _, hk, rfl, rfl, rfl, ?_, by simpa using rv⟩) ?_ ?_ ?_
    · rw [List.size_toArray, hi.length]
      exact hl
    · intro b u z
      cases z
    · intro b z
      exact absurd rfl z
    · intro z
      exact absurd rfl z
  | none =>
    have at_ : ∀ {b : Addr} {u : HO}, upd (fun _ => none) a (.frz { cls := .type "list", data := .seq vs.toArray } (.lst (ns.map V.int))) b = some u →
        b = a ∧ u = .frz { cls := .type "list", data := .seq vs.toArray } (.lst (ns.map V.int)) := by
      intro b u z
      by_cases hb' : b = a
      · subst hb'
        rw [upd_same] at z
        exact ⟨rfl, (Option.some.inj z).symm⟩
      · rw [upd_ne hb'] at z
        cases z
    refine main (upd (fun _ => none) a (.frz { cls := .type "list", data := .seq vs.toArray } (.lst (ns.map V.int)))) ?_ (.inl (.inr ⟨_, upd_same⟩)) ?_ ?_ fun _ => hk
    · intro b
      cases z : upd (fun _ => none) a (.frz { cls := .type "list", data := .seq vs.toArray } (.lst (ns.map V.int))) b with
      | none => exact .inl rfl
      | some u =>
        obtain ⟨_, rfl⟩ := at_ z
        exact .inr ⟨_, _, rfl⟩
    · intro b u z
      obtain ⟨rfl, rfl⟩ := at_ z
      exact ⟨ha, by rw [List.length_map]; exact hl, vs, _, rv, ha⟩
    · intro b z
      cases e : upd (fun _ => none) a (.frz { cls := .type "list", data := .seq vs.toArray } (.lst (ns.map V.int))) b with
      | none => exact absurd e z
      | some u => exact (at_ e).1
theorem walk_ofG {l : PySem.W.OpenLaw} {n k : Nat} {q : Program} {loose : List Str} {XP : (Str → Option Value) → Heap → Prop} {YP : World → Heap → Prop} {d : DefRec} {K : Params → PySem.W.Frag} {sp : World → Sp} {x : Str}
    (hn : l.most = some n) (hn2 : n ≤ sizeLine) (hdf : d.params.defaults = []) (hr : Room k callerA) (hY : ∀ (w : World) (h : Heap), YP w h → (K w.params).In h)
    (F : ∀ (w : World) (mg : Str → Option Value) (fa : Addr) (h : Heap), (K w.params).In h → h.Ns mainGlobals mg → mg d.name = some (.ref fa) → ∃ fd : FuncData,
      (∀ (s : Shared) (u : Value), BindsTo s fd ⟨[u], []⟩ [(x, u)]) ∧ ∀ base : Heap, (K w.params).In base → base.Ns mainGlobals mg → FnG l.prog w (K w.params) mg base CX0 k fa fd [x] (sp w))
    (hsp : ∀ (w : World) (H : Hp) (a : Addr) (ns : List Int), ns.length ≤ n → Only H → SqL (K w.params) H a (ns.map V.int) → sp w [.ref a] H (fun v _ => v = .bl true) fun _ _ _ => False) :
    PySem.W.WalkO q loose XP YP l.row.toRowW d [] (fun f vs => PySem.call f vs) := by
  refine Att.attach_call hn hdf fun w s0 s1 mg mb fa ob pm cd doc a vs ns G Y _ _ _ hmg hobj hints hlen hgen => ?_
  obtain ⟨fd, hbd, hF⟩ := F w mg fa _ (hY w _ Y) G.T.g hmg
  exact law_callG (hY w _ Y) G.T.g G.T.b G.T.builtins G.T.nolimit hgen hobj hints (Nat.le_trans hlen hn2) hr hF hbd fun H hO hS => hsp w H a ns hlen hO hS
theorem deeper_guards {A : Around} {e : Env} (h : A.guards = some []) : (A.deeper e).guards = some [] := h
/-! ### repr and str of data -/
section
variable {X : Cx} {k : Nat}
mutual
theorem dp_noDict {K : PySem.W.Frag} {H : Hp} : ∀ (d : PyData) (v : V), Dp K H v d → d.hasDict = false
  | .none, _, _ => rfl
  | .bool _, _, _ => rfl
  | .int _, _, _ => rfl
  | .str _, _, _ => rfl
  | .dict _, _, h => by cases h
  | .list ds, _, h => by
    cases h with
    | lst _ r => simpa [PyData.hasDict] using dp_noDicts ds _ r
  | .tuple ds, _, h => by
    cases h with
    | tup _ r => simpa [PyData.hasDict] using dp_noDicts ds _ r
theorem dp_noDicts {K : PySem.W.Frag} {H : Hp} : ∀ (ds : List PyData) (vs : List V), DpAll K H vs ds → PyData.hasDictAll ds = false
  | [], _, _ => rfl
  | d :: ds, _, h => by
    cases h with
    | cons a r => simp [PyData.hasDictAll, dp_noDict d _ a, dp_noDicts ds _ r]
end
/-- what repr asks of data that is a list or a tuple -/
def rRepr (K : PySem.W.Frag) : List V → Hp → VK → Prop := fun xs H Q => ∃ a d, xs = [.ref a] ∧ Dp K H (.ref a) d ∧ d.showable = true ∧ d.depth ≤ 60 ∧ d.shown.length ≤ sizeLine ∧ Q (.str d.shown) H
theorem call_reprD (hg : X.A.guards = some []) (hr : Room k X.A) : CallR X (.builtin "repr") (rRepr X.K) := by
  intro pins s σ H xs us Q I r h
  obtain ⟨a, d, rfl, hd, hs, hdep, hsz, q⟩ := h
  obtain ⟨u, rfl, ru⟩ := vals1 r
  cases ru
  obtain ⟨as, rd⟩ := Dp.reads I d (.ref a) (.ref a) hd rfl
  have hu := hr.un
  exact repr_of_reads' rd hs (fun z => absurd z (by rw [dp_noDict d _ hd]; simp)) hg (by omega) (fun _ _ z => z) (fun h' t tk hk => ⟨.str _, H, I.kept hk, ⟨_, rfl⟩, q⟩) hsz
theorem call_strD (hg : X.A.guards = some []) (hr : Room k X.A) : CallR X (.type "str") (rRepr X.K) := by
  intro pins s σ H xs us Q I r h
  obtain ⟨a, d, rfl, hd, hs, hdep, hsz, q⟩ := h
  obtain ⟨u, rfl, ru⟩ := vals1 r
  cases ru
  obtain ⟨as, rd⟩ := Dp.reads I d (.ref a) (.ref a) hd rfl
  have hu := hr.un
  exact str_of_reads rd hs (fun z => absurd z (by rw [dp_noDict d _ hd]; simp)) hg (by omega) (fun _ _ z => z) (fun h' t tk hk => ⟨.str _, H, I.kept hk, ⟨_, rfl⟩, q⟩) hsz
end
end GD
set_option Elab.async false
set_option linter.all false
set_option maxRecDepth 100000
set_option maxHeartbeats 2000000
namespace DM
open PySem PySem.Spec PyProof.Rows L2 Lay NdefX LamX GD
/-! ### defs: the promise, the call -/
def cb (K : PySem.W.Frag) (Γ : Wc) : Cc := ⟨K, Γ, fun _ _ _ => .lst [], fun _ => ""⟩
theorem At.b {C : Cc} {av : Av} {s : DS} {H : Hp} (a : At C av s H) : At (cb C.K C.Γ) av s H := ⟨a.wo, a.ad, a.al, a.nc⟩
theorem At.ub {C : Cc} {av : Av} {s : DS} {H : Hp} (a : At (cb C.K C.Γ) av s H) : At C av s H := ⟨a.wo, a.ad, a.al, a.nc⟩
theorem OwnAt.ub {C C' : Cc} {H : Hp} {av : Av} {p : Addr} {d : D} (hk : C.K = C'.K) (hg : C.Γ = C'.Γ) (h : OwnAt C H av p d) : OwnAt C' H av p d := by
  cases C; cases C'
  cases hk; cases hg
  cases d <;> exact h
def FinC (K : PySem.W.Frag) (Γ : Wc) (fr : Bool) (av : Av) (H : Hp) (s' : DS) (Q : VK) (E : XK) : Except Xn D → Prop
  | .ok d => if fr = true then DoneF (cb K Γ) av s' H d Q else Done (cb K Γ) av s' H d Q
  | .error x => ∀ cls dd H', Go Γ H H' → Wo Γ H' s' → RepX (cb K Γ) H' av x cls dd → E cls dd H'
def spF (K : PySem.W.Frag) (Γ : Wc) (fr : Bool) (n : Nat) (F : List D → M D) : Sp := fun vs H Q E => ∃ av s ds r s', At (cb K Γ) av s H ∧ RepAll K H av Γ vs ds ∧ ds.length = n ∧ F ds s = some (r, s') ∧ FinC K Γ fr av H s' Q E r
def eCallN (n : Nat) (F : List D → M D) (a : En → M (List D)) : En → M D := fun ρ s => bx (a ρ s) fun x s1 => if x.length = n then F x s1 else none
section
variable {C : Cc} {W : WX} {ts : TA} {ms : En → M (List D)}
theorem sf_call {n : Nat} {F : List D → M D} (hs : SA C W ts ms) : SF C W (tCallS (spF C.K C.Γ true n F) (WE W) ts) (eCallN n F ms) := by
  intro av σ ρ s H r s' Q o e q
  refine hs.bindF o e q fun x s1 vs H1 g1 o1 r1 e q => ?_
  split at e
  · rename_i hl
    refine ⟨av, s1, x, r, s', o1.at_.b, r1, hl, e, ?_⟩
    cases r with
    | ok d => exact fun p H' g w n ow => q p H' g w n (ow.ub rfl rfl)
    | error x => exact fun cls dd H' g w rx => q cls dd H' g w rx
  · cases e
theorem se_call {fr : Bool} {n : Nat} {F : List D → M D} (hs : SA C W ts ms) : SE C W (tCallS (spF C.K C.Γ fr n F) (WE W) ts) (eCallN n F ms) := by
  cases fr with
  | true => exact (sf_call hs).se
  | false =>
    intro av σ ρ s H r s' Q o e q
    refine hs.bind o e q fun x s1 vs H1 g1 o1 r1 e q => ?_
    split at e
    · rename_i hl
      refine ⟨av, s1, x, r, s', o1.at_.b, r1, hl, e, ?_⟩
      cases r with
      | ok d => exact fun v H' g w rv => q v H' g w rv
      | error x => exact fun cls dd H' g w rx => q cls dd H' g w rx
    · cases e
end
/-! ### the rule of the call, where nothing is under way -/
section
variable {X : Cx} {CX : CXT} {k : Nat} {f : Addr} {fd : FuncData} {ps : List Str} {sp : Sp} {E : L2.St → XK} {x : Str} {p pos : Pos} {e : Expr} {es : List Expr} {t : TA}
theorem run_fnG {pins : List (Addr × Obj)} {σ : L2.St} {H : Hp} {s : Shared} {Q : VK} {us : List Value} {vs : List V} (F : FnG X.prog X.w X.K X.mg X.base CX k f fd ps sp) (hg : X.A.guards = some []) (hr : Room k X.A) (hb : Binds X.K fd ps []) (hx : PassesAt CX X σ (E σ))
    (I : Inv X pins σ H s) (r : Vals vs us) (h : sp vs H Q (E σ)) : wpAny (model X.prog X.w) X.A (call (.ref f) us) (EP X pins σ Q) X.xe s := by
  have hl : us.length = ps.length := r.length ▸ F.lens _ _ _ _ h
  have b := hb s us I.kIn (by rw [List.append_nil]; exact hl)
  rw [List.append_nil] at b
  refine wpAny_call (codeAny_mono (F.runs X.A X.stack s H ⟨us, []⟩ us vs Q (E σ) hg hr I.env0 b r h) fun r s' hq => ?_)
  match r, hq with
  | .error e, hq => exact hx pins H s e s' I hq
  | .ok (.ret u), hq => exact I.after hq
  | .ok .next, hq => exact False.elim hq
  | .ok .brk, hq => exact False.elim hq
  | .ok .cont, hq => exact False.elim hq
theorem pe_callG (F : FnG X.prog X.w X.K X.mg X.base CX k f fd ps sp) (hg : X.A.guards = some []) (hr : Room k X.A) (hgl : Gl X x) (hm : X.mg x = some (.ref f)) (hk : PySem.W.keepIn X.K (.ref f) = true) (hb : Binds X.K fd ps []) (hx : ∀ σ, PassesAt CX X σ (E σ))
    (ha : PA X (e :: es) t) (hdb : (x == ("__debug__" : Str)) = false := by decide) (he : starEach (e :: es) X.env = (false, eval e X.env) :: starEach es X.env := by rfl) (hpl : (backTo pos (starEach es X.env)).any (·.1) = false := by rfl) :
    PE X (.Call (.Name x p) (e :: es) [] pos) (tCallS sp E t) := by
  refine ⟨fun pins s σ H Q I h => ?_⟩
  refine wpAny_Call_Name_kw (ld_glob I hgl hm ?_ hdb)
  refine PySem.W.callWith_K (h₀ := X.base) I.ok.mod.kin hk (thn (ha.run pos pins s σ H _ I h) fun us s1 ⟨vs, H1, I1, r, q⟩ => ⟨I1.kIn, ?_⟩) he hpl
  exact run_fnG F hg hr hb (hx σ) I1 r q
end
/-! ### the making -/
def env0 (n : Nat) (ds : List D) : En := vals ds ++ List.replicate (n - ds.length) .no
/-- a def that tells a result at its end, or (z) none -/
def fnR (z : Bool) : Option (Res × DS) → Option (Except Xn D × DS)
  | some (.rt d, s) => some (.ok d, s)
  | some (.nx _, s) => if z = true then some (.ok .non, s) else none
  | some (.er _ x, s) => some (.error x, s)
  | _ => none
def fnDz (z : Bool) (n : Nat) (b : S) : List D → M D := fun ds s => fnR z (b (env0 n ds) s)
abbrev fnD := fnDz false
abbrev fnN := fnDz true
section
variable {P : Program} {w : World} {K : PySem.W.Frag} {Γ : Wc} {mg : Str → Option Value} {base : Heap}
theorem env0_get {n : Nat} {ds : List D} {i : Nat} {x : Sl} (e : (env0 n ds)[i]? = some x) : (∃ d, ds[i]? = some d ∧ x = .val d) ∨ x = .no := by
  unfold env0 vals at e
  by_cases hi : i < ds.length
  · rw [List.getElem?_append_left (by simpa using hi), List.getElem?_map] at e
    obtain ⟨d', e1, e2⟩ := mapE e
    exact .inl ⟨d', e1, e2.symm⟩
  · rw [List.getElem?_append_right (by simp; omega), List.getElem?_replicate] at e
    split at e
    · cases e
      exact .inr rfl
    · cases e
theorem SlotsOk.start {C : Cc} {H : Hp} {av : Av} {vs : List V} {ds : List D} (r : RepAll C.K H av C.Γ vs ds) (n : Nat) : SlotsOk C H av (vs.map some ++ List.replicate (n - vs.length) none) (env0 n ds) := by
  refine ⟨fun i d e => ?_, fun i k e => ?_⟩
  · rcases env0_get e with ⟨d', e1, e2⟩ | e2
    · cases e2
      obtain ⟨v, h1, h2⟩ := r.get e1
      refine ⟨v, ?_, h2⟩
      have hi : i < vs.length := by
        by_cases h : i < vs.length
        · exact h
        · rw [List.getElem?_eq_none (by simpa using h)] at h1
          cases h1
      rw [List.getElem?_append_left (by rw [List.length_map]; exact hi), List.getElem?_map, h1]
      rfl
    · cases e2
  · rcases env0_get e with ⟨d', e1, e2⟩ | e2 <;> cases e2
theorem fn_ok {x qual : Str} {st : Stmt} {f : Addr} {fd : FuncData} {N ps : List Str} {k n a : Nat} {fr z : Bool} {body : S} (F : Fun K x qual st f fd) (Sc : FnScope N ps (defScope st)) (hn : N.length = n) (ha : ps.length = a)
    (hz : z = true → fr = false)
    (hb : ∀ (cdv : Value) (A : Around) (outer : List Env) (s : Shared) (H : Hp) (E : XK), fd.code = cdv → A.guards = some [] → Room k (A.deeper (envOfC qual (defScope st) s.heap.objs.size f cdv)) →
      ∃ lo lq t, PSs (cxOf (L2.CX P w) P w K mg base N qual (defScope st) f cdv A outer s H E) (defBody st) t ∧ SS ⟨K, Γ, lo, lq⟩ (fun cls d _ H' => E cls d H') fr t body) :
    FnG P w K mg base (L2.CX P w) (k + 1) f fd ps (spF K Γ fr a (fnDz z n body)) := by
  subst hn ha
  refine GD.Fun.okG F Sc (fun vs H Q E h => ?_) fun cdv A outer s H vs Q E hcv hg hr h => ?_
  · obtain ⟨av, s, ds, d, s', a, r, hl, _⟩ := h
    rw [r.len, hl]
  · obtain ⟨av, s0, ds, res, s', a, r, hl, e, q⟩ := h
    obtain ⟨lo, lq, t, h1, h2⟩ := hb cdv A outer s H E hcv hg hr
    refine ⟨t, h1, ?_⟩
    have hst : start N vs = vs.map some ++ List.replicate (N.length - vs.length) none := rfl
    rw [hst]
    have ok : Ok ⟨K, Γ, lo, lq⟩ H av [] (vs.map some ++ List.replicate (N.length - vs.length) none) (env0 N.length ds) s0 H := by
      refine ⟨.refl, ?_, a.wo, a.ad, a.al, fun p hp => (by cases hp), fun x z => a.nc x (z.elim id fun y => by cases y), ?_, fun i d e => ?_, fun i j d e p _ h1 => ?_⟩
      · unfold env0 vals
        rw [List.length_append, List.length_append, List.length_map, List.length_map, List.length_replicate, List.length_replicate, r.len]
      · exact (SlotsOk.start (C := ⟨K, Γ, lo, lq⟩) r N.length).wd fun a z => by
          rcases z with z | z
          · exact .inl z
          · cases z
      · rcases env0_get e with ⟨d', e1, e2⟩ | e2 <;> cases e2
      · rcases env0_get h1 with ⟨d', e1, e2⟩ | e2 <;> cases e2
    have nil : ∀ {a : Addr}, avO av [] a → av a := fun {a} z => z.elim id fun y => by cases y
    unfold fnDz at e
    cases eb : body (env0 N.length ds) s0 with
    | none => rw [eb] at e; cases e
    | some pr =>
      obtain ⟨rs, s1⟩ := pr
      rw [eb] at e
      refine h2 H av [] _ _ s0 H rs s1 _ ok eb ?_
      cases rs with
      | rt d' =>
        cases e
        cases fr with
        | true => exact fun p H' g w n ow => q p H' g w n (ow.ub rfl rfl)
        | false => exact fun v H' g w rv => q v H' g w rv
      | nx ρ' =>
        cases z with
        | false => cases e
        | true =>
          cases e
          cases hz rfl
          exact fun os' σ' H' o f => q .non H' o.go o.wo .non
      | er ρ' x =>
        cases e
        exact fun os' σ' H' cls dd o f rx => q cls dd H' o.go o.wo (RepX.wd rx fun a z => .inl (.inl z))
      | bk ρ' => cases e
      | ct ρ' => cases e
theorem fn_none {f : Addr} {fd : FuncData} {ps : List Str} {k n : Nat} {fr : Bool} {CX : CXT} : FnG P w K mg base CX k f fd ps (spF K Γ fr n fun _ _ => none) :=
  ⟨fun vs H Q E h => by
    obtain ⟨av, s, ds, d, s', a, r, hl, e, _⟩ := h
    exact (nomatch e), fun A outer s H args us vs Q E _ _ _ _ _ h => by
    obtain ⟨av, s, ds, d, s', a, r, hl, e, _⟩ := h
    exact (nomatch e)⟩
end
end DM
set_option Elab.async false
set_option linter.all false
set_option maxRecDepth 100000
set_option maxHeartbeats 2000000
namespace DM
open PySem PySem.Spec PyProof.Rows L2 Lay NdefX LamX GD
/-! ### lambdas kept in a slot and called there -/
abbrev lfd (F : NF) (b : Expr) (pm ctv : Value) : FuncData := PySem.W.kla_fn F.name F.qual F.params b F.scope F.cl pm (.ref F.c) ctv
/-- the object at f is this lambda -/
def LmO (f : Addr) (F : NF) (b : Expr) : HO := .ext fun h => ∃ (od : Option Addr) (sl : Array (Option Value)) (pm ctv : Value), h.get? f = some (⟨.type "function", od, .func (lfd F b pm ctv), sl⟩ : Obj)
theorem lmO_at {P : Program} {w : World} {H : Hp} {h : Heap} {f : Addr} {F : NF} {b : Expr} (hok : HOk P w H h) (e : H f = some (LmO f F b)) : ∃ (od : Option Addr) (sl : Array (Option Value)) (pm ctv : Value), h.get? f = some (⟨.type "function", od, .func (lfd F b pm ctv), sl⟩ : Obj) := by
  obtain ⟨z, _, _⟩ := hok f _ e
  exact z
section
variable {X : Cx} {pins : List (Addr × Obj)} {σ : L2.St} {H : Hp} {s : Shared}
theorem inv_lm {F : NF} {b : Expr} {o : Obj} {t' : Nat} {pm ctv : Value} (I : Inv X pins σ H s) (ho : o = { cls := .type "function", data := .func (lfd F b pm ctv) }) :
    Inv X pins σ (upd H s.heap.objs.size (LmO s.heap.objs.size F b)) { s with heap := s.heap.push o, toks := t' } := by
  subst ho
  have at_ : (s.heap.push ({ cls := .type "function", data := .func (lfd F b pm ctv) } : Obj)).get? s.heap.objs.size = some ({ cls := .type "function", data := .func (lfd F b pm ctv) } : Obj) := Heap.get?_push_size _ rfl
  exact I.laid (a := s.heap.objs.size) (fun b u e => Heap.get?_push_of_some _ e) (Nat.le_refl _) ⟨⟨_, _, pm, ctv, at_⟩, ⟨_, at_⟩, fun h1 h2 ⟨od, sl, p, t, z⟩ st => ⟨od, sl, p, t, st _ z⟩⟩
abbrev lamF (X : Cx) (params : Arguments) (scope : Scope) (c' : Addr) : NF := ⟨"<lambda>", X.env.qual ++ "<lambda>", params, [], scope, cloFrom X.env.cells scope.names [], c'⟩
/-- the making: only the table at P is changed -/
theorem lam_makeN {T : List NTab} {nm : Nat → Nat → Str} {c P : Addr} {params : Arguments} {body : Expr} {scope : Scope} {pos : Pos} {E : Value → Shared → Prop} {Q : Value → Shared → Prop} (I : Inv X pins σ H s) (TB : TabB X.base X.mg c P) (hcode : X.env.code = .ref c)
    (hm : (P, nm) ∈ T) (hn : nm pos.line pos.col = X.env.qual ++ "<lambda>") (hu : ∀ p ∈ T, p.1 = P → p.2 = nm) (hT : TabsN T H) (hdef : defaultsOf params X.env = ([], [])) (hfree : ∀ y ∈ scope.names, y.2 = .free → ∃ c, X.env.cells.lookup y.1 = some c)
    (h : ∀ (f c' : Addr) (H1 : Hp) (s' : Shared), Inv X pins σ H1 s' → Kp (fun a => a = P) H H1 → Lv H H1 → TabsN T H1 → H f = none → H1 f = some (LmO f (lamF X params scope c') body) → H1 c' = some (CodeO c' (X.env.qual ++ "<lambda>")) → Q (.ref f) s') :
    wpAny (model X.prog X.w) X.A (eval (.Lambda params body scope pos) X.env) Q E s := by
  obtain ⟨ps, hP, ht, ha⟩ := (show TabN H P nm from hT _ hm)
  refine PySem.W.kla_eval hdef ?_
  have bP : s.heap.BuiltinsAt X.mg P := TB.bm.keeps I.bk
  have hP' : s.heap.get? P = some { cls := .none, data := .fields ps } := I.hok P _ hP
  cases hc : codeAmong pos ps.toList with
  | none =>
    refine PySem.W.kla_makeFunction (mg := X.mg) (c := c) (P := P) (ps := ps) (closure_ok hfree) I.ok.glob (I.mod.glob.keeps I.bk) hcode (TB.code.keeps I.bk) hP' ht hc TB.gP bP fun c' ctv h' tk hx hge hlt hrec htb => ?_
    obtain ⟨c2, oc, vs, t, e2, hoc, hd, hv⟩ := hrec
    cases e2
    have nC : H c' = none := I.hok.fresh hge
    have nPc : P ≠ c' := ne_of_none hP nC
    have I1 := inv_table (t' := tk) (more := #[rawInt pos.line, rawInt pos.col, .ref c']) (h' := h') I hP (fun b o hb e => hx b o hb e) htb hge ⟨oc, vs, t, hoc, hd, hv⟩
    have keep : ∀ b o, b ≠ P → H b = some o → upd (upd H P (.tbl (ps ++ #[rawInt pos.line, rawInt pos.col, .ref c']))) c' (CodeO c' (X.env.qual ++ "<lambda>")) b = some o := fun b o n e => by
      rw [upd_ne (ne_of_none e nC), upd_ne n]
      exact e
    have code : ∀ b q, H b = some (CodeO b q) → upd (upd H P (.tbl (ps ++ #[rawInt pos.line, rawInt pos.col, .ref c']))) c' (CodeO c' (X.env.qual ++ "<lambda>")) b = some (CodeO b q) := fun b q e => by
      refine keep b _ (fun z => ?_) e
      rw [z, hP] at e
      exact codeO_ne ps (Option.some.inj e).symm
    have eL : (ps ++ #[rawInt pos.line, rawInt pos.col, .ref c']).toList = ps.toList ++ [rawInt pos.line, rawInt pos.col, .ref c'] := by simp
    have T1 : TabsN T (upd (upd H P (.tbl (ps ++ #[rawInt pos.line, rawInt pos.col, .ref c']))) c' (CodeO c' (X.env.qual ++ "<lambda>"))) := by
      intro p hp
      obtain ⟨ps', a1, a2, a3⟩ := hT p hp
      by_cases hb : p.1 = P
      · rw [hu p hp hb, hb]
        refine ⟨ps ++ #[rawInt pos.line, rawInt pos.col, .ref c'], ?_, ?_, fun p' cv hcv => ?_⟩
        · rw [upd_ne nPc, upd_same]
        · rw [eL]
          exact PySem.TriplesOk_snoc _ _ _ _ ht
        · rw [eL] at hcv
          rcases among_app2 _ ht hcv with z | ⟨z, z1, z2⟩
          · obtain ⟨c0, e1, e2⟩ := ha p' cv z
            exact ⟨c0, e1, code _ _ e2⟩
          · exact ⟨c', z, by rw [← z1, ← z2, hn]; exact upd_same⟩
      · refine ⟨ps', keep _ _ hb a1, a2, fun p' cv hcv => ?_⟩
        obtain ⟨c0, e1, e2⟩ := a3 p' cv hcv
        exact ⟨c0, e1, code _ _ e2⟩
    have nF := I1.hok.fresh (Nat.le_refl _)
    have I2 := inv_lm (F := lamF X params scope c') (b := body) (t' := tk) (pm := (X.mg "__name__").getD .none) (ctv := ctv) I1 rfl
    refine h h'.objs.size c' _ _ I2 (fun b o n e => ?_) (.trans (.trans .upd .upd) .upd) (T1.ext fun b o e => ?_) (I.hok.fresh (Nat.le_trans hge (Nat.le_of_lt hlt))) upd_same ?_
    · have e1 := keep b o n e
      exact (upd_ne (ne_of_none e1 nF)).trans e1
    · exact (upd_ne (ne_of_none e nF)).trans e
    · exact (upd_ne (Nat.ne_of_lt hlt)).trans upd_same
  | some cv =>
    obtain ⟨c', e, hco⟩ := ha pos cv hc
    subst e
    rw [hn] at hco
    refine PySem.W.kla_makeFunctionHit (mg := X.mg) (c := c) (P := P) (ps := ps) (closure_ok hfree) I.ok.glob (I.mod.glob.keeps I.bk) hcode (TB.code.keeps I.bk) hP' ht hc bP fun ctv h' tk hx hsz => ?_
    have I1 : Inv X pins σ H { s with heap := h', toks := tk } := I.kept hx
    have nF : H h'.objs.size = none := I1.hok.fresh (Nat.le_refl _)
    have I2 := inv_lm (F := lamF X params scope c') (b := body) (t' := tk) (pm := (X.mg "__name__").getD .none) (ctv := ctv) I1 rfl
    refine h h'.objs.size c' _ _ I2 (fun b o n e => (upd_ne (ne_of_none e nF)).trans e) .upd (hT.ext fun b o e => (upd_ne (ne_of_none e nF)).trans e) nF upd_same ((upd_ne (ne_of_none hco nF)).trans hco)
end
/-- the reading of a lambda -/
def tLamb (T : List NTab) (P : Addr) (mk : Addr → NF) (b : Expr) : TE := fun _ H Q => TabsN T H ∧ ∀ (f c' : Addr) (H1 : Hp), Kp (fun a => a = P) H H1 → Lv H H1 → TabsN T H1 → H f = none → H1 f = some (LmO f (mk c') b) → H1 c' = some (CodeO c' (mk c').qual) → Q (.ref f) H1
section
variable {X : Cx}
theorem pe_lamb {T : List NTab} {nm : Nat → Nat → Str} {c P : Addr} {params : Arguments} {body : Expr} {scope : Scope} {pos : Pos} (TB : TabB X.base X.mg c P) (hcode : X.env.code = .ref c) (hm : (P, nm) ∈ T) (hn : nm pos.line pos.col = X.env.qual ++ "<lambda>") (hu : ∀ p ∈ T, p.1 = P → p.2 = nm)
    (hfree : ∀ y ∈ scope.names, y.2 = .free → X.env.scope.names.lookup y.1 = some .cell ∨ X.env.scope.names.lookup y.1 = some .free) (hdef : defaultsOf params X.env = ([], [])) :
    PE X (.Lambda params body scope pos) (tLamb T P (lamF X params scope) body) := by
  refine ⟨fun pins s σ H Q I h => ?_⟩
  obtain ⟨hT, h⟩ := h
  have hfr : ∀ y ∈ scope.names, y.2 = .free → ∃ c, X.env.cells.lookup y.1 = some c := fun y hy e => (hfree y hy e).elim (fun z => I.ok.has _ (.inl z)) fun z => I.ok.has _ (.inr z)
  exact lam_makeN I TB hcode hm hn hu hT hdef hfr fun f c' H1 s' I1 k l T1 f0 f1 c1 => ⟨.ref f, H1, I1, rfl, h f c' H1 k l T1 f0 f1 c1⟩
end
/-! ### the call -/
structure LOk (P : Program) (w : World) (K : PySem.W.Frag) (mg : Str → Option Value) (base : Heap) (CX : CXT) (k : Nat) (f : Addr) (F : NF) (b : Expr) (ps fr : List Str) (sp : List (Option V) → Sp) : Prop where
  lens : ∀ ws vs H Q E, sp ws vs H Q E → vs.length = ps.length
  runs : ∀ (A : Around) (o : List Env) (s : Shared) (H : Hp) (us : List Value) (vs : List V) (ws : List (Option V)) (Q : VK) (E : XK), A.guards = some [] → Room k A → Env0 P w K mg base A o s H → H f = some (LmO f F b) → H F.c = some (CodeO F.c F.qual) →
    CellsAt F.cl fr ws s.heap H → Vals vs us → sp ws vs H Q E → codeAny (model P w) A (.call (.ref f) ⟨us, []⟩) (CR CX o P w H s Q E) s
section
variable {CX : CXT} {P : Program} {w : World} {K : PySem.W.Frag} {mg : Str → Option Value} {base : Heap} {N ps fr : List Str} {F : NF} {b : Expr} {f : Addr} {k j : Nat} {sp : List (Option V) → Sp}
theorem lok_of (S : NScope N ps fr F.scope) (hb : ∀ (pm ctv : Value) (us : List Value), us.length = ps.length → bindArgs (lfd F b pm ctv) ⟨us, []⟩ = pure (ps.zip us)) (len : ∀ ws vs H Q E, sp ws vs H Q E → vs.length = ps.length)
    (hbody : ∀ (A : Around) (o : List Env) (s : Shared) (H : Hp) (vs : List V) (ws : List (Option V)) (Q : VK) (E : XK), A.guards = some [] → Room k (A.deeper (envF F f s.heap.objs.size)) → ws.length = fr.length → sp ws vs H Q E →
      ∃ t, PE (ncx CX P w K mg base N F f A o s H E) b t ∧ t (startF N vs ws) H Q) :
    LOk P w K mg base CX (k + 1) f F b ps fr sp := by
  refine ⟨len, fun A o s H us vs ws Q E hg hr e0 hf hc Cl r hsp => ?_⟩
  have hl := len _ _ _ _ _ hsp
  have noLim : s.heap.NoLimit := e0.mod.nolimit.keeps fun b o e => (e0.bs b o e).1
  obtain ⟨od, sl, pm, ctv, ho⟩ := lmO_at e0.hok hf
  refine PySem.W.kla_callFunE hr.depth ho rfl S.co S.gen rfl (codeO_at e0.hok hc) ?_
  rw [hb pm ctv us (by rw [← r.length]; exact hl)]
  refine wpAny_pure (wpAny_newFunctionEnv S.nocell (fun ⟨n, _⟩ hy => S.par n (List.of_mem_zip hy).1) (fun h1 hns hsb => ⟨noLim.fresh _ hsb, ?_⟩) S.kind)
  show codeAny _ _ (.expr b (envF F f s.heap.objs.size)) _ _
  have kp : ∀ b o, s.heap.get? b = some o → h1.get? b = some o := fun b o e => hsb.extBut b o (Nat.ne_of_lt (Heap.lt_size e)) (Heap.get?_push_of_some _ e)
  obtain ⟨t, ht, hq⟩ := hbody A o s H vs ws Q E hg (hr.deeper _) Cl.len hsp
  have I := inv_startN (CX := CX) (E := E) (f := f) (tk := s.toks + (ps.zip us).length) S hr.hd e0 hl r Cl hns kp
  refine PySem.W.kla_codeExpr (wpAny_mono (ht.run [] _ (startF N vs ws) H Q I hq) (fun v s' hq => ?_) fun e s' hq => hq)
  obtain ⟨v', H', J, rv, q⟩ := hq
  exact ⟨v', H', J.os, J.bare, J.base, J.hok, rv, q⟩
end
def tCallL (b : Expr) (mk : Addr → NF) (i : Nat) (js : List Nat) (sp : List (Option V) → Sp) (E : L2.St → XK) (t : TA) : TE := fun σ H Q => ∃ f c', σ[i]? = some (some (.ref f)) ∧ H f = some (LmO f (mk c') b) ∧
  t σ H fun vs H1 => H1 f = some (LmO f (mk c') b) ∧ H1 (mk c').c = some (CodeO (mk c').c (mk c').qual) ∧ sp (js.map (slotAt σ)) vs H1 Q (E σ)
section
variable {X : Cx} {CX : CXT} {mk : Addr → NF} {b : Expr} {cl : List (Str × Addr)} {ps fr : List Str} {js : List Nat} {i k : Nat} {x : Str} {sp : List (Option V) → Sp} {E : L2.St → XK} {t : TA} {e : Expr} {es : List Expr} {p pos : Pos}
theorem lmAt_of {pins : List (Addr × Obj)} {σ : L2.St} {H : Hp} {s : Shared} {f : Addr} {F : NF} (I : Inv X pins σ H s) (e : H f = some (LmO f F b)) : PySem.W.FnAt f s.heap := by
  obtain ⟨od, sl, pm, ctv, ho⟩ := lmO_at I.hok e
  exact ⟨_, od, _, sl, ho⟩
theorem pe_callL (Fn : ∀ f c', LOk X.prog X.w X.K X.mg X.base CX k f (mk c') b ps fr sp) (hg : X.A.guards = some []) (hcl : ∀ c', (mk c').cl = cl) (cp : X.Ok → Caps X cl fr js) (hr : Room k X.A) (hx : ∀ σ, PassesAt CX X σ (E σ)) (hN : X.N[i]? = some x) (hv : Vis X.env.scope x) (ha : PA X (e :: es) t)
    (hd : (x == ("__debug__" : Str)) = false := by decide) (hcd : (x == ("__classdict__" : Str)) = false := by decide)
    (he : starEach (e :: es) X.env = (false, eval e X.env) :: starEach es X.env := by rfl) (hpl : (backTo pos (starEach es X.env)).any (·.1) = false := by rfl) :
    PE X (.Call (.Name x p) (e :: es) [] pos) (tCallL b mk i js sp E t) := by
  refine ⟨fun pins s σ H Q I h => ?_⟩
  obtain ⟨f, c', hs, hf, ht⟩ := h
  refine wpAny_Call_Name_kw (thn ((pe_var (pos := p) hN hv hd hcd).run pins s σ H (fun v H1 => v = .ref f ∧ H1 = H) I ⟨.ref f, hs, rfl, rfl⟩) fun u s1 ⟨v, H1, I1, r1, q1⟩ => ?_)
  obtain ⟨rfl, rfl⟩ := q1
  cases (show u = Value.ref f from r1)
  refine PySem.W.callWith_F (first := []) (lmAt_of I1 hf) (thn (ha.run pos pins s1 σ _ _ I1 ht) fun us s2 ⟨vs, H2, I2, r, h1, h2, q⟩ => ⟨lmAt_of I2 h1, ?_⟩) he hpl
  show wpAny _ _ (call (.ref f) us) _ _ _
  have Cl := cells_of I2 (cp I2.ok)
  rw [← hcl c'] at Cl
  refine wpAny_call (codeAny_mono ((Fn f c').runs X.A X.stack s2 H2 us vs _ Q (E σ) hg hr I2.env0 h1 h2 Cl r q) fun r s' hq => ?_)
  match r, hq with
  | .error e, hq => exact hx σ pins H2 s2 e s' I2 hq
  | .ok (.ret u), hq => exact I2.after hq
  | .ok .next, hq => exact False.elim hq
  | .ok .brk, hq => exact False.elim hq
  | .ok .cont, hq => exact False.elim hq
end
/-! ### what they compute -/
def cap (ρ : En) (j : Nat) : Sl := match ρ[j]? with
  | some (Sl.val d) => .val d
  | _ => .no
def lamE (m : Nat) (ds : List D) (cs : En) : En := vals ds ++ (cs ++ List.replicate m .no)
structure CapOk (K : PySem.W.Frag) (Γ : Wc) (H : Hp) (av : Av) (ws : List (Option V)) (cs : En) : Prop where
  len : ws.length = cs.length
  val : ∀ (i : Nat) (d : D), cs[i]? = some (Sl.val d) → ∃ v, ws[i]? = some (some v) ∧ Rep K H av Γ v d
  lam : ∀ (i k : Nat), cs[i]? ≠ some (Sl.lam k)
def spL (K : PySem.W.Frag) (Γ : Wc) (m n : Nat) (body : En → M D) : List (Option V) → Sp := fun ws vs H Q E => ∃ av s ds cs r s', At (cb K Γ) av s H ∧ RepAll K H av Γ vs ds ∧ ds.length = n ∧ CapOk K Γ H av ws cs ∧ body (lamE m ds cs) s = some (r, s') ∧ FinC K Γ false av H s' Q E r
def eCallL (i k m n : Nat) (js : List Nat) (body : En → M D) (a : En → M (List D)) : En → M D := fun ρ s => match ρ[i]? with
  | some (Sl.lam k') => if k' = k then bx (a ρ s) fun x s1 => if x.length = n then body (lamE m x (js.map (cap ρ))) s1 else none else none
  | _ => none
def sLam (i k : Nat) : S := fun ρ s => some (.nx (ρ.set i (.lam k)), s)
section
variable {C : Cc} {W : WX} {fr : Bool} {ts : TA} {ms : En → M (List D)}
theorem capOk {H : Hp} {av : Av} {σ : L2.St} {ρ : En} (h : SlotsOk C H av σ ρ) (js : List Nat) : CapOk C.K C.Γ H av (js.map (slotAt σ)) (js.map (cap ρ)) := by
  refine ⟨by simp, fun i d e => ?_, fun i k e => ?_⟩
  · rw [List.getElem?_map] at e
    obtain ⟨j, ej, e⟩ := mapE e
    unfold cap at e
    split at e
    · rename_i d' hd
      cases e
      obtain ⟨v, h1, h2⟩ := h.val j _ hd
      exact ⟨v, by rw [List.getElem?_map, ej]; exact congrArg some (slotAt_of h1), h2⟩
    · cases e
  · rw [List.getElem?_map] at e
    obtain ⟨j, ej, e⟩ := mapE e
    unfold cap at e
    split at e <;> cases e
theorem se_callL {b : Expr} {mk : Addr → NF} {i k m n : Nat} {js : List Nat} {body : En → M D} (hlo : ∀ f c', C.lo k f c' = LmO f (mk c') b) (hlq : ∀ c', C.lq k = (mk c').qual) (hc : ∀ c', (mk c').c = c') (hs : SA C W ts ms) :
    SE C W (tCallL b mk i js (spL C.K C.Γ m n body) (WE W) ts) (eCallL i k m n js body ms) := by
  intro av σ ρ s H r s' Q o e q
  unfold eCallL at e
  split at e
  · rename_i k' hk
    split at e
    · rename_i hkk
      subst hkk
      obtain ⟨v, hv, f, c', rfl, n1, n2, h1, h2⟩ := o.sl.lam i _ hk
      rw [hlo] at h1
      rw [hlq c'] at h2
      refine ⟨f, c', hv, h1, ?_⟩
      refine hs.bind o e q fun x s1 vs H1 g1 o1 r1 e q => ?_
      have k1 := g1.kp.ch o.ad
      split at e
      · rename_i hl
        refine ⟨k1 _ _ n1 h1, by rw [hc]; exact k1 _ _ n2 h2, av, s1, x, js.map (cap ρ), r, s', o1.at_.b, r1, hl, capOk o1.sl js, e, ?_⟩
        cases r with
        | ok d => exact fun v H' g w rv => q v H' g w rv
        | error x => exact fun cls dd H' g w rx => q cls dd H' g w rx
      · cases e
    · cases e
  · cases e
/-- a slot set to a lambda -/
theorem Ok.setL {E0 : Hp} {ae : Av} {os : List Addr} {σ : L2.St} {ρ : En} {s : DS} {H : Hp} {v : V} {k : Nat} (o : Ok C E0 ae os σ ρ s H) (r : LamAt C H (avO ae os) k v) (i : Nat) : Ok C E0 ae os (σ.set i (some v)) (ρ.set i (.lam k)) s H := by
  have gt : ∀ (j : Nat) (x : Sl), (ρ.set i (Sl.lam k))[j]? = some x → (i = j ∧ x = .lam k ∧ i < ρ.length) ∨ (i ≠ j ∧ ρ[j]? = some x) := fun j x hj => by
    by_cases hji : i = j
    · subst hji
      by_cases hi : i < ρ.length
      · rw [List.getElem?_set_self hi] at hj
        exact .inl ⟨rfl, (Option.some.inj hj).symm, hi⟩
      · rw [List.getElem?_eq_none (by simpa using hi)] at hj
        cases hj
    · rw [List.getElem?_set_ne hji] at hj
      exact .inr ⟨hji, hj⟩
  refine ⟨o.go, by simp [o.len], o.wo, o.ad, o.al, o.ow, o.nc, ⟨fun j d hj => ?_, fun j l hj => ?_⟩, fun j e hj => ?_, fun j l e f p hn h1 h2 h3 => ?_⟩
  · rcases gt _ _ hj with ⟨_, z, _⟩ | ⟨n, hj⟩
    · cases z
    · rw [List.getElem?_set_ne n]
      exact o.sl.val j d hj
  · rcases gt _ _ hj with ⟨rfl, z, hi⟩ | ⟨n, hj⟩
    · cases z
      exact ⟨v, by rw [List.getElem?_set_self (by rw [o.len]; exact hi)], r⟩
    · rw [List.getElem?_set_ne n]
      exact o.sl.lam j l hj
  · rcases gt _ _ hj with ⟨_, z, _⟩ | ⟨n, hj⟩
    · cases z
    · obtain ⟨p, h1, h2, h3⟩ := o.own j e hj
      exact ⟨p, by rw [List.getElem?_set_ne n]; exact h1, h2, h3⟩
  · rcases gt _ _ h1 with ⟨_, z, _⟩ | ⟨n1, h1⟩
    · cases z
    · rcases gt _ _ h2 with ⟨_, z, _⟩ | ⟨n2, h2⟩
      · cases z
      · rw [List.getElem?_set_ne n1] at h3
        rw [List.getElem?_set_ne n2]
        exact o.dis j l e f p hn h1 h2 h3
theorem ss_lam {b : Expr} {mk : Addr → NF} {i k : Nat} {P : Addr} {nm : Nat → Nat → Str} (hP : (P, nm) ∈ C.Γ.T) (hlo : ∀ f c', C.lo k f c' = LmO f (mk c') b) (hlq : ∀ c', C.lq k = (mk c').qual) : SS C W fr (tAsg (tLamb C.Γ.T P mk b) (gName i)) (sLam i k) := by
  intro E0 ae os σ ρ s H r s' De o e p
  cases e
  refine ⟨o.wo.tb, fun f c' H1 kp l T1 f0 f1 c1 => ?_⟩
  have cP : C.Γ.ch P := .inr ⟨_, hP, rfl⟩
  have g : Go C.Γ H H1 := ⟨kp.mono fun a z => by rw [z]; exact cP, l⟩
  have nd : C.Γ.dr ≠ P := fun z => by
    obtain ⟨ps, e1, _⟩ := o.wo.tb _ hP
    have e2 := o.wo.dr
    rw [z] at e2
    rw [show H P = _ from e1] at e2
    cases e2
  have w : Wo C.Γ H1 s := ⟨kp _ _ nd o.wo.dr, T1⟩
  have o1 := o.step g w
  refine p os _ H1 (o1.setL ⟨f, c', rfl, fun z => o.toE.al f z f0, fun z => o1.nc c' z _ _ c1, by rw [hlo]; exact f1, by rw [hlq c']; exact c1⟩ i) (g.fr o.ad)
end
/-- the promise of a lambda, from its body -/
theorem lam_ok {P : Program} {w : World} {K : PySem.W.Frag} {Γ : Wc} {mg : Str → Option Value} {base : Heap} {N ps fr : List Str} {F : NF} {b : Expr} {f : Addr} {k m n : Nat} {body : En → M D}
    (S : NScope N ps fr F.scope) (hb : ∀ (pm ctv : Value) (us : List Value), us.length = ps.length → bindArgs (lfd F b pm ctv) ⟨us, []⟩ = pure (ps.zip us)) (hn : ps.length = n) (hm : N.length = n + fr.length + m)
    (hbody : ∀ (A : Around) (o : List Env) (s : Shared) (H : Hp) (E : XK), A.guards = some [] → Room k (A.deeper (envF F f s.heap.objs.size)) →
      ∃ lo lq t, PE (ncx (L2.CX P w) P w K mg base N F f A o s H E) b t ∧ SE ⟨K, Γ, lo, lq⟩ (fun cls d _ H' => E cls d H') t body) :
    LOk P w K mg base (L2.CX P w) (k + 1) f F b ps fr (spL K Γ m n body) := by
  subst hn
  refine lok_of S hb (fun ws vs H Q E h => ?_) fun A o s H vs ws Q E hg hr hw h => ?_
  · obtain ⟨av, s, ds, cs, d, s', a, r, hl, _⟩ := h
    rw [r.len, hl]
  · obtain ⟨av, s0, ds, cs, res, s', a, r, hl, hc, e, q⟩ := h
    obtain ⟨lo, lq, t, h1, h2⟩ := hbody A o s H E hg hr
    refine ⟨t, h1, ?_⟩
    have hN : N.length - vs.length - ws.length = m := by
      rw [r.len, hw]
      omega
    have hst : startF N vs ws = vs.map some ++ (ws ++ List.replicate m none) := by
      unfold startF
      rw [hN]
    rw [hst]
    have ok : OkE ⟨K, Γ, lo, lq⟩ av (vs.map some ++ (ws ++ List.replicate m none)) (lamE m ds cs) s0 H := by
      have get : ∀ {i : Nat} {x : Sl}, (lamE m ds cs)[i]? = some x → (∃ d, ds[i]? = some d ∧ x = .val d) ∨ (ds.length ≤ i ∧ cs[i - ds.length]? = some x) ∨ x = .no := fun {i x} e => by
        unfold lamE vals at e
        by_cases hi : i < ds.length
        · rw [List.getElem?_append_left (by simpa using hi), List.getElem?_map] at e
          obtain ⟨d', e1, e2⟩ := mapE e
          exact .inl ⟨d', e1, e2.symm⟩
        · rw [List.getElem?_append_right (by simp; omega), List.length_map] at e
          by_cases hi2 : i - ds.length < cs.length
          · rw [List.getElem?_append_left hi2] at e
            exact .inr (.inl ⟨by omega, e⟩)
          · rw [List.getElem?_append_right (by omega), List.getElem?_replicate] at e
            split at e
            · cases e
              exact .inr (.inr rfl)
            · cases e
      refine ⟨?_, a.wo, a.ad, a.al, a.nc, ⟨fun i d e => ?_, fun i k e => ?_⟩⟩
      · unfold lamE vals
        simp only [List.length_append, List.length_map, List.length_replicate, r.len, hc.len]
      · rcases get e with ⟨d', e1, e2⟩ | ⟨hi, e2⟩ | e2
        · cases e2
          obtain ⟨v, h1, h2⟩ := r.get e1
          refine ⟨v, ?_, h2⟩
          have hi : i < vs.length := by
            by_cases h : i < vs.length
            · exact h
            · rw [List.getElem?_eq_none (by simpa using h)] at h1
              cases h1
          rw [List.getElem?_append_left (by rw [List.length_map]; exact hi), List.getElem?_map, h1]
          rfl
        · obtain ⟨v, h1, h2⟩ := hc.val _ _ e2
          refine ⟨v, ?_, h2⟩
          have hi2 : i - vs.length < ws.length := by
            rw [r.len]
            by_cases h : i - ds.length < ws.length
            · exact h
            · rw [List.getElem?_eq_none (by simpa using h)] at h1
              cases h1
          rw [List.getElem?_append_right (by rw [List.length_map, r.len]; exact hi), List.length_map, List.getElem?_append_left hi2, r.len]
          exact h1
        · cases e2
      · rcases get e with ⟨d', e1, e2⟩ | ⟨hi, e2⟩ | e2
        · cases e2
        · exact absurd e2 (hc.lam _ _)
        · cases e2
    refine h2 av _ _ s0 H res s' Q ok e ?_
    cases res with
    | ok d => exact fun v H' g w rv => q v H' g w rv
    | error x => exact fun cls dd H' g w rx => q cls dd H' g w rx
end DM
set_option Elab.async false
set_option linter.all false
set_option maxRecDepth 100000
set_option maxHeartbeats 2000000
/-! sum(lists, start): lists put one behind the other. -/
namespace SumL
open PySem PySem.Spec PyProof.Rows L2
abbrev lob (vs : List Value) (n : Nat) : Obj := { cls := .type "list", data := .seq vs.toArray n }
section
variable {prog : Program} {w : World} {A : Around} {R : Result → Shared → Prop}
/-- the objects at these addresses are lists of these values -/
def Lists (h : Heap) : List Value → List (List Value) → Prop
  | [], [] => True
  | v :: vs, x :: xs => (∃ a n, v = .ref a ∧ h.get? a = some (lob x n)) ∧ Lists h vs xs
  | _, _ => False
theorem Lists.keep {h h' : Heap} : ∀ {vs : List Value} {xs : List (List Value)}, (∀ b, Value.ref b ∈ vs → ∀ u n, h.get? b = some (lob u n) → h'.get? b = some (lob u n)) → Lists h vs xs → Lists h' vs xs
  | [], [], _, _ => trivial
  | v :: vs, x :: xs, k, ⟨⟨a, n, e, q⟩, r⟩ => ⟨⟨a, n, e, k a (by rw [e]; exact List.mem_cons_self) x n q⟩, Lists.keep (fun b hb => k b (List.mem_cons_of_mem _ hb)) r⟩
  | [], _ :: _, _, h => h.elim
  | _ :: _, [], _, h => h.elim
theorem loop (hh : A.handled = none) {I l : Addr} {its : Array Value} (S B : Addr) (hSI : S ≠ I) (hlI : l ≠ I) (hlS : l ≠ S) (hIB : B ≤ I) (hSB : B ≤ S) :
    ∀ (vs : List Value) (xs : List (List Value)) (i : Nat) (s : Shared) (t : Addr) (acc : List Value) (c m : Nat), its.toList.drop i = vs → s.heap.IsListIter I l i → s.heap.IsList l its → s.heap.get? S = some (lob [.ref t] c) → s.heap.get? t = some (lob acc m) → t ≠ S → t ≠ I → B ≤ s.heap.objs.size →
      (∀ v ∈ vs, v ≠ .ref S ∧ v ≠ .ref I) → Lists s.heap vs xs → acc.length + xs.flatten.length ≤ sizeLine →
      (∀ h' tk t', (∀ b o, b < B → s.heap.get? b = some o → h'.get? b = some o) → (vs = [] → t' = t) → (vs ≠ [] → B ≤ t') → (∃ m', h'.get? t' = some (lob (acc ++ xs.flatten) m')) → R (.ok (.ret (.ref t'))) { s with heap := h', toks := tk }) →
      codeAny (model prog w) A (.builtin "sum.loop" ⟨[.ref I, .ref S, rawInt 2, rawInt 0], []⟩) R s := by
  intro vs
  induction vs with
  | nil =>
    intro xs i s t acc c m hd hit hl hS ht htS htI hB hne hx hsz hR
    have hi : its[i]? = none := by
      rw [← Array.getElem?_toList]
      exact List.getElem?_eq_none (List.drop_eq_nil_iff.mp hd)
    cases xs with
    | cons x xs => exact hx.elim
    | nil =>
    refine codeAny_builtin F.entry_sum_loop ?_
    rw [Around.under_plainId F.plain_sum_loop _]
    show wpAny _ A.in1 (seqItems? (.ref S) >>= _) _ _ s
    refine wpAny_bind (wpAny_seqItems hS rfl ?_)
    show wpAny _ A.in1 (tryCatch (pyNext (.ref I)) _ >>= _) _ _ s
    refine wpAny_bind (wpAny_tryCatch (wpAny_pyNext_list_end hh hit hl hi fun h' he => ?_))
    exact wpAny_pure (hR h' s.toks t (fun b o hb e => he b o (Nat.ne_of_lt (Nat.lt_of_lt_of_le hb hIB)) e) (fun _ => rfl) (fun z => absurd rfl z) ⟨m, by simpa using he t _ htI ht⟩)
  | cons v vs ih =>
    intro xs i s t acc c m hd hit hl hS ht htS htI hB hne hx hsz hR
    have hi : its[i]? = some v := by
      rw [← Array.getElem?_toList]
      have q := congrArg (fun l : List Value => l[0]?) hd
      simpa using q
    have hd' : its.toList.drop (i + 1) = vs := by
      have q := congrArg List.tail hd
      simpa using q
    cases xs with
    | nil => exact hx.elim
    | cons x xs =>
    obtain ⟨⟨a, n', rfl, hxa⟩, hx⟩ := hx
    have haS : a ≠ S := fun z => (hne _ List.mem_cons_self).1 (by rw [z])
    have haI : a ≠ I := fun z => (hne _ List.mem_cons_self).2 (by rw [z])
    refine codeAny_builtin F.entry_sum_loop ?_
    rw [Around.under_plainId F.plain_sum_loop _]
    show wpAny _ A.in1 (seqItems? (.ref S) >>= _) _ _ s
    refine wpAny_bind (wpAny_seqItems hS rfl ?_)
    show wpAny _ A.in1 (tryCatch (pyNext (.ref I)) _ >>= _) _ _ s
    refine wpAny_bind (wpAny_tryCatch (wpAny_pyNext_list_item hit hl hi fun h1 hit1 hs1 => ?_))
    have hS' : h1.get? S = some (lob [.ref t] c) := (hs1.2 S hSI).trans hS
    have ht' : h1.get? t = some (lob acc m) := (hs1.2 t htI).trans ht
    have hx' : h1.get? a = some (lob x n') := (hs1.2 a haI).trans hxa
    rw [List.flatten_cons, List.length_append] at hsz
    show wpAny _ A.in1 ((holding [Value.ref a] (binaryOp .Add (.ref t) (.ref a))).attempt >>= _) _ _ _
    refine wpAny_bind (wpAny_attempt (wpAny_holding (PySem.P.add_list ht' hx' ?_ (by rw [List.size_toArray, List.size_toArray]; omega))))
    show wpAny _ A.in1 (updateSeq S (fun _ => #[.ref h1.objs.size]) >>= _) _ _ _
    have hS1 : (h1.push { cls := .type "list", data := .seq (acc.toArray ++ x.toArray) }).get? S = some (lob [.ref t] c) := Heap.get?_push_of_some _ hS'
    refine wpAny_bind ?_
    refine wpAny_updateSeq hS1 rfl ?_
    have hS2 := Heap.get?_update_self (Obj.mapSeq fun _ => #[Value.ref h1.objs.size]) hS1 rfl
    refine wpAny_bind (wpAny_letGo ?_)
    refine wpAny_bind ?_
    have old : ∀ b o, b ≠ I → b ≠ S → s.heap.get? b = some o → (((h1.push { cls := .type "list", data := .seq (acc.toArray ++ x.toArray) }).update S (Obj.mapSeq fun _ => #[Value.ref h1.objs.size])).update S (Obj.mapSeq fun _ => #[Value.ref h1.objs.size])).get? b = some o := fun b o hb hS e =>
      (Heap.get?_update_other _ _ (Ne.symm hS)).trans ((Heap.get?_update_other _ _ (Ne.symm hS)).trans (Heap.get?_push_of_some _ ((hs1.2 b hb).trans e)))
    have nS : h1.objs.size ≠ S := Ne.symm (Nat.ne_of_lt (Heap.lt_size hS'))
    have nI : h1.objs.size ≠ I := by
      obtain ⟨o, e, _⟩ := hit1
      exact Ne.symm (Nat.ne_of_lt (Heap.lt_size e))
    have hBs : B ≤ h1.objs.size := by rw [hs1.1]; exact hB
    refine wpAny_updateSeq hS2 rfl (wpAny_pure ⟨plainId_quiet F.plain_sum_loop _, ih xs (i + 1) _ h1.objs.size (acc ++ x) _ 0 hd' ?_ ?_ (Heap.get?_update_self _ hS2 rfl) ?_ nS nI ?_ (fun v hv => hne v (List.mem_cons_of_mem _ hv)) ?_ ?_ fun h2 tk2 t2 kk e0 e1 e2 => ?_⟩)
    · exact hit1.at fun o e => (Heap.get?_update_other _ _ hSI).trans ((Heap.get?_update_other _ _ hSI).trans (Heap.get?_push_of_some _ e))
    · exact hl.at fun o e => old l o hlI hlS e
    · refine (Heap.get?_update_other _ _ (Ne.symm nS)).trans ((Heap.get?_update_other _ _ (Ne.symm nS)).trans ((Heap.get?_push_size _ rfl).trans ?_))
      simp
    · show B ≤ (((h1.push _).update S _).update S _).objs.size
      rw [Heap.size_update, Heap.size_update, Heap.size_push]
      exact Nat.le_succ_of_le hBs
    · refine Lists.keep (h := s.heap) (fun b hb u n e => old b _ (fun z => ?_) (fun z => ?_) e) hx
      · exact (hne _ (List.mem_cons_of_mem _ hb)).2 (by rw [z])
      · exact (hne _ (List.mem_cons_of_mem _ hb)).1 (by rw [z])
    · rw [List.length_append]
      omega
    · refine hR h2 tk2 t2 (fun b o hb e => kk b o hb (old b o (Nat.ne_of_lt (Nat.lt_of_lt_of_le hb hIB)) (Nat.ne_of_lt (Nat.lt_of_lt_of_le hb hSB)) e)) (fun z => by cases z) (fun _ => ?_) ?_
      · by_cases hv : vs = []
        · rw [e0 hv]
          exact hBs
        · exact e1 hv
      · obtain ⟨m', q⟩ := e2
        exact ⟨m', by rw [q, List.flatten_cons, List.append_assoc]⟩
theorem sub_list_str : isSubtype (.type "list") (.type "str") = pure false := by rw [isSubtype_type]; kernel_rfl
theorem sub_list_bytes : isSubtype (.type "list") (.type "bytes") = pure false := by rw [isSubtype_type]; kernel_rfl
theorem sub_list_bytearray : isSubtype (.type "list") (.type "bytearray") = pure false := by rw [isSubtype_type]; kernel_rfl
theorem args_sum2 (a b : Value) : argsOk "sum" ⟨[a, b], []⟩ := by unfold argsOk; kernel_rfl
theorem sum_lists {E : Value → Shared → Prop} {s : Shared} {l z : Addr} {vs acc : List Value} {xs : List (List Value)} {n m : Nat} {Q : Value → Shared → Prop} (hh : A.handled = none) (hl : s.heap.IsList l vs.toArray) (hz : s.heap.get? z = some (lob acc m)) (hx : Lists s.heap vs xs) (hsz : acc.length + xs.flatten.length ≤ sizeLine)
    (h : ∀ h' tk t', (∀ b o, s.heap.get? b = some o → h'.get? b = some o) → (vs = [] → t' = z) → (vs ≠ [] → s.heap.objs.size ≤ t') → (∃ m', h'.get? t' = some (lob (acc ++ xs.flatten) m')) → Q (.ref t') { s with heap := h', toks := tk }) :
    wpAny (model prog w) A (call (.builtin "sum") [.ref l, .ref z]) Q E s := by
  refine call_function_tree F.kind_sum F.plain_sum F.entry_sum (args_sum2 _ _) ?_
  unfold Builtin.«sum»
  simp only [List.length_cons, List.length_nil]
  rw [if_neg (by decide)]
  refine wpAny_bind (wpAny_of_eq (show Builtin.Builtins.bindParams "sum" ["start"] 0 ⟨[.ref z], []⟩ = pure [some (.ref z)] from rfl) ?_)
  refine wpAny_bind (wpAny_pyIter_list hl ?_)
  have hlt : l < s.heap.objs.size := by obtain ⟨_, e, _⟩ := hl; exact Heap.lt_size e
  have tz : ∀ o : Obj, (({ s with heap := s.heap.push o } : Shared)).TypeIs (.ref z) "list" := fun o => ⟨_, Heap.get?_push_of_some _ hz, rfl⟩
  refine wpAny_bind (wpAny_pure ?_)
  simp only [List.forIn_cons, List.forIn_nil]
  refine wpAny_bind (wpAny_bind (wpAny_bind (wpAny_isInstance (T := "list") (b := false) (tz _) sub_list_str ?_)))
  simp only [Bool.false_eq_true, if_false]
  refine wpAny_pure (wpAny_bind (wpAny_bind (wpAny_isInstance (T := "list") (b := false) (tz _) sub_list_bytes ?_)))
  simp only [Bool.false_eq_true, if_false]
  refine wpAny_pure (wpAny_bind (wpAny_bind (wpAny_isInstance (T := "list") (b := false) (tz _) sub_list_bytearray ?_)))
  simp only [Bool.false_eq_true, if_false]
  refine wpAny_pure (wpAny_pure ?_)
  refine wpAny_bind (wpAny_newObj_type ?_)
  have e1 : (s.heap.push { cls := .type "list_iterator", data := .fields #[.ref l, .int 0 0] }).objs.size = s.heap.objs.size + 1 := Heap.size_push ..
  have nz : z < s.heap.objs.size := Heap.lt_size hz
  have lt1 : ∀ v ∈ vs, ∃ a, v = .ref a ∧ a < s.heap.objs.size := by
    clear h hsz hl
    induction vs generalizing xs with
    | nil => exact fun v hv => absurd hv (by simp)
    | cons v vs ih =>
      cases xs with
      | nil => exact hx.elim
      | cons x xs =>
        obtain ⟨⟨a, n, rfl, q⟩, r⟩ := hx
        intro v hv
        rcases List.mem_cons.mp hv with rfl | hv
        · exact ⟨a, rfl, Heap.lt_size q⟩
        · exact ih r v hv
  have up : ∀ b o, s.heap.get? b = some o → ((s.heap.push { cls := .type "list_iterator", data := .fields #[.ref l, .int 0 0] }).push { cls := .type "list", data := .seq #[.ref z] }).get? b = some o := fun b o e => Heap.get?_push_of_some _ (Heap.get?_push_of_some _ e)
  refine wpAny_pure ⟨plainId_quiet F.plain_sum_loop _, loop (its := vs.toArray) (I := s.heap.objs.size) (l := l) hh (s.heap.push { cls := .type "list_iterator", data := .fields #[.ref l, .int 0 0] }).objs.size s.heap.objs.size (by rw [e1]; exact Nat.succ_ne_self _) (Nat.ne_of_lt hlt) (by rw [e1]; exact Nat.ne_of_lt (Nat.lt_succ_of_lt hlt)) (Nat.le_refl _) (by rw [e1]; exact Nat.le_succ _) vs xs 0 _ z acc 0 m rfl ?_ ?_ (Heap.get?_push_size _ rfl) (up _ _ hz) ?_ (Nat.ne_of_lt nz) ?_ (fun v hv => ?_) (Lists.keep (fun b _ u n e => up b _ e) hx) hsz fun h' tk t' k e0 e1 e2 => ?_⟩
  · exact ⟨_, Heap.get?_push_of_some _ (Heap.get?_push_size _ rfl), rfl, rfl⟩
  · exact (hl.push _).push _
  · rw [e1]
    exact Nat.ne_of_lt (Nat.lt_succ_of_lt nz)
  · show s.heap.objs.size ≤ ((s.heap.push _).push _).objs.size
    rw [Heap.size_push, Heap.size_push]
    exact Nat.le_succ_of_le (Nat.le_succ _)
  · obtain ⟨a, rfl, ha⟩ := lt1 v hv
    refine ⟨fun q => ?_, fun q => ?_⟩
    · cases q
      rw [e1] at ha
      exact absurd ha (Nat.not_lt.mpr (Nat.le_succ _))
    · cases q
      exact Nat.lt_irrefl _ ha
  · exact h h' tk t' (fun b o e => k b o (Heap.lt_size e) (up b o e)) e0 e1 e2
end
/-- the reading of sum(lists, start) -/
def rSumL (K : PySem.W.Frag) : List V → Hp → VK → Prop := fun vs H Q => ∃ (l z : Addr) (as : List Addr) (zs : List V) (xs : List (List V)), vs = [V.ref l, V.ref z] ∧ SqL K H l (as.map V.ref) ∧ H z = some (.lst zs) ∧ as.map (fun a => H a) = xs.map (fun x => some (.lst x)) ∧ zs.length + xs.flatten.length ≤ sizeLine ∧
  (as = [] → Q (.ref z) H) ∧ (as ≠ [] → ∀ p, H p = none → Q (.ref p) (upd H p (.lst (zs ++ xs.flatten))))
theorem lists_of {X : Cx} {pins : List (Addr × Obj)} {σ : L2.St} {H : Hp} {s : Shared} (I : Inv X pins σ H s) : ∀ {as : List Addr} {xs : List (List V)} {us : List Value}, as.map (fun a => H a) = xs.map (fun x => some (.lst x)) → Vals (as.map V.ref) us → ∃ ys, Lists s.heap us ys ∧ Vals xs.flatten ys.flatten
  | [], [], us, _, r => by
    cases r
    exact ⟨[], trivial, .nil⟩
  | [], _ :: _, _, h, _ => by cases h
  | _ :: _, [], _, h, _ => by cases h
  | a :: as, x :: xs, us, h, r => by
    cases r with
    | cons r0 r =>
      have h1 : H a = some (.lst x) := by
        have q := congrArg (fun l => l[0]?) h
        simpa using q
      have h2 : as.map (fun a => H a) = xs.map (fun x => some (.lst x)) := by
        have q := congrArg List.tail h
        simpa using q
      cases r0
      obtain ⟨z, its, n, rv, hl, e⟩ := I.lstM h1
      obtain ⟨ys, q1, q2⟩ := lists_of I h2 r
      exact ⟨its :: ys, ⟨⟨a, n, rfl, e⟩, q1⟩, by rw [List.flatten_cons, List.flatten_cons]; exact rv.append q2⟩
theorem call_sumL {X : Cx} (hc : X.calm = true) : CallR X (.builtin "sum") (rSumL X.K) := by
  intro pins s σ H vs us Q I r h
  obtain ⟨l, z, as, zs, xs, rfl, hs, hz, hx, hsz, q0, q1⟩ := h
  obtain ⟨its, rv, hl, _⟩ := I.list hs
  obtain ⟨_, its2, n2, rv2, hl2, e2⟩ := I.lstM hz
  cases r with
  | cons r0 r =>
  cases r with
  | cons r1 r =>
  cases r
  cases r0
  cases r1
  obtain ⟨ys, k1, k2⟩ := lists_of I hx rv
  have ln := rv2.length
  have ln2 := k2.length
  refine sum_lists (n := 0) (I.ok.hd hc) hl.isList e2 k1 (by omega) fun h' tk t' k e0 e1 ⟨m', e3⟩ => ?_
  cases its with
  | nil =>
    have ha : as = [] := by
      have q := rv.length
      simpa using q
    rw [e0 rfl]
    exact ⟨.ref z, H, I.kept k, rfl, q0 ha⟩
  | cons v its =>
    have ha : as ≠ [] := fun z => by
      rw [z] at rv
      cases rv
    refine ⟨.ref t', upd H t' (.lst (zs ++ xs.flatten)), I.laid k (e1 (by simp)) ⟨by rw [List.length_append]; exact hsz, its2 ++ ys.flatten, m', rv2.append k2, e3⟩, rfl, q1 ha t' (I.hok.fresh (e1 (by simp)))⟩
end SumL
set_option Elab.async false
set_option linter.all false
set_option maxRecDepth 100000
set_option maxHeartbeats 2000000
/-! str and repr of a dict by texts whose values hold no dict. -/
namespace StrK
open PySem PySem.Spec PyProof.Rows L2 GD
theorem shows {prog : Program} {w : World} {h0 : Heap} {a : Addr} {o : Obj} {es : Array DictEntry} {n : Nat} {kvs : List (PyData × PyData)} {as bs : List Addr} (h1 : h0.get? a = some o) (h2 : o.cls = .type "dict") (h3 : o.data = .dict es n) (h4 : ReadsAll h0 (es.toList.map (·.key)) (kvs.map (·.1)) as) (h5 : ReadsAll h0 (es.toList.map (·.val)) (kvs.map (·.2)) bs)
    (nk : PyData.hasDictAll (kvs.map (·.1)) = false) (nv : PyData.hasDictAll (kvs.map (·.2)) = false) (hs : (PyData.dict kvs).showable = true) (hsys : (a == sysModules) = false) (hsz : (PyData.dict kvs).shown.length ≤ sizeLine) : ShowsBy prog w h0 a (.dict kvs) "dict" "dict.__repr__" := by
  have hz : (dictText (PyData.shownKv kvs)).length ≤ sizeLine := by simpa only [PyData.shown] using hsz
  obtain ⟨s1, s2⟩ := PyData.showableKv_split kvs (by simpa [PyData.showable] using hs)
  obtain ⟨b1, hb1, k1⟩ := ReprAllK.of_readsAll (prog := prog) (w := w) h4 s1 (fun z => by rw [nk] at z; cases z) fun t ht => by
    obtain ⟨p, hp, hl⟩ := PyData.shownKv_key_le kvs t ht
    exact Nat.le_trans hl (Nat.le_trans (dictText_mem_le hp) hz)
  obtain ⟨b2, hb2, k2⟩ := ReprAllK.of_readsAll (prog := prog) (w := w) h5 s2 (fun z => by rw [nv] at z; cases z) fun t ht => by
    obtain ⟨p, hp, hl⟩ := PyData.shownKv_val_le kvs t ht
    exact Nat.le_trans hl (Nat.le_trans (dictText_mem_le hp) hz)
  have m1 := PyData.depthAll_keys_le kvs
  have m2 := PyData.depthAll_vals_le kvs
  have hb : ReadAtMost h0 (PyData.depthKv kvs) (b1 ++ b2) := (hb1.mono m1).append (hb2.mono m2)
  have hna : a ∉ b1 ++ b2 := not_mem_of_deeper (.dict h1 h2 h3 h4 h5) (by simp only [PyData.depth]; omega) hb
  refine ⟨F.slot_dict_repr, F.slot_dict_str, F.slot_dict_format, fun s hk0 => ⟨o, hk0 _ _ h1, h2⟩, fun A E s Q hg hu hk0 hQ => ?_⟩
  simp only [PyData.depth] at hu
  simp only [PyData.shown, PyData.shownKv_eq] at hQ
  have ent := ReprEntriesK.of_two es.toList _ _ (k1.more_le (fun b hb => List.mem_append_left _ hb) m1) (k2.more_le (fun b hb => List.mem_append_right _ hb) m2)
  exact call_dict_reprK h1 h2 h3 hsys hna ent hg (fun b _ => Clear.nil b) hu hk0 hQ (by rw [← PyData.shownKv_eq]; exact hz)
theorem str_shows {prog : Program} {w : World} {h0 : Heap} {a : Addr} {d : PyData} {T idr : String} {A : Around} {E : Value → Shared → Prop} {s : Shared} {Q : Value → Shared → Prop} (S : ∀ (prog : Program) (w : World), ShowsBy prog w h0 a d T idr) (hg : A.guards = some []) (hu : A.units + (d.depth + 3) < cLine) (hk0 : ∀ b o, h0.get? b = some o → s.heap.get? b = some o)
    (hQ : ∀ h' u tk, (∀ b o, s.heap.get? b = some o → h'.get? b = some o) → Q (.str d.shown u) { s with heap := h', toks := tk }) : wpAny (model prog w) A (call (.type "str") [.ref a]) Q E s := by
  refine callType_new F.called_str (by decide) (F.typeCall_str_1 _) (F.newCall_str_1 _) (fun obj => F.args_object_init_2 obj _) F.entry_str_new
    (meets_str_new (S := fun A' R s' => A'.guards = some [] ∧ A'.units + (d.depth + 2) < cLine ∧ (∀ b o, h0.get? b = some o → s'.heap.get? b = some o) ∧ ∀ h' u tk, (∀ b o, s'.heap.get? b = some o → h'.get? b = some o) → R (.ok (.ret (.str d.shown u))) { s' with heap := h', toks := tk }) fun p' w' A' R s' h => ?_) ?_
  · have h2 := h.2.1
    exact wpAny_strOf_slot rfl (by show A'.units + 1 + 1 < cLine; omega) ((S p' w').typeIs s' h.2.2.1) (S p' w').slotStr (S p' w').slotRepr ((S p' w').call A'.in1.in1 _ s' _ h.1 (by show A'.units + 1 + 1 + d.depth < cLine; omega) h.2.2.1 fun h' u tk hk => ⟨_, _, rfl, h.2.2.2 h' u tk hk⟩)
  · exact ⟨hg, by show A.units + 1 + (d.depth + 2) < cLine; omega, hk0, fun h' u tk hk => ⟨typeIs_str _ _ _, hQ h' u tk hk⟩⟩
/-- what str asks of a dict by texts -/
def rStrK (K : PySem.W.Frag) : List V → Hp → VK → Prop := fun xs H Q => ∃ (a : Addr) (ks : List Str) (vs : List V) (ds : List PyData), xs = [.ref a] ∧ H a = some (.dK (List.zipWith (fun k v => (Sum.inr k, v)) ks vs)) ∧ ks.length = vs.length ∧ DpAll K H vs ds ∧
  (PyData.dict (List.zipWith (fun k d => (PyData.str k, d)) ks ds)).showable = true ∧ (PyData.dict (List.zipWith (fun k d => (PyData.str k, d)) ks ds)).depth ≤ 60 ∧ (PyData.dict (List.zipWith (fun k d => (PyData.str k, d)) ks ds)).shown.length ≤ sizeLine ∧
  Q (.str (PyData.dict (List.zipWith (fun k d => (PyData.str k, d)) ks ds)).shown) H
theorem keys_read {P : Program} {w : World} {X : Cx} {pins : List (Addr × Obj)} {σ : L2.St} {H : Hp} {s : Shared} (I : Inv X pins σ H s) : ∀ {es : List DictEntry} {kvs : List (Key × Value)} {ks : List Str} {vs : List V} {ds : List PyData}, Pairs (mixKind P w) es kvs → KV (List.zipWith (fun k v => ((Sum.inr k : Key), v)) ks vs) kvs → ks.length = vs.length → DpAll X.K H vs ds →
    ∃ as bs, ReadsAll s.heap (es.map (·.key)) ((List.zipWith (fun k d => (PyData.str k, d)) ks ds).map (·.1)) as ∧ ReadsAll s.heap (es.map (·.val)) ((List.zipWith (fun k d => (PyData.str k, d)) ks ds).map (·.2)) bs ∧
      PyData.hasDictAll ((List.zipWith (fun k d => (PyData.str k, d)) ks ds).map (·.1)) = false ∧ PyData.hasDictAll ((List.zipWith (fun k d => (PyData.str k, d)) ks ds).map (·.2)) = false := by
  intro es kvs ks vs ds p rel hl hd
  induction p generalizing ks vs ds with
  | nil =>
    cases ks with
    | nil => exact ⟨[], [], .nil, .nil, rfl, rfl⟩
    | cons k ks =>
      cases vs with
      | nil => cases hl
      | cons v vs => cases rel
  | cons h1 h2 h3 ih =>
    cases ks with
    | nil => cases rel
    | cons k ks =>
      cases vs with
      | nil => cases hl
      | cons v vs =>
        cases hd with
        | cons d1 d2 =>
          cases rel with
          | cons r1 r2 =>
            obtain ⟨as, bs, q1, q2, q3, q4⟩ := ih r2 (Nat.succ.inj hl) d2
            obtain ⟨e1, e2⟩ := r1
            rw [← e1] at h1
            have h1 : keyIs (Sum.inr k) _ = true := h1
            rcases keyIs_shape h1 with ⟨i, t, e, _⟩ | ⟨x, t, e, e'⟩
            · cases e
            · cases e
              obtain ⟨a1, rd⟩ := Dp.reads I _ _ _ d1 e2
              refine ⟨[] ++ as, a1 ++ bs, ?_, ?_, ?_, ?_⟩
              · rw [List.map_cons, e']
                exact .cons (.str _ _) q1
              · rw [List.map_cons, h2]
                exact .cons rd q2
              · simpa [PyData.hasDictAll, PyData.hasDict] using q3
              · simpa [PyData.hasDictAll, dp_noDict _ _ d1] using q4
theorem call_strK {X : Cx} {k : Nat} (hg : X.A.guards = some []) (hr : Room k X.A) : CallR X (.type "str") (rStrK X.K) := by
  intro pins s σ H xs us Q I r h
  obtain ⟨a, ks, vs, ds, rfl, hH, hl, hd, hs, hdep, hsz, q⟩ := h
  obtain ⟨u, rfl, ru⟩ := vals1 r
  cases ru
  obtain ⟨z, hsys, kvs, rel, o, es, ep, ho, hex, hdat, _, hp, _⟩ := dk_of I.hok hH
  obtain ⟨as, bs, q1, q2, q3, q4⟩ := keys_read I (P := X.prog) (w := X.w) hp rel hl hd
  have hu := hr.un
  exact str_shows (fun p w => shows ho hex.1 hdat q1 q2 q3 q4 hs hsys hsz) hg (by omega) (fun _ _ z => z) fun h' t tk hk => ⟨.str _, H, I.kept hk, ⟨_, rfl⟩, q⟩
end StrK
set_option Elab.async false
set_option linter.all false
set_option maxRecDepth 100000
set_option maxHeartbeats 2000000
namespace DM
open PySem PySem.Spec PyProof.Rows L2 Lay NdefX LamX GD
/-! ### further operations -/
section
variable {X : Cx}
/-- x in c, x not in c: c a list or a tuple of data -/
def rInX (K : PySem.W.Frag) (neg : Bool) : R2 := fun x y H Q => ∃ d c ds, Dp K H x d ∧ Dp K H y c ∧ (c = .list ds ∨ c = .tuple ds) ∧ SeqAt.shaped d = true ∧ SeqAt.shaped c = true ∧ Q (.bl (Bool.xor neg (ds.any fun z => PyData.eqv z d))) H
theorem op_inX (hu : X.A.units + 65 < cLine) : OpR X (compareOp .In) (rInX X.K false) := by
  intro pins s σ H x y v u Q I rx ry h
  obtain ⟨d, c, ds, hd, he, hc, sd, se, q⟩ := h
  rw [Bool.false_xor] at q
  obtain ⟨as, r1⟩ := Dp.reads I d x v hd rx
  obtain ⟨bs, r2⟩ := Dp.reads I c y u he ry
  rcases hc with rfl | rfl
  · exact SeqAt.in_list_reads r2 r1 (SeqAt.canLay_of_shaped se) (SeqAt.canLay_of_shaped sd) (room_in_shaped sd hu) ⟨.bl _, H, I, rfl, q⟩
  · exact SeqAt.in_tuple_reads r2 r1 (SeqAt.canLay_of_shaped se) (SeqAt.canLay_of_shaped sd) (room_in_shaped sd hu) ⟨.bl _, H, I, rfl, q⟩
theorem op_notInX (hu : X.A.units + 65 < cLine) : OpR X (compareOp .NotIn) (rInX X.K true) := by
  intro pins s σ H x y v u Q I rx ry h
  obtain ⟨d, c, ds, hd, he, hc, sd, se, q⟩ := h
  rw [Bool.true_xor] at q
  obtain ⟨as, r1⟩ := Dp.reads I d x v hd rx
  obtain ⟨bs, r2⟩ := Dp.reads I c y u he ry
  rcases hc with rfl | rfl
  · exact SeqAt.notIn_list_reads r2 r1 (SeqAt.canLay_of_shaped se) (SeqAt.canLay_of_shaped sd) (room_in_shaped sd hu) ⟨.bl _, H, I, rfl, q⟩
  · exact SeqAt.notIn_tuple_reads r2 r1 (SeqAt.canLay_of_shaped se) (SeqAt.canLay_of_shaped sd) (room_in_shaped sd hu) ⟨.bl _, H, I, rfl, q⟩
end
def oInX (neg : Bool) : D → D → Option D
  | a, .lst xs => (toP a).bind fun p => (toPs xs).bind fun qs => if SeqAt.shaped p && SeqAt.shaped (.list qs) then some (.bl (Bool.xor neg (qs.any fun z => PyData.eqv z p))) else none
  | a, .tup xs => (toP a).bind fun p => (toPs xs).bind fun qs => if SeqAt.shaped p && SeqAt.shaped (.tuple qs) then some (.bl (Bool.xor neg (qs.any fun z => PyData.eqv z p))) else none
  | _, _ => none
def oNi : D → D → Option D
  | a, .lst xs => if flatD a && xs.all flatD then some (.bl (!xs.any fun y => eqFl y a)) else none
  | a, .tup xs => if flatD a && xs.all flatD then some (.bl (!xs.any fun y => eqFl y a)) else none
  | _, _ => none
def oRep : D → D → Option D
  | .lst xs, .int k => if decide (-(2 ^ 63) ≤ k) && decide (k < 2 ^ 63) && decide (xs.length * k.toNat ≤ line) then some (.lst (List.replicate k.toNat xs).flatten) else none
  | _, _ => none
def oIsN : D → D → Option D
  | .non, .non => some (.bl true)
  | .drw, .non => none
  | _, .non => some (.bl false)
  | _, _ => none
def oNotN : D → D → Option D
  | .non, .non => some (.bl false)
  | .drw, .non => none
  | _, .non => some (.bl true)
  | _, _ => none
def bLenS : List D → Option D
  | [.str z] => if z.length ≤ line then some (.int z.length) else none
  | _ => none
def bList : List D → Option D
  | [.lst xs] => some (.lst xs)
  | [.tup xs] => some (.lst xs)
  | _ => none
def bDict : List D → Option D
  | [.dic ks xs] => some (.dic ks xs)
  | _ => none
def boolsD : List D → Option (List Bool)
  | [] => some []
  | .bl b :: xs => (boolsD xs).map fun r => b :: r
  | _ => none
def bAny : List D → Option D
  | [.lst xs] => (boolsD xs).map fun bs => .bl (bs.any id)
  | _ => none
def bAll : List D → Option D
  | [.lst xs] => (boolsD xs).map fun bs => .bl (bs.all id)
  | _ => none
def listsD : List D → Option (List (List D))
  | [] => some []
  | .lst x :: xs => (listsD xs).map fun r => x :: r
  | _ => none
def bSumL : List D → Option D
  | [.lst xs, .lst zs] => (listsD xs).bind fun xss => if zs.length + xss.flatten.length ≤ line then some (.lst (zs ++ xss.flatten)) else none
  | _ => none
def bStrK : List D → Option D
  | [.dic ks xs] => (toPs xs).bind fun ps => if (PyData.dict (List.zipWith (fun k d => (PyData.str k, d)) ks ps)).showable && decide ((PyData.dict (List.zipWith (fun k d => (PyData.str k, d)) ks ps)).depth ≤ 60) && decide ((PyData.dict (List.zipWith (fun k d => (PyData.str k, d)) ks ps)).shown.length ≤ line) then some (.str (PyData.dict (List.zipWith (fun k d => (PyData.str k, d)) ks ps)).shown) else none
  | _ => none
/-- what stands in a dict of texts -/
def getD : List Str → List D → Str → Option D
  | k :: ks, d :: ds, x => if k = x then some d else getD ks ds x
  | _, _, _ => none
def oGet : D → D → Option D
  | .dic ks ds, .str z => getD ks ds z
  | _, _ => none
def oInK (neg : Bool) : D → D → Option D
  | .str z, .dic ks ds => some (.bl (Bool.xor neg (getD ks ds z).isSome))
  | _, _ => none
/-- d.get(k, e) -/
def eGet2 (a b c : En → M D) : En → M D := fun ρ s => bx (a ρ s) fun x s1 => match x with
  | .dic ks ds => bx (b ρ s1) fun y s2 => bx (c ρ s2) fun z s3 => match y with
    | .str w => some (.ok ((getD ks ds w).getD z), s3)
    | _ => none
  | _ => none
def orL (f g : List D → Option D) : List D → Option D := fun a => match f a with
  | some c => some c
  | none => g a
section
variable {C : Cc} {W : WX} {ta tb td ty tx te : TE} {ma mb md mk mx me : En → M D} {ts : TA} {ms : En → M (List D)}
theorem cb_or {r1 r2 : List V → Hp → VK → Prop} {f g : List D → Option D} (h1 : CbS C r1 f) (h2 : CbS C r2 g) : CbS C (fun xs H Q => r1 xs H Q ∨ r2 xs H Q) (orL f g) := by
  intro av s H vs ds c Q o r e q
  unfold orL at e
  split at e
  · rename_i c' hc
    cases e
    exact .inl (h1 av s H vs ds _ Q o r hc q)
  · exact .inr (h2 av s H vs ds c Q o r e q)
theorem os_inX {neg : Bool} : OpS C (rInX C.K neg) (oInX neg) := by
  intro av s H x y a b z Q o ra rb e q
  cases b <;> try (exact nomatch (show (none : Option D) = some z from e))
  all_goals
    obtain ⟨p, e1, e⟩ := bindE e
    obtain ⟨qs, e2, e⟩ := bindE e
    split at e
    · rename_i hs
      simp at hs
      cases e
      refine ⟨p, _, qs, ra.dp e1, rb.dp (by simp only [toP]; rw [e2]; rfl), ?_, hs.1, hs.2, q.pure o (.bl _)⟩
      first | exact .inl rfl | exact .inr rfl
    · cases e
theorem os_notIn : OpS C (rIn C.K true) oNi := by
  intro av s H x y a b z Q o ra rb e q
  cases b <;> try (exact nomatch (show (none : Option D) = some z from e))
  · simp only [oNi] at e
    split at e
    · rename_i hs
      simp only [Bool.and_eq_true] at hs
      cases e
      obtain ⟨p, vs, rfl, n, h1, r1⟩ := rb.lst_at
      refine ⟨p, vs, rfl, .inl (SqL.of h1), flat_of ra hs.1, flats_of r1 hs.2, ?_⟩
      have q' := q.pure o (.bl _)
      rw [if_pos rfl, inV_of ra hs.1 r1 hs.2]
      exact q'
    · cases e
  · simp only [oNi] at e
    split at e
    · rename_i hs
      simp only [Bool.and_eq_true] at hs
      cases e
      obtain ⟨p, vs, rfl, h1, r1⟩ := rb.tup_at
      refine ⟨p, vs, rfl, .inr h1.sq, flat_of ra hs.1, flats_of r1 hs.2, ?_⟩
      have q' := q.pure o (.bl _)
      rw [if_pos rfl, inV_of ra hs.1 r1 hs.2]
      exact q'
    · cases e
theorem RepAll.rep {av : Av} {H : Hp} {vs : List V} {ds : List D} (r : RepAll C.K H av C.Γ vs ds) : ∀ n : Nat, RepAll C.K H av C.Γ (List.replicate n vs).flatten (List.replicate n ds).flatten
  | 0 => .nil
  | n + 1 => by
    rw [List.replicate_succ, List.replicate_succ, List.flatten_cons, List.flatten_cons]
    exact r.append (RepAll.rep r n)
theorem of_rep : OpF C rRep oRep := by
  intro av s H x y a b z Q o ra rb e q
  unfold oRep at e
  split at e
  · rename_i xs k
    split at e
    · rename_i hs
      simp only [Bool.and_eq_true, decide_eq_true_eq] at hs
      cases e
      obtain ⟨p, vs, rfl, n, h1, r1⟩ := ra.lst_at
      exact ⟨p, k, vs, rfl, rb.int_eq, h1, hs.1.1, hs.1.2, line_le (by rw [r1.len]; exact hs.2), fun l hl => q.newL o hl (RepAll.rep r1 _)⟩
    · cases e
  · cases e
theorem os_ofF {r : R2} {f : D → D → Option D} (h : OpF C r f) : OpS C r f := by
  intro av s H x y a b c Q o ra rb e q
  exact h av s H x y a b c Q o ra rb e fun p H' g w n ow => q (.ref p) H' g w ((ow.of fun a z => .inl (.inl z)).rep fun z => o.al p z n)
theorem cb_ofF {r : List V → Hp → VK → Prop} {f : List D → Option D} (h : CbF C r f) : CbS C r f := by
  intro av s H vs ds c Q o ra e q
  exact h av s H vs ds c Q o ra e fun p H' g w n ow => q (.ref p) H' g w ((ow.of fun a z => .inl (.inl z)).rep fun z => o.al p z n)
theorem os_rep : OpS C rRep oRep := os_ofF of_rep
theorem os_isN : OpS C (fun x y H Q => y = .non ∧ Q (.bl (decide (x = .non))) H) oIsN := by
  intro av s H x y a b z Q o ra rb e q
  cases b <;> cases a <;> simp only [oIsN] at e <;> (try (cases e)) <;> refine ⟨rb.non_eq, ?_⟩
  all_goals
    have q' := q.pure o (.bl _)
    cases ra
    exact q'
theorem os_notN : OpS C (fun x y H Q => y = .non ∧ Q (.bl (!decide (x = .non))) H) oNotN := by
  intro av s H x y a b z Q o ra rb e q
  cases b <;> cases a <;> simp only [oNotN] at e <;> (try (cases e)) <;> refine ⟨rb.non_eq, ?_⟩
  all_goals
    have q' := q.pure o (.bl _)
    cases ra
    exact q'
theorem cb_lenS : CbS C (fun xs H Q => ∃ z, xs = [.str z] ∧ z.length ≤ sizeLine ∧ Q (.int z.length) H) bLenS := by
  intro av s H vs ds c Q o r e q
  unfold bLenS at e
  split at e
  · split at e
    · rename_i hl
      cases e
      obtain ⟨v, rfl, r1⟩ := r.one
      exact ⟨_, by rw [r1.str_eq], line_le hl, q.pure o (.int _)⟩
    · cases e
  · cases e
theorem cf_list : CbF C (fun xs H Q => ∃ p ys, xs = [.ref p] ∧ (SqL C.K H p ys ∨ SqT C.K H p ys) ∧ ∀ l, H l = none → Q (.ref l) (upd H l (.lst ys))) bList := by
  intro av s H vs ds c Q o r e q
  unfold bList at e
  split at e
  · cases e
    obtain ⟨v, rfl, r1⟩ := r.one
    obtain ⟨p, ys, rfl, n, h1, r2⟩ := r1.lst_at
    exact ⟨p, ys, rfl, .inl (SqL.of h1), fun l hl => q.newL o hl r2⟩
  · cases e
    obtain ⟨v, rfl, r1⟩ := r.one
    obtain ⟨p, ys, rfl, h1, r2⟩ := r1.tup_at
    exact ⟨p, ys, rfl, .inr h1.sq, fun l hl => q.newL o hl r2⟩
  · cases e
theorem cf_dict : CbF C (fun xs H Q => ∃ (a : Addr) (kvs : List (Key × V)), xs = [.ref a] ∧ Rd H a (.dK kvs) ∧ ∀ p, H p = none → Q (.ref p) (upd H p (.dK kvs))) bDict := by
  intro av s H vs ds c Q o r e q
  unfold bDict at e
  split at e
  · cases e
    obtain ⟨v, rfl, r1⟩ := r.one
    obtain ⟨p, ys, rfl, n, h1, hl, r2⟩ := r1.dic_at
    exact ⟨p, _, rfl, .inl h1, fun l hl2 => q.newD o hl2 hl r2⟩
  · cases e
theorem boolsD_rep {av : Av} {H : Hp} : ∀ {vs : List V} {ds : List D} {bs : List Bool}, RepAll C.K H av C.Γ vs ds → boolsD ds = some bs → vs = bs.map V.bl
  | _, [], bs, r, e => by cases r; cases e; rfl
  | _, d :: ds, bs, r, e => by
    cases r with
    | cons a r =>
      cases d <;> simp only [boolsD] at e <;> try (cases e)
      obtain ⟨r', e1, rfl⟩ := mapE e
      rw [boolsD_rep r e1, a.bl_eq]
      rfl
theorem cb_any : CbS C (rAny C.K) bAny := by
  intro av s H vs ds c Q o r e q
  unfold bAny at e
  split at e
  · obtain ⟨bs, e1, rfl⟩ := mapE e
    obtain ⟨v, rfl, r1⟩ := r.one
    obtain ⟨p, ys, rfl, n, h1, r2⟩ := r1.lst_at
    rw [boolsD_rep r2 e1] at h1
    exact ⟨p, bs, rfl, SqL.of h1, q.pure o (.bl _)⟩
  · cases e
theorem cb_all : CbS C (rAll C.K) bAll := by
  intro av s H vs ds c Q o r e q
  unfold bAll at e
  split at e
  · obtain ⟨bs, e1, rfl⟩ := mapE e
    obtain ⟨v, rfl, r1⟩ := r.one
    obtain ⟨p, ys, rfl, n, h1, r2⟩ := r1.lst_at
    rw [boolsD_rep r2 e1] at h1
    exact ⟨p, bs, rfl, SqL.of h1, q.pure o (.bl _)⟩
  · cases e
theorem listsD_rep {av : Av} {H : Hp} : ∀ {vs : List V} {ds : List D} {xss : List (List D)}, RepAll C.K H av C.Γ vs ds → listsD ds = some xss → ∃ (as : List Addr) (yss : List (List V)), vs = as.map V.ref ∧ as.map (fun a => H a) = yss.map (fun x => some (.lst x)) ∧ RepAll C.K H av C.Γ yss.flatten xss.flatten ∧ (ds = [] ↔ as = [])
  | _, [], xss, r, e => by
    cases r; cases e
    exact ⟨[], [], rfl, rfl, .nil, by simp⟩
  | _, d :: ds, xss, r, e => by
    cases r with
    | cons a r =>
      cases d <;> simp only [listsD] at e <;> try (cases e)
      obtain ⟨r', e1, rfl⟩ := mapE e
      obtain ⟨as, yss, rfl, h2, h3, h4⟩ := listsD_rep r e1
      obtain ⟨p, ys, rfl, n, h5, h6⟩ := a.lst_at
      refine ⟨p :: as, ys :: yss, rfl, ?_, ?_, by simp⟩
      · rw [List.map_cons, List.map_cons, h5, h2]
      · rw [List.flatten_cons, List.flatten_cons]
        exact h6.append h3
theorem RepAll.two {av : Av} {H : Hp} {vs : List V} {d e : D} (r : RepAll C.K H av C.Γ vs [d, e]) : ∃ v w, vs = [v, w] ∧ Rep C.K H av C.Γ v d ∧ Rep C.K H av C.Γ w e := by
  cases r with
  | cons a r =>
    obtain ⟨w, rfl, b⟩ := r.one
    exact ⟨_, w, rfl, a, b⟩
theorem cb_sumL : CbS C (SumL.rSumL C.K) bSumL := by
  intro av s H vs ds c Q o r e q
  unfold bSumL at e
  split at e
  · obtain ⟨xss, e1, e⟩ := bindE e
    split at e
    · rename_i hl
      cases e
      obtain ⟨v, w, rfl, r1, r2⟩ := RepAll.two r
      obtain ⟨p, ys, rfl, n, h1, r3⟩ := r1.lst_at
      obtain ⟨p2, zs, rfl, n2, h2, r4⟩ := r2.lst_at
      obtain ⟨as, yss, rfl, h3, h4, h5⟩ := listsD_rep r3 e1
      refine ⟨p, p2, as, zs, yss, rfl, SqL.of h1, h2, h3, line_le (by rw [r4.len, h4.len]; exact hl), fun z => ?_, fun _ l hl => q.newL o hl (r4.append h4)⟩
      subst z
      cases yss with
      | nil =>
        cases xss with
        | nil =>
          refine q.pure o ?_
          rw [List.flatten_nil, List.append_nil]
          exact r2
        | cons x xss =>
          rw [h5.mpr rfl] at e1
          cases e1
      | cons y yss => cases h3
    · cases e
  · cases e
theorem cb_strK : CbS C (StrK.rStrK C.K) bStrK := by
  intro av s H vs ds c Q o r e q
  unfold bStrK at e
  split at e
  · obtain ⟨ps, e1, e⟩ := bindE e
    split at e
    · rename_i hs
      simp only [Bool.and_eq_true, decide_eq_true_eq] at hs
      cases e
      obtain ⟨v, rfl, r1⟩ := r.one
      obtain ⟨p, ys, rfl, n, h1, hl, r2⟩ := r1.dic_at
      exact ⟨p, _, ys, ps, rfl, h1, by rw [r2.len]; exact hl, RepAll.dp' _ _ _ r2 e1, hs.1.1, hs.1.2, line_le hs.2, q.pure o (.str _)⟩
    · cases e
  · cases e
theorem getD_rep {H : Hp} {av : Av} {z : Str} : ∀ {ks : List Str} {vs : List V} {ds : List D}, RepAll C.K H av C.Γ vs ds → ks.length = ds.length → match getD ks ds z with
    | some d => ∃ v, valV (zipK ks vs) (Sum.inr z) = some v ∧ Rep C.K H av C.Γ v d
    | none => valV (zipK ks vs) (Sum.inr z) = none
  | [], _, [], r, e => by
    cases r
    rfl
  | [], _, _ :: _, _, e => by cases e
  | k :: ks, _, [], _, e => by cases e
  | k :: ks, _, x :: ds, r, e => by
    cases r with
    | @cons u us _ _ a r =>
      unfold getD
      by_cases hk : k = z
      · rw [if_pos hk]
        exact ⟨u, by unfold zipK valV; rw [List.zipWith_cons_cons, List.find?_cons]; simp [hk], a⟩
      · rw [if_neg hk]
        have ih := getD_rep (z := z) r (Nat.succ.inj e)
        have hv : valV (zipK (k :: ks) (u :: us)) (Sum.inr z) = valV (zipK ks us) (Sum.inr z) := by
          unfold zipK valV
          rw [List.zipWith_cons_cons, List.find?_cons]
          simp only [Sum.inr.injEq, hk, decide_false]
        rw [hv]
        exact ih
theorem oGet_some {a b c : D} (e : oGet a b = some c) : ∃ ks ds z, a = .dic ks ds ∧ b = .str z ∧ getD ks ds z = some c := by
  cases a <;> cases b <;> simp only [oGet] at e <;> try (cases e)
  exact ⟨_, _, _, rfl, rfl, e⟩
theorem oInK_some {neg : Bool} {a b c : D} (e : oInK neg a b = some c) : ∃ ks ds z, a = .str z ∧ b = .dic ks ds ∧ c = .bl (Bool.xor neg (getD ks ds z).isSome) := by
  cases a <;> cases b <;> simp only [oInK] at e <;> try (cases e)
  exact ⟨_, _, _, rfl, rfl, rfl⟩
theorem se_dget (ha : SE C W td md) (hb : SE C W ty mk) : SE C W (tDGet td ty) (eOp oGet md mk) := by
  intro av σ ρ s H r s' Q o e q
  refine ha.bind o e q fun x s1 v H1 g1 o1 r1 e q => ?_
  refine hb.bind o1 e q fun y s2 w H2 g2 o2 r2 e q => ?_
  obtain ⟨z, e3, rfl, rfl⟩ := ox_some e
  obtain ⟨ks, ds, z', rfl, rfl, e3⟩ := oGet_some e3
  have r1' := Rep.kp r1 (g2.kp.ch o.ad)
  obtain ⟨p, vs, rfl, n, h1, hl, r3⟩ := r1'.dic_at
  have h4 := getD_rep (z := z') r3 hl
  rw [show getD ks ds z' = some z from e3] at h4
  obtain ⟨u, h4, h5⟩ := h4
  exact ⟨p, u, rfl, .inl ⟨_, Sum.inr _, .inl h1, Rep.str_eq r2, h4.symm⟩, q u H2 .refl o2.wo h5⟩
theorem se_din (hb : SE C W ty mk) (ha : SE C W td md) : SE C W (tDIn ty td) (eOp (oInK false) mk md) := by
  intro av σ ρ s H r s' Q o e q
  refine hb.bind o e q fun y s1 w H1 g1 o1 r1 e q => ?_
  refine ha.bind o1 e q fun x s2 v H2 g2 o2 r2 e q => ?_
  obtain ⟨z, e3, rfl, rfl⟩ := ox_some e
  obtain ⟨ks, ds, z', rfl, rfl, rfl⟩ := oInK_some e3
  have r1' := Rep.kp r1 (g2.kp.ch o.ad)
  obtain ⟨p, vs, rfl, n, h1, hl, r3⟩ := Rep.dic_at r2
  have h4 := getD_rep (z := z') r3 hl
  have hi : (valV (zipK ks vs) (Sum.inr z')).isSome = (getD ks ds z').isSome := by
    split at h4
    · rename_i d hd
      obtain ⟨u, h4, _⟩ := h4
      rw [h4, hd]; rfl
    · rename_i hd
      rw [h4, hd]
      rfl
  refine ⟨p, _, rfl, .inl ⟨_, Sum.inr _, .inl h1, r1'.str_eq, rfl⟩, ?_⟩
  rw [hi]
  have q' := q (.bl _) H2 .refl o2.wo (.bl _)
  rw [Bool.false_xor] at q'
  exact q'
theorem se_dnin (hb : SE C W ty mk) (ha : SE C W td md) : SE C W (tDNotIn ty td) (eOp (oInK true) mk md) := by
  intro av σ ρ s H r s' Q o e q
  refine hb.bind o e q fun y s1 w H1 g1 o1 r1 e q => ?_
  refine ha.bind o1 e q fun x s2 v H2 g2 o2 r2 e q => ?_
  obtain ⟨z, e3, rfl, rfl⟩ := ox_some e
  obtain ⟨ks, ds, z', rfl, rfl, rfl⟩ := oInK_some e3
  have r1' := Rep.kp r1 (g2.kp.ch o.ad)
  obtain ⟨p, vs, rfl, n, h1, hl, r3⟩ := Rep.dic_at r2
  have h4 := getD_rep (z := z') r3 hl
  have hi : (valV (zipK ks vs) (Sum.inr z')).isSome = (getD ks ds z').isSome := by
    split at h4
    · rename_i d hd
      obtain ⟨u, h4, _⟩ := h4
      rw [h4, hd]; rfl
    · rename_i hd
      rw [h4, hd]
      rfl
  refine ⟨p, _, rfl, .inl ⟨_, Sum.inr _, .inl h1, r1'.str_eq, rfl⟩, ?_⟩
  rw [hi]
  have q' := q (.bl _) H2 .refl o2.wo (.bl _)
  rw [Bool.true_xor] at q'
  exact q'
theorem se_dget2 (ha : SE C W td md) (hb : SE C W ty mk) (hx : SE C W tx mx) : SE C W (tDGet2 td ty tx) (eGet2 md mk mx) := by
  intro av σ ρ s H r s' Q o e q
  refine ha.bind o e q fun x s1 v H1 g1 o1 r1 e q => ?_
  have hx' : ∃ ks ds, x = .dic ks ds := by
    cases x <;> first | exact ⟨_, _, rfl⟩ | cases e
  obtain ⟨ks, ds, rfl⟩ := hx'
  obtain ⟨p, vs, rfl, n, h1, hl, r3⟩ := Rep.dic_at r1
  refine ⟨p, rfl, .inl ⟨_, .inl h1⟩, ?_⟩
  refine hb.bind o1 e q fun y s2 w H2 g2 o2 r2 e q => ?_
  refine hx.bind o2 e q fun z s3 u H3 g3 o3 r4 e q => ?_
  have hy' : ∃ w', y = .str w' := by
    cases y <;> first | exact ⟨_, rfl⟩ | cases e
  obtain ⟨w', rfl⟩ := hy'
  cases e
  have r1' := (Rep.kp r1 (g2.kp.ch o.ad)).kp (g3.kp.ch o.ad)
  obtain ⟨p', vs', ep, n', h1', hl', r3'⟩ := Rep.dic_at r1'
  cases ep
  have h4 := getD_rep (z := w') r3' hl'
  refine ⟨_, .inl ⟨_, Sum.inr w', .inl h1', ?_, rfl⟩, ?_⟩
  · have r2' := Rep.kp r2 (g3.kp.ch o.ad)
    rw [r2'.str_eq]; rfl
  · refine q _ H3 .refl o3.wo ?_
    split at h4
    · rename_i d hd
      obtain ⟨u', h4, h5⟩ := h4
      rw [h4, hd]
      exact h5
    · rename_i hd
      rw [h4, hd]
      exact r4
end
end DM
set_option Elab.async false
set_option linter.all false
set_option maxRecDepth 100000
set_option maxHeartbeats 2000000
namespace DM
open PySem PySem.Spec PyProof.Rows L2 Lay NdefX LamX GD
/-! ### calls by names -/
def pick {α : Type} (is : List Nat) (zs : List α) : List α := is.filterMap fun i => zs[i]?
theorem pick_vals {vs : List V} {us : List Value} (r : Vals vs us) : ∀ is : List Nat, Vals (pick is vs) (pick is us)
  | [] => .nil
  | i :: is => by
    unfold pick
    rw [List.filterMap_cons, List.filterMap_cons]
    cases e : vs[i]? with
    | none =>
      have e2 : us[i]? = none := by
        rw [List.getElem?_eq_none_iff] at e ⊢
        rw [← r.length]; exact e
      rw [e2]
      exact pick_vals r is
    | some v =>
      obtain ⟨u, e2, ru⟩ := r.get e
      rw [e2]
      exact .cons ru (pick_vals r is)
theorem pick_rep {K : PySem.W.Frag} {H : Hp} {av : Av} {Γ : Wc} {vs : List V} {ds : List D} (r : RepAll K H av Γ vs ds) : ∀ is : List Nat, RepAll K H av Γ (pick is vs) (pick is ds)
  | [] => .nil
  | i :: is => by
    unfold pick
    rw [List.filterMap_cons, List.filterMap_cons]
    cases e : vs[i]? with
    | none =>
      have e2 : ds[i]? = none := by
        rw [List.getElem?_eq_none_iff] at e ⊢
        rw [← r.len]; exact e
      rw [e2]
      exact pick_rep r is
    | some v =>
      obtain ⟨u, e2, ru⟩ := r.getV e
      rw [e2]
      exact .cons ru (pick_rep r is)
structure KBi (K : PySem.W.Frag) (fd : FuncData) (ps ks : List Str) (is : List Nat) : Prop where
  to : ∀ (s : Shared) (ws : List Value), K.In s.heap → ws.length = ks.length → BindsTo s fd ⟨[], ks.zip ws⟩ (ps.zip (pick is ws))
theorem kbi_of {K : PySem.W.Frag} {x qual : Str} {st : Stmt} {f : Addr} {fd : FuncData} {ps ks : List Str} {is : List Nat} (F : Fun K x qual st f fd)
    (h : ∀ (kV doc pm : Value) (an : Option Addr) (cdv ct : Value) (ws : List Value), ws.length = ks.length → bindArgs (PySem.W.fnOf x qual (defArgs st) (defBody st) (defScope st) .none kV doc pm an cdv ct) ⟨[], ks.zip ws⟩ = pure (ps.zip (pick is ws))) : KBi K fd ps ks is := by
  obtain ⟨oc, od, kV, doc, pm, an, cdv, ct, osl, rfl, lk, hcd⟩ := F.ex
  exact ⟨fun s ws _ l => .of_eq (h kV doc pm an cdv ct ws l)⟩
def tCallK (n : Nat) (is : List Nat) (sp : Sp) (E : L2.St → XK) (t : TA) : TE := fun σ H Q => t σ H fun zs H1 => zs.length = n ∧ sp (pick is zs) H1 Q (E σ)
def eCallK (n m : Nat) (is : List Nat) (F : List D → M D) (a : En → M (List D)) : En → M D := fun ρ s => bx (a ρ s) fun x s1 => if x.length = n ∧ (pick is x).length = m then F (pick is x) s1 else none
section
variable {X : Cx} {CX : CXT} {k : Nat} {f : Addr} {fd : FuncData} {ps ks : List Str} {is : List Nat} {sp : Sp} {E : L2.St → XK} {x : Str} {p pos : Pos} {kws : List Keyword} {tk : TA}
theorem pe_callKG (F : FnG X.prog X.w X.K X.mg X.base CX k f fd ps sp) (hgu : X.A.guards = some []) (hr : Room k X.A) (hg : Gl X x) (hm : X.mg x = some (.ref f)) (hk : PySem.W.keepIn X.K (.ref f) = true) (hb : KBi X.K fd ps ks is) (hx : ∀ σ, PassesAt CX X σ (E σ)) (hkw : PK X kws tk)
    (hall : (backToKw pos (keywordEach kws X.env)).all (·.1.isSome) = true := by rfl) (hks : (backToKw pos (keywordEach kws X.env)).filterMap (·.1) = ks := by rfl) (hdb : (x == ("__debug__" : Str)) = false := by decide)
    (hpl : ((backTo pos (starEach [] X.env)).any (·.1) || (backToKw pos (keywordEach kws X.env)).any (·.1.isNone)) = false := by rfl) :
    PE X (.Call (.Name x p) [] kws pos) (tCallK ks.length is sp E tk) := by
  refine ⟨fun pins s σ H Q I h => ?_⟩
  refine wpAny_Call_Name_kw (ld_glob I hg hm ?_ hdb)
  refine PySem.W.callWith_KW0 (h₀ := X.base) I.ok.mod.kin hk hall ?_ hpl
  refine thn (hkw.run pos pins s σ H _ I h) fun ws s2 ⟨zs, H2, I2, rz, l2, q2⟩ => ⟨I2.kIn, ?_⟩
  rw [hks]
  refine wpAny_call (codeAny_mono (F.runs X.A X.stack s2 H2 ⟨[], ks.zip ws⟩ (pick is ws) (pick is zs) Q (E σ) hgu hr I2.env0 (hb.to s2 ws I2.kIn (rz.length.symm.trans l2)) (pick_vals rz is) q2) fun r s' hq => ?_)
  match r, hq with
  | .error e, hq => exact hx σ pins H2 s2 e s' I2 hq
  | .ok (.ret u), hq => exact I2.after hq
  | .ok .next, hq => exact False.elim hq
  | .ok .brk, hq => exact False.elim hq
  | .ok .cont, hq => exact False.elim hq
end
section
variable {C : Cc} {W : WX} {ts : TA} {ms : En → M (List D)}
theorem sf_callK {n m : Nat} {is : List Nat} {F : List D → M D} (hs : SA C W ts ms) : SF C W (tCallK n is (spF C.K C.Γ true m F) (WE W) ts) (eCallK n m is F ms) := by
  intro av σ ρ s H r s' Q o e q
  refine hs.bindF o e q fun x s1 vs H1 g1 o1 r1 e q => ?_
  split at e
  · rename_i hl
    refine ⟨by rw [RepAll.len r1]; exact hl.1, av, s1, pick is x, r, s', o1.at_.b, pick_rep r1 is, hl.2, e, ?_⟩
    cases r with
    | ok d => exact fun p H' g w n ow => q p H' g w n (ow.ub rfl rfl)
    | error x => exact fun cls dd H' g w rx => q cls dd H' g w rx
  · cases e
theorem se_callK {fr : Bool} {n m : Nat} {is : List Nat} {F : List D → M D} (hs : SA C W ts ms) : SE C W (tCallK n is (spF C.K C.Γ fr m F) (WE W) ts) (eCallK n m is F ms) := by
  cases fr with
  | true => exact (sf_callK hs).se
  | false =>
    intro av σ ρ s H r s' Q o e q
    refine hs.bind o e q fun x s1 vs H1 g1 o1 r1 e q => ?_
    split at e
    · rename_i hl
      refine ⟨by rw [RepAll.len r1]; exact hl.1, av, s1, pick is x, r, s', o1.at_.b, pick_rep r1 is, hl.2, e, ?_⟩
      cases r with
      | ok d => exact fun v H' g w rv => q v H' g w rv
      | error x => exact fun cls dd H' g w rx => q cls dd H' g w rx
    · cases e
end
/-! ### promises of several worlds -/
theorem FnG.ex {P : Program} {w : World} {K : PySem.W.Frag} {mg : Str → Option Value} {base : Heap} {CX : CXT} {k : Nat} {f : Addr} {fd : FuncData} {ps : List Str} {ι : Type} {p : ι → Prop} {sp : ι → Sp} (h : ∀ i, p i → FnG P w K mg base CX k f fd ps (sp i)) : FnG P w K mg base CX k f fd ps (fun vs H Q E => ∃ i, p i ∧ sp i vs H Q E) :=
  ⟨fun vs H Q E ⟨i, pi, q⟩ => (h i pi).lens vs H Q E q, fun A o s H ar us vs Q E hg hr e b r ⟨i, pi, q⟩ => (h i pi).runs A o s H ar us vs Q E hg hr e b r q⟩
/-! ### what is written in the module -/
mutual
/-- the value u stands for the data d, in the written part -/
def wB (K : PySem.W.Frag) : Value → D → Bool
  | .none, .non => true
  | .bool b, .bl c => b == c
  | .int i _, .int j => decide (i = j)
  | .str x _, .str y => decide (x = y)
  | .ref q, .tup ds => match K.lookup q with
    | some ⟨.type c, _, .seq its _, _⟩ => decide (c = "tuple") && decide (its.size ≤ 1000) && wBs K its.toList ds
    | _ => false
  | _, _ => false
def wBs (K : PySem.W.Frag) : List Value → List D → Bool
  | [], [] => true
  | u :: us, d :: ds => wB K u d && wBs K us ds
  | _, _ => false
end
def toV : Value → V
  | .none => .non
  | .bool b => .bl b
  | .int i _ => .int i
  | .str x _ => .str x
  | .ref a => .ref a
  | _ => .non
mutual
theorem wB_rep {K : PySem.W.Frag} {H : Hp} {av : Av} {Γ : Wc} : ∀ (d : D) (u : Value), wB K u d = true → Rep K H av Γ (toV u) d ∧ RelV (toV u) u
  | .non, u, h => by
    cases u <;> simp [wB] at h
    exact ⟨.non, rfl⟩
  | .bl b, u, h => by
    cases u <;> simp [wB] at h
    subst h
    exact ⟨.bl _, rfl⟩
  | .int b, u, h => by
    cases u <;> simp [wB] at h
    subst h
    exact ⟨.int _, ⟨_, rfl⟩⟩
  | .str b, u, h => by
    cases u <;> simp [wB] at h
    subst h
    exact ⟨.str _, ⟨_, rfl⟩⟩
  | .tup ds, u, h => by
    cases u with
    | ref q =>
      simp only [wB] at h
      split at h
      · rename_i c d its n sl e
        simp only [Bool.and_eq_true, decide_eq_true_eq] at h
        obtain ⟨⟨rfl, hz⟩, h⟩ := h
        obtain ⟨h1, h2⟩ := wBs_rep ds its.toList h
        exact ⟨.tup (.inr ⟨_, its, n, e, rfl, rfl, Nat.le_trans hz (by decide), h2⟩) h1, rfl⟩
      · cases h
    | _ => simp [wB] at h
  | .lst ds, u, h => by cases u <;> simp [wB] at h
  | .dic _ _, u, h => by cases u <;> simp [wB] at h
  | .obj _ _ _, u, h => by cases u <;> simp [wB] at h
  | .exc _ _ _, u, h => by cases u <;> simp [wB] at h
  | .drw, u, h => by cases u <;> simp [wB] at h
theorem wBs_rep {K : PySem.W.Frag} {H : Hp} {av : Av} {Γ : Wc} : ∀ (ds : List D) (us : List Value), wBs K us ds = true → RepAll K H av Γ (us.map toV) ds ∧ Vals (us.map toV) us
  | [], us, h => by
    cases us with
    | nil => exact ⟨.nil, .nil⟩
    | cons u us => simp [wBs] at h
  | d :: ds, us, h => by
    cases us with
    | nil => simp [wBs] at h
    | cons u us =>
      simp only [wBs, Bool.and_eq_true] at h
      obtain ⟨a, b⟩ := wB_rep d u h.1
      obtain ⟨c, e⟩ := wBs_rep ds us h.2
      exact ⟨.cons a c, .cons b e⟩
end
/-- a value of the module -/
theorem se_w {C : Cc} {W : WX} {a : Addr} {d : D} (h : wB C.K (.ref a) d = true) : SE C W (tC (.ref a)) (eC d) := se_c fun H av => (wB_rep d _ h).1
/-- x in a dict of the module -/
def rInK (K : PySem.W.Frag) (w : World) : R2 := fun x y H Q => ∃ p z, x = .str z ∧ y = .ref p ∧ (((∃ v, KDct K w p z v) ∧ (p == sysModules) = false ∧ Q (.bl true) H) ∨ (KMiss K w p z ∧ Q (.bl false) H))
theorem op_inK {X : Cx} : OpR X (compareOp .In) (rInK X.K X.w) := by
  intro pins s σ H x y v u Q I rx ry h
  obtain ⟨p, z, rfl, rfl, h⟩ := h
  obtain ⟨t, rfl⟩ := rx
  obtain rfl : u = Value.ref p := ry
  rcases h with ⟨⟨r, es, n, u0, hl, hk, e, ru⟩, low, q⟩ | ⟨⟨es, n, hl, hk, low, e⟩, q⟩
  · have hm := PySem.W.mapOf_K (prog := X.prog) (w := X.w) I.kIn hl hk
    refine wpAny_in_of (strKind_is X.prog X.w z t) low hm ?_
    rw [PySem.W.find_K hl e]
    exact ⟨.bl true, H, I.tok _, rfl, q⟩
  · have hm := PySem.W.mapOf_K (prog := X.prog) (w := X.w) I.kIn hl hk
    refine wpAny_in_of (strKind_is X.prog X.w z t) low hm ?_
    rw [PySem.W.find_K hl e]
    exact ⟨.bl false, H, I.tok _, rfl, q⟩
structure WDict (K : PySem.W.Frag) (w : World) (a : Addr) (tbl : List (Str × D)) (miss : List Str) : Prop where
  low : (a == sysModules) = false
  hit : ∀ z d, tbl.lookup z = some d → ∃ u, KDct K w a z (toV u) ∧ wB K u d = true
  mis : ∀ z, z ∈ miss → KMiss K w a z
def wIx (tbl : List (Str × D)) : D → Option D
  | .str z => tbl.lookup z
  | _ => none
def wIn (tbl : List (Str × D)) (miss : List Str) : D → Option D
  | .str z => if (tbl.lookup z).isSome then some (.bl true) else if z ∈ miss then some (.bl false) else none
  | _ => none
section
variable {C : Cc} {W : WX} {te : TE} {me : En → M D}
theorem se_wix {w : World} {a : Addr} {tbl : List (Str × D)} {miss : List Str} (Wd : WDict C.K w a tbl miss) (he : SE C W te me) : SE C W (tOp (rIxD C.K w) (tC (.ref a)) te) (eUn (wIx tbl) me) := by
  intro av σ ρ s H r s' Q o e q
  refine he.bind o e q fun x s1 v H1 g1 o1 r1 e q => ?_
  obtain ⟨z, e3, rfl, rfl⟩ := ox_some e
  cases x <;> simp only [wIx] at e3 <;> try (cases e3)
  obtain ⟨u, h1, h2⟩ := Wd.hit _ _ e3
  exact ⟨a, _, _, rfl, Rep.str_eq r1, h1, q _ H1 .refl o1.wo (wB_rep _ _ h2).1⟩
theorem se_win {w : World} {a : Addr} {tbl : List (Str × D)} {miss : List Str} (Wd : WDict C.K w a tbl miss) (he : SE C W te me) : SE C W (tOp (rInK C.K w) te (tC (.ref a))) (eUn (wIn tbl miss) me) := by
  intro av σ ρ s H r s' Q o e q
  refine he.bind o e q fun x s1 v H1 g1 o1 r1 e q => ?_
  obtain ⟨z, e3, rfl, rfl⟩ := ox_some e
  cases x <;> simp only [wIn] at e3 <;> try (cases e3)
  split at e3
  · rename_i hs
    cases e3
    obtain ⟨d, hs⟩ := Option.isSome_iff_exists.mp hs
    obtain ⟨u, h1, h2⟩ := Wd.hit _ _ hs
    exact ⟨a, _, Rep.str_eq r1, rfl, .inl ⟨⟨_, h1⟩, Wd.low, q _ H1 .refl o1.wo (.bl true)⟩⟩
  · split at e3
    · rename_i hm
      cases e3
      exact ⟨a, _, Rep.str_eq r1, rfl, .inr ⟨Wd.mis _ hm, q _ H1 .refl o1.wo (.bl false)⟩⟩
    · cases e3
end
def tblB (K : PySem.W.Frag) (a : Addr) (tbl : List (Str × D)) : Bool := tbl.all fun p => match PySem.W.nsIn K a p.1 with
  | some (some u) => wB K u p.2
  | _ => false
def missB (K : PySem.W.Frag) (a : Addr) (miss : List Str) : Bool := miss.all fun z => match PySem.W.nsIn K a z with
  | some none => true
  | _ => false
theorem wdict_of {K : PySem.W.Frag} {w : World} {a : Addr} {es : Array DictEntry} {n : Nat} {tbl : List (Str × D)} {miss : List Str} (hl : K.lookup a = some ⟨.type "dict", none, .dict es n, #[]⟩) (hk : PySem.W.KeysLit w.params es.toList) (ho : (a == sysModules) = false)
    (ht : tblB K a tbl = true) (hm : missB K a miss = true) : WDict K w a tbl miss := by
  refine ⟨ho, fun z d e => ?_, fun z hz => ?_⟩
  · have hmem : (z, d) ∈ tbl := by
      clear ht
      induction tbl with
      | nil => simp at e
      | cons p tbl ih =>
        obtain ⟨y, ms⟩ := p
        rw [List.lookup_cons] at e
        split at e
        · rename_i hb
          cases e
          rw [show z = y from by simpa using hb]
          exact List.mem_cons_self
        · exact List.mem_cons_of_mem _ (ih e)
    have h1 := List.all_eq_true.mp ht _ hmem
    dsimp only at h1
    split at h1
    · rename_i u hq
      exact ⟨u, ⟨es, n, _, hl, hk, hq, (wB_rep (H := fun _ => none) (av := fun _ => False) (Γ := ⟨0, [], fun _ => none⟩) _ _ h1).2⟩, h1⟩
    · cases h1
  · have h1 := List.all_eq_true.mp hm _ hz
    split at h1
    · rename_i hq
      exact ⟨es, n, hl, hk, ho, hq⟩
    · cases h1
end DM
set_option Elab.async false
set_option linter.all false
set_option maxRecDepth 100000
set_option maxHeartbeats 2000000
namespace DM
open PySem PySem.Spec PyProof.Rows L2 Lay NdefX LamX GD
/-! ### displays of dicts -/
def eDisp : List (Str × (En → M D)) → En → M (List D)
  | [] => fun _ s => some (.ok [], s)
  | (_, m) :: r => fun ρ s => bx (m ρ s) fun x s1 => bx (eDisp r ρ s1) fun y s2 => some (.ok (x :: y), s2)
def mkD (ks : List Str) (xs : List D) : Option D := if decide ks.Nodup && decide (ks.length ≤ 15) then some (.dic ks xs) else none
def eDic (ps : List (Str × (En → M D))) : En → M D := fun ρ s => bx (eDisp ps ρ s) fun x s1 => ox (mkD (ps.map (·.1)) x) s1
inductive SP (C : Cc) (W : WX) : List (TE × TE) → List (Str × (En → M D)) → Prop
  | nil : SP C W [] []
  | cons {k : Str} {t : TE} {m : En → M D} {ts : List (TE × TE)} {ms : List (Str × (En → M D))} : SE C W t m → SP C W ts ms → SP C W ((tC (.str k), t) :: ts) ((k, m) :: ms)
def rPs (C : Cc) (ks : List Str) : RG (List D) (List (V × V)) := fun H av ps ds => ∃ vs, ps = List.zipWith (fun k v => (V.str k, v)) ks vs ∧ RepAll C.K H av C.Γ vs ds ∧ ks.length = ds.length
theorem sp_run {C : Cc} {W : WX} {ts : List (TE × TE)} {ms : List (Str × (En → M D))} (h : SP C W ts ms) : SG C W (rPs C (ms.map (·.1))) (tPairs ts) (eDisp ms) := by
  induction h with
  | nil =>
    intro av σ ρ s H r s' Q o e q
    cases e
    exact q _ H .refl o.wo ⟨[], rfl, .nil, rfl⟩
  | cons h1 h2 ih =>
    intro av σ ρ s H r s' Q o e q
    refine h1.bind (R' := rPs C _) o e q fun x s1 v H1 g1 o1 r1 e q => ?_
    refine SG.bind (R' := rPs C _) ih o1 e q fun y s2 ps H2 g2 o2 r2 e q => ?_
    cases e
    obtain ⟨vs, rfl, r2, hl⟩ := r2
    exact q _ H2 .refl o2.wo ⟨v :: vs, rfl, .cons (Rep.kp r1 (g2.kp.ch o.ad)) r2, by simpa using hl⟩
theorem putK_new {kvs : List (Key × V)} {k : Key} {v : V} (h : ∀ p ∈ kvs, p.1 ≠ k) : putK kvs k v = kvs ++ [(k, v)] := by
  unfold putK
  rw [if_neg]
  intro z
  obtain ⟨p, hp, e⟩ := List.any_eq_true.mp z
  exact h p hp (of_decide_eq_true e)
theorem merge_new : ∀ (ks : List Str) (vs : List V) (acc : List (Key × V)), ks.Nodup → (∀ p ∈ acc, ∀ k ∈ ks, p.1 ≠ Sum.inr k) → mergeK acc (zipK ks vs) = acc ++ zipK ks vs
  | [], vs, acc, _, _ => by simp [zipK, mergeK]
  | k :: ks, [], acc, _, _ => by simp [zipK, mergeK]
  | k :: ks, v :: vs, acc, nd, h => by
    have nd' := List.nodup_cons.mp nd
    have e : mergeK acc (zipK (k :: ks) (v :: vs)) = mergeK (putK acc (Sum.inr k) v) (zipK ks vs) := rfl
    rw [e, putK_new fun p hp => h p hp k List.mem_cons_self, merge_new ks vs _ nd'.2 fun p hp k' hk => ?_]
    · rw [List.append_assoc]
      rfl
    · rcases List.mem_append.mp hp with hp | hp
      · exact h p hp k' (List.mem_cons_of_mem _ hk)
      · rw [List.mem_singleton.mp hp]
        intro z
        cases z
        exact nd'.1 hk
theorem sf_disp {C : Cc} {W : WX} {ts : List (TE × TE)} {ms : List (Str × (En → M D))} (h : SP C W ts ms) : SF C W (tDisp ts) (eDic ms) := by
  intro av σ ρ s H r s' Q o e q p hp
  let av2 : Av := fun a => av a ∨ a = p
  have nw : ∀ a, av2 a → av a ∨ H a = none := fun a z => by
    rcases z with z | z
    · exact .inl z
    · rw [z]; exact .inr hp
  have np : ¬ C.Γ.ch p := fun z => o.al p (o.ad p z) hp
  have k0 : Kp av2 H (upd H p (.dK [])) := .new hp
  have o1 : OkE C av2 σ ρ s (upd H p (.dK [])) := by
    refine ⟨o.len, o.wo.new hp, fun a z => .inl (o.ad a z), fun a z => ?_, fun a z => ?_, (o.sl.wd nw).kp k0⟩
    · rcases z with z | z
      · exact Lv.upd a (o.al a z)
      · rw [z, upd_same]; simp
    · by_cases e : a = p
      · rw [e, upd_same]
        intro c q z
        cases z
      · rw [upd_ne e]
        exact o.nc a (z.resolve_right e)
  cases z : eDisp ms ρ s with
  | none =>
    unfold eDic at e
    rw [z] at e
    cases e
  | some pr =>
    obtain ⟨x, s1⟩ := pr
    unfold eDic at e
    rw [z] at e
    refine sp_run h av2 σ ρ s _ x s1 _ o1 z ?_
    cases x with
    | error x =>
      cases e
      exact fun cls dd H' g w rx => q cls dd H' ((Go.new hp).trans g) w (rx.wd fun a z => .inl (.inl z))
    | ok ds =>
      intro ps H2 g w rp
      obtain ⟨d, e3, rfl, rfl⟩ := ox_some e
      unfold mkD at e3
      split at e3
      · rename_i hn
        simp only [Bool.and_eq_true, decide_eq_true_eq] at hn
        cases e3
        obtain ⟨vs, rfl, ra, hl⟩ := rp
        have h2 : H2 p = some (.dK []) := g.kp p _ np upd_same
        have hz : List.zipWith (fun k v => (V.str k, v)) (ms.map (·.1)) vs = (zipK (ms.map (·.1)) vs).map fun kv => (kV kv.1, kv.2) := by
          unfold zipK
          rw [List.map_zipWith]
          rfl
        refine ⟨h2, zipK (ms.map (·.1)) vs, hz, ?_, ?_⟩
        · unfold zipK
          rw [List.length_zipWith]
          omega
        · rw [merge_new _ _ _ hn.1 (fun p hp => by cases hp), List.nil_append]
          have ku : Kp av2 H2 (upd H2 p (.dK (zipK (ms.map (·.1)) vs))) := .upd (.inr rfl)
          refine q p _ ⟨fun a o' n e' => ?_, ((Lv.upd (o := .dK [])).trans g.lv).trans .upd⟩ (w.own np h2 fun c q z => by cases z) hp ⟨vs, upd_same, hl, (ra.kp ku).wd fun a z => .inl ?_⟩
          · have n1 : a ≠ p := fun z => by rw [z, hp] at e'; cases e'
            rw [upd_ne n1]
            exact g.kp a _ n ((upd_ne n1).trans e')
          · rcases z with z | z
            · exact .inl z
            · exact .inr (List.mem_singleton.mp z)
      · cases e3
/-! ### the end, with tables of code objects -/
theorem law_callTG {P : Program} {w : World} {K : PySem.W.Frag} {mg mb : Str → Option Value} {CX : CXT} {k : Nat} {fa a : Addr} {cs : List (Addr × Addr)} {fd : FuncData} {x : Str} {sp : Sp} {s1 : Shared} {vs : List Value} {ns : List Int}
    (KX : K.In s1.heap) (hns : s1.heap.Ns mainGlobals mg) (hb : s1.heap.Ns builtinsNs mb) (hbb : ∀ x : Str, x ≠ "__name__" → mb x = bootBuiltins x) (hlim : s1.heap.NoLimit) (hgen : s1.gens = #[])
    (hT : ∀ p ∈ cs, s1.heap.get? p.2 = some { cls := .none, data := .fields #[] }) (nT : ∀ p ∈ cs, K.lookup p.2 = none) (hC : ∀ p ∈ cs, PySem.W.CodeHd s1.heap p.1 p.2)
    (hbm : ∃ (bm : Addr) (ob : Obj), mg "__builtins__" = some (.ref bm) ∧ bm ≠ builtinsNs ∧ s1.heap.get? bm = some ob ∧ ob.cls = .type "module" ∧ ob.dict = some builtinsNs ∧ ob.data = .plain)
    (ha : s1.heap.get? a = some { cls := .type "list", data := .seq vs.toArray }) (hi : IntsAre vs ns) (hl : ns.length ≤ sizeLine) (hr : Room k callerA)
    (F : ∀ base : Heap, K.In base → base.Ns mainGlobals mg → (∀ p ∈ cs, TabB base mg p.1 p.2) → FnG P w K mg base CX k fa fd [x] sp) (hbind : ∀ (s : Shared) (u : Value), BindsTo s fd ⟨[u], []⟩ [(x, u)])
    (hsp : ∀ H : Hp, (∀ p ∈ cs, H p.2 = some (.tbl #[])) → SqL K H a (ns.map V.int) → sp [.ref a] H (fun v _ => v = .bl true) fun _ _ _ => False)
    (hCX : ∀ H e s', CX [] H s1 (fun _ _ _ => False) e s' → False) :
    codeAny (model P w) callerA (.call (.ref fa) ⟨[.ref a], []⟩)
      (fun r s' => r = .ok (.ret (.bool true)) ∧ OldK s1.heap s'.heap ∧ s'.os = s1.os ∧ AllBare s'.gens) s1 := by
  have rv := vals_ints hi
  have inT : ∀ b : Addr, b ∈ cs.map (·.2) → s1.heap.get? b = some { cls := .none, data := .fields #[] } := by
    intro b hb'
    obtain ⟨p, hp, rfl⟩ := List.mem_map.mp hb'
    exact hT p hp
  have tin : ∀ p ∈ cs, p.2 ∈ cs.map (·.2) := fun p hp => List.mem_map_of_mem hp
  have na : a ∉ cs.map (·.2) := by
    intro z
    have e := (inT a z).symm.trans ha
    have e' := congrArg Obj.data (Option.some.inj e)
    exact nomatch e'
  -- what is tracked: the tables, and the script if it is not written
  have main : ∀ H : Hp, (∀ p ∈ cs, H p.2 = some (.tbl #[])) → (∀ b u, H b = some u → b ∈ cs.map (·.2) ∨ (b = a ∧ ∃ o' xs, u = .frz o' (.lst xs))) → SqL K H a (ns.map V.int) → HOk P w H s1.heap → (H a ≠ none → K.lookup a = none) →
      codeAny (model P w) callerA (.call (.ref fa) ⟨[.ref a], []⟩)
        (fun r s' => r = .ok (.ret (.bool true)) ∧ OldK s1.heap s'.heap ∧ s'.os = s1.os ∧ AllBare s'.gens) s1 := by
    intro H hH only sq hok noK
    have free : ∀ {b : Addr} {ob : Obj}, s1.heap.get? b = some ob → (∀ us n, ob.data ≠ .seq us n) → ob.data ≠ .fields #[] → H b = none := by
      intro b ob e h1 h2
      cases z : H b with
      | none => rfl
      | some u =>
        rcases only b u z with m | ⟨rfl, _⟩
        · have := (inT b m).symm.trans e
          cases this
          exact absurd rfl h2
        · have := ha.symm.trans e
          cases this
          exact absurd rfl (h1 _ _)
    have dfree : ∀ {b : Addr} {ob : Obj} {es : Array DictEntry} {ep : Nat}, s1.heap.get? b = some ob → ob.data = .dict es ep → H b = none := by
      intro b ob es ep e d
      refine free e (fun us n z => ?_) fun z => ?_ <;> (rw [d] at z; cases z)
    have ns2 : ∀ {b : Addr} {m : Str → Option Value}, s1.heap.Ns b m → (hidT s1.heap H).Ns b m := by
      rintro b m ⟨ob, es, ep, e, d, rr⟩
      exact ⟨ob, es, ep, hidT_get e (dfree e d), d, rr⟩
    have inB : K.In (hidT s1.heap H) := by
      intro b ob e
      refine hidT_get (KX b ob e) ?_
      cases z : H b with
      | none => rfl
      | some u =>
        exfalso
        rcases only b u z with m | ⟨rfl, _⟩
        · obtain ⟨p, hp, rfl⟩ := List.mem_map.mp m
          rw [nT p hp] at e
          cases e
        · rw [noK (by rw [z]; exact Option.some_ne_none _)] at e
          cases e
    obtain ⟨mc, l1, l2⟩ := hlim
    have hM : Mod K mg (hidT s1.heap H) := ⟨inB, ns2 hns, ⟨mb, ns2 hb, hbb⟩, ⟨mc, ns2 l1, l2⟩⟩
    have tb : ∀ p ∈ cs, TabB (hidT s1.heap H) mg p.1 p.2 := by
      intro p hp
      refine ⟨?_, ?_, ?_⟩
      · obtain ⟨ob, us, file, tf, fl, tg, inF, tx, tt, e1, r1, r2, r3, rest⟩ := hC p hp
        refine ⟨ob, us, file, tf, fl, tg, inF, tx, tt, hidT_get e1 (free e1 (fun us n z => ?_) fun z => ?_), r1, r2, r3, rest⟩
        · rw [r2] at z
          cases z
        · rw [r2] at z
          cases z
          simp at r3
      · obtain ⟨bm, ob, b1, b2, b3, b4, b5, b6⟩ := hbm
        refine ⟨bm, ob, b1, b2, ?_, ?_, hidT_get b3 (free b3 (fun us n z => ?_) fun z => ?_), b4, b5, b6⟩
        · rintro rfl
          obtain ⟨ob', es, ep, e, d, _⟩ := hns
          have := b3.symm.trans e
          cases this
          rw [b6] at d
          cases d
        · intro q
          rw [q] at b3
          have := b3.symm.trans (hT p hp)
          cases this
          cases b6
        · rw [b6] at z
          cases z
        · rw [b6] at z
          cases z
      · intro q
        obtain ⟨ob', es, ep, e, d, _⟩ := hns
        rw [q] at e
        have := e.symm.trans (hT p hp)
        cases this
        cases d
    have e0 : Env0 P w K mg (hidT s1.heap H) callerA [] s1 H := by
      refine ⟨rfl, hM, fun b ob e => of_hidT e, Nat.le_of_eq (hidT_size _ _), trivial, ?_, hok, .of_eq hgen⟩
      intro b hb'
      exact absurd hb' (List.not_mem_nil (a := b))
    have run := (F _ inB (ns2 hns) tb).runs callerA [] s1 H ⟨[.ref a], []⟩ [.ref a] [.ref a] _ _ rfl hr e0 (hbind s1 (.ref a)) (.cons rfl .nil) (hsp H hH sq)
    refine codeAny_mono run fun r s' h => ?_
    rcases r with e | fl
    · exact (hCX H e s' h).elim
    rcases fl with _ | _ | _ | u
    any_goals exact h.elim
    obtain ⟨v, H', os, bare, un, hok', r', q⟩ := h
    have q : v = .bl true := q
    subst q
    cases r'
    have stay : ∀ b ob, b ∉ cs.map (·.2) → s1.heap.get? b = some ob → s'.heap.get? b = some ob := by
      intro b ob nb e
      cases z : H b with
      | none => exact un.keep b ob e z (fun m => absurd m (List.not_mem_nil (a := b))) (List.not_mem_nil (a := b))
      | some u =>
        rcases only b u z with m | ⟨_, o2, xs, rfl⟩
        · exact absurd m nb
        · have z2 := un.frzs b o2 _ z
          have g1 := (hok b _ z).1
          have g2 := (hok' b _ z2).1
          rw [e] at g1
          cases g1
          exact g2
    have grow : ∀ p ∈ cs, ∃ more : Array Value, s'.heap.get? p.2 = some { cls := .none, data := .fields more } := by
      intro p hp
      obtain ⟨more, z⟩ := un.tbls p.2 #[] (hH p hp)
      exact ⟨_, hok' p.2 _ z⟩
    refine ⟨rfl, ⟨fun b ob e => ?_, fun b ob e => ?_⟩, os, bare⟩
    all_goals by_cases hb' : b ∈ cs.map (·.2)
    · obtain ⟨p, hp, rfl⟩ := List.mem_map.mp hb'
      obtain ⟨more, hm⟩ := grow p hp
      have := e.symm.trans (hT p hp)
      cases this
      exact .inr (.inl ⟨((hC p hp).tab (hT p hp)).isCodeTable, rfl, #[], more, rfl, by rw [Array.empty_append]; exact hm⟩)
    · exact .inl (stay b ob hb' e)
    · obtain ⟨p, hp, rfl⟩ := List.mem_map.mp hb'
      obtain ⟨more, hm⟩ := grow p hp
      exact ⟨_, hm⟩
    · exact ⟨ob, stay b ob hb' e⟩
  have tabOk : ∀ b, b ∈ cs.map (·.2) → ObjOk P w (fun _ => none) s1.heap b (.tbl #[]) := fun b m => inT b m
  cases hk : K.lookup a with
  | some ob =>
    have e := (KX a ob hk).symm.trans ha
    cases e
    have at_ : ∀ {b : Addr} {u : HO}, (if b ∈ cs.map (·.2) then some (HO.tbl #[]) else none) = some u → b ∈ cs.map (·.2) ∧ u = .tbl #[] := by
      intro b u z
      split at z
      · rename_i m
        exact ⟨m, (Option.some.inj z).symm⟩
      · cases z
    refine main (fun b => if b ∈ cs.map (·.2) then some (.tbl #[]) else none) (fun p hp => if_pos (tin p hp)) (fun b u z => .inl (at_ z).1) (.inr ⟨_, vs.toArray, _, hk, rfl, rfl, rfl, ?_, by simpa using rv⟩) (fun b u z => ?_) fun z => absurd (if_neg na) z
    · rw [List.size_toArray, hi.length]
      exact hl
    · obtain ⟨m, rfl⟩ := at_ z
      exact inT b m
  | none =>
    have at_ : ∀ {b : Addr} {u : HO}, (if b = a then some (HO.frz { cls := .type "list", data := .seq vs.toArray } (.lst (ns.map V.int))) else if b ∈ cs.map (·.2) then some (.tbl #[]) else none) = some u →
        (b ∈ cs.map (·.2) ∧ u = .tbl #[]) ∨ (b = a ∧ u = .frz { cls := .type "list", data := .seq vs.toArray } (.lst (ns.map V.int))) := by
      intro b u z
      split at z
      · rename_i m
        exact .inr ⟨m, (Option.some.inj z).symm⟩
      · split at z
        · rename_i m
          exact .inl ⟨m, (Option.some.inj z).symm⟩
        · cases z
    refine main (fun b => if b = a then some (.frz { cls := .type "list", data := .seq vs.toArray } (.lst (ns.map V.int))) else if b ∈ cs.map (·.2) then some (.tbl #[]) else none) (fun p hp => ?_) (fun b u z => ?_) (.inl (.inr ⟨_, if_pos rfl⟩)) (fun b u z => ?_) fun _ => hk
    · have h1 : ¬ p.2 = a := fun z => na (by rw [← z]; exact tin p hp)
      exact (if_neg h1).trans (if_pos (tin p hp))
    · rcases at_ z with ⟨m, rfl⟩ | ⟨rfl, rfl⟩
      · exact .inl m
      · exact .inr ⟨rfl, _, _, rfl⟩
    · rcases at_ z with ⟨m, rfl⟩ | ⟨rfl, rfl⟩
      · exact inT b m
      · exact ⟨ha, by rw [List.length_map]; exact hl, vs, _, rv, ha⟩
/-- the code objects of defs that make lambdas, and their tables -/
def tabAt (K : PySem.W.Frag) (x : Str) : Addr × Addr := (PySem.W.tabIn K x).getD (0, 0)
theorem walk_ofTG {l : PySem.W.OpenLaw} {n k : Nat} {q : Program} {loose : List Str} {XP : (Str → Option Value) → Heap → Prop} {YP : World → Heap → Prop} {d : DefRec} {K : Params → PySem.W.Frag} {x : Str} {xs : List Str} {sp : World → Sp}
    (hn : l.most = some n) (hn2 : n ≤ sizeLine) (hdf : d.params.defaults = []) (hr : Room k callerA) (hY : ∀ (w : World) (h : Heap), YP w h → (K w.params).In h)
    (hrec : ∀ y ∈ xs, ((recsOf q).find? (fun e => e.name == y)).isSome = true) (htab : ∀ (w : World), ∀ y ∈ xs, (PySem.W.tabIn (K w.params) y).isSome = true) (hno : ∀ (w : World), ∀ y ∈ xs, ((K w.params).lookup (tabAt (K w.params) y).2).isNone = true)
    (F : ∀ (w : World) (mg : Str → Option Value) (fa : Addr) (h : Heap), (K w.params).In h → h.Ns mainGlobals mg → mg d.name = some (.ref fa) → ∃ fd : FuncData,
      (∀ (s : Shared) (u : Value), BindsTo s fd ⟨[u], []⟩ [(x, u)]) ∧ ∀ base : Heap, (K w.params).In base → base.Ns mainGlobals mg → (∀ y ∈ xs, TabB base mg (tabAt (K w.params) y).1 (tabAt (K w.params) y).2) → FnG l.prog w (K w.params) mg base (L2.CX l.prog w) k fa fd [x] (sp w))
    (hsp : ∀ (w : World) (H : Hp) (a : Addr) (ns : List Int), ns.length ≤ n → (∀ y ∈ xs, H (tabAt (K w.params) y).2 = some (.tbl #[])) → SqL (K w.params) H a (ns.map V.int) → sp w [.ref a] H (fun v _ => v = .bl true) fun _ _ _ => False) :
    PySem.W.WalkO q loose XP YP l.row.toRowW d [] (fun f vs => PySem.call f vs) := by
  refine Att.attach_call hn hdf fun w s0 s1 mg mb fa ob pm cd doc a vs ns G Y _ _ _ hmg hobj hints hlen hgen => ?_
  obtain ⟨fd, hbd, hF⟩ := F w mg fa _ (hY w _ Y) G.T.g hmg
  have tt : ∀ p ∈ xs.map (tabAt (K w.params)), ∃ y ∈ xs, p = tabAt (K w.params) y ∧ PySem.W.CodeHd s1.heap p.1 p.2 ∧ s1.heap.get? p.2 = some { cls := .none, data := .fields #[] } := by
    intro p hp
    obtain ⟨y, hy, rfl⟩ := List.mem_map.mp hp
    obtain ⟨dd, hd⟩ := Option.isSome_iff_exists.mp (hrec y hy)
    obtain ⟨cp, hc⟩ := Option.isSome_iff_exists.mp (htab w y hy)
    obtain ⟨c, p⟩ := cp
    have e : tabAt (K w.params) y = (c, p) := by unfold tabAt; rw [hc]; rfl
    have z := PySem.W.tab_of G.T (hY w _ Y) hd hc
    refine ⟨y, hy, rfl, ?_, ?_⟩ <;> rw [e]
    · exact z.1
    · exact z.2
  refine law_callTG (cs := xs.map (tabAt (K w.params))) (hY w _ Y) G.T.g G.T.b G.T.builtins G.T.nolimit hgen (fun p hp => ?_) (fun p hp => ?_) (fun p hp => ?_) G.T.bmain hobj hints (Nat.le_trans hlen hn2) hr (fun base h1 h2 h3 => hF base h1 h2 fun y hy => h3 _ (List.mem_map_of_mem hy)) hbd (fun H hH hS => hsp w H a ns hlen (fun y hy => hH _ (List.mem_map_of_mem hy)) hS) fun H e s' h => ?_
  · obtain ⟨y, hy, _, _, h⟩ := tt p hp
    exact h
  · obtain ⟨y, hy, rfl, _, _⟩ := tt p hp
    exact Option.isNone_iff_eq_none.mp (hno w y hy)
  · obtain ⟨y, hy, _, h, _⟩ := tt p hp
    exact h
  · obtain ⟨_, _, _, _, _, _, _, _, _, _, _, _, z⟩ := h
    exact z
end DM
set_option Elab.async false
set_option linter.all false
set_option maxRecDepth 100000
set_option maxHeartbeats 2000000
namespace DM
open PySem PySem.Spec PyProof.Rows L2 Lay NdefX LamX GD
/-! ### operations told by the data -/
theorem hu65 {k : Nat} {A : Around} (r : Room k A) : A.units + 65 < cLine := by
  have := r.un
  omega
abbrev oSub : D → D → Option D := oI0 fun i j => .int (i - j)
abbrev oDiv : D → D → Option D := oI cDiv fun i j => .int (i / j)
abbrev oMod : D → D → Option D := oI cMod fun i j => .int (i % j)
abbrev oPow : D → D → Option D := oI cPow fun i j => .int (i ^ j.toNat)
abbrev oLt : D → D → Option D := oI0 fun i j => .bl (decide (i < j))
abbrev oLe : D → D → Option D := oI0 fun i j => .bl (decide (i ≤ j))
abbrev oGt : D → D → Option D := oI0 fun i j => .bl (decide (j < i))
abbrev oGe : D → D → Option D := oI0 fun i j => .bl (decide (j ≤ i))
def rAddX (K : PySem.W.Frag) : R2 := orR (rI0 fun i j => .int (i + j)) (orR (fun x y H Q => ∃ i j, x = .str i ∧ y = .str j ∧ i.length + j.length ≤ sizeLine ∧ Q (.str (i ++ j)) H) (orR rCat (rCatA K)))
def oAddX : D → D → Option D := orF (oI0 fun i j => .int (i + j)) (orF oAddS (orF oCat oCatT))
def rMulX : R2 := orR (rI CMul fun i j => .int (i * j)) rRep
def oMulX : D → D → Option D := orF (oI cMul fun i j => .int (i * j)) oRep
def rEqX (K : PySem.W.Frag) : R2 := orR rEq (rEqD K)
def rNeX (K : PySem.W.Frag) : R2 := orR rNe (rNeD K)
def oEqX : D → D → Option D := orF oEq oEqD
def oNeX : D → D → Option D := orF oNe oNeD
def rInA (K : PySem.W.Frag) : R2 := orR (rIn K false) (rInX K false)
def rNiA (K : PySem.W.Frag) : R2 := orR (rIn K true) (rInX K true)
def oInA : D → D → Option D := orF oIn (oInX false)
def oNiA : D → D → Option D := orF oNi (oInX true)
section
variable {X : Cx}
theorem op_addX : OpR X (binaryOp .Add) (rAddX X.K) := orR_op op_add (orR_op op_add_str (orR_op op_cat op_catA))
theorem op_mulX : OpR X (binaryOp .Mult) rMulX := orR_op op_mul op_rep
theorem op_eqX (hu : X.A.units + 64 < cLine) : OpR X (compareOp .Eq) (rEqX X.K) := orR_op op_eq (op_eqD hu)
theorem op_neX (hu : X.A.units + 64 < cLine) : OpR X (compareOp .NotEq) (rNeX X.K) := orR_op op_ne (op_neD hu)
theorem op_inA (hu : X.A.units + 65 < cLine) : OpR X (compareOp .In) (rInA X.K) := orR_op op_in_seq (op_inX hu)
theorem op_niA (hu : X.A.units + 65 < cLine) : OpR X (compareOp .NotIn) (rNiA X.K) := orR_op op_notIn_seq (op_notInX hu)
theorem passF : ∀ σ, PassesAt (L2.CX X.prog X.w) X σ (WE wF σ) := fun σ => passAt (W := wF) L2.takes0 σ
def iSeq (K : PySem.W.Frag) (t : TE) : TI := orI (iList K t) (orI (iTup K t) (iStr t))
theorem pi_seq {tg e : Expr} {te : TE} (h : PE X e te) : PI X tg e (iSeq X.K te) := orI_pi (pi_list h) (orI_pi (pi_tup h) (pi_str h))
abbrev rSlX (K : PySem.W.Frag) : V → Option Int → Option Int → Hp → VK → Prop := fun x lo hi H Q => rSlL K x lo hi H Q ∨ (rSlA K x lo hi H Q ∨ rSlS x lo hi H Q)
theorem sl_X : SlR X (rSlX X.K) := sl_list.or (sl_tupA.or sl_str)
abbrev rLenX (K : PySem.W.Frag) : List V → Hp → VK → Prop := fun xs H Q => (∃ p ys, xs = [.ref p] ∧ (SqL K H p ys ∨ SqT K H p ys) ∧ Q (.int ys.length) H) ∨ (∃ z, xs = [.str z] ∧ z.length ≤ sizeLine ∧ Q (.int z.length) H)
theorem call_lenX : CallR X (.builtin "len") (rLenX X.K) := call_len_seq.or call_len_str
abbrev rTupX (K : PySem.W.Frag) : List V → Hp → VK → Prop := fun xs H Q => ∃ p ys, xs = [.ref p] ∧ ((SqL K H p ys ∧ ∀ l, H l = none → Q (.ref l) (upd H l (.tup ys))) ∨ (SqT K H p ys ∧ Q (.ref p) H))
end
def orSl (f g : D → Option Int → Option Int → Option D) : D → Option Int → Option Int → Option D := fun a l u => match f a l u with
  | some c => some c
  | none => g a l u
def slX : D → Option Int → Option Int → Option D := orSl slL (orSl slT slS)
def isX : D → Option (List D) := orD isL (orD isT isS)
def bLenX : List D → Option D := orL bLen bLenS
section
variable {C : Cc} {W : WX} {te : TE} {me : En → M D}
theorem os_addX : OpS C (rAddX C.K) oAddX := os_or os_add (os_or os_addS (os_or os_cat os_catT))
theorem os_mulX : OpS C rMulX oMulX := os_or os_mul os_rep
theorem os_eqX : OpS C (rEqX C.K) oEqX := os_or os_eq os_eqD
theorem os_neX : OpS C (rNeX C.K) oNeX := os_or os_ne os_neD
theorem os_inA : OpS C (rInA C.K) oInA := os_or os_in os_inX
theorem os_niA : OpS C (rNiA C.K) oNiA := os_or os_notIn os_inX
theorem sl_or {r1 r2 : V → Option Int → Option Int → Hp → VK → Prop} {f g : D → Option Int → Option Int → Option D} (h1 : SlS C r1 f) (h2 : SlS C r2 g) : SlS C (fun x lo hi H Q => r1 x lo hi H Q ∨ r2 x lo hi H Q) (orSl f g) := by
  intro av s H x a l u c Q o ra e q
  unfold orSl at e
  split at e
  · rename_i c' hc
    cases e
    exact .inl (h1 av s H x a l u _ Q o ra hc q)
  · exact .inr (h2 av s H x a l u c Q o ra e q)
theorem sl_XS : SlS C (rSlX C.K) slX := sl_or ss_L (sl_or ss_T ss_S)
theorem si_seq (h : SE C W te me) : SI C W (iSeq C.K te) (iD isX me) := si_or (si_list h) (si_or (si_tup h) (si_str h))
theorem cb_lenX : CbS C (rLenX C.K) bLenX := cb_or cb_len cb_lenS
end
/-! ### a draw -/
def nextF (s : DS) : Int × DS :=
  if s.b then (s.n % 10 ^ 6, ⟨s.n / 10 ^ 6, s.k + 1, s.b⟩)
  else
    let k : Int := (s.k : Int) + 1
    let a := (s.n % 1000003 + k * k * 7919 + k) * 48271 % 2147483629
    let b := a * a % 2147483587
    (b * (b + 2) % 2147483579 / 7, ⟨s.n, s.k + 1, s.b⟩)
def lim : Nat := 1000000
def next : List D → M D
  | [.drw], s => if s.k ≤ lim then some (.ok (.int (nextF s).1), (nextF s).2) else none
  | _, _ => none
theorem nextF_k (s : DS) : (nextF s).2.k = s.k + 1 := by
  unfold nextF
  split <;> rfl
theorem nextF_lo (s : DS) : 0 ≤ (nextF s).1 := by
  unfold nextF
  split
  · show 0 ≤ s.n % 10 ^ 6
    omega
  · dsimp only
    generalize (_ : Int) * (_ + 2) = z
    omega
theorem nextF_hi (s : DS) : (nextF s).1 < 1073741824 := by
  unfold nextF
  split
  · show s.n % 10 ^ 6 < _
    omega
  · dsimp only
    generalize (_ : Int) * (_ + 2) = z
    omega
theorem modB (a : Int) {m : Int} (h : 0 < m) (h2 : m < 2 ^ 64) : -(2 ^ 64) < a % m ∧ a % m < 2 ^ 64 := by
  have h3 := Int.emod_nonneg a (show m ≠ 0 by omega)
  have h4 := Int.emod_lt_of_pos a h
  omega
/-- what the draws' list at d holds is changed: the world stands -/
theorem Wo.draw {Γ : Wc} {H : Hp} {s s' : DS} (w : Wo Γ H s) : Wo Γ (upd H Γ.dr (.lst [.int s'.n, .int (s'.k : Int), .bl s'.b])) s' := by
  refine ⟨upd_same, fun r hr => ?_⟩
  obtain ⟨ps, h1, h2, h3⟩ := w.tb r hr
  have n1 : r.1 ≠ Γ.dr := fun z => by
    have e := w.dr
    rw [← z, h1] at e
    cases e
  refine ⟨ps, by rw [upd_ne n1]; exact h1, h2, fun pos cv hc => ?_⟩
  obtain ⟨c, e1, e2⟩ := h3 pos cv hc
  have n2 : c ≠ Γ.dr := fun z => by
    have e := w.dr
    rw [← z, e2] at e
    cases e
  exact ⟨c, e1, by rw [upd_ne n2]; exact e2⟩
theorem Go.draw {Γ : Wc} {H : Hp} {o : HO} : Go Γ H (upd H Γ.dr o) := ⟨.upd (.inl rfl), .upd⟩
/-! ### a, b = x, y -/
def sPar (i j : Nat) (ms : En → M (List D)) : S := fun ρ s => bs ρ (ms ρ s) fun x s1 => match x with
  | [a, b] => some (.nx ((ρ.set i (.val a)).set j (.val b)), s1)
  | _ => none
theorem ss_par {C : Cc} {W : WX} {fr : Bool} {ts : TA} {ms : En → M (List D)} {i j : Nat} (hs : SA C W ts ms) : SS C W fr (tPar i j ts) (sPar i j ms) := by
  intro E0 ae os σ ρ s H r s' De o e p
  refine hs.bindS o e p fun x s1 vs H1 g1 o1 r1 e p => ?_
  split at e
  · cases e
    obtain ⟨v, w, rfl, ra, rb⟩ := RepAll.two r1
    exact ⟨v, w, rfl, p os _ H1 ((o1.setV ra i).setV rb j) .refl⟩
  · cases e
end DM
set_option Elab.async false
set_option linter.all false
set_option maxRecDepth 100000
set_option maxHeartbeats 2000000
/-! What the plain functions tell: rules for Wp (a result is told and P holds, or an error and E), Wr (statements), WO (operations); each found by the form alone (Stp). -/
namespace DM
open PySem L2
def Wp {α : Type} (x : Option (Except Xn α × DS)) (E : Xn → DS → Prop) (P : α → DS → Prop) : Prop := (∃ a s, x = some (.ok a, s) ∧ P a s) ∨ (∃ e s, x = some (.error e, s) ∧ E e s)
def Wr (x : Option (Res × DS)) (R : Res → DS → Prop) : Prop := ∃ r s, x = some (r, s) ∧ R r s
def WO {α : Type} (x : Option α) (P : α → Prop) : Prop := ∃ a, x = some a ∧ P a
abbrev nE : Xn → DS → Prop := fun _ _ => False
section
variable {α β : Type} {E : Xn → DS → Prop}
theorem wp_ok {a : α} {s : DS} {P : α → DS → Prop} (h : P a s) : Wp (some (.ok a, s)) E P := .inl ⟨a, s, rfl, h⟩
theorem Wp.mono {x : Option (Except Xn α × DS)} {P Q : α → DS → Prop} (h : Wp x E P) (f : ∀ a s, P a s → Q a s) : Wp x E Q := h.imp (fun ⟨a, s, e, p⟩ => ⟨a, s, e, f a s p⟩) id
theorem Wp.monoE {x : Option (Except Xn α × DS)} {E' : Xn → DS → Prop} {P : α → DS → Prop} (h : Wp x E P) (f : ∀ a s, E a s → E' a s) : Wp x E' P := h.imp id (fun ⟨a, s, e, p⟩ => ⟨a, s, e, f a s p⟩)
theorem wp_bx {x : Option (Except Xn α × DS)} {f : α → DS → Option (Except Xn β × DS)} {Q : β → DS → Prop} (h : Wp x E fun a s => Wp (f a s) E Q) : Wp (bx x f) E Q := by
  rcases h with ⟨a, s, rfl, h⟩ | ⟨e, s, rfl, h⟩
  · exact h
  · exact .inr ⟨e, s, rfl, h⟩
theorem wp_ox {x : Option α} {s : DS} {Q : α → DS → Prop} (h : WO x fun a => Q a s) : Wp (ox x s) E Q := by
  obtain ⟨a, rfl, h⟩ := h
  exact .inl ⟨a, s, rfl, h⟩
theorem wr_bs {ρ : En} {x : Option (Except Xn α × DS)} {f : α → DS → Option (Res × DS)} {R : Res → DS → Prop} (h : Wp x (fun e s => R (.er ρ e) s) fun a s => Wr (f a s) R) : Wr (bs ρ x f) R := by
  rcases h with ⟨a, s, rfl, h⟩ | ⟨e, s, rfl, h⟩
  · exact h
  · exact ⟨_, s, rfl, h⟩
theorem Wr.mono {x : Option (Res × DS)} {P Q : Res → DS → Prop} (h : Wr x P) (f : ∀ a s, P a s → Q a s) : Wr x Q := let ⟨a, s, e, p⟩ := h; ⟨a, s, e, f a s p⟩
theorem wr_some {r : Res} {s : DS} {R : Res → DS → Prop} (h : R r s) : Wr (some (r, s)) R := ⟨r, s, rfl, h⟩
theorem wp_okx {x : Option (Except Xn α × DS)} {f : α → DS → Option (Except Xn β × DS)} {Q : β → DS → Prop} (h : Wp x nE fun a s => Wp (f a s) E Q) : Wp (okx x f) E Q := by
  rcases h with ⟨a, s, rfl, h⟩ | ⟨e, s, rfl, h⟩
  · exact h
  · exact h.elim
theorem WO.mono {x : Option α} {P Q : α → Prop} (h : WO x P) (f : ∀ a, P a → Q a) : WO x Q := let ⟨a, e, p⟩ := h; ⟨a, e, f a p⟩
theorem wo_some {a : α} {P : α → Prop} (h : P a) : WO (some a) P := ⟨a, rfl, h⟩
end
/-! ### slots as written lists -/
class SetL (ρ : En) (i : Nat) (x : Sl) (ρ' : outParam En) : Prop where
  eq : ρ.set i x = ρ'
instance {y x : Sl} {ρ : En} : SetL (y :: ρ) 0 x (x :: ρ) := ⟨rfl⟩
instance {y x : Sl} {ρ ρ' : En} {i : Nat} [h : SetL ρ i x ρ'] : SetL (y :: ρ) (i + 1) x (y :: ρ') := ⟨by rw [List.set_cons_succ, h.eq]⟩
class Lk (ρ : En) (i : Nat) (x : outParam Sl) : Prop where
  eq : ρ[i]? = some x
instance {y : Sl} {ρ : En} : Lk (y :: ρ) 0 y := ⟨rfl⟩
instance {y x : Sl} {ρ : En} {i : Nat} [h : Lk ρ i x] : Lk (y :: ρ) (i + 1) x := ⟨by rw [List.getElem?_cons_succ, h.eq]⟩
class Wl (ρ : En) (is : List Nat) (ρ' : outParam En) : Prop where
  eq : wipeE ρ is = ρ'
instance {ρ : En} : Wl ρ [] ρ := ⟨rfl⟩
instance {ρ ρ1 ρ' : En} {i : Nat} {is : List Nat} [h : Wl ρ is ρ1] [h2 : SetL ρ1 i .no ρ'] : Wl ρ (i :: is) ρ' := ⟨by unfold wipeE; rw [h.eq, h2.eq]⟩
class Ev0 (n : Nat) (ds : List D) (ρ : outParam En) : Prop where
  eq : env0 n ds = ρ
instance : Ev0 0 [] [] := ⟨rfl⟩
instance {n : Nat} {ρ : En} [h : Ev0 n [] ρ] : Ev0 (n + 1) [] (.no :: ρ) := ⟨by have := h.eq; simp [env0, vals] at this ⊢; rw [List.replicate_succ, this]⟩
instance {n : Nat} {d : D} {ds : List D} {ρ : En} [h : Ev0 n ds ρ] : Ev0 (n + 1) (d :: ds) (.val d :: ρ) := ⟨by have := h.eq; simp [env0, vals] at this ⊢; exact this⟩
/-- the slots that a target has -/
class Tl (tg : Tgt) (is : outParam (List Nat)) : Prop where
  eq : tg.slots = is
class Tls (ts : List Tgt) (is : outParam (List Nat)) : Prop where
  eq : slotsL ts = is
class ApN (a b : List Nat) (c : outParam (List Nat)) : Prop where
  eq : a ++ b = c
instance {b : List Nat} : ApN [] b b := ⟨rfl⟩
instance {x : Nat} {a b c : List Nat} [h : ApN a b c] : ApN (x :: a) b (x :: c) := ⟨by rw [List.cons_append, h.eq]⟩
instance {i : Nat} : Tl (.one i) [i] := ⟨rfl⟩
instance {is : List Nat} : Tl (.unl is) is := ⟨rfl⟩
instance {ts : List Tgt} {is : List Nat} [h : Tls ts is] : Tl (.many ts) is := ⟨h.eq⟩
instance : Tls [] [] := ⟨rfl⟩
instance {t : Tgt} {ts : List Tgt} {a b c : List Nat} [h : Tl t a] [h2 : Tls ts b] [h3 : ApN a b c] : Tls (t :: ts) c := ⟨by unfold slotsL; rw [h.eq, h2.eq, h3.eq]⟩
def SetK : List Nat → List D → En → (En → Prop) → Prop
  | [], [], ρ, k => k ρ
  | i :: is, d :: ds, ρ, k => SetK is ds (ρ.set i (.val d)) k
  | _, _, _, _ => False
theorem SetK.len : ∀ {is : List Nat} {ds : List D} {ρ : En} {k : En → Prop}, SetK is ds ρ k → ds.length = is.length ∧ k (setM is (vals ds) ρ)
  | [], [], ρ, k, h => ⟨rfl, h⟩
  | i :: is, d :: ds, ρ, k, h => by
    obtain ⟨h1, h2⟩ := SetK.len (is := is) (ds := ds) h
    exact ⟨by simp [h1], h2⟩
/-- what a target takes apart, one part behind the other -/
def TgK (tg : Tgt) (d : D) (ρ : En) (k : En → Prop) : Prop := WO (tg.set ρ d) k
def TgKs (ts : List Tgt) (ds : List D) (ρ : En) (k : En → Prop) : Prop := WO ((flats ts ds).map fun xs => setM (slotsL ts) (vals xs) ρ) k
theorem tgK_one {i : Nat} {d : D} {ρ : En} {k : En → Prop} (h : k (ρ.set i (.val d))) : TgK (.one i) d ρ k := ⟨_, rfl, h⟩
theorem tgK_unl {is : List Nat} {ds : List D} {ρ : En} {k : En → Prop} (h : SetK is ds ρ k) : TgK (.unl is) (.lst ds) ρ k := by
  obtain ⟨hl, h⟩ := h.len
  exact ⟨_, by unfold Tgt.set flat; rw [if_pos hl]; rfl, h⟩
theorem tgK_many {ts : List Tgt} {ds : List D} {ρ : En} {k : En → Prop} (h : TgKs ts ds ρ k) : TgK (.many ts) (.tup ds) ρ k := by
  obtain ⟨ρ', e, h⟩ := h
  exact ⟨ρ', e, h⟩
theorem tgKs_nil {ρ : En} {k : En → Prop} (h : k ρ) : TgKs [] [] ρ k := ⟨ρ, rfl, h⟩
theorem flat_len : ∀ (tg : Tgt) (d : D) (xs : List D), flat tg d = some xs → xs.length = tg.slots.length
  | .one i, d, xs, e => by cases e; rfl
  | .unl is, d, xs, e => by
    cases d <;> simp only [flat] at e <;> try (cases e)
    split at e
    · rename_i h
      cases e
      exact h
    · cases e
  | .many ts, d, xs, e => by
    cases d <;> simp only [flat] at e <;> try (cases e)
    exact flats_len ts _ xs e
where flats_len : ∀ (ts : List Tgt) (ds : List D) (xs : List D), flats ts ds = some xs → xs.length = (slotsL ts).length
  | [], [], xs, e => by cases e; rfl
  | [], _ :: _, xs, e => by cases e
  | _ :: _, [], xs, e => by cases e
  | t :: ts, d :: ds, xs, e => by
    unfold flats at e
    obtain ⟨a, e1, e⟩ := bindE e
    obtain ⟨b, e2, rfl⟩ := mapE e
    have h1 := flat_len t d a e1
    have h2 := flats_len ts ds b e2
    unfold slotsL
    rw [List.length_append, List.length_append, h1, h2]
theorem tgKs_cons {t : Tgt} {ts : List Tgt} {d : D} {ds : List D} {ρ : En} {k : En → Prop} (h : TgK t d ρ fun ρ1 => TgKs ts ds ρ1 k) : TgKs (t :: ts) (d :: ds) ρ k := by
  obtain ⟨ρ1, e1, ρ2, e2, h⟩ := h
  unfold Tgt.set at e1
  obtain ⟨a, f1, rfl⟩ := mapE e1
  obtain ⟨b, f2, rfl⟩ := mapE e2
  refine ⟨_, ?_, h⟩
  have : flats (t :: ts) (d :: ds) = some (a ++ b) := by unfold flats; rw [f1]; dsimp only [Option.bind]; rw [f2]; rfl
  rw [this]
  have hs : slotsL (t :: ts) = t.slots ++ slotsL ts := rfl
  have hv : vals (a ++ b) = vals a ++ vals b := List.map_append
  show some (setM (slotsL (t :: ts)) (vals (a ++ b)) ρ) = _
  rw [hs, hv, setM_app _ _ _ _ _ (by unfold vals; rw [List.length_map, flat_len t d a f1])]
class Short (xs : List D) (n : Nat) : Prop where
  le : xs.length ≤ n
instance {n : Nat} : Short [] n := ⟨Nat.zero_le n⟩
instance {x : D} {xs : List D} {n : Nat} [h : Short xs n] : Short (x :: xs) (n + 1) := ⟨Nat.succ_le_succ h.le⟩
class LenEq (xs : List D) (n : Nat) : Prop where
  eq : xs.length = n
instance : LenEq [] 0 := ⟨rfl⟩
instance {x : D} {xs : List D} {n : Nat} [h : LenEq xs n] : LenEq (x :: xs) (n + 1) := ⟨congrArg (· + 1) h.eq⟩
class AppL (xs ys : List D) (zs : outParam (List D)) : Prop where
  eq : xs ++ ys = zs
instance {ys : List D} : AppL [] ys ys := ⟨rfl⟩
instance {x : D} {xs ys zs : List D} [h : AppL xs ys zs] : AppL (x :: xs) ys (x :: zs) := ⟨congrArg (x :: ·) h.eq⟩
class LenIs (xs : List D) (n : outParam Nat) : Prop where
  eq : xs.length = n
instance : LenIs [] 0 := ⟨rfl⟩
instance {x : D} {xs : List D} {n : Nat} [h : LenIs xs n] : LenIs (x :: xs) (n + 1) := ⟨congrArg (· + 1) h.eq⟩
class MapC (ρ : En) (js : List Nat) (cs : outParam En) : Prop where
  eq : js.map (cap ρ) = cs
instance {ρ : En} : MapC ρ [] [] := ⟨rfl⟩
instance {ρ cs : En} {j : Nat} {js : List Nat} {d : D} [h : Lk ρ j (.val d)] [h2 : MapC ρ js cs] : MapC ρ (j :: js) (.val d :: cs) := ⟨by rw [List.map_cons, h2.eq]; unfold cap; rw [h.eq]⟩
/-- one step, found by the form alone -/
class Stp (G : Prop) (N : outParam Prop) : Prop where
  go : N → G
section
variable {ρ ρ' : En} {s : DS} {E : Xn → DS → Prop} {P : D → DS → Prop} {a b e mi : En → M D} {ms is : En → M (List D)} {c mt mu : En → M Bool} {f : D → D → Option D} {g1 : D → Option D} {gl : List D → Option D} {R : Res → DS → Prop} {m n m1 m2 : S} {QL : List D → DS → Prop} {QB : Bool → DS → Prop} {QO : Option Int → DS → Prop} {Q : D → Prop} {d d1 : D} {ds xs ys : List D} {A B : Prop} {ii jj : Nat} {il : List Nat} {rf : D → En} {rl : List D → En} {tg : Tgt}
/-! expressions -/
instance [h : Lk ρ ii (.val d)] : Stp (Wp (eVar ii ρ s) E P) (P d s) := ⟨fun p => .inl ⟨d, s, by unfold eVar; rw [h.eq], p⟩⟩
instance : Stp (Wp (eC d ρ s) E P) (P d s) := ⟨wp_ok⟩
instance : Stp (Wp (eOp f a b ρ s) E P) (Wp (a ρ s) E fun x s1 => Wp (b ρ s1) E fun y s2 => WO (f x y) fun z => P z s2) := ⟨fun h => wp_bx (h.mono fun _ _ h => wp_bx (h.mono fun _ _ h => wp_ox h))⟩
instance : Stp (Wp (eUn g1 a ρ s) E P) (Wp (a ρ s) E fun x s1 => WO (g1 x) fun z => P z s1) := ⟨fun h => wp_bx (h.mono fun _ _ h => wp_ox h)⟩
instance : Stp (Wp (eCB gl ms ρ s) E P) (Wp (ms ρ s) E fun xs s1 => WO (gl xs) fun z => P z s1) := ⟨fun h => wp_bx (h.mono fun _ _ h => wp_ox h)⟩
instance : Stp (Wp (aCons a ms ρ s) E QL) (Wp (a ρ s) E fun x s1 => Wp (ms ρ s1) E fun xs s2 => QL (x :: xs) s2) := ⟨fun h => wp_bx (h.mono fun _ _ h => wp_bx (h.mono fun _ _ h => wp_ok h))⟩
instance : Stp (Wp (aNil ρ s) E QL) (QL [] s) := ⟨wp_ok⟩
instance : Stp (Wp (eTup ms ρ s) E P) (Wp (ms ρ s) E fun xs s1 => xs.length ≤ line ∧ P (.tup xs) s1) := ⟨fun h => wp_bx (h.mono fun _ _ h => wp_ox ⟨_, by unfold mkT; rw [if_pos h.1], h.2⟩)⟩
instance : Stp (Wp (eLst ms ρ s) E P) (Wp (ms ρ s) E fun xs s1 => xs.length ≤ line ∧ P (.lst xs) s1) := ⟨fun h => wp_bx (h.mono fun _ _ h => wp_ox ⟨_, by unfold mkL; rw [if_pos h.1], h.2⟩)⟩
instance {k : Nat} {F : List D → M D} : Stp (Wp (eCallN k F ms ρ s) E P) (Wp (ms ρ s) E fun xs s1 => xs.length = k ∧ Wp (F xs s1) E P) := ⟨fun h => wp_bx (h.mono fun _ _ h => by rw [if_pos h.1]; exact h.2)⟩
instance {k l : Nat} {F : List D → M D} : Stp (Wp (eCallK k l il F ms ρ s) E P) (Wp (ms ρ s) E fun xs s1 => xs.length = k ∧ (pick il xs).length = l ∧ Wp (F (pick il xs) s1) E P) := ⟨fun h => wp_bx (h.mono fun _ _ h => by rw [if_pos ⟨h.1, h.2.1⟩]; exact h.2.2)⟩
instance {k l : Nat} {cs : En} [h1 : Lk ρ ii (.lam jj)] [h2 : MapC ρ il cs] : Stp (Wp (eCallL ii jj k l il e ms ρ s) E P) (Wp (ms ρ s) E fun xs s1 => xs.length = l ∧ Wp (e (lamE k xs cs) s1) E P) := ⟨fun h => by
  unfold eCallL
  rw [h1.eq]
  dsimp only
  rw [if_pos rfl, h2.eq]
  exact wp_bx (h.mono fun _ _ h => by rw [if_pos h.1]; exact h.2)⟩
instance : Stp (Wp (tB' a ρ s) E QB) (Wp (a ρ s) E fun x s1 => ∃ k, x = .bl k ∧ QB k s1) := ⟨fun h => wp_bx (h.mono fun x _ ⟨k, e, h⟩ => wp_ox ⟨k, by rw [e]; rfl, h⟩)⟩
instance : Stp (Wp (tAnd' mt mu ρ s) E QB) (Wp (mt ρ s) E fun x s1 => (x = true → Wp (mu ρ s1) E QB) ∧ (x = false → QB false s1)) := ⟨fun h => wp_bx (h.mono fun x _ h => by
  cases x with
  | true => exact h.1 rfl
  | false => exact wp_ok (h.2 rfl))⟩
instance : Stp (Wp (tOr' mt mu ρ s) E QB) (Wp (mt ρ s) E fun x s1 => (x = true → QB true s1) ∧ (x = false → Wp (mu ρ s1) E QB)) := ⟨fun h => wp_bx (h.mono fun x _ h => by
  cases x with
  | true => exact wp_ok (h.1 rfl)
  | false => exact h.2 rfl)⟩
instance : Stp (Wp (tNot' mt ρ s) E QB) (Wp (mt ρ s) E fun x s1 => QB (!x) s1) := ⟨fun h => wp_bx (h.mono fun _ _ h => wp_ok h)⟩
instance : Stp (Wp (tYes' ρ s) E QB) (QB true s) := ⟨wp_ok⟩
instance : Stp (Wp (eAnd a b ρ s) E P) (Wp (a ρ s) E fun x s1 => ∃ k, x = .bl k ∧ ((k = true → Wp (b ρ s1) E P) ∧ (k = false → P (.bl false) s1))) := ⟨fun h => wp_bx (h.mono fun x _ ⟨k, e, h⟩ => by
  subst e
  cases k with
  | true => exact h.1 rfl
  | false => exact wp_ok (h.2 rfl))⟩
instance : Stp (Wp (eOr a b ρ s) E P) (Wp (a ρ s) E fun x s1 => ∃ k, x = .bl k ∧ ((k = true → P (.bl true) s1) ∧ (k = false → Wp (b ρ s1) E P))) := ⟨fun h => wp_bx (h.mono fun x _ ⟨k, e, h⟩ => by
  subst e
  cases k with
  | true => exact wp_ok (h.1 rfl)
  | false => exact h.2 rfl)⟩
instance : Stp (Wp (eIf c a b ρ s) E P) (Wp (c ρ s) E fun x s1 => (x = true → Wp (a ρ s1) E P) ∧ (x = false → Wp (b ρ s1) E P)) := ⟨fun h => wp_bx (h.mono fun x _ h => by
  cases x with
  | true => exact h.1 rfl
  | false => exact h.2 rfl)⟩
instance : Stp (Wp (oNone ρ s) E QO) (QO none s) := ⟨wp_ok⟩
instance : Stp (Wp (oSome a ρ s) E QO) (Wp (a ρ s) E fun x s1 => ∃ i, x = .int i ∧ QO (some i) s1) := ⟨fun h => wp_bx (h.mono fun x _ ⟨k, e, h⟩ => wp_ox ⟨some k, by rw [e]; rfl, h⟩)⟩
instance {g : D → Option Int → Option Int → Option D} {l u : En → M (Option Int)} : Stp (Wp (eSl g a l u ρ s) E P) (Wp (a ρ s) E fun x s1 => Wp (l ρ s1) E fun y s2 => Wp (u ρ s2) E fun z s3 => WO (g x y z) fun w => P w s3) := ⟨fun h => wp_bx (h.mono fun _ _ h => wp_bx (h.mono fun _ _ h => wp_bx (h.mono fun _ _ h => wp_ox h)))⟩
instance [h1 : Tl tg il] [h2 : Wl ρ il ρ'] : Stp (Wp (eLc tg is mt e ρ s) E P) (Wp (is ρ s) E fun xs s1 => Wp (lcGo tg mt e ρ' xs s1) nE fun ys s2 => ys.length ≤ line ∧ P (.lst ys) s2) := ⟨fun h => wp_bx (h.mono fun xs s1 h => wp_okx (by rw [h1.eq, h2.eq]; exact h.mono fun _ _ h => wp_ox ⟨_, by unfold mkL; rw [if_pos h.1], h.2⟩))⟩
theorem wp_lcNil (h : QL [] s) : Wp (lcGo tg mt e ρ [] s) E QL := wp_ok h
theorem wp_lcCons (h : TgK tg d ρ fun ρ1 => Wp (mt ρ1 s) E fun k s1 => (k = true → Wp (e ρ1 s1) E fun y s2 => Wp (lcGo tg mt e ρ ds s2) E fun ys s3 => QL (y :: ys) s3) ∧ (k = false → Wp (lcGo tg mt e ρ ds s1) E QL)) : Wp (lcGo tg mt e ρ (d :: ds) s) E QL := by
  obtain ⟨ρ1, e0, h⟩ := h
  unfold lcGo
  rw [e0]
  refine wp_bx (h.mono fun k s1 h => ?_)
  cases k with
  | true => exact wp_bx ((h.1 rfl).mono fun _ _ h => wp_bx (h.mono fun _ _ h => wp_ok h))
  | false => exact h.2 rfl
instance : Stp (Wp (lcGo tg mt e ρ (d :: ds) s) E QL) (TgK tg d ρ fun ρ1 => Wp (mt ρ1 s) E fun k s1 => (k = true → Wp (e ρ1 s1) E fun y s2 => Wp (lcGo tg mt e ρ ds s2) E fun ys s3 => QL (y :: ys) s3) ∧ (k = false → Wp (lcGo tg mt e ρ ds s1) E QL)) := ⟨wp_lcCons⟩
instance : Stp (Wp (lcGo tg mt e ρ [] s) E QL) (QL [] s) := ⟨wp_lcNil⟩
instance {g : D → Option (List D)} : Stp (Wp (iD g a ρ s) E QL) (Wp (a ρ s) E fun x s1 => WO (g x) fun xs => QL xs s1) := ⟨fun h => wp_bx (h.mono fun _ _ h => wp_ox h)⟩
instance {g : List D → Option (List D)} : Stp (Wp (iDs g ms ρ s) E QL) (Wp (ms ρ s) E fun x s1 => WO (g x) fun xs => QL xs s1) := ⟨fun h => wp_bx (h.mono fun _ _ h => wp_ox h)⟩
/-! targets -/
instance [h : SetL ρ ii (.val d) ρ'] {k : En → Prop} : Stp (TgK (.one ii) d ρ k) (k ρ') := ⟨fun g => tgK_one (by rw [h.eq]; exact g)⟩
instance {k : En → Prop} : Stp (TgK (.unl il) (.lst ds) ρ k) (SetK il ds ρ k) := ⟨tgK_unl⟩
instance {k : En → Prop} {ts : List Tgt} : Stp (TgK (.many ts) (.tup ds) ρ k) (TgKs ts ds ρ k) := ⟨tgK_many⟩
instance {k : En → Prop} : Stp (TgKs [] [] ρ k) (k ρ) := ⟨tgKs_nil⟩
instance {k : En → Prop} {t : Tgt} {ts : List Tgt} : Stp (TgKs (t :: ts) (d :: ds) ρ k) (TgK t d ρ fun ρ1 => TgKs ts ds ρ1 k) := ⟨tgKs_cons⟩
instance {k : En → Prop} [h : SetL ρ ii (.val d) ρ'] : Stp (SetK (ii :: il) (d :: ds) ρ k) (SetK il ds ρ' k) := ⟨fun g => by unfold SetK; rw [h.eq]; exact g⟩
instance {k : En → Prop} : Stp (SetK [] [] ρ k) (k ρ) := ⟨fun g => g⟩
/-! statements -/
def thenR (R : Res → DS → Prop) (b : S) : Res → DS → Prop
  | .nx ρ', s1 => Wr (b ρ' s1) R
  | r, s1 => R r s1
theorem wr_seq (h : Wr (m ρ s) (thenR R n)) : Wr (sSeq m n ρ s) R := by
  obtain ⟨r, s1, e1, h⟩ := h
  unfold sSeq
  rw [e1]
  cases r with
  | nx ρ' => exact h
  | rt d => exact wr_some h
  | bk d => exact wr_some h
  | ct d => exact wr_some h
  | er d x => exact wr_some h
instance : Stp (Wr (sSeq m n ρ s) R) (Wr (m ρ s) (thenR R n)) := ⟨wr_seq⟩
instance : Stp (thenR R n (.nx ρ) s) (Wr (n ρ s) R) := ⟨fun h => h⟩
instance : Stp (thenR R n (.rt d) s) (R (.rt d) s) := ⟨fun h => h⟩
instance : Stp (thenR R n (.bk ρ) s) (R (.bk ρ) s) := ⟨fun h => h⟩
instance : Stp (thenR R n (.ct ρ) s) (R (.ct ρ) s) := ⟨fun h => h⟩
instance {x : Xn} : Stp (thenR R n (.er ρ x) s) (R (.er ρ x) s) := ⟨fun h => h⟩
instance : Stp (Wr (sSet tg e ρ s) R) (Wp (e ρ s) (fun x s => R (.er ρ x) s) fun d s1 => TgK tg d ρ fun ρ' => R (.nx ρ') s1) := ⟨fun h => wr_bs (h.mono fun d s1 ⟨ρ', e, h⟩ => ⟨_, s1, by rw [e]; rfl, h⟩)⟩
instance : Stp (Wr (sIf c m1 m2 ρ s) R) (Wp (c ρ s) (fun x s => R (.er ρ x) s) fun x s1 => (x = true → Wr (m1 ρ s1) R) ∧ (x = false → Wr (m2 ρ s1) R)) := ⟨fun h => wr_bs (h.mono fun x s1 h => by
  cases x with
  | true => exact h.1 rfl
  | false => exact h.2 rfl)⟩
instance : Stp (Wr (sRet e ρ s) R) (Wp (e ρ s) (fun x s => R (.er ρ x) s) fun d s1 => R (.rt d) s1) := ⟨fun h => wr_bs (h.mono fun _ _ h => wr_some h)⟩
instance : Stp (Wr (sRetN ρ s) R) (R (.rt .non) s) := ⟨wr_some⟩
instance [h : Lk ρ ii (.own d)] : Stp (Wr (sRetO ii ρ s) R) (R (.rt d) s) := ⟨fun g => ⟨_, s, by unfold sRetO; rw [h.eq], g⟩⟩
instance : Stp (Wr (sNext ρ s) R) (R (.nx ρ) s) := ⟨wr_some⟩
instance : Stp (Wr (sDrop e ρ s) R) (Wp (e ρ s) (fun x s => R (.er ρ x) s) fun d s1 => R (.nx ρ) s1) := ⟨fun h => wr_bs (h.mono fun _ _ h => wr_some h)⟩
instance [h : ∀ d, SetL ρ ii (.own d) (rf d)] : Stp (Wr (sOwn ii e ρ s) R) (Wp (e ρ s) (fun x s => R (.er ρ x) s) fun d s1 => R (.nx (rf d)) s1) := ⟨fun g => wr_bs (g.mono fun d s1 q => ⟨_, s1, rfl, by rw [(h d).eq]; exact q⟩)⟩
/-- a slot shared: own or not -/
class Shr (ρ : En) (i : Nat) (ρ' : outParam En) : Prop where
  eq : shr i ρ = ρ'
class ShS (x : Sl) (y : outParam Sl) : Prop where
  eq : (match x with | .own d => Sl.val d | x => x) = y
instance : ShS (.own d) (.val d) := ⟨rfl⟩
instance : ShS (.val d) (.val d) := ⟨rfl⟩
instance : ShS .no .no := ⟨rfl⟩
instance {k : Nat} : ShS (.lam k) (.lam k) := ⟨rfl⟩
instance {x y : Sl} [h : ShS x y] : Shr (x :: ρ) 0 (y :: ρ) := ⟨by
  have e := h.eq
  cases x <;> (unfold shr; simp only [List.getElem?_cons_zero]; subst e; rfl)⟩
instance {x : Sl} [h : Shr ρ ii ρ'] : Shr (x :: ρ) (ii + 1) (x :: ρ') := ⟨by
  have e := h.eq
  subst e
  unfold shr
  rw [List.getElem?_cons_succ]
  cases z : ρ[ii]? with
  | none => rfl
  | some y => cases y <;> rfl⟩
instance [h : Shr ρ ii ρ'] : Stp (Wr (sShare ii m ρ s) R) (Wr (m ρ' s) R) := ⟨fun g => by unfold sShare; rw [h.eq]; exact g⟩
instance [h : Shr ρ ii ρ'] : Stp (Wr (sIfP ii c m1 m2 ρ s) R) (Wp (c ρ' s) nE fun x s1 => (x = true → Wr (m1 ρ s1) R) ∧ (x = false → Wr (m2 ρ s1) R)) := ⟨fun g => by
  unfold sIfP
  rw [h.eq]
  rcases g with ⟨x, s1, e, g⟩ | ⟨_, _, _, g⟩
  · rw [e]
    dsimp only [okx]
    cases x with
    | true => exact g.1 rfl
    | false => exact g.2 rfl
  · exact g.elim⟩
instance [h1 : Lk ρ ii (.own (.lst ds))] [h : ∀ x, SetL ρ ii (.own (.lst (ds ++ [x]))) (rf x)] : Stp (Wr (sAppend ii e ρ s) R) (Wp (e ρ s) (fun x s => R (.er ρ x) s) fun x s1 => ds.length < line ∧ R (.nx (rf x)) s1) := ⟨fun g => by
  unfold sAppend
  rw [h1.eq]
  exact wr_bs (g.mono fun x s1 ⟨hl, q⟩ => ⟨_, s1, by rw [if_pos hl, (h x).eq], q⟩)⟩
instance [h1 : Lk ρ ii (.own (.lst ds))] [h : ∀ es, SetL ρ ii (.own (.lst (ds ++ es))) (rl es)] : Stp (Wr (sExt ii e ρ s) R) (Wp (e ρ s) (fun x s => R (.er ρ x) s) fun x s1 => ∃ es, x = .lst es ∧ ds.length + es.length ≤ line ∧ R (.nx (rl es)) s1) := ⟨fun g => by
  unfold sExt
  rw [h1.eq]
  exact wr_bs (g.mono fun x s1 ⟨es, e, hl, q⟩ => ⟨_, s1, by subst e; dsimp only; rw [if_pos hl, (h es).eq], q⟩)⟩
theorem wr_put {k v : En → M D} {ks : List Str} [h1 : Lk ρ ii (.own (.dic ks ds))] (g : Wp (v ρ s) (fun x s => R (.er ρ x) s) fun x s1 => Wp (k ρ s1) (fun x s => R (.er ρ x) s) fun y s2 => ∃ z, y = .str z ∧ ks.length < line ∧ R (.nx (ρ.set ii (.own (.dic (putD ks ds z x).1 (putD ks ds z x).2)))) s2) : Wr (sPut ii k v ρ s) R := by
  unfold sPut
  refine wr_bs (g.mono fun x s1 g => ?_)
  rw [h1.eq]
  exact wr_bs (g.mono fun y s2 ⟨z, e, hl, q⟩ => ⟨_, s2, by subst e; dsimp only; rw [if_pos hl], q⟩)
instance {k v : En → M D} {ks : List Str} {rp : List Str × List D → En} [h1 : Lk ρ ii (.own (.dic ks ds))] [h : ∀ p : List Str × List D, SetL ρ ii (.own (.dic p.1 p.2)) (rp p)] : Stp (Wr (sPut ii k v ρ s) R) (Wp (v ρ s) (fun x s => R (.er ρ x) s) fun x s1 => Wp (k ρ s1) (fun x s => R (.er ρ x) s) fun y s2 => ∃ z, y = .str z ∧ ks.length < line ∧ R (.nx (rp (putD ks ds z x))) s2) := ⟨fun g => wr_put (ks := ks) (ds := ds) (g.mono fun x s1 g => g.mono fun y s2 ⟨z, e, hl, q⟩ => ⟨z, e, hl, by rw [(h (putD ks ds z x)).eq]; exact q⟩)⟩
instance [h : SetL ρ ii (.lam jj) ρ'] : Stp (Wr (sLam ii jj ρ s) R) (R (.nx ρ') s) := ⟨fun g => ⟨_, s, by unfold sLam; rw [h.eq], g⟩⟩
instance {r1 : D → En} {r2 : D → D → En} [h : ∀ x, SetL ρ ii (.val x) (r1 x)] [h2 : ∀ x y, SetL (r1 x) jj (.val y) (r2 x y)] : Stp (Wr (sPar ii jj ms ρ s) R) (Wp (ms ρ s) (fun x s => R (.er ρ x) s) fun xs s1 => ∃ x y, xs = [x, y] ∧ R (.nx (r2 x y)) s1) := ⟨fun g => wr_bs (g.mono fun xs s1 ⟨x, y, e, q⟩ => ⟨_, s1, by subst e; dsimp only; rw [(h x).eq, (h2 x y).eq], q⟩)⟩
instance {x y : D} {k : D → D → Prop} : Stp (∃ u v, [x, y] = [u, v] ∧ k u v) (k x y) := ⟨fun q => ⟨x, y, rfl, q⟩⟩
def goR (tg : Tgt) (m : S) (ds : List D) (R : Res → DS → Prop) : Res → DS → Prop
  | .nx ρ', s1 => Wr (forGo tg m ds ρ' s1) R
  | .ct ρ', s1 => Wr (forGo tg m ds ρ' s1) R
  | .bk ρ', s1 => R (.nx ρ') s1
  | r, s1 => R r s1
theorem wr_forNil (h : R (.nx ρ) s) : Wr (forGo tg m [] ρ s) R := wr_some h
theorem wr_forCons (h : TgK tg d ρ fun ρ1 => Wr (m ρ1 s) (goR tg m ds R)) : Wr (forGo tg m (d :: ds) ρ s) R := by
  obtain ⟨ρ1, e0, r, s1, e1, h⟩ := h
  unfold forGo
  rw [e0]
  dsimp only [Option.bind]
  rw [e1]
  cases r with
  | nx ρ' => exact h
  | ct ρ' => exact h
  | bk ρ' => exact wr_some h
  | rt d => exact wr_some h
  | er d x => exact wr_some h
instance : Stp (Wr (sFor tg is m ρ s) R) (Wp (is ρ s) (fun x s => R (.er ρ x) s) fun xs s1 => Wr (forGo tg m xs ρ s1) R) := ⟨fun h => wr_bs h⟩
instance : Stp (Wr (forGo tg m [] ρ s) R) (R (.nx ρ) s) := ⟨wr_forNil⟩
instance : Stp (Wr (forGo tg m (d :: ds) ρ s) R) (TgK tg d ρ fun ρ1 => Wr (m ρ1 s) (goR tg m ds R)) := ⟨wr_forCons⟩
instance : Stp (goR tg m ds R (.nx ρ) s) (Wr (forGo tg m ds ρ s) R) := ⟨fun h => h⟩
instance : Stp (goR tg m ds R (.ct ρ) s) (Wr (forGo tg m ds ρ s) R) := ⟨fun h => h⟩
instance : Stp (goR tg m ds R (.bk ρ) s) (R (.nx ρ) s) := ⟨fun h => h⟩
instance : Stp (goR tg m ds R (.rt d) s) (R (.rt d) s) := ⟨fun h => h⟩
instance {x : Xn} : Stp (goR tg m ds R (.er ρ x) s) (R (.er ρ x) s) := ⟨fun h => h⟩
/-! defs -/
def retR (E : Xn → DS → Prop) (P : D → DS → Prop) : Res → DS → Prop
  | .rt d, s => P d s
  | .er _ x, s => E x s
  | _, _ => False
instance : Stp (retR E P (.rt d) s) (P d s) := ⟨fun h => h⟩
instance {x : Xn} : Stp (retR E P (.er ρ x) s) (E x s) := ⟨fun h => h⟩
theorem wp_fnL {k : Nat} [h : Ev0 k ds ρ] (g : Wr (m ρ s) (retR E P)) : Wp (fnD k m ds s) E P := by
  obtain ⟨r, s1, e1, g⟩ := g
  show Wp (fnR false (m (env0 k ds) s)) E P
  rw [h.eq, e1]
  cases r with
  | rt d => exact wp_ok g
  | nx d => exact g.elim
  | bk d => exact g.elim
  | ct d => exact g.elim
  | er d x => exact .inr ⟨x, s1, rfl, g⟩
theorem wp_next1 (h : s.k ≤ lim) (p : ∀ r s', 0 ≤ r → r < 1073741824 → s'.k = s.k + 1 → P (.int r) s') : Wp (next [.drw] s) E P :=
  .inl ⟨_, _, by show (if s.k ≤ lim then _ else _) = _; rw [if_pos h], p _ _ (nextF_lo s) (nextF_hi s) (nextF_k s)⟩
end
end DM
set_option Elab.async false
set_option linter.all false
set_option maxRecDepth 100000
set_option maxHeartbeats 2000000
/-! Plain data: what may be compared and shown. -/
namespace DM
open PySem L2
mutual
def pl : D → Bool
  | .non => true
  | .bl _ => true
  | .int _ => true
  | .str x => PyData.strOk x
  | .lst xs => pls xs
  | .tup xs => pls xs
  | _ => false
def pls : List D → Bool
  | [] => true
  | x :: xs => pl x && pls xs
end
mutual
def dep : D → Nat
  | .lst xs => deps xs + 1
  | .tup xs => deps xs + 1
  | _ => 0
def deps : List D → Nat
  | [] => 0
  | x :: xs => max (dep x) (deps xs)
end
mutual
def eqD : D → D → Bool
  | .non, .non => true
  | .bl a, .bl b => a == b
  | .bl a, .int j => (if a then 1 else 0) == j
  | .int i, .bl b => i == (if b then 1 else 0)
  | .int i, .int j => i == j
  | .str x, .str y => x == y
  | .lst xs, .lst ys => eqDs xs ys
  | .tup xs, .tup ys => eqDs xs ys
  | _, _ => false
def eqDs : List D → List D → Bool
  | [], [] => true
  | x :: xs, y :: ys => eqD x y && eqDs xs ys
  | _, _ => false
end
theorem pls_iff : ∀ {xs : List D}, pls xs = true ↔ ∀ x ∈ xs, pl x = true
  | [] => by simp [pls]
  | x :: xs => by simp [pls, pls_iff (xs := xs)]
theorem deps_le {n : Nat} : ∀ {xs : List D}, deps xs ≤ n ↔ ∀ x ∈ xs, dep x ≤ n
  | [] => by simp [deps]
  | x :: xs => by simp [deps, Nat.max_le, deps_le (xs := xs)]
mutual
theorem toP_pl : ∀ (d : D), pl d = true → ∃ p, toP d = some p ∧ p.canLay0 = true ∧ p.depth = dep d
  | .non, _ => ⟨.none, rfl, rfl, rfl⟩
  | .bl b, _ => ⟨.bool b, rfl, rfl, rfl⟩
  | .int b, _ => ⟨.int b, rfl, rfl, rfl⟩
  | .str x, h => ⟨.str x, rfl, h, rfl⟩
  | .dic _ _, h => by simp [pl] at h
  | .drw, h => by simp [pl] at h
  | .obj _ _ _, h => by simp [pl] at h
  | .exc _ _ _, h => by simp [pl] at h
  | .lst xs, h => by
    obtain ⟨ps, e1, e2, e3⟩ := toPs_pl xs (by simpa [pl] using h)
    exact ⟨.list ps, by simp [toP, e1], by simpa [PyData.canLay0] using e2, by simp [PyData.depth, dep, e3]⟩
  | .tup xs, h => by
    obtain ⟨ps, e1, e2, e3⟩ := toPs_pl xs (by simpa [pl] using h)
    exact ⟨.tuple ps, by simp [toP, e1], by simpa [PyData.canLay0] using e2, by simp [PyData.depth, dep, e3]⟩
theorem toPs_pl : ∀ (xs : List D), pls xs = true → ∃ ps, toPs xs = some ps ∧ PyData.canLayAll0 ps = true ∧ PyData.depthAll ps = deps xs
  | [], _ => ⟨[], rfl, rfl, rfl⟩
  | x :: xs, h => by
    simp only [pls, Bool.and_eq_true] at h
    obtain ⟨p, e1, e2, e3⟩ := toP_pl x h.1
    obtain ⟨ps, f1, f2, f3⟩ := toPs_pl xs h.2
    exact ⟨p :: ps, by simp [toPs, e1, f1], by simp [PyData.canLayAll0, e2, f2], by simp [PyData.depthAll, deps, e3, f3]⟩
end
mutual
theorem eqv_eqD : ∀ (d e : D) (p q : PyData), toP d = some p → toP e = some q → PyData.eqv p q = eqD d e
  | .non, e, p, q, h, h2 => by
    cases e <;> simp [toP] at h h2 <;> first | (obtain ⟨w, hw, hh⟩ := h2; subst hh; subst h; simp [PyData.eqv, eqD]) | (subst h2; subst h; simp [PyData.eqv, eqD])
  | .bl b, e, p, q, h, h2 => by
    cases e <;> simp [toP] at h h2 <;> first | (obtain ⟨w, hw, hh⟩ := h2; subst hh; subst h; simp [PyData.eqv, eqD]) | (subst h2; subst h; simp [PyData.eqv, eqD])
  | .int b, e, p, q, h, h2 => by
    cases e <;> simp [toP] at h h2 <;> first | (obtain ⟨w, hw, hh⟩ := h2; subst hh; subst h; simp [PyData.eqv, eqD]) | (subst h2; subst h; simp [PyData.eqv, eqD])
  | .str b, e, p, q, h, h2 => by
    cases e <;> simp [toP] at h h2 <;> first | (obtain ⟨w, hw, hh⟩ := h2; subst hh; subst h; simp [PyData.eqv, eqD]) | (subst h2; subst h; simp [PyData.eqv, eqD])
  | .dic _ _, e, p, q, h, h2 => by simp [toP] at h
  | .drw, e, p, q, h, h2 => by simp [toP] at h
  | .obj _ _ _, e, p, q, h, h2 => by simp [toP] at h
  | .exc _ _ _, e, p, q, h, h2 => by simp [toP] at h
  | .lst xs, e, p, q, h, h2 => by
    cases e <;> simp [toP] at h h2 <;> obtain ⟨ps, h, rfl⟩ := h
    case lst ys =>
      obtain ⟨qs, h2, rfl⟩ := h2
      simp only [PyData.eqv, eqD]
      exact eqvs_eqD xs ys ps qs h h2
    case tup ys =>
      obtain ⟨qs, h2, rfl⟩ := h2
      simp [PyData.eqv, eqD]
    all_goals subst h2; simp [PyData.eqv, eqD]
  | .tup xs, e, p, q, h, h2 => by
    cases e <;> simp [toP] at h h2 <;> obtain ⟨ps, h, rfl⟩ := h
    case tup ys =>
      obtain ⟨qs, h2, rfl⟩ := h2
      simp only [PyData.eqv, eqD]
      exact eqvs_eqD xs ys ps qs h h2
    case lst ys =>
      obtain ⟨qs, h2, rfl⟩ := h2
      simp [PyData.eqv, eqD]
    all_goals subst h2; simp [PyData.eqv, eqD]
theorem eqvs_eqD : ∀ (d e : List D) (p q : List PyData), toPs d = some p → toPs e = some q → PyData.eqvAll p q = eqDs d e
  | [], [], p, q, h, h2 => by
    simp [toPs] at h h2
    subst h h2
    simp [PyData.eqvAll, eqDs]
  | [], y :: ys, p, q, h, h2 => by
    simp only [toPs, Option.bind_eq_some_iff, Option.map_eq_some_iff] at h2
    obtain ⟨q1, _, qs, _, rfl⟩ := h2
    simp [toPs] at h
    subst h
    simp [PyData.eqvAll, eqDs]
  | x :: xs, [], p, q, h, h2 => by
    simp only [toPs, Option.bind_eq_some_iff, Option.map_eq_some_iff] at h
    obtain ⟨q1, _, qs, _, rfl⟩ := h
    simp [toPs] at h2
    subst h2
    simp [PyData.eqvAll, eqDs]
  | x :: xs, y :: ys, p, q, h, h2 => by
    simp only [toPs, Option.bind_eq_some_iff, Option.map_eq_some_iff] at h h2
    obtain ⟨q1, h1, qs, h3, rfl⟩ := h
    obtain ⟨r1, h4, rs, h5, rfl⟩ := h2
    simp [PyData.eqvAll, eqDs, eqv_eqD x y q1 r1 h1 h4, eqvs_eqD xs ys qs rs h3 h5]
end
/-- comparable -/
def cmpb (d : D) : Prop := pl d = true ∧ dep d ≤ 60
theorem cmpb.toP {d : D} (h : cmpb d) : ∃ p, toP d = some p ∧ SeqAt.shaped p = true := by
  obtain ⟨p, e1, e2, e3⟩ := toP_pl d h.1
  exact ⟨p, e1, by have := h.2; simp [SeqAt.shaped, e2, e3]; omega⟩
section
variable {Q : D → Prop} {a b : D}
theorem wo_eqD (ha : cmpb a) (hb : cmpb b) (h : Q (.bl (eqD a b))) : WO (oEqD a b) Q := by
  obtain ⟨p, e1, e2⟩ := ha.toP
  obtain ⟨q, f1, f2⟩ := hb.toP
  exact ⟨_, by simp [oEqD, e1, f1, e2, f2, eqv_eqD a b p q e1 f1], h⟩
theorem wo_neD (ha : cmpb a) (hb : cmpb b) (h : Q (.bl (!eqD a b))) : WO (oNeD a b) Q := by
  obtain ⟨p, e1, e2⟩ := ha.toP
  obtain ⟨q, f1, f2⟩ := hb.toP
  exact ⟨_, by simp [oNeD, e1, f1, e2, f2, eqv_eqD a b p q e1 f1], h⟩
theorem any_eqD {p : PyData} (e : toP a = some p) : ∀ {xs : List D} {qs : List PyData}, toPs xs = some qs → (qs.any fun z => PyData.eqv z p) = xs.any fun z => eqD z a
  | [], qs, h => by simp [toPs] at h; subst h; rfl
  | x :: xs, qs, h => by
    simp only [toPs, Option.bind_eq_some_iff, Option.map_eq_some_iff] at h
    obtain ⟨q1, h1, qs, h3, rfl⟩ := h
    rw [List.any_cons, List.any_cons, any_eqD e h3, eqv_eqD x a q1 p h1 e]
theorem wo_inXL {neg : Bool} {xs : List D} (ha : cmpb a) (hb : cmpb (.lst xs)) (h : Q (.bl (Bool.xor neg (xs.any fun z => eqD z a)))) : WO (oInX neg a (.lst xs)) Q := by
  obtain ⟨p, e1, e2⟩ := ha.toP
  obtain ⟨q, f1, f2⟩ := hb.toP
  simp only [toP, Option.map_eq_some_iff] at f1
  obtain ⟨qs, f1, rfl⟩ := f1
  exact ⟨_, by simp [oInX, e1, f1, e2, f2, any_eqD e1 f1], h⟩
theorem wo_inXT {neg : Bool} {xs : List D} (ha : cmpb a) (hb : cmpb (.tup xs)) (h : Q (.bl (Bool.xor neg (xs.any fun z => eqD z a)))) : WO (oInX neg a (.tup xs)) Q := by
  obtain ⟨p, e1, e2⟩ := ha.toP
  obtain ⟨q, f1, f2⟩ := hb.toP
  simp only [toP, Option.map_eq_some_iff] at f1
  obtain ⟨qs, f1, rfl⟩ := f1
  exact ⟨_, by simp [oInX, e1, f1, e2, f2, any_eqD e1 f1], h⟩
end
theorem cmpb_str {z : Str} (h : PyData.strOk z = true) : cmpb (.str z) := ⟨h, by simp [dep]⟩
theorem cmpb_nil : cmpb (.lst []) := ⟨rfl, by decide⟩
theorem cmpb_nilT : cmpb (.tup []) := ⟨rfl, by decide⟩
theorem eqD_nil {xs : List D} : eqD (.lst xs) (.lst []) = decide (xs = []) := by cases xs <;> simp [eqD, eqDs]
theorem eqD_nilT {xs : List D} : eqD (.tup xs) (.tup []) = decide (xs = []) := by cases xs <;> simp [eqD, eqDs]
/-! ### what is written of it -/
mutual
def shw : D → Str
  | .non => "None"
  | .bl b => if b then "True" else "False"
  | .int i => toString i
  | .str x => reprText x
  | .lst xs => listText (shws xs)
  | .tup xs => tupleText (shws xs)
  | _ => ""
def shws : List D → List Str
  | [] => []
  | x :: xs => shw x :: shws xs
end
mutual
theorem shown_shw : ∀ (d : D) (p : PyData), toP d = some p → p.shown = shw d
  | .non, p, h => by simp [toP] at h; subst h; rfl
  | .bl b, p, h => by simp [toP] at h; subst h; rfl
  | .int b, p, h => by simp [toP] at h; subst h; rfl
  | .str b, p, h => by simp [toP] at h; subst h; rfl
  | .dic _ _, p, h => by simp [toP] at h
  | .drw, p, h => by simp [toP] at h
  | .obj _ _ _, p, h => by simp [toP] at h
  | .exc _ _ _, p, h => by simp [toP] at h
  | .lst xs, p, h => by
    simp only [toP, Option.map_eq_some_iff] at h
    obtain ⟨ps, h, rfl⟩ := h
    simp only [PyData.shown, shw, showns_shw xs ps h]
  | .tup xs, p, h => by
    simp only [toP, Option.map_eq_some_iff] at h
    obtain ⟨ps, h, rfl⟩ := h
    simp only [PyData.shown, shw, showns_shw xs ps h]
theorem showns_shw : ∀ (d : List D) (p : List PyData), toPs d = some p → PyData.shownAll p = shws d
  | [], p, h => by simp [toPs] at h; subst h; rfl
  | x :: xs, p, h => by
    simp only [toPs, Option.bind_eq_some_iff, Option.map_eq_some_iff] at h
    obtain ⟨q1, h1, qs, h3, rfl⟩ := h
    simp only [PyData.shownAll, shws, shown_shw x q1 h1, showns_shw xs qs h3]
end
end DM
set_option Elab.async false
set_option linter.all false
set_option maxRecDepth 100000
set_option maxHeartbeats 2000000
/-! Operations on data, one step each. -/
namespace DM
open PySem L2
section
variable {α : Type} {Q : D → Prop} {f g : D → D → Option D} {a b : D}
theorem wo_or1 (h : WO (f a b) Q) : WO (orF f g a b) Q := by
  obtain ⟨c, e, q⟩ := h
  exact ⟨c, by unfold orF; rw [e], q⟩
theorem wo_or2 (h0 : f a b = none) (h : WO (g a b) Q) : WO (orF f g a b) Q := by
  unfold orF
  rw [h0]
  exact h
/-- a truth as a number -/
def b2i (k : Bool) : Int := if k then 1 else 0
class FlatL (xs : List D) : Prop where
  all : xs.all flatD = true
instance : FlatL [] := ⟨rfl⟩
instance {x : Str} {xs : List D} [h : FlatL xs] : FlatL (.str x :: xs) := ⟨by rw [List.all_cons, h.all]; rfl⟩
instance {x : Int} {xs : List D} [h : FlatL xs] : FlatL (.int x :: xs) := ⟨by rw [List.all_cons, h.all]; rfl⟩
instance {xs : List D} [h : FlatL xs] : FlatL (.non :: xs) := ⟨by rw [List.all_cons, h.all]; rfl⟩
instance {ms : List Str} : FlatL (ms.map D.str) := ⟨by rw [List.all_eq_true]; intro x hx; obtain ⟨z, _, rfl⟩ := List.mem_map.mp hx; rfl⟩
end
section
variable {Q : D → Prop} {i j : Int} {y z : Str} {xs ys : List D} {k : Bool} {d : D}
instance : Stp (WO (oAddX (.int i) (.int j)) Q) (Q (.int (i + j))) := ⟨fun h => wo_or1 ⟨_, rfl, h⟩⟩
theorem wo_catX (hl : xs.length + ys.length ≤ line) (h : Q (.lst (xs ++ ys))) : WO (oAddX (.lst xs) (.lst ys)) Q := wo_or2 rfl (wo_or2 rfl (wo_or1 ⟨_, by show (if _ then _ else _) = _; rw [if_pos hl], h⟩))
theorem wo_catTX (hl : xs.length + ys.length ≤ line) (h : Q (.tup (xs ++ ys))) : WO (oAddX (.tup xs) (.tup ys)) Q := wo_or2 rfl (wo_or2 rfl (wo_or2 rfl ⟨_, by show (if _ then _ else _) = _; rw [if_pos hl], h⟩))
theorem wo_cat (hl : xs.length + ys.length ≤ line) (h : Q (.lst (xs ++ ys))) : WO (oCat (.lst xs) (.lst ys)) Q := ⟨_, by show (if _ then _ else _) = _; rw [if_pos hl], h⟩
theorem wo_addS (hl : y.length + z.length ≤ line) (h : Q (.str (y ++ z))) : WO (oAddX (.str y) (.str z)) Q := wo_or2 rfl (wo_or1 ⟨_, by show (if _ then _ else _) = _; rw [if_pos hl], h⟩)
instance {zs : List D} [h : AppL xs ys zs] [h2 : Short zs 64] : Stp (WO (oAddX (.lst xs) (.lst ys)) Q) (Q (.lst zs)) := ⟨fun q => wo_catX (by rw [← List.length_append, h.eq]; exact Nat.le_trans h2.le (by decide)) (by rw [h.eq]; exact q)⟩
instance {zs : List D} [h : AppL xs ys zs] [h2 : Short zs 64] : Stp (WO (oCat (.lst xs) (.lst ys)) Q) (Q (.lst zs)) := ⟨fun q => wo_cat (by rw [← List.length_append, h.eq]; exact Nat.le_trans h2.le (by decide)) (by rw [h.eq]; exact q)⟩
instance {zs : List D} [h : AppL xs ys zs] [h2 : Short zs 64] : Stp (WO (oAddX (.tup xs) (.tup ys)) Q) (Q (.tup zs)) := ⟨fun q => wo_catTX (by rw [← List.length_append, h.eq]; exact Nat.le_trans h2.le (by decide)) (by rw [h.eq]; exact q)⟩
theorem wo_mulX (hj : (-(2 ^ 64) < i ∧ i < 2 ^ 64) ∨ (-(2 ^ 64) < j ∧ j < 2 ^ 64)) (h : Q (.int (i * j))) : WO (oMulX (.int i) (.int j)) Q := wo_or1 ⟨_, by show (if cMul i j = true then _ else _) = _; rw [if_pos (by simpa only [cMul, Bool.or_eq_true, Bool.and_eq_true, decide_eq_true_eq] using hj)], h⟩
theorem wo_repB (hl : xs.length ≤ line) (h : Q (.lst (if k then xs else []))) : WO (oRep (.lst xs) (.int (b2i k))) Q := by
  refine ⟨_, ?_, h⟩
  cases k with
  | true =>
    unfold oRep
    dsimp only
    rw [if_pos (by simp [b2i]; exact hl)]
    simp [b2i]
  | false =>
    unfold oRep
    dsimp only
    rw [if_pos (by simp [b2i])]
    simp [b2i]
theorem wo_repX (hl : xs.length ≤ line) (h : Q (.lst (if k then xs else []))) : WO (oMulX (.lst xs) (.int (b2i k))) Q := wo_or2 rfl (wo_repB hl h)
instance [h2 : Short xs 64] : Stp (WO (oMulX (.lst xs) (.int (b2i k))) Q) (Q (.lst (if k then xs else []))) := ⟨fun q => wo_repX (Nat.le_trans h2.le (by decide)) q⟩
instance [h2 : Short xs 64] : Stp (WO (oRep (.lst xs) (.int (b2i k))) Q) (Q (.lst (if k then xs else []))) := ⟨fun q => wo_repB (Nat.le_trans h2.le (by decide)) q⟩
instance : Stp (WO (oSub (.int i) (.int j)) Q) (Q (.int (i - j))) := ⟨fun h => ⟨_, rfl, h⟩⟩
theorem wo_mod (hj : 0 < j) (h : Q (.int (i % j))) : WO (oMod (.int i) (.int j)) Q := ⟨_, by show (if cMod i j = true then _ else _) = _; rw [if_pos (by simpa [cMod] using hj)], h⟩
theorem wo_div (hj : 0 < j ∧ j < 1073741824) (h : Q (.int (i / j))) : WO (oDiv (.int i) (.int j)) Q := ⟨_, by show (if cDiv i j = true then _ else _) = _; rw [if_pos (by simpa [cDiv] using hj)], h⟩
theorem wo_pow (hj : 0 ≤ j ∧ j ≤ 1000000 ∧ i.natAbs < 2 ^ 64) (h : Q (.int (i ^ j.toNat))) : WO (oPow (.int i) (.int j)) Q := ⟨_, by show (if cPow i j = true then _ else _) = _; rw [if_pos (by simpa only [cPow, Bool.and_eq_true, decide_eq_true_eq, and_assoc] using hj)], h⟩
theorem wo_pow19 (h : Q (.int 10000000000000000000)) : WO (oPow (.int 10) (.int 19)) Q := ⟨_, congrArg (fun z => some (D.int z)) (by decide +kernel : (10 : Int) ^ Int.toNat 19 = 10000000000000000000), h⟩
instance : Stp (WO (oLt (.int i) (.int j)) Q) (Q (.bl (decide (i < j)))) := ⟨fun h => ⟨_, rfl, h⟩⟩
instance : Stp (WO (oLe (.int i) (.int j)) Q) (Q (.bl (decide (i ≤ j)))) := ⟨fun h => ⟨_, rfl, h⟩⟩
instance : Stp (WO (oGt (.int i) (.int j)) Q) (Q (.bl (decide (j < i)))) := ⟨fun h => ⟨_, rfl, h⟩⟩
instance : Stp (WO (oGe (.int i) (.int j)) Q) (Q (.bl (decide (j ≤ i)))) := ⟨fun h => ⟨_, rfl, h⟩⟩
instance : Stp (WO (oNeg (.int i)) Q) (Q (.int (-i))) := ⟨fun h => ⟨_, rfl, h⟩⟩
instance : Stp (WO (oEqX (.int i) (.int j)) Q) (Q (.bl (decide (i = j)))) := ⟨fun h => wo_or1 ⟨_, rfl, h⟩⟩
instance : Stp (WO (oEqX (.str y) (.str z)) Q) (Q (.bl (decide (y = z)))) := ⟨fun h => wo_or1 ⟨_, rfl, h⟩⟩
instance : Stp (WO (oEqX (.int i) (.str z)) Q) (Q (.bl false)) := ⟨fun h => wo_or1 ⟨_, rfl, h⟩⟩
instance : Stp (WO (oEqX (.str y) (.int i)) Q) (Q (.bl false)) := ⟨fun h => wo_or1 ⟨_, rfl, h⟩⟩
instance : Stp (WO (oNeX (.int i) (.int j)) Q) (Q (.bl (!decide (i = j)))) := ⟨fun h => wo_or1 ⟨_, rfl, h⟩⟩
instance : Stp (WO (oNeX (.str y) (.str z)) Q) (Q (.bl (!decide (y = z)))) := ⟨fun h => wo_or1 ⟨_, rfl, h⟩⟩
theorem wo_eqT (ha : cmpb (.tup xs)) (hb : cmpb (.tup ys)) (h : Q (.bl (eqD (.tup xs) (.tup ys)))) : WO (oEqX (.tup xs) (.tup ys)) Q := wo_or2 rfl (wo_eqD ha hb h)
theorem wo_neT (ha : cmpb (.tup xs)) (hb : cmpb (.tup ys)) (h : Q (.bl (!eqD (.tup xs) (.tup ys)))) : WO (oNeX (.tup xs) (.tup ys)) Q := wo_or2 rfl (wo_neD ha hb h)
theorem wo_eqL (ha : cmpb (.lst xs)) (hb : cmpb (.lst ys)) (h : Q (.bl (eqD (.lst xs) (.lst ys)))) : WO (oEqX (.lst xs) (.lst ys)) Q := wo_or2 rfl (wo_eqD ha hb h)
theorem wo_neL (ha : cmpb (.lst xs)) (hb : cmpb (.lst ys)) (h : Q (.bl (!eqD (.lst xs) (.lst ys)))) : WO (oNeX (.lst xs) (.lst ys)) Q := wo_or2 rfl (wo_neD ha hb h)
theorem wo_neNil (ha : cmpb (.lst xs)) (h : Q (.bl (!decide (xs = [])))) : WO (oNeX (.lst xs) (.lst [])) Q := wo_neL ha cmpb_nil (by rw [eqD_nil]; exact h)
/-- in: flat things -/
theorem wo_inF (hd : flatD d = true) (hx : xs.all flatD = true) (h : Q (.bl (xs.any fun y => eqFl y d))) : WO (oIn d (.lst xs)) Q := ⟨_, by show (if _ then _ else _) = _; rw [if_pos (by rw [hd, hx]; rfl)], h⟩
theorem wo_inFT (hd : flatD d = true) (hx : xs.all flatD = true) (h : Q (.bl (xs.any fun y => eqFl y d))) : WO (oIn d (.tup xs)) Q := ⟨_, by show (if _ then _ else _) = _; rw [if_pos (by rw [hd, hx]; rfl)], h⟩
theorem wo_niF (hd : flatD d = true) (hx : xs.all flatD = true) (h : Q (.bl (!xs.any fun y => eqFl y d))) : WO (oNi d (.lst xs)) Q := ⟨_, by show (if _ then _ else _) = _; rw [if_pos (by rw [hd, hx]; rfl)], h⟩
theorem wo_niFT (hd : flatD d = true) (hx : xs.all flatD = true) (h : Q (.bl (!xs.any fun y => eqFl y d))) : WO (oNi d (.tup xs)) Q := ⟨_, by show (if _ then _ else _) = _; rw [if_pos (by rw [hd, hx]; rfl)], h⟩
/-- a text among texts -/
def inS (z : Str) : List D → Bool
  | [] => false
  | .str y :: xs => decide (y = z) || inS z xs
  | _ :: xs => inS z xs
theorem any_inS : ∀ (xs : List D), (xs.any fun y => eqFl y (.str z)) = inS z xs
  | [] => rfl
  | x :: xs => by
    rw [List.any_cons, any_inS xs]
    cases x <;> simp [eqFl, inS] <;> rfl
theorem inS_map : ∀ (ms : List Str), inS z (ms.map D.str) = decide (z ∈ ms)
  | [] => by simp [inS]
  | m :: ms => by
    simp only [List.map_cons, inS, inS_map ms, List.mem_cons]
    by_cases h : m = z
    · subst h; simp
    · have : ¬ z = m := fun e => h e.symm
      simp [h, this]
instance [h : FlatL xs] : Stp (WO (oInA (.str z) (.lst xs)) Q) (Q (.bl (inS z xs))) := ⟨fun q => wo_or1 (wo_inF rfl h.all (by rw [any_inS]; exact q))⟩
instance [h : FlatL xs] : Stp (WO (oInA (.str z) (.tup xs)) Q) (Q (.bl (inS z xs))) := ⟨fun q => wo_or1 (wo_inFT rfl h.all (by rw [any_inS]; exact q))⟩
instance [h : FlatL xs] : Stp (WO (oNiA (.str z) (.lst xs)) Q) (Q (.bl (!inS z xs))) := ⟨fun q => wo_or1 (wo_niF rfl h.all (by rw [any_inS]; exact q))⟩
instance [h : FlatL xs] : Stp (WO (oNiA (.str z) (.tup xs)) Q) (Q (.bl (!inS z xs))) := ⟨fun q => wo_or1 (wo_niFT rfl h.all (by rw [any_inS]; exact q))⟩
theorem wo_inTL {ts : List D} (ha : cmpb (.tup ts)) (hb : cmpb (.lst xs)) (h : Q (.bl (xs.any fun z => eqD z (.tup ts)))) : WO (oInA (.tup ts) (.lst xs)) Q := wo_or2 rfl (wo_inXL ha hb (by rw [Bool.false_xor]; exact h))
theorem wo_niTT {ts : List D} (ha : cmpb (.tup ts)) (hb : cmpb (.tup xs)) (h : Q (.bl (!xs.any fun z => eqD z (.tup ts)))) : WO (oNiA (.tup ts) (.tup xs)) Q := wo_or2 rfl (wo_inXT ha hb (by rw [Bool.true_xor]; exact h))
/-! items -/
theorem wo_ixLn {j : Nat} (e : xs[j]? = some d) (h : Q d) : WO (oIx (.lst xs) (.int (j : Nat))) Q := ⟨d, atI_nat e, h⟩
theorem wo_ixTn {j : Nat} (e : xs[j]? = some d) (h : Q d) : WO (oIx (.tup xs) (.int (j : Nat))) Q := ⟨d, atI_nat e, h⟩
variable {x x1 x2 x3 : D}
instance : Stp (WO (oIx (.tup (x :: xs)) (.int 0)) Q) (Q x) := ⟨wo_ixTn (j := 0) rfl⟩
instance : Stp (WO (oIx (.tup (x :: x1 :: xs)) (.int 1)) Q) (Q x1) := ⟨wo_ixTn (j := 1) rfl⟩
instance : Stp (WO (oIx (.tup (x :: x1 :: x2 :: xs)) (.int 2)) Q) (Q x2) := ⟨wo_ixTn (j := 2) rfl⟩
instance : Stp (WO (oIx (.tup (x :: x1 :: x2 :: x3 :: xs)) (.int 3)) Q) (Q x3) := ⟨wo_ixTn (j := 3) rfl⟩
instance : Stp (WO (oIx (.lst (x :: xs)) (.int 0)) Q) (Q x) := ⟨wo_ixLn (j := 0) rfl⟩
instance : Stp (WO (oIx (.lst (x :: x1 :: xs)) (.int 1)) Q) (Q x1) := ⟨wo_ixLn (j := 1) rfl⟩
instance : Stp (WO (oIx (.lst (x :: x1 :: x2 :: xs)) (.int 2)) Q) (Q x2) := ⟨wo_ixLn (j := 2) rfl⟩
instance : Stp (WO (oIx (.lst [x, x1]) (.int (b2i k))) Q) ((k = true → Q x1) ∧ (k = false → Q x)) := ⟨fun q => by
  cases k with
  | true => exact wo_ixLn (j := 1) rfl (q.1 rfl)
  | false => exact wo_ixLn (j := 0) rfl (q.2 rfl)⟩
instance : Stp (WO (oIx (.tup [x, x1, x2]) (.int (1 + b2i k))) Q) ((k = true → Q x2) ∧ (k = false → Q x1)) := ⟨fun q => by
  cases k with
  | true => exact wo_ixTn (j := 2) rfl (q.1 rfl)
  | false => exact wo_ixTn (j := 1) rfl (q.2 rfl)⟩
theorem atI_some {α : Type} {xs : List α} {i : Int} (h0 : 0 ≤ i) (h1 : i < xs.length) : ∃ (j : Nat) (d : α), i = j ∧ xs[j]? = some d ∧ atI xs i = some d := by
  obtain ⟨j, rfl⟩ := Int.eq_ofNat_of_zero_le h0
  have hj : j < xs.length := by omega
  exact ⟨j, xs[j], rfl, List.getElem?_eq_getElem hj, atI_nat (List.getElem?_eq_getElem hj)⟩
theorem wo_ixL (h0 : 0 ≤ i) (h1 : i < xs.length) (h : ∀ (j : Nat) d, i = j → xs[j]? = some d → Q d) : WO (oIx (.lst xs) (.int i)) Q := by
  obtain ⟨j, d, e1, e2, e3⟩ := atI_some h0 h1
  exact ⟨d, e3, h j d e1 e2⟩
theorem wo_ixM (h0 : 0 ≤ i) (h1 : i < xs.length) (h : ∀ d ∈ xs, Q d) : WO (oIx (.lst xs) (.int i)) Q := wo_ixL h0 h1 fun j d _ e => h d (List.mem_of_getElem? e)
/-- all items of a written list -/
inductive AllOf (Q : D → Prop) : List D → Prop
  | nil : AllOf Q []
  | cons {d : D} {ds : List D} : Q d → AllOf Q ds → AllOf Q (d :: ds)
theorem AllOf.mem {Q : D → Prop} : ∀ {xs : List D}, AllOf Q xs → ∀ d ∈ xs, Q d
  | _, .nil, d, h => by cases h
  | _, .cons a r, d, h => by
    rcases List.mem_cons.mp h with rfl | h
    · exact a
    · exact r.mem d h
theorem wo_ixA (h0 : 0 ≤ i) (h1 : i < xs.length) (h : AllOf Q xs) : WO (oIx (.lst xs) (.int i)) Q := wo_ixM h0 h1 h.mem
theorem wo_ixQ (I : D → Prop) (h0 : 0 ≤ i) (h1 : i < xs.length) (ha : AllOf I xs) (h : ∀ d, I d → Q d) : WO (oIx (.lst xs) (.int i)) Q := wo_ixM h0 h1 fun d hd => h d (ha.mem d hd)
/-! calls of built-ins -/
instance : Stp (WO (bInt [.bl k]) Q) (Q (.int (b2i k))) := ⟨fun h => ⟨_, rfl, h⟩⟩
instance (priority := low) : Stp (WO (bLenX [.lst xs]) Q) (Q (.int xs.length)) := ⟨fun h => ⟨_, rfl, h⟩⟩
instance (priority := low) : Stp (WO (bLenX [.tup xs]) Q) (Q (.int xs.length)) := ⟨fun h => ⟨_, rfl, h⟩⟩
instance {k : Nat} [h : LenIs xs k] : Stp (WO (bLenX [.lst xs]) Q) (Q (.int k)) := ⟨fun q => ⟨_, rfl, by rw [h.eq]; exact q⟩⟩
instance {k : Nat} [h : LenIs xs k] : Stp (WO (bLenX [.tup xs]) Q) (Q (.int k)) := ⟨fun q => ⟨_, rfl, by rw [h.eq]; exact q⟩⟩
theorem wo_lenS {n : Nat} (e : z.length = n) (hl : n ≤ 1000) (h : Q (.int n)) : WO (bLenX [.str z]) Q := ⟨_, by show orL bLen bLenS [.str z] = _; unfold orL bLen bLenS; dsimp only; rw [if_pos (by rw [e]; exact Nat.le_trans hl (by decide)), e], h⟩
instance : Stp (WO (bList [.lst xs]) Q) (Q (.lst xs)) := ⟨fun h => ⟨_, rfl, h⟩⟩
instance : Stp (WO (bList [.tup xs]) Q) (Q (.lst xs)) := ⟨fun h => ⟨_, rfl, h⟩⟩
instance {ks : List Str} : Stp (WO (bDict [.dic ks xs]) Q) (Q (.dic ks xs)) := ⟨fun h => ⟨_, rfl, h⟩⟩
instance : Stp (WO (bTuple [.lst xs]) Q) (Q (.tup xs)) := ⟨fun h => ⟨_, rfl, h⟩⟩
class Bls (xs : List D) (bs : outParam (List Bool)) : Prop where
  eq : boolsD xs = some bs
instance : Bls [] [] := ⟨rfl⟩
instance {bs : List Bool} [h : Bls xs bs] : Bls (.bl k :: xs) (k :: bs) := ⟨by show (boolsD xs).map _ = _; rw [h.eq]; rfl⟩
instance {α : Type} {l : List α} {f : α → Bool} : Bls (l.map fun a => D.bl (f a)) (l.map f) := ⟨by
  induction l with
  | nil => rfl
  | cons a l ih => show (boolsD _).map _ = _; rw [ih]; rfl⟩
instance {bs : List Bool} [h : Bls xs bs] : Stp (WO (bAny [.lst xs]) Q) (Q (.bl (bs.any id))) := ⟨fun q => ⟨_, by show (boolsD xs).map _ = _; rw [h.eq]; rfl, q⟩⟩
theorem wo_isF {T : String} {b : Bool} (e : isF T d = some (.bl b)) (h : Q (.bl b)) : WO (isF T d) Q := ⟨_, e, h⟩
/-! what is walked -/
variable {QL : List D → Prop}
instance : Stp (WO (isX (.lst xs)) QL) (QL xs) := ⟨fun h => ⟨_, rfl, h⟩⟩
instance : Stp (WO (isX (.tup xs)) QL) (QL xs) := ⟨fun h => ⟨_, rfl, h⟩⟩
instance : Stp (WO (isX (.str z)) QL) (QL (z.cps.toList.map fun c => .str ⟨#[c]⟩)) := ⟨fun h => ⟨_, rfl, h⟩⟩
instance : Stp (WO (isE [.lst xs]) QL) (QL (enumD 0 xs)) := ⟨fun h => ⟨_, rfl, h⟩⟩
instance : Stp (WO (isR [.int 2]) QL) (QL [.int 0, .int 1]) := ⟨fun h => ⟨_, rfl, h⟩⟩
instance : Stp (WO (isR [.int 3]) QL) (QL [.int 0, .int 1, .int 2]) := ⟨fun h => ⟨_, rfl, h⟩⟩
instance : Stp (WO (isR [.int 5]) QL) (QL [.int 0, .int 1, .int 2, .int 3, .int 4]) := ⟨fun h => ⟨_, rfl, h⟩⟩
/-! slices -/
theorem wo_slT1 (h : Q (.tup xs)) : WO (slX (.tup (x :: xs)) (some 1) none) Q := by
  refine ⟨_, rfl, ?_⟩
  have e : cutD (x :: xs) (some 1) none = xs := by
    unfold cutD
    simp [HT.sIx]
  rw [e]
  exact h
instance : Stp (WO (slX (.tup (x :: xs)) (some 1) none) Q) (Q (.tup xs)) := ⟨wo_slT1⟩
theorem wo_slL1 (h : Q (.lst xs)) : WO (slX (.lst (x :: xs)) (some 1) none) Q := by
  refine ⟨_, rfl, ?_⟩
  have e : cutD (x :: xs) (some 1) none = xs := by
    unfold cutD
    simp [HT.sIx]
  rw [e]
  exact h
instance : Stp (WO (slX (.lst (x :: xs)) (some 1) none) Q) (Q (.lst xs)) := ⟨wo_slL1⟩
/-- xs[:n] -/
theorem wo_slLn {n : Nat} (h : Q (.lst (xs.take n))) : WO (slX (.lst xs) none (some (n : Int))) Q := by
  refine ⟨_, rfl, ?_⟩
  have e : cutD xs none (some (n : Int)) = xs.take n := by
    have h0 : ¬ ((n : Int) < 0) := by omega
    unfold cutD
    simp [HT.sIx, h0]
  rw [e]
  exact h
/-! dicts -/
instance {ks : List Str} : Stp (WO (oGet (.dic ks xs) (.str z)) Q) (WO (getD ks xs z) Q) := ⟨fun h => h⟩
theorem wo_get0 {ks : List Str} (h : Q x) : WO (getD (z :: ks) (x :: xs) z) Q := ⟨x, by unfold getD; rw [if_pos rfl], h⟩
theorem wo_getS {ks : List Str} (n : ¬ y = z) (h : WO (getD ks xs z) Q) : WO (getD (y :: ks) (x :: xs) z) Q := by
  unfold getD
  rw [if_neg n]
  exact h
/-! what is asked of values -/
variable {A B : Prop}
instance {k : Bool} {Q : Bool → Prop} : Stp (∃ j, D.bl k = D.bl j ∧ Q j) (Q k) := ⟨fun h => ⟨k, rfl, h⟩⟩
instance {k : Int} {Q : Int → Prop} : Stp (∃ j, D.int k = D.int j ∧ Q j) (Q k) := ⟨fun h => ⟨k, rfl, h⟩⟩
instance {k : Str} {Q : Str → Prop} : Stp (∃ j, D.str k = D.str j ∧ Q j) (Q k) := ⟨fun h => ⟨k, rfl, h⟩⟩
instance {k : List D} {Q : List D → Prop} : Stp (∃ j, D.lst k = D.lst j ∧ Q j) (Q k) := ⟨fun h => ⟨k, rfl, h⟩⟩
instance {k : List D} {Q : List D → Prop} : Stp (∃ j, D.tup k = D.tup j ∧ Q j) (Q k) := ⟨fun h => ⟨k, rfl, h⟩⟩
instance : Stp ((true = true → A) ∧ (true = false → B)) A := ⟨fun a => ⟨fun _ => a, fun h => (nomatch h)⟩⟩
instance : Stp ((false = true → A) ∧ (false = false → B)) B := ⟨fun a => ⟨fun h => (nomatch h), fun _ => a⟩⟩
instance [h : Short xs 64] : Stp (xs.length ≤ line ∧ A) A := ⟨fun a => ⟨Nat.le_trans h.le (by decide), a⟩⟩
instance [h : Short xs 64] : Stp (xs.length < line ∧ A) A := ⟨fun a => ⟨Nat.lt_of_le_of_lt h.le (by decide), a⟩⟩
instance {k : Nat} [h : LenEq xs k] : Stp (xs.length = k ∧ A) A := ⟨fun a => ⟨h.eq, a⟩⟩
theorem sp_dec {p : Prop} [Decidable p] (a : p → A) (b : ¬ p → B) : (decide p = true → A) ∧ (decide p = false → B) := ⟨fun h => a (of_decide_eq_true h), fun h => b (of_decide_eq_false h)⟩
theorem sp_ndec {p : Prop} [Decidable p] (a : ¬ p → A) (b : p → B) : ((!decide p) = true → A) ∧ ((!decide p) = false → B) := ⟨fun h => a (by simpa using h), fun h => b (by simpa using h)⟩
theorem sp_T {k : Bool} (h : k = true) (a : A) : (k = true → A) ∧ (k = false → B) := ⟨fun _ => a, fun z => (by rw [h] at z; cases z)⟩
theorem sp_F {k : Bool} (h : k = false) (b : B) : (k = true → A) ∧ (k = false → B) := ⟨fun z => (by rw [h] at z; cases z), fun _ => b⟩
end
section
variable {ρ : En} {s : DS} {E : Xn → DS → Prop} {mt : En → M Bool} {e : En → M D} {tg : Tgt}
/-- a comprehension that draws nothing, told by a function -/
theorem wp_lcFM' (f : D → Option D) : ∀ (ds : List D), (∀ d ∈ ds, TgK tg d ρ fun ρ1 => Wp (mt ρ1 s) E fun k s1 => s = s1 ∧ (k = true → Wp (e ρ1 s) E fun y s2 => s = s2 ∧ f d = some y) ∧ (k = false → f d = none)) → Wp (lcGo tg mt e ρ ds s) E fun ys s' => s = s' ∧ ys = ds.filterMap f
  | [], _ => wp_lcNil ⟨rfl, rfl⟩
  | d :: ds, h => by
    refine wp_lcCons ?_
    obtain ⟨ρ1, e0, h1⟩ := h d (by simp)
    refine ⟨ρ1, e0, h1.mono fun k s1 h2 => ?_⟩
    obtain ⟨rfl, h3, h4⟩ := h2
    refine ⟨fun hk => (h3 hk).mono fun y s2 h5 => ?_, fun hk => ?_⟩
    · obtain ⟨rfl, h5⟩ := h5
      exact (wp_lcFM' f ds fun x hx => h x (by simp [hx])).mono fun ys s3 ⟨q1, q2⟩ => ⟨q1, by rw [q2, List.filterMap_cons, h5]⟩
    · exact (wp_lcFM' f ds fun x hx => h x (by simp [hx])).mono fun ys s3 ⟨q1, q2⟩ => ⟨q1, by rw [q2, List.filterMap_cons, h4 hk]⟩
theorem wp_lcFM {ds : List D} {Q : List D → DS → Prop} (f : D → Option D) (h : ∀ d ∈ ds, TgK tg d ρ fun ρ1 => Wp (mt ρ1 s) E fun k s1 => s = s1 ∧ (k = true → Wp (e ρ1 s) E fun y s2 => s = s2 ∧ f d = some y) ∧ (k = false → f d = none)) (q : Q (ds.filterMap f) s) : Wp (lcGo tg mt e ρ ds s) E Q :=
  (wp_lcFM' f ds h).mono fun ys s' ⟨e1, e2⟩ => by rw [← e1, e2]; exact q
/-- over what stands for a list of things: a test and what is made -/
theorem wp_lcM {α : Type} {Q : List D → DS → Prop} (u : α → D) (t : α → Bool) (v : α → D) : ∀ (l : List α), (∀ a ∈ l, TgK tg (u a) ρ fun ρ1 => Wp (mt ρ1 s) E fun k s1 => k = t a ∧ s = s1 ∧ (k = true → Wp (e ρ1 s) E fun y s2 => y = v a ∧ s = s2)) → Q ((l.filter t).map v) s → Wp (lcGo tg mt e ρ (l.map u) s) E Q
  | [], _, q => wp_lcNil q
  | a :: l, h, q => by
    refine wp_lcCons ?_
    obtain ⟨ρ1, e0, h1⟩ := h a (by simp)
    refine ⟨ρ1, e0, h1.mono fun k s1 h2 => ?_⟩
    obtain ⟨rfl, rfl, h3⟩ := h2
    refine ⟨fun hk => (h3 hk).mono fun y s2 h5 => ?_, fun hk => ?_⟩
    · obtain ⟨rfl, rfl⟩ := h5
      exact wp_lcM (Q := fun ys s => Q (v a :: ys) s) u t v l (fun x hx => h x (by simp [hx])) (by rw [List.filter_cons_of_pos hk] at q; exact q)
    · exact wp_lcM u t v l (fun x hx => h x (by simp [hx])) (by rw [List.filter_cons_of_neg (by rw [hk]; simp)] at q; exact q)
/-- a comprehension: I of how many are left, G of what is walked, F of what is made -/
theorem wp_lcRem (I : Nat → DS → Prop) (G F : D → Prop) (h : ∀ i d s, G d → I (i + 1) s → TgK tg d ρ fun ρ1 => Wp (mt ρ1 s) E fun k s1 => (k = true → Wp (e ρ1 s1) E fun y s2 => I i s2 ∧ F y) ∧ (k = false → I i s1)) :
    ∀ (ds : List D) (s : DS), (∀ d ∈ ds, G d) → I ds.length s → Wp (lcGo tg mt e ρ ds s) E fun ys s' => I 0 s' ∧ (∀ y ∈ ys, F y) ∧ ys.length ≤ ds.length
  | [], s, _, hi => wp_lcNil ⟨hi, by simp, by simp⟩
  | d :: ds, s, hg, hi => by
    refine wp_lcCons ?_
    obtain ⟨ρ1, e0, h1⟩ := h ds.length d s (hg d (by simp)) hi
    refine ⟨ρ1, e0, h1.mono fun k s1 h2 => ⟨fun hk => (h2.1 hk).mono fun y s2 h3 => ?_, fun hk => ?_⟩⟩
    · refine (wp_lcRem I G F h ds s2 (fun x hx => hg x (by simp [hx])) h3.1).mono fun ys s3 ⟨q1, q2, q3⟩ => ⟨q1, fun y' hy => ?_, by simp; omega⟩
      rcases List.mem_cons.mp hy with rfl | hy
      · exact h3.2
      · exact q2 y' hy
    · exact (wp_lcRem I G F h ds s1 (fun x hx => hg x (by simp [hx])) (h2.2 hk)).mono fun ys s3 ⟨q1, q2, q3⟩ => ⟨q1, q2, by simp; omega⟩
end
end DM
set_option Elab.async false
set_option linter.all false
set_option maxRecDepth 100000
set_option maxHeartbeats 2000000
/-! For the law's own body: a promise used by hand, the cells, the world of a cell. -/
namespace DM
open PySem PySem.Spec PyProof.Rows L2 Lay NdefX LamX GD
theorem spF_of {K : PySem.W.Frag} {Γ : Wc} {n : Nat} {F : List D → M D} {vs : List V} {ds : List D} {H : Hp} {av : Av} {s : DS} {Q : VK} {E : XK} {P : D → DS → Prop} (a : At (cb K Γ) av s H) (r : RepAll K H av Γ vs ds) (hl : ds.length = n) (hw : Wp (F ds s) nE P)
    (q : ∀ d s' v H', P d s' → Go Γ H H' → Wo Γ H' s' → Rep K H' av Γ v d → Q v H') : spF K Γ false n F vs H Q E := by
  rcases hw with ⟨d, s', e, p⟩ | ⟨_, _, _, p⟩
  · refine ⟨av, s, ds, _, s', a, r, hl, e, ?_⟩
    show Done (cb K Γ) av s' H d Q
    exact fun v H' g wo rr => q d s' v H' p g wo rr
  · exact p.elim
theorem items_int {ns : List Int} {k : Int} {i : Nat} {y : V} (h : (cutV (ns.map V.int) none (some k) ++ [V.int 0])[i]? = some y) : ∃ c, y = .int c := by
  have hm := List.mem_of_getElem? h
  rcases List.mem_append.mp hm with h | h
  · unfold cutV at h
    have h2 := List.mem_of_mem_drop (List.mem_of_mem_take h)
    obtain ⟨c, _, rfl⟩ := List.mem_map.mp h2
    exact ⟨c, rfl⟩
  · exact ⟨0, List.mem_singleton.mp h⟩
/-- the world of a cell: its draws and the tables alone may change -/
theorem at0 {K : PySem.W.Frag} {Γ : Wc} {s : DS} {H : Hp} (w : Wo Γ H s) : At (cb K Γ) Γ.ch s H := ⟨w, fun _ z => z, fun _ z => w.al z, fun _ z => w.nc z⟩
/-- a list that is no table and not the draws stays -/
theorem stays {Γ : Wc} {H H' : Hp} {p : Addr} {xs : List V} {s : DS} (w : Wo Γ H s) (g : Go Γ H H') (n : p ≠ Γ.dr) (h : H p = some (.lst xs)) : H' p = some (.lst xs) := by
  refine g.kp p _ (fun z => ?_) h
  rcases z with z | ⟨r, hr, z⟩
  · exact n z
  · obtain ⟨ps, e, _⟩ := w.tb r hr
    rw [z, h] at e
    cases e
theorem tab0 {H : Hp} {P : Addr} {nm : Nat → Nat → Str} (h : H P = some (.tbl #[])) : TabN H P nm := ⟨#[], h, by first | trivial | decide | simp [TriplesOk], fun pos cv hc => by first | (cases hc; done) | simp [codeAmong] at hc⟩
end DM
set_option Elab.async false
set_option linter.all false
set_option maxRecDepth 100000
set_option maxHeartbeats 2000000
/-! raise, try: errors as data. -/
namespace DM
open PySem PySem.Spec PyProof.Rows L2 Lay NdefX LamX GD
/-! ### raise -/
/-- what the __init__ of an own exception leaves: its fields -/
def spX (A : Addr) (ns : List Str) : Sp := fun vs H Q _ => ∃ (a : Addr) (xs : List V), vs = .ref a :: xs ∧ xs.length = ns.length ∧ H a = some (exo a A none) ∧
  ∀ dx H', H dx = none → dx ≠ a → (∀ b, b ≠ a → b ≠ dx → H' b = H b) → H' dx = some (exd dx (List.zip ns xs)) → H' a = some (exo a A (some dx)) → Q .non H'
def sRaise (c : Str) (ns : List Str) (ms : En → M (List D)) : S := fun ρ s => bs ρ (ms ρ s) fun xs s1 => if xs.length = ns.length ∧ ns.length ≤ 900 then some (.er ρ ⟨c, ns, xs⟩, s1) else none
theorem exc_heap {H H' : Hp} {a dx : Addr} {fs : List (Str × V)} (na : H a = none) (hb : ∀ b, b ≠ a → b ≠ dx → H' b = H b) (ne : dx ≠ a) : upd (del H' a) dx (.xd fs) = upd H dx (.xd fs) := by
  funext b
  by_cases h1 : b = dx
  · subst h1
    rw [upd_same, upd_same]
  · rw [upd_ne h1, upd_ne h1]
    by_cases h2 : b = a
    · subst h2
      rw [del_same, na]
    · rw [del_ne h2, hb b h2 h1]
section
variable {C : Cc} {W : WX} {fr : Bool} {ts : TA} {ms : En → M (List D)}
theorem ss_raise {A : Addr} {c : Str} {ns : List Str} (hc : C.Γ.cl c = some A) (hs : SA C W ts ms) : SS C W fr (fun _ σ H => tMkO A (spX A ns) [] ts σ H fun cls d H' => W cls d σ H') (sRaise c ns ms) := by
  intro E0 ae os σ ρ s H r s' De o e p
  refine hs.bindS o e p fun x s1 vs H1 g1 o1 r1 e p => ?_
  split at e
  · rename_i hl
    cases e
    have hv : vs.length = ns.length := r1.len.trans hl.1
    refine ⟨by omega, fun a na => ?_⟩
    refine ⟨a, vs, by rw [List.append_nil], hv, upd_same, fun dx H' nd ne hb hdx ha => ⟨rfl, dx, List.zip ns vs, ha, hdx, ?_, ?_⟩⟩
    · rw [upd_ne ne] at nd
      exact nd
    · rw [upd_ne ne] at nd
      rw [exc_heap na (fun b h1 h2 => (hb b h1 h2).trans (upd_ne h1)) ne]
      have g : Go C.Γ H1 (upd H1 dx (.xd (List.zip ns vs))) := .new nd
      refine p os σ _ _ _ (o1.step g (o1.wo.new nd)) (g.fr o1.ad) ⟨A, hc, rfl, .inr ⟨dx, vs, rfl, fun z => ?_, upd_same, hl.1.symm, r1.kp (.new nd)⟩⟩
      exact o1.toE.al dx z nd
  · cases e
/-! ### try: without a name -/
/-- does the clause take an error of that class -/
abbrev Mt := Str → Option Bool
def sTry (mt : Mt) (mb mh : S) : S := fun ρ s => (mb ρ s).bind fun x => match x.1 with
  | .er ρ' x' => (mt x'.c).bind fun b => if b = true then mh ρ' x.2 else some (.er ρ' x', x.2)
  | r => some (r, x.2)
theorem ss_try {cV : Value} {tb : WX → TS} {tsu : Addr → Value → Option Addr → TS} {mt : Mt} {mb mh : S} (hm : ∀ c A b, C.Γ.cl c = some A → mt c = some b → PySem.W.exmOne C.K (.ref A) cV = some b)
    (hb : ∀ W', SS C W' fr (tb W') mb) (hh : ∀ a cls d, SS C W fr (tsu a cls d) mh) : SS C W fr (fun D σ H => tb (wOnly C.K cV tsu W D) D σ H) (sTry mt mb mh) := by
  intro E0 ae os σ ρ s H r s' De o e p
  unfold sTry at e
  obtain ⟨⟨r1, s1⟩, e1, e⟩ := bindE e
  refine hb _ E0 ae os σ ρ s H r1 s1 De o e1 ?_
  cases r1 with
  | er ρ' x =>
    intro os' σ' H' cls dd o' f' rx
    obtain ⟨b, hb', e⟩ := bindE e
    obtain ⟨A, hA, rfl, hrx⟩ := id rx
    refine ⟨b, hm _ _ _ hA hb', fun z a na => ?_, fun z => ?_⟩
    · rw [if_pos z] at e
      exact hh a _ dd E0 ae os' σ' ρ' s1 H' r s' De o' e (p.fr f')
    · rw [if_neg (by rw [z]; simp)] at e
      cases e
      exact p os' σ' H' _ dd o' f' rx
  | nx ρ' => cases e; exact p
  | rt d => cases e; exact p
  | bk ρ' => cases e; exact p
  | ct ρ' => cases e; exact p
/-! ### try .. except (..) as e: kept = e -/
theorem Ok.setNo {E0 : Hp} {ae : Av} {os : List Addr} {σ : L2.St} {ρ : En} {s : DS} {H : Hp} (o : Ok C E0 ae os σ ρ s H) (i : Nat) : Ok C E0 ae os (σ.set i none) (ρ.set i .no) s H := by
  refine ⟨o.go, by rw [List.length_set, List.length_set, o.len], o.wo, o.ad, o.al, o.ow, o.nc, o.sl.off i (fun _ h => by cases h) (fun _ h => by cases h) fun j hj => List.getElem?_set_ne hj, fun k d hk => ?_, fun j k d e p n h1 h2 h3 => ?_⟩
  · by_cases z : i = k
    · subst z
      rw [List.getElem?_set_self'] at hk
      cases y : ρ[i]? with
      | none => rw [y] at hk; cases hk
      | some q => rw [y] at hk; cases hk
    · rw [List.getElem?_set_ne z] at hk ⊢
      exact o.own k d hk
  · have nn : ∀ {k : Nat} {d : D}, (ρ.set i Sl.no)[k]? = some (Sl.own d) → i ≠ k ∧ ρ[k]? = some (Sl.own d) := by
      intro k d hk
      by_cases z : i = k
      · subst z
        rw [List.getElem?_set_self'] at hk
        cases y : ρ[i]? with
        | none => rw [y] at hk; cases hk
        | some q => rw [y] at hk; cases hk
      · rw [List.getElem?_set_ne z] at hk
        exact ⟨z, hk⟩
    obtain ⟨n1, h1⟩ := nn h1
    obtain ⟨n2, h2⟩ := nn h2
    rw [List.getElem?_set_ne n1] at h3
    rw [List.getElem?_set_ne n2]
    exact o.dis j k d e p n h1 h2 h3
def sTryK (mt : Mt) (i j : Nat) (mb : S) : S := fun ρ s => (mb ρ s).bind fun x => match x.1 with
  | .er ρ' x' => (mt x'.c).bind fun b => if b = true then (if x'.ns ≠ [] ∧ i < ρ'.length then some (.nx ((ρ'.set j (.val (.exc x'.c x'.ns x'.xs))).set i .no), x.2) else none) else some (.er ρ' x', x.2)
  | r => some (r, x.2)
theorem ss_tryK {cs : List Value} {i j : Nat} {tb : WX → TS} {tsu : Addr → Value → Option Addr → TS} {mt : Mt} {mb : S} (hij : i ≠ j) (hm : ∀ c A b, C.Γ.cl c = some A → mt c = some b → PySem.W.exmAny C.K (.ref A) cs = some b)
    (hb : ∀ W', SS C W' fr (tb W') mb) (hh : ∀ a cls d (D : Ends) (σ : L2.St) (H : Hp) (v : V), σ[i]? = some (some v) → D.nx (σ.set j (some v)) H → tsu a cls d D σ H) :
    SS C W fr (fun D σ H => tb (wKeep C.K cs i tsu W D) D σ H) (sTryK mt i j mb) := by
  intro E0 ae os σ ρ s H r s' De o e p
  unfold sTryK at e
  obtain ⟨⟨r1, s1⟩, e1, e⟩ := bindE e
  refine hb _ E0 ae os σ ρ s H r1 s1 De o e1 ?_
  cases r1 with
  | er ρ' x =>
    intro os' σ' H' cls dd o' f' rx
    obtain ⟨b, hb', e⟩ := bindE e
    obtain ⟨A, hA, rfl, hrx⟩ := id rx
    refine ⟨b, hm _ _ _ hA hb', fun z a na => ?_, fun z => ?_⟩
    · rw [if_pos z] at e
      split at e
      · rename_i hns
        cases e
        have hil : i < σ'.length := by rw [o'.len]; exact hns.2
        refine hh a _ dd _ _ _ (.ref a) (List.getElem?_set_self hil) (fun na' => ?_)
        rcases hrx with ⟨z1, _⟩ | ⟨dx, vs, rfl, nd, hdx, hl, ra⟩
        · exact absurd z1 hns.1
        have ndx : a ≠ dx := fun z => by rw [z, hdx] at na; cases na
        have g : Go C.Γ H' (upd H' a (excAt a (.ref A) (some dx))) := .new na
        have o1 := o'.step g (o'.wo.new na)
        have rr : Rep C.K (upd H' a (excAt a (.ref A) (some dx))) (avO ae os') C.Γ (.ref a) (.exc x.c x.ns x.xs) :=
          .exc (fun z => o'.toE.al a z na) nd hA upd_same (by rw [upd_ne (Ne.symm ndx)]; exact hdx) hl (ra.kp (.new na))
        have o2 := (o1.setV rr j).setNo i
        show De.nx (((σ'.set i (some (.ref a))).set j (some (.ref a))).set i none) _
        rw [List.set_comm _ _ hij, List.set_set]
        exact p _ _ _ o2 (f'.trans (g.fr o'.ad))
      · cases e
    · rw [if_neg (by rw [z]; simp)] at e
      cases e
      exact p os' σ' H' _ dd o' f' rx
  | nx ρ' => cases e; exact p
  | rt d => cases e; exact p
  | bk ρ' => cases e; exact p
  | ct ρ' => cases e; exact p
end
end DM
set_option Elab.async false
set_option linter.all false
set_option maxRecDepth 100000
set_option maxHeartbeats 2000000
/-! Written dicts: a copy, .get(k, d); calls without arguments; chains of comparisons; not as a value; texts. -/
namespace DM
open PySem PySem.Spec PyProof.Rows L2 Lay NdefX LamX GD
/-! ### a written dict as a whole -/
inductive Ents : List DictEntry → List (Str × Value) → Prop
  | nil : Ents [] []
  | cons {e : DictEntry} {x : Str} {t : Tok} {es : List DictEntry} {r : List (Str × Value)} : e.key = .str x t → Ents es r → Ents (e :: es) ((x, e.val) :: r)
def entB (K : PySem.W.Frag) : List DictEntry → List (Str × D) → Bool
  | [], [] => true
  | e :: es, (x, d) :: r => Value.isStrOf x e.key && wB K e.val d && entB K es r
  | _, _ => false
theorem entB_of {K : PySem.W.Frag} : ∀ (es : List DictEntry) (tbl : List (Str × D)), entB K es tbl = true → ∃ kus : List (Str × Value), Ents es kus ∧ kus.map (·.1) = tbl.map (·.1) ∧ wBs K (kus.map (·.2)) (tbl.map (·.2)) = true
  | [], [], _ => ⟨[], .nil, rfl, rfl⟩
  | [], _ :: _, h => by cases h
  | _ :: _, [], h => by cases h
  | e :: es, (x, d) :: r, h => by
    simp only [entB, Bool.and_eq_true] at h
    obtain ⟨⟨h1, h2⟩, h3⟩ := h
    obtain ⟨kus, q1, q2, q3⟩ := entB_of es r h3
    obtain ⟨t, ht⟩ := Value.isStrOf_shape (x := x) (v := e.key) h1
    refine ⟨(x, e.val) :: kus, .cons ht q1, by simp [q2], ?_⟩
    simp only [List.map_cons, wBs, h2, q3, Bool.and_self]
def rDictW (K : PySem.W.Frag) (w : World) : List V → Hp → VK → Prop := fun xs H Q => ∃ (a : Addr) (es : Array DictEntry) (n : Nat) (kus : List (Str × Value)), xs = [.ref a] ∧ K.lookup a = some ⟨.type "dict", none, .dict es n, #[]⟩ ∧ PySem.W.KeysLit w.params es.toList ∧ (a == sysModules) = false ∧
  Ents es.toList kus ∧ (kus.map (·.1)).Nodup ∧ kus.length ≤ sizeLine ∧ (∀ p ∈ kus, RelV (toV p.2) p.2) ∧ ∀ p, H p = none → Q (.ref p) (upd H p (.dK (zipK (kus.map (·.1)) (kus.map fun p => toV p.2))))
theorem Ents.pairs {P : Program} {w : World} : ∀ {es : List DictEntry} {kus : List (Str × Value)}, Ents es kus → Pairs (mixKind P w) es (kus.map fun p => ((Sum.inr p.1 : Key), p.2))
  | _, _, .nil => .nil
  | _, _, @Ents.cons e x t _ _ h r => .cons (by show keyIs (.inr x) e.key = true; rw [h]; exact keyIs_str x t) rfl r.pairs
theorem dictOf_W {P : Program} {w : World} {K : PySem.W.Frag} {h : Heap} {a : Addr} {es : Array DictEntry} {n : Nat} {kus : List (Str × Value)} (X : K.In h) (hl : K.lookup a = some ⟨.type "dict", none, .dict es n, #[]⟩) (hk : PySem.W.KeysLit w.params es.toList) (he : Ents es.toList kus) (nd : (kus.map (·.1)).Nodup) :
    h.DictOf (mixKind P w) a (kus.map fun p => ((Sum.inr p.1 : Key), p.2)) := by
  refine ⟨_, es, n, X _ _ hl, ⟨rfl, rfl, rfl⟩, rfl, fun e he' => ?_, he.pairs, ?_⟩
  · obtain ⟨x, t, e1, e2⟩ := hk.all e (Array.mem_toList_iff.mpr he')
    exact ⟨.inr x, by show keyIs (.inr x) e.key = true; rw [e1]; exact keyIs_str x t, e2⟩
  · rw [List.map_map]
    have e : ((fun p : Key × Value => p.1) ∘ fun p : Str × Value => ((Sum.inr p.1 : Key), p.2)) = fun p : Str × Value => (Sum.inr p.1 : Key) := rfl
    rw [e, show (fun p : Str × Value => (Sum.inr p.1 : Key)) = (fun x : Str => (Sum.inr x : Key)) ∘ fun p => p.1 from rfl, ← List.map_map]
    exact nd.map _ fun a b hab hh => hab (Sum.inr.inj hh)
theorem kv_W : ∀ (kus : List (Str × Value)), (∀ p ∈ kus, RelV (toV p.2) p.2) → KV (zipK (kus.map (·.1)) (kus.map fun p => toV p.2)) (kus.map fun p => ((Sum.inr p.1 : Key), p.2))
  | [], _ => .nil
  | p :: kus, h => .cons ⟨rfl, h p List.mem_cons_self⟩ (kv_W kus fun q hq => h q (List.mem_cons_of_mem _ hq))
theorem call_dictW {X : Cx} : CallR X (.type "dict") (rDictW X.K X.w) := by
  intro pins s σ H xs us Q I r q
  obtain ⟨a, es, n, kus, ex, hl, hk, lo, he, nd, z, hr, q⟩ := q
  subst ex
  obtain ⟨u, eu, rx⟩ := vals1 r
  subst eu
  cases rx
  have dd := dictOf_W (P := X.prog) (w := X.w) I.kIn hl hk he nd
  refine kt_call_dict lo dd (by rw [List.length_map]; exact z) fun h' d' hs => ?_
  have hm : (s.heap.objs.size == sysModules) = false := beq_eq_false_iff_ne.mpr (Nat.ne_of_gt I.big)
  refine ⟨.ref s.heap.objs.size, upd H s.heap.objs.size (.dK _), I.laid (t' := s.toks) (fun b u e => (hs.2 b (Nat.ne_of_lt (Heap.lt_size e))).trans (Heap.get?_push_of_some _ e)) (Nat.le_refl _)
    (show ObjOk X.prog X.w _ _ _ (.dK _) from ⟨?_, hm, _, kv_W kus hr, d'⟩), rfl, q _ (I.hok.fresh (Nat.le_refl _))⟩
  unfold zipK
  rw [List.length_zipWith, List.length_map, List.length_map, Nat.min_self]
  exact z
structure WAll (K : PySem.W.Frag) (w : World) (a : Addr) (tbl : List (Str × D)) : Prop where
  ex : ∃ es n, K.lookup a = some ⟨.type "dict", none, .dict es n, #[]⟩ ∧ PySem.W.KeysLit w.params es.toList ∧ entB K es.toList tbl = true
  low : (a == sysModules) = false
  nd : (tbl.map (·.1)).Nodup
  sz : tbl.length ≤ 900
section
variable {C : Cc} {W : WX} {te ta tb tc : TE} {me ma mb mc : En → M D}
theorem sf_dictW {w : World} {a : Addr} {tbl : List (Str × D)} (Wa : WAll C.K w a tbl) : SF C W (tCB (rDictW C.K w) (tCons (tC (.ref a)) tNil)) (eC (.dic (tbl.map (·.1)) (tbl.map (·.2)))) := by
  intro av σ ρ s H r s' Q o e q
  cases e
  obtain ⟨es, n, hl, hk, he⟩ := Wa.ex
  obtain ⟨kus, q1, q2, q3⟩ := entB_of _ _ he
  have hr := wBs_rep (K := C.K) (H := H) (av := av) (Γ := C.Γ) _ _ q3
  have hlen : kus.length = tbl.length := by have := congrArg List.length q2; simpa using this
  have hrel : ∀ p ∈ kus, RelV (toV p.2) p.2 := by
    intro p hp
    have aux : ∀ (us : List Value), Vals (us.map toV) us → ∀ u ∈ us, RelV (toV u) u := by
      intro us
      induction us with
      | nil => intro _ u hu; cases hu
      | cons x us ih =>
        intro h u hu
        cases h with
        | cons h1 h2 =>
          rcases List.mem_cons.mp hu with rfl | hu
          · exact h1
          · exact ih h2 u hu
    exact aux _ hr.2 p.2 (List.mem_map.mpr ⟨p, hp, rfl⟩)
  refine ⟨a, es, n, kus, rfl, hl, hk, Wa.low, q1, by rw [q2]; exact Wa.nd, Nat.le_trans (Nat.le_of_eq hlen) (Nat.le_of_lt (small1000 (by have := Wa.sz; omega))), hrel, fun p hp => ?_⟩
  have e1 : (kus.map fun p => toV p.2) = (kus.map (·.2)).map toV := by rw [List.map_map]; rfl
  rw [e1, q2]
  exact DoneF.newD (C := C) (s := s) q o.at_ hp (by rw [List.length_map, List.length_map]) hr.1
/-! ### .get(k, d) of a written dict -/
def tKGet2 (K : PySem.W.Frag) (w : World) (td ty tx : TE) : TE := fun σ H Q => td σ H fun x H1 => ∃ a es n, x = .ref a ∧ K.lookup a = some ⟨.type "dict", none, .dict es n, #[]⟩ ∧ PySem.W.KeysLit w.params es.toList ∧ (a == sysModules) = false ∧ ty σ H1 fun y H2 => tx σ H2 fun z H3 =>
  ∃ k r v, y = .str k ∧ PySem.W.nsIn K a k = some r ∧ (∀ u, r = some u → RelV v u) ∧ (r = none → v = z) ∧ Q v H3
end
section
variable {X : Cx} {o e f : Expr} {apos cpos : Pos} {td ty tx : TE}
theorem pe_kget2 (ho : PE X o td) (he : PE X e ty) (hf : PE X f tx) (m : M2 X o "get" apos e f cpos) : PE X (.Call (.Attribute o "get" apos) [e, f] [] cpos) (tKGet2 X.K X.w td ty tx) := by
  refine ⟨fun pins s σ H Q I h => ?_⟩
  refine wpAny_Call_method m.base m.few m.line PySem.F.plainAttrs_dict PySem.F.slot_dict_get PySem.F.type_dict_get (thn (ho.run pins s σ H _ I h) fun u s1 ⟨x, H1, I1, rx, a, es, n, ex, hl, hk, lo, q1⟩ => ?_)
  subst ex
  obtain rfl : u = Value.ref a := rx
  have hm1 := PySem.W.mapOf_K (prog := X.prog) (w := X.w) I1.kIn hl hk
  refine ⟨hm1.typeIs, fun b q => ?_, ?_⟩
  · cases q
    exact ⟨_, I1.kIn _ _ hl, rfl⟩
  rw [m.trees]
  refine Calls.callWith_builtin rfl (Calls.evalArgs_plain (Calls.spliced_cons (thn (he.run pins s1 σ H1 _ I1 q1) fun iv s2 ⟨y, H2, I2, ry, q2⟩ =>
    Calls.spliced_cons (thn (hf.run pins s2 σ H2 _ I2 q2) fun fv s3 ⟨z, H3, I3, rz, k, r, v, ey, en, hv, hz, q3⟩ => Calls.spliced_nil ?_))))
  subst ey
  obtain ⟨t, rfl⟩ := ry
  have hm3 := PySem.W.mapOf_K (prog := X.prog) (w := X.w) I3.kIn hl hk
  refine call_meetsIn PySem.F.slot_dict_get hm3.typeIs PySem.F.entry_dict_get (PySem.F.args_dict_get_3 _ _ _) (meets_dict_get_default (strKind X.prog X.w) a (strKind_is X.prog X.w k t) lo fv) ⟨_, hm3, ?_⟩
  rw [PySem.W.find_K hl en]
  cases r with
  | none => exact ⟨v, H3, I3.tok _, by rw [hz rfl]; exact rz, q3⟩
  | some u => exact ⟨v, H3, I3.tok _, hv u rfl, q3⟩
/-- a call without arguments -/
theorem pe_callG0 {CX : CXT} {k : Nat} {fa : Addr} {fd : FuncData} {ps : List Str} {sp : Sp} {x : Str} {p pos : Pos} {E : L2.St → XK} (F : FnG X.prog X.w X.K X.mg X.base CX k fa fd ps sp) (hg : X.A.guards = some []) (hr : Room k X.A) (hgl : Gl X x) (hm : X.mg x = some (.ref fa)) (hk : PySem.W.keepIn X.K (.ref fa) = true) (hb : Binds X.K fd ps []) (hx : ∀ σ, PassesAt CX X σ (E σ))
    (hdb : (x == ("__debug__" : Str)) = false := by decide) : PE X (.Call (.Name x p) [] [] pos) (tCallS sp E tNil) := by
  refine ⟨fun pins s σ H Q I h => ?_⟩
  refine wpAny_Call_Name_kw (ld_glob I hgl hm ?_ hdb)
  exact PySem.W.callWith_K0 I.kIn hk (run_fnG (us := []) F hg hr hb (hx σ) I .nil h)
end
section
variable {C : Cc} {W : WX} {te ta tb tc : TE} {me ma mb mc : En → M D}
def wGet (tbl : List (Str × D)) (miss : List Str) (mk mx : En → M D) : En → M D := fun ρ s => bx (mk ρ s) fun y s1 => bx (mx ρ s1) fun z s2 => match y with
  | .str k => match tbl.lookup k with
    | some d => some (.ok d, s2)
    | none => if k ∈ miss then some (.ok z, s2) else none
  | _ => none
theorem se_wget {w : World} {a : Addr} {tbl : List (Str × D)} {miss : List Str} (Wd : WDict C.K w a tbl miss) (Wa : WAll C.K w a tbl) (hb : SE C W tb mb) (hx : SE C W tc mc) : SE C W (tKGet2 C.K w (tC (.ref a)) tb tc) (wGet tbl miss mb mc) := by
  intro av σ ρ s H r s' Q o e q
  obtain ⟨es, n, hl, hk, he⟩ := Wa.ex
  refine ⟨a, es, n, rfl, hl, hk, Wa.low, ?_⟩
  refine hb.bind o e q fun y s1 v H1 g1 o1 r1 e q => ?_
  refine hx.bind o1 e q fun z s2 v2 H2 g2 o2 r2 e q => ?_
  have r1' := r1.kp (g2.kp.mono o1.ad)
  obtain ⟨k, rfl⟩ : ∃ k, y = .str k := by
    cases y <;> first | exact ⟨_, rfl⟩ | cases e
  have ev := Rep.str_eq r1'
  subst ev
  dsimp only at e
  split at e
  · rename_i d hd
    cases e
    obtain ⟨u, ⟨es', n', u', hl', hk', en, ru⟩, hw⟩ := Wd.hit _ _ hd
    refine ⟨k, some u', toV u, rfl, en, fun x hx => ?_, fun h => (by cases h), q _ H2 .refl o2.wo (wB_rep _ _ hw).1⟩
    cases hx
    exact ru
  · split at e
    · rename_i hm
      cases e
      obtain ⟨es', n', hl', hk', _, en⟩ := Wd.mis k hm
      exact ⟨k, none, v2, rfl, en, fun x hx => (by cases hx), fun _ => rfl, q _ H2 .refl o2.wo r2⟩
    · cases e
/-! ### a < b < c, not x -/
def eChain (f g : D → D → Option D) (a b c : En → M D) : En → M D := fun ρ s => bx (a ρ s) fun x s1 => bx (b ρ s1) fun y s2 => match f x y with
  | some (.bl true) => bx (c ρ s2) fun z s3 => ox (g y z) s3
  | some (.bl false) => some (.ok (.bl false), s2)
  | _ => none
theorem se_chain {r r' : R2} {f g : D → D → Option D} (hf : OpS C r f) (hg : OpS C r' g) (ha : SE C W ta ma) (hb : SE C W tb mb) (hc : SE C W tc mc) : SE C W (tChain r r' ta tb tc) (eChain f g ma mb mc) := by
  intro av σ ρ s H r s' Q o e q
  refine ha.bind o e q fun x s1 v H1 g1 o1 r1 e q => ?_
  refine hb.bind o1 e q fun y s2 v2 H2 g2 o2 r2 e q => ?_
  have r1' := r1.kp (g2.kp.mono o1.ad)
  cases z : f x y with
  | none => rw [z] at e; cases e
  | some d =>
    refine hf av s2 H2 v v2 x y d _ o2.at_ r1' r2 z fun v3 H3 g3 w3 r3 => ?_
    rw [z] at e
    obtain ⟨k, rfl⟩ : ∃ k, d = .bl k := by
      cases d <;> first | exact ⟨_, rfl⟩ | cases e
    have e3 := Rep.bl_eq r3
    subst e3
    have o3 := o2.step g3 w3
    have q3 := q.go g3
    cases k with
    | true =>
      refine ⟨true, rfl, iteT ?_⟩
      dsimp only at e
      refine hc.bind o3 e q3 fun z' s4 v4 H4 g4 o4 r4 e q => ?_
      obtain ⟨d4, e4, rfl, rfl⟩ := ox_some e
      exact hg av _ H4 v2 v4 y z' d4 Q o4.at_ ((r2.kp (g3.kp.mono o2.ad)).kp (g4.kp.mono o3.ad)) r4 e4 q.done
    | false =>
      dsimp only at e
      cases e
      exact ⟨false, rfl, iteF (q3 _ H3 .refl w3 (.bl false))⟩
def eNotV (a : En → M D) : En → M D := fun ρ s => bx (a ρ s) fun x s1 => match x with
  | .bl k => some (.ok (.bl (!k)), s1)
  | _ => none
theorem se_notV (ha : SE C W ta ma) : SE C W (tNotV ta) (eNotV ma) := by
  intro av σ ρ s H r s' Q o e q
  refine ha.bind o e q fun x s1 v H1 g1 o1 r1 e q => ?_
  obtain ⟨k, rfl⟩ : ∃ k, x = .bl k := by
    cases x <;> first | exact ⟨_, rfl⟩ | cases e
  cases e
  exact ⟨k, Rep.bl_eq r1, q _ H1 .refl o1.wo (.bl _)⟩
end
end DM
set_option Elab.async false
set_option linter.all false
set_option maxRecDepth 100000
set_option maxHeartbeats 2000000
/-! Objects and kept errors as data: made, asked for their class, their fields. -/
namespace DM
open PySem PySem.Spec PyProof.Rows L2 Lay NdefX LamX GD
/-! ### an object made -/
def spO (A : Addr) (ns : List Str) : Sp := fun vs H Q _ => ∃ (x dx : Addr) (xs : List V), vs = .ref x :: xs ∧ xs.length = ns.length ∧ H x = some (.ins A dx []) ∧ ∀ H', (∀ b, b ≠ x → H' b = H b) → H' x = some (.ins A dx (List.zip ns xs)) → Q .non H'
def eMk (c : Str) (ns : List Str) (ms : En → M (List D)) : En → M D := fun ρ s => bx (ms ρ s) fun xs s1 => if xs.length = ns.length then some (.ok (.obj c ns xs), s1) else none
section
variable {C : Cc} {W : WX} {ts : TA} {ms : En → M (List D)} {te ta : TE} {me ma : En → M D}
theorem se_mk {A : Addr} {c : Str} {ns : List Str} {E : XK} (hc : C.Γ.cl c = some A) (hs : SA C W ts ms) : SE C W (tMake A (spO A ns) [] E ts) (eMk c ns ms) := by
  intro av σ ρ s H r s' Q o e q
  refine hs.bind o e q fun xs s1 vs H1 g1 o1 r1 e q => ?_
  split at e
  · rename_i hl
    cases e
    intro x dx nx nd ne
    have hv : vs.length = ns.length := r1.len.trans hl
    refine ⟨x, dx, vs, by rw [List.append_nil], hv, upd_same, fun H' hb hx => ⟨rfl, ?_⟩⟩
    have k1 : Go C.Γ H1 (upd H1 dx (.own x)) := .new nd
    have nx1 : (upd H1 dx (.own x)) x = none := by rw [upd_ne (Ne.symm ne)]; exact nx
    have k2 : Go C.Γ (upd H1 dx (.own x)) (upd (upd H1 dx (.own x)) x (.ins A dx (List.zip ns vs))) := .new nx1
    have eH : H' = upd (upd H1 dx (.own x)) x (.ins A dx (List.zip ns vs)) := by
      funext b
      by_cases h : b = x
      · subst h
        rw [hx, upd_same]
      · rw [hb b h, upd_ne h, upd_ne h]
    subst eH
    have g := k1.trans k2
    refine q (.ref x) _ g ((o1.wo.new nd).new nx1) (.obj (fun z => o1.al x z nx) hc upd_same hl.symm ?_)
    exact (r1.kp (.new nd)).kp (.new nx1)
  · cases e
/-! ### isinstance of a kept error, of an object -/
def isC (tab : Str → Option Bool) : D → Option D
  | .exc c _ _ => (tab c).map .bl
  | _ => none
theorem se_isX {cl : V} {u : Value} {tab : Str → Option Bool} (hk : ClsV cl u) (hE : ∀ c A b, C.Γ.cl c = some A → tab c = some b → ExcC C.K A ∧ PySem.W.kitOne C.K (.ref A) u = some b) (he : SE C W te me) : SE C W (tCB (rIsX C.K) (tCons te (tCons (tC cl) tNil))) (eUn (isC tab) me) := by
  intro av σ ρ s H r s' Q o e q
  refine he.bind o e q fun x s1 v H1 g1 o1 r1 e q => ?_
  obtain ⟨z, e3, rfl, rfl⟩ := ox_some e
  cases x <;> simp only [isC] at e3 <;> try (cases e3; done)
  obtain ⟨b, hb, rfl⟩ := mapE e3
  obtain ⟨a, A, dx, vs, rfl, n1, n2, hA, h1, h2, hl, ra⟩ := r1.exc_at
  obtain ⟨hx, hy⟩ := hE _ _ _ hA hb
  exact ⟨a, A, _, cl, u, b, rfl, hx, .inr ⟨dx, h1, h2⟩, hk, hy, q _ H1 .refl o1.wo (.bl b)⟩
/-! ### fields -/
def fldD (f : Str) : List Str → List D → Option D
  | n :: ns, d :: ds => if n = f then some d else fldD f ns ds
  | _, _ => none
theorem fld_rep {K : PySem.W.Frag} {H : Hp} {av : Av} {Γ : Wc} {f : Str} : ∀ {ns : List Str} {vs : List V} {ds : List D} {d : D}, RepAll K H av Γ vs ds → fldD f ns ds = some d → ∃ v, (List.zip ns vs).lookup f = some v ∧ Rep K H av Γ v d
  | [], vs, ds, d, r, e => by cases ds <;> cases e
  | n :: ns, _, [], d, r, e => by cases e
  | n :: ns, _, x :: ds, d, r, e => by
    cases r with
    | cons r1 r2 =>
      simp only [fldD] at e
      simp only [List.zip_cons_cons, List.lookup_cons]
      by_cases h : n = f
      · subst h
        rw [if_pos rfl] at e
        cases e
        simp only [beq_self_eq_true]
        exact ⟨_, rfl, r1⟩
      · rw [if_neg h] at e
        have : (f == n) = false := beq_eq_false_iff_ne.mpr fun z => h z.symm
        rw [this]
        exact fld_rep r2 e
def oFldX (cs : List Str) (f : Str) : D → Option D
  | .exc c ns xs => if c ∈ cs then fldD f ns xs else none
  | _ => none
def oFldO (f : Str) : D → Option D
  | .obj _ ns xs => fldD f ns xs
  | _ => none
theorem se_fldX {f : Str} {cs : List Str} (hX : ∀ c A, c ∈ cs → C.Γ.cl c = some A → XfC C.K A ∧ PySem.W.findIn C.K (.ref A) f = some none) (he : SE C W te me) : SE C W (tXk C.K f te) (eUn (oFldX cs f) me) := by
  intro av σ ρ s H r s' Q o e q
  refine he.bind o e q fun x s1 v H1 g1 o1 r1 e q => ?_
  obtain ⟨z, e3, rfl, rfl⟩ := ox_some e
  cases x <;> simp only [oFldX] at e3 <;> try (cases e3; done)
  split at e3
  · rename_i hcs
    obtain ⟨a, A, dx, vs, rfl, n1, n2, hA, h1, h2, hl, ra⟩ := r1.exc_at
    obtain ⟨u, hu, ru⟩ := fld_rep ra e3
    obtain ⟨hx, hy⟩ := hX _ _ hcs hA
    exact ⟨a, A, dx, _, u, rfl, hx, hy, h1, h2, hu, q _ H1 .refl o1.wo ru⟩
  · cases e3
end
end DM
set_option Elab.async false
set_option linter.all false
set_option maxRecDepth 100000
set_option maxHeartbeats 2000000
/-! list(d), dict(pairs), texts within texts, an item of an own list as an argument. -/
namespace DM
open PySem PySem.Spec PyProof.Rows L2 Lay NdefX LamX GD
abbrev rListK : List V → Hp → VK → Prop := fun xs H Q => ∃ (a : Addr) (kvs : List (Key × V)), xs = [.ref a] ∧ Rd H a (.dK kvs) ∧ ∀ p, H p = none → Q (.ref p) (upd H p (.lst (kvs.map fun kv => kV kv.1)))
def bListK : List D → Option D
  | [.dic ks _] => some (.lst (ks.map D.str))
  | _ => none
abbrev rDictP (K : PySem.W.Frag) : List V → Hp → VK → Prop := fun xs H Q => ∃ (a : Addr) (ps : List Addr) (kvs : List (Key × V)), xs = [.ref a] ∧ SqL K H a (ps.map V.ref) ∧ Paired (fun p kv => SqT K H p [kV kv.1, kv.2]) ps kvs ∧
    ∀ p, H p = none → Q (.ref p) (upd H p (.dK (mergeK [] kvs)))
def pairsD : List D → Option (List Str × List D)
  | [] => some ([], [])
  | .tup [.str k, d] :: xs => (pairsD xs).map fun r => (k :: r.1, d :: r.2)
  | _ => none
def bDictP : List D → Option D
  | [.lst xs] => (pairsD xs).bind fun r => if r.1.Nodup then some (.dic r.1 r.2) else none
  | _ => none
section
variable {C : Cc}
theorem zipK_keys : ∀ (ks : List Str) (ys : List V), ks.length = ys.length → ((zipK ks ys).map fun kv => kV kv.1) = ks.map V.str
  | [], _, _ => rfl
  | k :: ks, [], h => by cases h
  | k :: ks, y :: ys, h => by
    show kV (Sum.inr k) :: ((zipK ks ys).map fun kv => kV kv.1) = V.str k :: ks.map V.str
    rw [zipK_keys ks ys (Nat.succ.inj h)]
    rfl
theorem strs_rep {H : Hp} {av : Av} : ∀ (ks : List Str), RepAll C.K H av C.Γ (ks.map V.str) (ks.map D.str)
  | [] => .nil
  | k :: ks => .cons (.str k) (strs_rep ks)
theorem cf_listK : CbF C rListK bListK := by
  intro av s H vs ds c Q o r e q
  unfold bListK at e
  split at e
  · cases e
    rename_i ks ds
    obtain ⟨v, rfl, r1⟩ := r.one
    obtain ⟨p, ys, rfl, n, h1, hl, r2⟩ := r1.dic_at
    refine ⟨p, _, rfl, .inl h1, fun l hl2 => ?_⟩
    rw [zipK_keys ks ys (hl.trans r2.len.symm)]
    exact q.newL o hl2 (strs_rep ks)
  · cases e
theorem pairs_rep {H : Hp} {av : Av} : ∀ {ds : List D} {vs : List V} {r : List Str × List D}, RepAll C.K H av C.Γ vs ds → pairsD ds = some r → ∃ (ps : List Addr) (ws : List V), vs = ps.map V.ref ∧ Paired (fun p kv => SqT C.K H p [kV kv.1, kv.2]) ps (zipK r.1 ws) ∧ RepAll C.K H av C.Γ ws r.2 ∧ r.1.length = ws.length
  | [], _, r, h, e => by
    cases h
    cases e
    exact ⟨[], [], rfl, .nil, .nil, rfl⟩
  | d :: ds, _, r, h, e => by
    cases h with
    | cons h1 h2 =>
      unfold pairsD at e
      split at e
      · rename_i he
        cases he
      · rename_i k x xs he
        cases he
        obtain ⟨r', e1, rfl⟩ := mapE e
        obtain ⟨ps, ws, rfl, q1, q2, q3⟩ := pairs_rep h2 e1
        obtain ⟨p, us, rfl, ht, ra⟩ := h1.tup_at
        obtain ⟨u1, u2, rfl, ra1, ra2⟩ := RepAll.two ra
        cases Rep.str_eq ra1
        exact ⟨p :: ps, u2 :: ws, rfl, .cons ht.sq q1, .cons ra2 q2, congrArg (· + 1) q3⟩
      · cases e
theorem cf_dictP : CbF C (rDictP C.K) bDictP := by
  intro av s H vs ds c Q o r e q
  unfold bDictP at e
  split at e
  · obtain ⟨v, rfl, r1⟩ := r.one
    obtain ⟨p, ys, rfl, n, h1, r2⟩ := r1.lst_at
    obtain ⟨rr, e1, e⟩ := bindE e
    split at e
    · rename_i nd
      cases e
      obtain ⟨ps, ws, rfl, q1, q2, q3⟩ := pairs_rep r2 e1
      refine ⟨p, ps, _, rfl, SqL.of h1, q1, fun l hl => ?_⟩
      rw [merge_new _ _ _ nd (fun p hp => by cases hp), List.nil_append]
      exact q.newD o hl (q3.trans q2.len) q2
    · cases e
  · cases e
/-! ### texts -/
abbrev rInZ : R2 := fun x y H Q => ∃ i j, x = .str i ∧ y = .str j ∧ Q (.bl (!(Builtin.Str.occurrences j i 0 j.length 1).isEmpty)) H
abbrev rNiZ : R2 := fun x y H Q => ∃ i j, x = .str i ∧ y = .str j ∧ Q (.bl (!(!(Builtin.Str.occurrences j i 0 j.length 1).isEmpty))) H
def hasZ (i j : Str) : Bool := !(Builtin.Str.occurrences j i 0 j.length 1).isEmpty
def oInZ (neg : Bool) : D → D → Option D
  | .str i, .str j => some (.bl (Bool.xor neg (hasZ i j)))
  | _, _ => none
theorem os_inZ : OpS C rInZ (oInZ false) := by
  intro av s H x y a b c Q o ra rb e q
  cases a <;> cases b <;> simp only [oInZ] at e <;> try (cases e; done)
  cases e
  refine ⟨_, _, Rep.str_eq ra, Rep.str_eq rb, q _ H .refl o.wo ?_⟩
  rw [Bool.false_xor]
  exact .bl _
theorem os_niZ : OpS C rNiZ (oInZ true) := by
  intro av s H x y a b c Q o ra rb e q
  cases a <;> cases b <;> simp only [oInZ] at e <;> try (cases e; done)
  cases e
  refine ⟨_, _, Rep.str_eq ra, Rep.str_eq rb, q _ H .refl o.wo ?_⟩
  rw [Bool.true_xor]
  exact .bl _
def oIxZ : D → D → Option D
  | .str z, .int i => if z.length ≤ line then (atI z.cps.toList i).map fun c => .str ⟨#[c]⟩ else none
  | _, _ => none
theorem os_ixZ : OpS C (rIx C.K) oIxZ := by
  intro av s H x y a b c Q o ra rb e q
  cases a <;> cases b <;> simp only [oIxZ] at e <;> try (cases e; done)
  split at e
  · rename_i hl
    obtain ⟨z, e1, rfl⟩ := mapE e
    exact .inr (.inr ⟨_, _, z, Rep.str_eq ra, Rep.int_eq rb, line_le hl, e1, q _ H .refl o.wo (.str _)⟩)
  · cases e
/-! ### x = f(a, b, told[j]), told one's own -/
def sSetC3 (i k j : Nat) (F : List D → M D) (m1 m2 : En → M D) : S := fun ρ s => bs ρ (m1 ρ s) fun x s1 => bs ρ (m2 ρ s1) fun y s2 => match ρ[k]? with
  | some (Sl.own (.lst ds)) => match ds[j]? with
    | some d => bs ρ (F [x, y, d] s2) fun z s3 => some (.nx (ρ.set i (.val z)), s3)
    | none => none
  | _ => none
theorem ss_setC3 {W : WX} {fr : Bool} {i k j : Nat} {F : List D → M D} {t1 t2 : TE} {m1 m2 : En → M D} (h1 : SE C W t1 m1) (h2 : SE C W t2 m2) :
    SS C W fr (tAsg (tCallS (spF C.K C.Γ false 3 F) (WE W) (tCons t1 (tCons t2 (tCons (tOp (rIx C.K) (tVar k) (tC (.int (j : Nat)))) tNil)))) (gOf C.K (.one i))) (sSetC3 i k j F m1 m2) := by
  intro E0 ae os σ ρ s H r s' De o e p
  refine h1.bindS o e p fun x s1 v1 H1 g1 o1 r1 e p => ?_
  refine h2.bindS o1 e p fun y s2 v2 H2 g2 o2 r2 e p => ?_
  have r1' := r1.kp (g2.kp.mono o1.toE.ad)
  split at e
  · rename_i ds hk
    split at e
    · rename_i d hd
      obtain ⟨q, hσ, hq, vs, hl, ra⟩ := o2.own k _ hk
      obtain ⟨u, hu, ru⟩ := ra.get hd
      refine ⟨_, hσ, .inl ⟨q, _, _, u, rfl, rfl, SqL.of hl, atI_nat hu, ?_⟩⟩
      cases z : F [x, y, d] s2 with
      | none => rw [z] at e; cases e
      | some pr =>
        obtain ⟨res, s3⟩ := pr
        rw [z] at e
        refine ⟨avO ae os, s2, [x, y, d], res, s3, o2.toE.at_.b, .cons r1' (.cons r2 (.cons ru .nil)), rfl, z, ?_⟩
        cases res with
        | error xx =>
          cases e
          exact fun cls dd H' g w rx => p os σ H' cls dd (o2.step g w) (g.fr o2.ad) rx
        | ok zz =>
          cases e
          show Done (cb C.K C.Γ) (avO ae os) s' H2 zz _
          intro v H' g w rr
          exact (o2.step g w).tgt (tg := .one i) rr rfl fun σ' o' => p os σ' H' o' (g.fr o2.ad)
    · cases e
  · cases e
end
/-! ### what is never reached -/
def sStuck : S := fun _ _ => none
theorem ss_never {C : Cc} {W : WX} {fr : Bool} {t : TS} : SS C W fr t sStuck := fun _ _ _ _ _ _ _ _ _ _ _ e _ => nomatch e
end DM
set_option Elab.async false
set_option linter.all false
set_option maxRecDepth 100000
set_option maxHeartbeats 4000000
/-! An own exception class over LookupError whose __init__ is walked as a def (the library has it over ValueError). -/
namespace PySem
namespace OexL
open PySem.W PySem.Calls PyProof.Rows PySem.HandSPX Builtin Builtin.ObjectAttr
abbrev leTail : List Value := [.type "LookupError", .type "Exception", .type "BaseException", .type "object"]
theorem le_pass (self : Value) (B : Addr) : refuseLoop self "__setattr__" (.ref B :: leTail) = pure () := by
  rw [refuseLoop_ref]
  kernel_rfl
/-- the first field, by object.__setattr__ -/
theorem osaL {prog : Program} {w : World} {A : Around} {R : Result → Shared → Prop} {hh0 : Heap} {gg : Array GenState} {dr : Drawn} {n0 : Nat} {o0 : OsState} {F0 : W.Frag} {fld : Str} {tk : Tok} {val : Value} {ex B : Addr} {fv : Array Value} {cd : ClassData}
    (hin : F0.In hh0) (hat : hh0.get? ex = some { cls := .ref B, data := .fields fv }) (hcd : W.clsIn F0 B = some cd) (hmr0 : cd.mro = .ref B :: leTail) (hdct : cd.hasDict = true) (hfree : W.findIn F0 (.ref B) fld = some none)
    (fin : ∀ h1 t1 da, (∀ b o, b ≠ ex → hh0.get? b = some o → h1.get? b = some o) → hh0.objs.size ≤ da → da ≠ ex → h1.get? ex = some { cls := .ref B, dict := some da, data := .fields fv } →
      h1.Ns1 da (fun y => if y = fld then some val else none) → R (.ok (.ret .none)) ⟨h1, gg, dr, t1, o0⟩) :
    codeAny (model prog w) A (.call (.builtin "object.__setattr__") ⟨[.ref ex, .str fld tk, val], []⟩) R ⟨hh0, gg, dr, n0, o0⟩ := by
  have inst : W.InstAt hh0 ex { cls := .ref B, data := .fields fv } B none := ⟨hat, rfl, rfl, trivial⟩
  have st := F.store_object
  have far : ex ≠ hh0.objs.size := Nat.ne_of_lt (Heap.lt_size hat)
  have isO : W.Looks (model prog w) hh0 (isInstance (.ref ex) (.type "object")) true := inst.type.andThen (W.looks_mroIn hin (by unfold W.mroIn; rw [hcd, Option.bind_some, hmr0]; rfl))
  refine codeAny_call_builtin st.slot.plain st.entry (@W.check_slot (model prog w) _ _ ⟨hh0, gg, dr, n0, o0⟩ "object.__setattr__" "object" "__setattr__" (.ref ex) [.str fld tk, val] [] _ st.kind st.split isO (st.args (.ref ex) (.str fld tk) val) ?_)
  have lm : W.Looks (model prog w) hh0 (mroOf (.ref B)) cd.mro := (W.looks_clsIn hin hcd).andThen .now
  have lt : W.Looks (model prog w) hh0 (storeTaker? none) none := .now
  have lc : W.Looks (model prog w) hh0 (classData B) cd := W.looks_clsIn hin hcd
  rw [W.osa_eq, refuse_eq]
  refine wpAny_bind (wpAny_bind (inst.type.at (wpAny_bind (lm.at ?_))))
  rw [hmr0, le_pass]
  refine wpAny_pure (wpAny_bind (inst.type.at (wpAny_bind ((W.looks_findIn hin hfree).at (wpAny_bind (lt.at ?_))))))
  show wpAny _ _ (storeInOwnDict (.ref ex) (.ref B) (.str fld tk) fld val false) _ _ _
  obtain ⟨c1, c2, c3, c4, c5, c6, c7, c8, c9, c10, c11⟩ := cd
  dsimp only at hdct
  subst hdct
  unfold storeInOwnDict ownDictForStores
  repeat (first | with_reducible refine store_in_new ?_ ?_ | with_reducible refine wpAny_loadPart_at hat ?_ | with_reducible refine lc.at ?_ | wp_step)
  · exact ⟨_, #[], _, (Heap.get?_update_ne _ _ _ _ far.symm).trans (Heap.get?_push_at rfl rfl), rfl, fun e z => absurd z (by simp), fun _ => rfl⟩
  · intro h1 t1 hn hs
    have hat1 : (hh0.push { cls := .type "dict", data := .dict #[] }).get? ex = some { cls := .ref B, data := .fields fv } := Heap.get?_push_of_some _ hat
    refine fin h1 t1 hh0.objs.size (fun b o nb ho => ?_) (Nat.le_refl _) far.symm ?_ hn
    · exact (hs.2 b (Nat.ne_of_lt (Heap.lt_size ho))).trans ((Heap.get?_update_ne _ _ _ _ nb).trans (Heap.get?_push_of_some _ ho))
    · exact (hs.2 ex far).trans (Heap.get?_update_self _ hat1 rfl)
end OexL
end PySem
namespace L2
open PySem PySem.Spec PyProof.Rows
structure OexLC (K : PySem.W.Frag) (B : Addr) : Prop where
  cls : ∃ y1 y2 y3 y4 y5 y6 y7 y8 y9 z0 z1 z2 z3 z5, K.lookup B = some (excClassObj y1 y2 B y3 y4 PySem.OexL.leTail true y5 y6 y7 y8 y9 z0 z1 z2 z3 z5 "LookupError.__new__")
  sa : PySem.W.findIn K (.ref B) "__setattr__" = some (some (.builtin "object.__setattr__"))
  exC : PySem.W.subIn K (.ref B) (.type "BaseException") = some true
  tyC : PySem.W.typeIn K (.ref B) = some (.type "type")
  kC : PySem.W.keepIn K (.ref B) = true
section
variable {X : Cx} {pins : List (Addr × Obj)} {σ : St} {H : Hp} {s : Shared} {ex B : Addr} {fld : Str} {y : V} {u : Value} {A : Around}
theorem osetL {Q : Unit → Shared → Prop} {E : Value → Shared → Prop} (T : OexLC X.K B) (I : Inv X pins σ H s) (he : H ex = some (exo ex B none)) (hfree : PySem.W.findIn X.K (.ref B) fld = some none) (ry : RelV y u)
    (fin : ∀ da s1, H da = none → da ≠ ex → Inv X pins σ (upd (upd H da (exd da [(fld, y)])) ex (exo ex B (some da))) s1 → Q () s1) : wpAny (model X.prog X.w) A (setAttr (.ref ex) fld u) Q E s := by
  obtain ⟨y1, y2, y3, y4, y5, y6, y7, y8, y9, z0, z1, z2, z3, z5, hB⟩ := T.cls
  have hcl : PySem.W.clsIn X.K B = some { name := y1, bases := y4, mro := .ref B :: PySem.OexL.leTail, ns := y3, qualname := y2, hasDict := true, slotNames := y5, subclasses := y6, abstract := y7, collection := y8, hasDel := false } := by unfold PySem.W.clsIn; rw [hB] <;> rfl
  obtain ⟨t1, ho⟩ := exo_at I.hok he
  obtain ⟨h0, g, d, t, os⟩ := s
  refine PySem.W.set_plain I.kIn (ox := { cls := .ref B, dict := none, data := .fields #[.ref t1, .none, .none, .none, .bool false, .none] }) (od := none) ⟨ho, rfl, rfl, trivial⟩ T.sa ?_
  refine PySem.OexL.osaL I.kIn ho hcl rfl rfl hfree (fun h1 tk1 da kk nw nn hx hn => ?_)
  have none1 : H da = none := I.hok.fresh nw
  have far : ∀ {b : Addr} {o : Obj}, h0.get? b = some o → b ≠ da := fun {b o} q => Nat.ne_of_lt (Nat.lt_of_lt_of_le (Heap.lt_size q) nw)
  have notE : ∀ {b : Addr}, H b = none → b ≠ ex := fun {b} n z => by
    subst z
    rw [he] at n
    exact nomatch n
  have U1 : Un X.fs [] H (upd (upd H da (exd da [(fld, y)])) ex (exo ex B (some da))) h0 h1 := by
    refine ⟨fun b o q n _ _ => kk b o (notE n) q, fun b o q n _ _ => ⟨o.slots, kk b o (notE n) q⟩, fun b o q n _ => ?_, fun b o q _ => ?_, fun b xs q => ?_, fun b o v q => ?_, fun b ps q => ⟨#[], ?_⟩⟩
    · rw [upd_ne (notE n), upd_ne (far q)]
      exact n
    · by_cases z : b = ex
      · exact ⟨_, by rw [z]; exact hx⟩
      · exact ⟨o, kk b o z q⟩
    · rw [upd_ne (at_ne he q exo_tup), upd_ne (ne_of_none q none1)]
      exact q
    · rw [upd_ne (at_ne he q exo_frz), upd_ne (ne_of_none q none1)]
      exact q
    · rw [upd_ne (at_ne he q exo_tbl), upd_ne (ne_of_none q none1), q]
      simp
  refine fin da _ none1 nn (I.un (t' := tk1) U1 fun b o q => ?_)
  by_cases z : b = ex
  · subst z
    rw [upd_same] at q
    cases q
    exact exo_ok hx
  rw [upd_ne z] at q
  by_cases z2 : b = da
  · subst z2
    rw [upd_same] at q
    cases q
    exact exd_ok hn (relO_put (fs := []) ry fun g => True.intro)
  rw [upd_ne z2] at q
  refine (I.hok b o q).stay (fun c v hc zz => kk c v ?_ zz) (fun c hc => ?_) (fun c xs hc => ?_)
  · rcases hc with hc | hc
    · rw [hc]
      exact z
    · exact at_ne he hc exo_own
  · rw [upd_ne (at_ne he hc exo_own), upd_ne (ne_of_none hc none1)]
    exact hc
  · rw [upd_ne (at_ne he hc exo_tup), upd_ne (ne_of_none hc none1)]
    exact hc
end
/-- self.f = y in the __init__ of such a class, the first field -/
def tOsL (K : PySem.W.Frag) (fld : Str) (to te : TE) : TS := fun D σ H => te σ H fun y H1 => to σ H1 fun x H2 => ∃ ex B, x = .ref ex ∧ OexLC K B ∧ PySem.W.findIn K (.ref B) fld = some none ∧ H2 ex = some (exo ex B none) ∧ ∀ da, H2 da = none → da ≠ ex → D.nx σ (upd (upd H2 da (exd da [(fld, y)])) ex (exo ex B (some da)))
section
variable {X : Cx} {o e : Expr} {es : List Expr} {to te : TE} {ta : TA} {f : Str} {p p' pos : Pos}
theorem ps_osL (ho : PE X o to) (he : PE X e te) (hs : swapsWith e (some (.Attribute o f p')) pos.line X.env = pure false := by rfl) : PS X (.Assign [.Attribute o f p'] e pos) (tOsL X.K f to te) := by
  refine ⟨fun pins s σ H D I h => ?_⟩
  refine plainObj_wpAny_Assign_Attribute (thn (he.run pins s σ H _ I h) fun v s1 ⟨y, H1, I1, r1, q1⟩ => thn (ho.run pins s1 σ H1 _ I1 q1) fun u s2 ⟨x, H2, I2, r2, ex, B, hx, T, hno, ea, q⟩ => ?_) hs
  subst hx
  cases (show u = Value.ref ex from r2)
  exact osetL T I2 ea hno r1 fun da s3 n ne J => ⟨σ, _, J, q da n ne⟩
theorem pmk_oexL {CX : CXT} {x : Str} {B fI : Addr} {k : Nat} {fd : FuncData} {ps : List Str} {sp : Sp} (T : OexLC X.K B) (iB : PySem.W.findIn X.K (.ref B) "__init__" = some (some (.ref fI))) (tI : PySem.W.typeIn X.K (.ref fI) = some (.type "function"))
    (F1 : FnOk X.prog X.w X.K X.mg X.base CX k fI fd ps sp) (hr : Room (k + 1) X.A) (hb : Binds X.K fd ps []) (hx : Passes CX X (fun _ _ _ => False)) (hg : Gl X x) (hm : X.mg x = some (.ref B)) (ha : PA X (e :: es) ta)
    (hdb : (x == ("__debug__" : Str)) = false := by decide) (hst : starEach (e :: es) X.env = (false, eval e X.env) :: starEach es X.env := by rfl) (hno : (backTo pos (starEach es X.env)).any (·.1) = false := by rfl) :
    PMk X (.Call (.Name x p) (e :: es) [] pos) (tMkO B sp [] ta) := by
  intro pins s σ H Q I h
  obtain ⟨y1, y2, y3, y4, y5, y6, y7, y8, y9, z0, z1, z2, z3, z5, hB⟩ := T.cls
  refine wpAny_Call_Name_kw (ld_glob I hg hm ?_ hdb)
  refine PySem.W.callWith_K (h₀ := X.base) I.ok.mod.kin T.kC (thn (ha.run pos pins s σ H _ I h) fun us s1 ⟨vs, H1, I1, r1, hz, q1⟩ => ⟨I1.kIn, ?_⟩) hst hno
  show wpAny _ _ (call (.ref B) us) _ _ _
  obtain ⟨h0, g0, d0, t0, o0⟩ := s1
  have lt1 : h0.objs.size ≤ h0.objs.size + 1 := Nat.le_succ _
  have n1 : H1 (h0.objs.size + 1) = none := I1.hok.fresh lt1
  have w1 := q1 (h0.objs.size + 1) n1
  rw [List.append_nil] at w1
  have kp : ∀ b o, h0.get? b = some o → ((h0.push (PySem.W.kdv_tup us)).push (PySem.HandSPX.excO B h0.objs.size)).get? b = some o := fun b o z => Heap.get?_push_of_some _ (Heap.get?_push_of_some _ z)
  have here : ((h0.push (PySem.W.kdv_tup us)).push (PySem.HandSPX.excO B h0.objs.size)).get? (h0.objs.size + 1) = some (PySem.HandSPX.excO B h0.objs.size) := by heap_get
  have J : Inv X pins σ (upd H1 (h0.objs.size + 1) (exo (h0.objs.size + 1) B none)) ⟨(h0.push (PySem.W.kdv_tup us)).push (PySem.HandSPX.excO B h0.objs.size), g0, d0, t0, o0⟩ :=
    I1.laid (t' := t0) (a := h0.objs.size + 1) (o := exo (h0.objs.size + 1) B none) (h' := (h0.push (PySem.W.kdv_tup us)).push (PySem.HandSPX.excO B h0.objs.size)) kp lt1 (exo_ok here)
  have rr : Vals (V.ref (h0.objs.size + 1) :: vs) (Value.ref (h0.objs.size + 1) :: us) := .cons rfl r1
  have ln : (Value.ref (h0.objs.size + 1) :: us).length = ps.length := rr.length.symm.trans (F1.len _ _ _ _ w1)
  have few : us.length ≤ sizeLine := by
    rw [← Paired.length r1, sizeLine_eq]
    exact Nat.le_trans hz (by decide)
  have bb := hb ⟨(h0.push (PySem.W.kdv_tup us)).push (PySem.HandSPX.excO B h0.objs.size), g0, d0, t0, o0⟩ (Value.ref (h0.objs.size + 1) :: us) J.kIn (by rw [List.append_nil]; exact ln)
  rw [List.append_nil] at bb
  refine wpAny_call (PySem.HandSPX.call_own F.excBase_LookupError (fun _ => rfl) (I1.kIn _ _ hB) (PySem.W.looks_findIn I1.kIn iB) (fun self => PySem.W.bind_fn I1.kIn self tI) few
    (codeAny_mono (F1.run _ X.stack _ _ ⟨Value.ref (h0.objs.size + 1) :: us, []⟩ (Value.ref (h0.objs.size + 1) :: us) _ _ (fun _ _ _ => False) (hr.make B us []) (J.env0.make B us []) bb rr w1) fun r s2 hq => ?_))
  match r, hq with
  | .error er, hq => exact hx pins σ _ _ er s2 J hq
  | .ok (.ret u), hq =>
    obtain ⟨v, H2, os2, bare2, un2, hok2, rv, ev, d, fs, ea, ed, hd1, q2⟩ := hq
    subst ev
    obtain ⟨h2, g2, d2, t2, o2⟩ := s2
    exact ⟨rv, mk_end (raises_own T.exC T.tyC) I1 lt1 kp un2 hok2 os2 bare2 ea ed hd1 q2⟩
  | .ok .next, hq => exact False.elim hq
  | .ok .brk, hq => exact False.elim hq
  | .ok .cont, hq => exact False.elim hq
end
end L2
set_option Elab.async false
set_option linter.all false
set_option maxRecDepth 100000
set_option maxHeartbeats 4000000
namespace K10
open PySem PySem.Spec PyProof.Rows L2 Lay NdefX LamX GD DM
abbrev Tb := Nat → List D → M D
def topS (i : Nat) : Stmt := PySem.Challenge.pw_askford_k10_parts_and_kinds.main.body.getD i (.Pass ⟨0, 0, 0, 0⟩)
abbrev s_NoPath___init__ : Stmt := inClass (topS 5) 0
theorem sc_NoPath___init__ : FnScope ["self", "at"] ["self", "at"] (defScope s_NoPath___init__) := ⟨rfl, rfl, rfl, by decide +kernel, rfl, by decide +kernel, by decide +kernel⟩
abbrev s_Day___init__ : Stmt := inClass (topS 8) 0
theorem sc_Day___init__ : FnScope ["self", "number"] ["self", "number"] (defScope s_Day___init__) := ⟨rfl, rfl, rfl, by decide +kernel, rfl, by decide +kernel, by decide +kernel⟩
abbrev s_is_leap : Stmt := topS 9
theorem sc_is_leap : FnScope ["year"] ["year"] (defScope s_is_leap) := ⟨rfl, rfl, rfl, by decide +kernel, rfl, by decide +kernel, by decide +kernel⟩
abbrev s_last_of : Stmt := topS 10
theorem sc_last_of : FnScope ["year", "month"] ["year", "month"] (defScope s_last_of) := ⟨rfl, rfl, rfl, by decide +kernel, rfl, by decide +kernel, by decide +kernel⟩
abbrev s_day_of : Stmt := topS 11
theorem sc_day_of : FnScope ["year", "month", "day", "since", "ahead"] ["year", "month", "day"] (defScope s_day_of) := ⟨rfl, rfl, rfl, by decide +kernel, rfl, by decide +kernel, by decide +kernel⟩
abbrev s_is_number : Stmt := topS 20
theorem sc_is_number : FnScope ["thing"] ["thing"] (defScope s_is_number) := ⟨rfl, rfl, rfl, by decide +kernel, rfl, by decide +kernel, by decide +kernel⟩
abbrev s_is_name : Stmt := topS 21
theorem sc_is_name : FnScope ["thing", "sign"] ["thing"] (defScope s_is_name) := ⟨rfl, rfl, rfl, by decide +kernel, rfl, by decide +kernel, by decide +kernel⟩
abbrev s_is_date : Stmt := topS 22
theorem sc_is_date : FnScope ["things", "thing"] ["things"] (defScope s_is_date) := ⟨rfl, rfl, rfl, by decide +kernel, rfl, by decide +kernel, by decide +kernel⟩
abbrev s_places_of : Stmt := topS 23
theorem sc_places_of : FnScope ["thing"] ["thing"] (defScope s_places_of) := ⟨rfl, rfl, rfl, by decide +kernel, rfl, by decide +kernel, by decide +kernel⟩
abbrev s_parts_of : Stmt := topS 24
theorem sc_parts_of : FnScope ["thing", "place"] ["thing"] (defScope s_parts_of) := ⟨rfl, rfl, rfl, by decide +kernel, rfl, by decide +kernel, by decide +kernel⟩
abbrev s_wants_ask : Stmt := topS 25
theorem sc_wants_ask : FnScope ["thing", "number"] ["thing", "number"] (defScope s_wants_ask) := ⟨rfl, rfl, rfl, by decide +kernel, rfl, by decide +kernel, by decide +kernel⟩
abbrev s_has_shape : Stmt := topS 26
theorem sc_has_shape : FnScope ["tongue", "thing", "ask", "table", "word"] ["tongue", "thing", "ask"] (defScope s_has_shape) := ⟨rfl, rfl, rfl, by decide +kernel, rfl, by decide +kernel, by decide +kernel⟩
abbrev s_check_shapes : Stmt := topS 27
theorem sc_check_shapes : FnScope ["tongue", "thing", "ask", "path", "number", "part"] ["tongue", "thing", "ask", "path"] (defScope s_check_shapes) := ⟨rfl, rfl, rfl, by decide +kernel, rfl, by decide +kernel, by decide +kernel⟩
abbrev s_loose_columns : Stmt := topS 28
theorem sc_loose_columns : FnScope ["thing", "names", "path", "told", "number", "part", "inner"] ["thing", "names", "path"] (defScope s_loose_columns) := ⟨rfl, rfl, rfl, by decide +kernel, rfl, by decide +kernel, by decide +kernel⟩
abbrev s_with_one : Stmt := topS 29
theorem sc_with_one : FnScope ["table", "name", "thing", "told"] ["table", "name", "thing"] (defScope s_with_one) := ⟨rfl, rfl, rfl, by decide +kernel, rfl, by decide +kernel, by decide +kernel⟩
abbrev s_kinds_in : Stmt := topS 30
theorem sc_kinds_in : FnScope ["thing", "kinds", "path", "told", "inner", "number", "part"] ["thing", "kinds", "path"] (defScope s_kinds_in) := ⟨rfl, rfl, rfl, by decide +kernel, rfl, by decide +kernel, by decide +kernel⟩
abbrev s_kind_in : Stmt := topS 31
theorem sc_kind_in : FnScope ["thing", "kinds", "path", "word", "some", "plain"] ["thing", "kinds", "path"] (defScope s_kind_in) := ⟨rfl, rfl, rfl, by decide +kernel, rfl, by decide +kernel, by decide +kernel⟩
abbrev s_paths : Stmt := topS 32
theorem sc_paths : FnScope ["term", "told", "number", "part", "path"] ["term"] (defScope s_paths) := ⟨rfl, rfl, rfl, by decide +kernel, rfl, by decide +kernel, by decide +kernel⟩
abbrev s_part_at : Stmt := topS 33
theorem sc_part_at : FnScope ["term", "path", "here", "number", "parts"] ["term", "path"] (defScope s_part_at) := ⟨rfl, rfl, rfl, by decide +kernel, rfl, by decide +kernel, by decide +kernel⟩
abbrev s_check : Stmt := topS 34
theorem sc_check : FnScope ["tongue", "thing", "ask", "kinds", "path", "name"] ["tongue", "thing", "ask", "kinds"] (defScope s_check) := ⟨rfl, rfl, rfl, by decide +kernel, rfl, by decide +kernel, by decide +kernel⟩
abbrev s_kind_of : Stmt := topS 35
theorem sc_kind_of : FnScope ["tongue", "term", "kinds"] ["tongue", "term", "kinds"] (defScope s_kind_of) := ⟨rfl, rfl, rfl, by decide +kernel, rfl, by decide +kernel, by decide +kernel⟩
abbrev s_check_condition : Stmt := topS 36
theorem sc_check_condition : FnScope ["tongue", "condition", "kinds"] ["tongue", "condition", "kinds"] (defScope s_check_condition) := ⟨rfl, rfl, rfl, by decide +kernel, rfl, by decide +kernel, by decide +kernel⟩
abbrev s__law_draws : Stmt := topS 38
theorem sc__law_draws : FnScope ["_law_cell_here"] ["_law_cell_here"] (defScope s__law_draws) := ⟨rfl, rfl, rfl, by decide +kernel, rfl, by decide +kernel, by decide +kernel⟩
abbrev s__law_next : Stmt := topS 39
theorem sc__law_next : FnScope ["_law_draws_here", "_law_k", "_law_number"] ["_law_draws_here"] (defScope s__law_next) := ⟨rfl, rfl, rfl, by decide +kernel, rfl, by decide +kernel, by decide +kernel⟩
abbrev s__law_heads : Stmt := topS 41
theorem sc__law_heads : FnScope ["_law_draws_here", "_law_a_tongue", "_law_letters", "_law_a_kinds", "_law_many", "_law_letter"] ["_law_draws_here", "_law_a_tongue", "_law_letters"] (defScope s__law_heads) := ⟨rfl, rfl, rfl, by decide +kernel, rfl, by decide +kernel, by decide +kernel⟩
abbrev s__law_leaf : Stmt := topS 42
theorem sc__law_leaf : FnScope ["_law_draws_here", "_law_a_tongue", "_law_heads_here", "_law_kind", "_law_some", "_law_pick", "_law_letter", "_law_other"] ["_law_draws_here", "_law_a_tongue", "_law_heads_here", "_law_kind"] (defScope s__law_leaf) := ⟨rfl, rfl, rfl, by decide +kernel, rfl, by decide +kernel, by decide +kernel⟩
abbrev s__law_term : Stmt := topS 43
theorem sc__law_term : FnScope ["_law_draws_here", "_law_a_tongue", "_law_heads_here", "_law_kind", "_law_deep", "_law_pick", "_law_part", "_law_way", "_law_other", "_law_inner_here", "_law_head"] ["_law_draws_here", "_law_a_tongue", "_law_heads_here", "_law_kind", "_law_deep"] (defScope s__law_term) := ⟨rfl, rfl, rfl, by decide +kernel, rfl, by decide +kernel, by decide +kernel⟩
abbrev s__law_condition : Stmt := topS 44
theorem sc__law_condition : FnScope ["_law_draws_here", "_law_a_tongue", "_law_heads_here", "_law_deep", "_law_pick", "_law_one", "_law_two", "_law_a_kinds", "_law_kind", "_law_k"] ["_law_draws_here", "_law_a_tongue", "_law_heads_here", "_law_deep"] (defScope s__law_condition) := ⟨rfl, rfl, rfl, by decide +kernel, rfl, by decide +kernel, by decide +kernel⟩
abbrev s__law_places : Stmt := topS 45
theorem sc__law_places : FnScope ["_law_told", "_law_word"] [] (defScope s__law_places) := ⟨rfl, rfl, rfl, by decide +kernel, rfl, by decide +kernel, by decide +kernel⟩
abbrev s__law_inner : Stmt := topS 46
theorem sc__law_inner : FnScope ["_law_a_term"] ["_law_a_term"] (defScope s__law_inner) := ⟨rfl, rfl, rfl, by decide +kernel, rfl, by decide +kernel, by decide +kernel⟩
abbrev s__law_paths_of : Stmt := topS 47
theorem sc__law_paths_of : FnScope ["_law_a_term", "_law_told", "_law_number", "_law_part", "_law_a_path"] ["_law_a_term"] (defScope s__law_paths_of) := ⟨rfl, rfl, rfl, by decide +kernel, rfl, by decide +kernel, by decide +kernel⟩
abbrev s__law_there : Stmt := topS 48
theorem sc__law_there : FnScope ["_law_a_term", "_law_a_path", "_law_number"] ["_law_a_term", "_law_a_path"] (defScope s__law_there) := ⟨rfl, rfl, rfl, by decide +kernel, rfl, by decide +kernel, by decide +kernel⟩
abbrev s__law_refused : Stmt := topS 49
theorem sc__law_refused : FnScope ["_law_a_term", "_law_a_path", "_law_kept", "e"] ["_law_a_term", "_law_a_path"] (defScope s__law_refused) := ⟨rfl, rfl, rfl, by decide +kernel, rfl, by decide +kernel, by decide +kernel⟩
abbrev s__law_paths_right : Stmt := topS 50
theorem sc__law_paths_right : FnScope ["_law_a_term", "_law_due", "_law_told", "_law_a_path", "_law_there_here", "_law_many", "_law_number"] ["_law_a_term"] (defScope s__law_paths_right) := ⟨rfl, rfl, rfl, by decide +kernel, rfl, by decide +kernel, by decide +kernel⟩
abbrev s_law : Stmt := topS 51
theorem sc_law : FnScope ["_law_script", "_law_cell_here", "_law_draws_here", "_law_turn", "_law_a_tongue", "_law_heads_here", "_law_kind", "_law_a_term", "_law_told", "_law_ask"] ["_law_script"] (defScope s_law) := ⟨rfl, rfl, rfl, by decide +kernel, rfl, by decide +kernel, by decide +kernel⟩
def asgE : Stmt → Expr
  | .Assign _ e _ => e
  | _ => .Constant .none 0 ⟨0, 0, 0, 0⟩
def lamA : Expr → Arguments
  | .Lambda p _ _ _ => p
  | _ => defArgs s_law
def lamB : Expr → Expr
  | .Lambda _ b _ _ => b
  | e => e
def lamS : Expr → Scope
  | .Lambda _ _ s _ => s
  | _ => defScope s_law
abbrev le__law_term : Expr := asgE ((defBody s__law_term).getD 2 (.Pass ⟨0, 0, 0, 0⟩))
abbrev lmf__law_term : List Str := ["_law_draws_here", "_law_a_tongue", "_law_heads_here", "_law_deep"]
theorem lnd__law_term : ndefB (defScope s__law_term) (lamS le__law_term) lmf__law_term = true := by decide +kernel
theorem lsc__law_term : NScope ["_law_some", "_law_draws_here", "_law_a_tongue", "_law_heads_here", "_law_deep"] ["_law_some"] lmf__law_term (lamS le__law_term) := nscope_by (by decide +kernel)
abbrev nm__law_term : Nat → Nat → Str := fun _ _ => "_law_term.<locals>.<lambda>"
def is_NoPath : Str → Option Bool := fun c => if c = "NoPath" then some true else none
def is_LookupError : Str → Option Bool := fun c => if c = "NoPath" then some true else none
def mt_NoDay : Str → Option Bool := fun _ => none
def mk_NoPath_NoTerm_NoName_NoKind : Str → Option Bool := fun c => if c = "NoPath" then some true else none
def cs_at : List Str := ["NoPath"]
def tb_PLACES : List (Str × D) := [("col", (.tup [])), ("num", (.tup [])), ("text", (.tup [])), ("blank", (.tup [])), ("plus", (.tup [.int 1, .int 2])), ("minus", (.tup [.int 1, .int 2])), ("times", (.tup [.int 1, .int 2])), ("over", (.tup [.int 1, .int 2])), ("rest", (.tup [.int 1, .int 2])), ("joined", (.tup [.int 1, .int 2])), ("size", (.tup [.int 1])), ("part", (.tup [.int 1, .int 2, .int 3])), ("or_else", (.tup [.int 1, .int 2])), ("if", (.tup [.int 1, .int 2, .int 3])), ("let", (.tup [.int 2, .int 3])), ("date", (.tup [])), ("year", (.tup [.int 1])), ("month", (.tup [.int 1])), ("daily", (.tup [.int 1])), ("months", (.tup [.int 1, .int 2])), ("later", (.tup [.int 1, .int 2])), ("days", (.tup [.int 1, .int 2])), ("blank_if", (.tup [.int 1, .int 2]))]
def ms_PLACES : List Str := ["yes", "no", "same", "less", "begins", "is_blank", "and", "or", "not"]
def tb_ASKS : List (Str × D) := [("yes", (.tup [])), ("no", (.tup [])), ("same", (.tup [.int 1, .int 2])), ("less", (.tup [.int 1, .int 2])), ("begins", (.tup [.int 1, .int 2])), ("is_blank", (.tup [.int 1])), ("and", (.tup [.int 1, .int 2])), ("or", (.tup [.int 1, .int 2])), ("not", (.tup [.int 1]))]
def ms_ASKS : List Str := ["col", "num", "text", "blank", "plus", "minus", "times", "over", "rest", "joined", "size", "part", "or_else", "if", "let", "date", "year", "month", "daily", "months", "later", "days", "blank_if"]
def tb_SIZES : List (Str × D) := [("col", .int 2), ("num", .int 2), ("text", .int 2), ("blank", .int 2), ("let", .int 4), ("date", .int 4)]
def ms_SIZES : List Str := ["plus", "minus", "times", "over", "rest", "joined", "size", "part", "or_else", "if", "year", "month", "daily", "months", "later", "days", "blank_if", "yes", "no", "same", "less", "begins", "is_blank", "and", "or", "not"]
def tb_TOLD : List (Str × D) := [("plus", (.tup [.str "number", .str "number", .str "number"])), ("minus", (.tup [.str "number", .str "number", .str "number"])), ("times", (.tup [.str "number", .str "number", .str "number"])), ("over", (.tup [.str "number", .str "number", .str "number"])), ("rest", (.tup [.str "number", .str "number", .str "number"])), ("joined", (.tup [.str "text", .str "text", .str "text"])), ("size", (.tup [.str "number", .str "text"])), ("part", (.tup [.str "text", .str "text", .str "number", .str "number"])), ("year", (.tup [.str "number", .str "day"])), ("month", (.tup [.str "number", .str "day"])), ("daily", (.tup [.str "number", .str "day"])), ("months", (.tup [.str "day", .str "day", .str "number"])), ("later", (.tup [.str "day", .str "day", .str "number"])), ("days", (.tup [.str "number", .str "day", .str "day"]))]
def ms_TOLD : List Str := ["col", "num", "text", "blank", "or_else", "if", "let", "date", "blank_if", "yes", "no", "same", "less", "begins", "is_blank", "and", "or", "not"]
def wd_LENGTHS : D := (.tup [.int 31, .int 28, .int 31, .int 30, .int 31, .int 30, .int 31, .int 31, .int 30, .int 31, .int 30, .int 31])
def wd_HILLS : D := (.tup [.str "date", .str "year", .str "month", .str "daily", .str "months", .str "later", .str "days", .str "blank_if"])
def wd_KINDS : D := (.tup [.str "number", .str "text", .str "day"])
def lb__law_term (S : Tb) : En → M D :=
  (eCallN 5 (S 23) (aCons (eVar 1) (aCons (eVar 2) (aCons (eVar 3) (aCons (eVar 0) (aCons (eOp oSub (eVar 4) (eC (.int 1))) aNil))))))
def b_is_leap (S : Tb) : DM.S :=
  (sRet (eAnd (eOp oEqX (eOp oMod (eVar 0) (eC (.int 4))) (eC (.int 0))) (eOr (eOp oNeX (eOp oMod (eVar 0) (eC (.int 100))) (eC (.int 0))) (eOp oEqX (eOp oMod (eVar 0) (eC (.int 400))) (eC (.int 0))))))
def b_last_of (S : Tb) : DM.S :=
  (sRet (eOp oAddX (eOp oIx (eC wd_LENGTHS) (eOp oSub (eVar 1) (eC (.int 1)))) (eCB bInt (aCons (eAnd (eOp oEqX (eVar 1) (eC (.int 2))) (eCallN 1 (S 0) (aCons (eVar 0) aNil))) aNil))))
def b_day_of (S : Tb) : DM.S :=
  (sSeq (sIf (tOr' (tNot' (tB' (eChain oLe oLe (eC (.int 1)) (eVar 1) (eC (.int 12))))) (tNot' (tB' (eChain oLe oLe (eC (.int 1)) (eVar 2) (eCallN 2 (S 1) (aCons (eVar 0) (aCons (eVar 1) aNil))))))) sStuck sNext)
    (sSeq (sSet (.one 3) (eOp oSub (eVar 0) (eCB bInt (aCons (eOp oLt (eVar 1) (eC (.int 3))) aNil))))
    (sSeq (sSet (.one 4) (eOp oSub (eOp oAddX (eOp oDiv (eOp oAddX (eOp oMulX (eC (.int 153)) (eOp oMod (eOp oAddX (eVar 1) (eC (.int 9))) (eC (.int 12)))) (eC (.int 2))) (eC (.int 5))) (eVar 2)) (eC (.int 1))))
    (sRet (eMk "Day" ["number"] (aCons (eOp oAddX (eOp oAddX (eOp oSub (eOp oAddX (eOp oMulX (eC (.int 365)) (eVar 3)) (eOp oDiv (eVar 3) (eC (.int 4)))) (eOp oDiv (eVar 3) (eC (.int 100)))) (eOp oDiv (eVar 3) (eC (.int 400)))) (eVar 4)) aNil))))))
def b_is_number (S : Tb) : DM.S :=
  (sRet (eAnd (eUn (isF "int") (eVar 0)) (eNotV (eUn (isF "bool") (eVar 0)))))
def b_is_name (S : Tb) : DM.S :=
  (sSeq (sIf (tOr' (tNot' (tB' (eUn (isF "str") (eVar 0)))) (tOr' (tNot' (tB' (eChain oLe oLe (eC (.int 1)) (eCB bLenX (aCons (eVar 0) aNil)) (eC (.int 8))))) (tB' (eOp (oInZ true) (eOp oIxZ (eVar 0) (eC (.int 0))) (eC (.str "abcdefghijklmnopqrstuvwxyz")))))) (sRet (eC (.bl false))) sNext)
    (sRet (eCB bAll (aCons (eLc (.one 1) (iD isX (eVar 0)) tYes' (eOr (eOp (oInZ false) (eVar 1) (eC (.str "abcdefghijklmnopqrstuvwxyz"))) (eOp (oInZ false) (eVar 1) (eC (.str "0123456789"))))) aNil))))
def b_is_date (S : Tb) : DM.S :=
  (sSeq (sIf (tNot' (tB' (eCB bAll (aCons (eLc (.one 1) (iD isX (eVar 0)) tYes' (eCallN 1 (S 3) (aCons (eVar 1) aNil))) aNil)))) (sRet (eC (.bl false))) sNext)
    (sSeq (sTry mt_NoDay (sDrop (eCallN 3 (S 2) (aCons (eOp oIx (eVar 0) (eC (.int 0))) (aCons (eOp oIx (eVar 0) (eC (.int 1))) (aCons (eOp oIx (eVar 0) (eC (.int 2))) aNil))))) (sRet (eC (.bl false))))
    (sRet (eC (.bl true)))))
def b_places_of (S : Tb) : DM.S :=
  (sRet (eIf (tB' (eUn (wIn tb_PLACES ms_PLACES) (eOp oIx (eVar 0) (eC (.int 0))))) (eUn (wIx tb_PLACES) (eOp oIx (eVar 0) (eC (.int 0)))) (eUn (wIx tb_ASKS) (eOp oIx (eVar 0) (eC (.int 0))))))
def b_parts_of (S : Tb) : DM.S :=
  (sRet (eLc (.one 1) (iD isX (eCallN 1 (S 6) (aCons (eVar 0) aNil))) tYes' (eOp oIx (eVar 0) (eVar 1))))
def b_wants_ask (S : Tb) : DM.S :=
  (sRet (eOr (eOp oInA (eOp oIx (eVar 0) (eC (.int 0))) (eTup (aCons (eC (.str "and")) (aCons (eC (.str "or")) (aCons (eC (.str "not")) aNil))))) (eAnd (eOp oEqX (eOp oIx (eVar 0) (eC (.int 0))) (eC (.str "if"))) (eOp oEqX (eVar 1) (eC (.int 0))))))
def b_has_shape (S : Tb) : DM.S :=
  (sSeq (sIf (tOr' (tNot' (tB' (eUn (isF "tuple") (eVar 1)))) (tOr' (tB' (eOp oEqX (eVar 1) (eTup aNil))) (tNot' (tB' (eUn (isF "str") (eOp oIx (eVar 1) (eC (.int 0)))))))) (sRet (eC (.bl false))) sNext)
    (sSeq (sSet (.one 3) (eIf (tB' (eVar 2)) (eC (.dic (tb_ASKS.map (·.1)) (tb_ASKS.map (·.2)))) (eC (.dic (tb_PLACES.map (·.1)) (tb_PLACES.map (·.2))))))
    (sSeq (sSet (.one 4) (eOp oIx (eVar 1) (eC (.int 0))))
    (sSeq (sIf (tOr' (tB' (eOp (oInK true) (eVar 4) (eVar 3))) (tAnd' (tB' (eOp oInA (eVar 4) (eC wd_HILLS))) (tB' (eOp oEqX (eVar 0) (eC (.str "dale")))))) (sRet (eC (.bl false))) sNext)
    (sSeq (sIf (tB' (eOp oNeX (eCB bLenX (aCons (eVar 1) aNil)) (wGet tb_SIZES ms_SIZES (eVar 4) (eOp oAddX (eC (.int 1)) (eCB bLenX (aCons (eOp oGet (eVar 3) (eVar 4)) aNil)))))) (sRet (eC (.bl false))) sNext)
    (sSeq (sIf (tB' (eOp oInA (eVar 4) (eTup (aCons (eC (.str "col")) (aCons (eC (.str "let")) aNil))))) (sRet (eCallN 1 (S 4) (aCons (eOp oIx (eVar 1) (eC (.int 1))) aNil))) sNext)
    (sSeq (sIf (tB' (eOp oEqX (eVar 4) (eC (.str "num")))) (sRet (eCallN 1 (S 3) (aCons (eOp oIx (eVar 1) (eC (.int 1))) aNil))) sNext)
    (sSeq (sIf (tB' (eOp oEqX (eVar 4) (eC (.str "text")))) (sRet (eAnd (eUn (isF "str") (eOp oIx (eVar 1) (eC (.int 1)))) (eOr (eOp oEqX (eVar 0) (eC (.str "hill"))) (eOp oNeX (eOp oIx (eVar 1) (eC (.int 1))) (eC (.str "")))))) sNext)
    (sSeq (sIf (tB' (eOp oEqX (eVar 4) (eC (.str "blank")))) (sRet (eAnd (eUn (isF "str") (eOp oIx (eVar 1) (eC (.int 1)))) (eAnd (eOp oInA (eOp oIx (eVar 1) (eC (.int 1))) (eC wd_KINDS)) (eOr (eOp oEqX (eVar 0) (eC (.str "hill"))) (eOp oNeX (eOp oIx (eVar 1) (eC (.int 1))) (eC (.str "day"))))))) sNext)
    (sRet (eOr (eOp oNeX (eVar 4) (eC (.str "date"))) (eCallN 1 (S 5) (aCons (eSl slX (eVar 1) (oSome (eC (.int 1))) oNone) aNil)))))))))))))
def b_check_shapes (S : Tb) : DM.S :=
  (sSeq (sIf (tNot' (tB' (eCallN 3 (S 9) (aCons (eVar 0) (aCons (eVar 1) (aCons (eVar 2) aNil)))))) sStuck sNext)
    (sFor (.many [(.one 4), (.one 5)]) (iDs isE (aCons (eCallN 1 (S 7) (aCons (eVar 1) aNil)) aNil)) (sDrop (eCallN 4 (S 10) (aCons (eVar 0) (aCons (eVar 5) (aCons (eCallN 2 (S 8) (aCons (eVar 1) (aCons (eVar 4) aNil))) (aCons (eOp oAddX (eVar 3) (eTup (aCons (eVar 4) aNil))) aNil))))))))
def b_loose_columns (S : Tb) : DM.S :=
  (sSeq (sIf (tB' (eOp oEqX (eOp oIx (eVar 0) (eC (.int 0))) (eC (.str "col")))) (sRet (eIf (tB' (eOp oInA (eOp oIx (eVar 0) (eC (.int 1))) (eVar 1))) (eLst aNil) (eLst (aCons (eTup (aCons (eVar 2) (aCons (eOp oIx (eVar 0) (eC (.int 1))) aNil))) aNil)))) sNext)
    (sSeq (sOwn 3 (eLst aNil))
    (sSeq (sFor (.many [(.one 4), (.one 5)]) (iDs isE (aCons (eCallN 1 (S 7) (aCons (eVar 0) aNil)) aNil)) (sSeq (sSet (.one 6) (eIf (tAnd' (tB' (eOp oEqX (eOp oIx (eVar 0) (eC (.int 0))) (eC (.str "let")))) (tB' (eOp oEqX (eVar 4) (eC (.int 1))))) (eOp oAddX (eCB bList (aCons (eVar 1) aNil)) (eLst (aCons (eOp oIx (eVar 0) (eC (.int 1))) aNil))) (eVar 1)))
    (sExt 3 (eCallN 3 (S 11) (aCons (eVar 5) (aCons (eVar 6) (aCons (eOp oAddX (eVar 2) (eTup (aCons (eVar 4) aNil))) aNil)))))))
    (sRetO 3))))
def b_with_one (S : Tb) : DM.S :=
  (sSeq (sOwn 3 (eCB bDict (aCons (eVar 0) aNil)))
    (sSeq (sPut 3 (eVar 1) (eVar 2))
    (sRetO 3)))
def b_kinds_in (S : Tb) : DM.S :=
  (sSeq (sOwn 3 (eLst aNil))
    (sSeq (sSet (.one 4) (eVar 1))
    (sSeq (sFor (.many [(.one 5), (.one 6)]) (iDs isE (aCons (eCallN 1 (S 7) (aCons (eVar 0) aNil)) aNil)) (sSeq (sAppend 3 (eCallN 3 (S 14) (aCons (eVar 6) (aCons (eVar 4) (aCons (eOp oAddX (eVar 2) (eTup (aCons (eVar 5) aNil))) aNil)))))
    (sIf (tB' (eOp oEqX (eOp oIx (eVar 0) (eC (.int 0))) (eC (.str "let")))) (sSetC3 4 3 0 (S 12) (eVar 1) (eOp oIx (eVar 0) (eC (.int 1)))) sNext)))
    (sRetO 3))))
def b_kind_in (S : Tb) : DM.S :=
  (sSeq (sSet (.one 3) (eOp oIx (eVar 0) (eC (.int 0))))
    (sSeq (sSet (.one 4) (eCallN 3 (S 13) (aCons (eVar 0) (aCons (eVar 1) (aCons (eVar 2) aNil)))))
    (sSeq (sIf (tB' (eUn (wIn tb_TOLD ms_TOLD) (eVar 3))) (sSeq (sIf (tB' (eOp oNeX (eCB bTuple (aCons (eVar 4) aNil)) (eSl slX (eUn (wIx tb_TOLD) (eVar 3)) (oSome (eC (.int 1))) oNone))) sStuck sNext)
    (sRet (eOp oIx (eUn (wIx tb_TOLD) (eVar 3)) (eC (.int 0))))) sNext)
    (sSeq (sIf (tAnd' (tB' (eOp oEqX (eVar 3) (eC (.str "begins")))) (tB' (eOp oNeX (eVar 4) (eLst (aCons (eC (.str "text")) (aCons (eC (.str "text")) aNil)))))) sStuck sNext)
    (sSeq (sIf (tAnd' (tB' (eOp oInA (eVar 3) (eTup (aCons (eC (.str "same")) (aCons (eC (.str "less")) (aCons (eC (.str "or_else")) (aCons (eC (.str "blank_if")) aNil))))))) (tB' (eOp oNeX (eOp oIx (eVar 4) (eC (.int 0))) (eOp oIx (eVar 4) (eC (.int 1)))))) sStuck sNext)
    (sSeq (sIf (tAnd' (tB' (eOp oEqX (eVar 3) (eC (.str "if")))) (tB' (eOp oNeX (eOp oIx (eVar 4) (eC (.int 1))) (eOp oIx (eVar 4) (eC (.int 2)))))) sStuck sNext)
    (sSeq (sIf (tB' (eUn (wIn tb_ASKS ms_ASKS) (eVar 3))) (sRet (eC .non)) sNext)
    (sSeq (sSet (.one 5) (eDic [("num", (eC (.str "number"))), ("text", (eC (.str "text"))), ("date", (eC (.str "day")))]))
    (sSeq (sIf (tB' (eOp (oInK false) (eVar 3) (eVar 5))) (sRet (eOp oGet (eVar 5) (eVar 3))) sNext)
    (sSeq (sIf (tB' (eOp oInA (eVar 3) (eTup (aCons (eC (.str "col")) (aCons (eC (.str "blank")) aNil))))) (sRet (eIf (tB' (eOp oEqX (eVar 3) (eC (.str "col")))) (eOp oGet (eVar 1) (eOp oIx (eVar 0) (eC (.int 1)))) (eOp oIx (eVar 0) (eC (.int 1))))) sNext)
    (sRet (eIf (tB' (eOp oInA (eVar 3) (eTup (aCons (eC (.str "or_else")) (aCons (eC (.str "blank_if")) aNil))))) (eOp oIx (eVar 4) (eC (.int 0))) (eOp oIx (eVar 4) (eUn oNeg (eC (.int 1))))))))))))))))
def b_paths (S : Tb) : DM.S :=
  (sSeq (sOwn 1 (eLst (aCons (eTup aNil) aNil)))
    (sSeq (sFor (.many [(.one 2), (.one 3)]) (iDs isE (aCons (eCallN 1 (S 7) (aCons (eVar 0) aNil)) aNil)) (sExt 1 (eLc (.one 4) (iD isX (eCallN 1 (S 15) (aCons (eVar 3) aNil))) tYes' (eOp oAddX (eTup (aCons (eVar 2) aNil)) (eVar 4)))))
    (sRetO 1)))
def b_part_at (S : Tb) : DM.S :=
  (sSeq (sSet (.one 2) (eVar 0))
    (sSeq (sFor (.one 3) (iD isX (eVar 1)) (sSeq (sSet (.one 4) (eCallN 1 (S 7) (aCons (eVar 2) aNil)))
    (sSeq (sIf (tOr' (tNot' (tB' (eCallN 1 (S 3) (aCons (eVar 3) aNil)))) (tNot' (tB' (eChain oLe oLt (eC (.int 0)) (eVar 3) (eCB bLenX (aCons (eVar 4) aNil)))))) (sRaise "NoPath" ["at"] (aCons (eVar 1) aNil)) sNext)
    (sSet (.one 2) (eOp oIx (eVar 4) (eVar 3))))))
    (sRet (eVar 2))))
def b_check (S : Tb) : DM.S :=
  (sSeq (sDrop (eCallN 4 (S 10) (aCons (eVar 0) (aCons (eVar 1) (aCons (eVar 2) (aCons (eTup aNil) aNil))))))
    (sSeq (sFor (.many [(.one 4), (.one 5)]) (iD isX (eCallN 3 (S 11) (aCons (eVar 1) (aCons (eCB bListK (aCons (eVar 3) aNil)) (aCons (eTup aNil) aNil))))) sStuck)
    (sRet (eCallN 3 (S 14) (aCons (eVar 1) (aCons (eVar 3) (aCons (eTup aNil) aNil)))))))
def b_kind_of (S : Tb) : DM.S :=
  (sRet (eCallN 4 (S 17) (aCons (eVar 0) (aCons (eVar 1) (aCons (eC (.bl false)) (aCons (eVar 2) aNil))))))
def b_check_condition (S : Tb) : DM.S :=
  (sDrop (eCallN 4 (S 17) (aCons (eVar 0) (aCons (eVar 1) (aCons (eC (.bl true)) (aCons (eVar 2) aNil))))))
def b__law_heads (S : Tb) : DM.S :=
  (sSeq (sSet (.one 3) (eSl slX (eLst (aCons (eC (.str "number")) (aCons (eC (.str "text")) (aCons (eC (.str "number")) (aCons (eC (.str "text")) (aCons (eC (.str "day")) aNil)))))) oNone (oSome (eOp oIx (eLst (aCons (eC (.int 4)) (aCons (eC (.int 5)) aNil))) (eCB bInt (aCons (eOp oEqX (eVar 1) (eC (.str "hill"))) aNil))))))
    (sSeq (sSet (.one 4) (eOp oAddX (eC (.int 1)) (eOp oMod (eCallN 1 (S 20) (aCons (eVar 0) aNil)) (eCB bLenX (aCons (eVar 2) aNil)))))
    (sRet (eLc (.one 5) (iD isX (eSl slX (eVar 2) oNone (oSome (eVar 4)))) tYes' (eTup (aCons (eVar 5) (aCons (eOp oIx (eVar 3) (eOp oMod (eCallN 1 (S 20) (aCons (eVar 0) aNil)) (eCB bLenX (aCons (eVar 3) aNil)))) aNil)))))))
def b__law_leaf (S : Tb) : DM.S :=
  (sSeq (sSet (.one 4) (eLc (.many [(.one 6), (.one 7)]) (iD isX (eVar 2)) (tB' (eOp oEqX (eVar 7) (eVar 3))) (eVar 6)))
    (sSeq (sSet (.one 5) (eCallN 1 (S 20) (aCons (eVar 0) aNil)))
    (sSeq (sIf (tAnd' (tB' (eOp oNeX (eVar 4) (eLst aNil))) (tB' (eOp oGt (eOp oMod (eVar 5) (eC (.int 3))) (eC (.int 0))))) (sRet (eTup (aCons (eC (.str "col")) (aCons (eOp oIx (eVar 4) (eOp oMod (eOp oDiv (eVar 5) (eC (.int 3))) (eCB bLenX (aCons (eVar 4) aNil)))) aNil)))) sNext)
    (sSeq (sIf (tB' (eOp oEqX (eOp oMod (eOp oDiv (eVar 5) (eC (.int 3))) (eC (.int 6))) (eC (.int 0)))) (sRet (eTup (aCons (eC (.str "blank")) (aCons (eVar 3) aNil)))) sNext)
    (sSeq (sIf (tB' (eOp oEqX (eVar 3) (eC (.str "number")))) (sRet (eTup (aCons (eC (.str "num")) (aCons (eOp oIx (eLst (aCons (eOp oSub (eOp oMod (eOp oDiv (eVar 5) (eC (.int 18))) (eC (.int 6))) (eC (.int 2))) (aCons (eOp oMulX (eOp oSub (eOp oPow (eC (.int 10)) (eC (.int 19))) (eVar 5)) (eOp oIx (eLst (aCons (eC (.int 1)) (aCons (eOp oSub (eC (.int 0)) (eC (.int 1))) aNil))) (eOp oMod (eOp oDiv (eVar 5) (eC (.int 8))) (eC (.int 2))))) aNil))) (eCB bInt (aCons (eOp oEqX (eOp oMod (eOp oDiv (eVar 5) (eC (.int 18))) (eC (.int 8))) (eC (.int 5))) aNil))) aNil)))) sNext)
    (sSeq (sIf (tB' (eOp oEqX (eVar 3) (eC (.str "text")))) (sRet (eTup (aCons (eC (.str "text")) (aCons (eOp oIx (eLst (aCons (eC (.str "a")) (aCons (eC (.str "A")) (aCons (eC (.str "ab")) (aCons (eSl slX (eC (.str "b")) (oSome (eCB bInt (aCons (eOp oEqX (eVar 1) (eC (.str "hill"))) aNil))) oNone) aNil))))) (eOp oMod (eOp oDiv (eVar 5) (eC (.int 18))) (eC (.int 4)))) aNil)))) sNext)
    (sRet (eTup (aCons (eC (.str "date")) (aCons (eOp oIx (eLst (aCons (eC (.int 0)) (aCons (eC (.int 4)) (aCons (eC (.int 1900)) (aCons (eC (.int 2000)) (aCons (eC (.int 2023)) aNil)))))) (eOp oMod (eOp oDiv (eVar 5) (eC (.int 18))) (eC (.int 5)))) (aCons (eOp oAddX (eC (.int 1)) (eOp oMod (eOp oDiv (eVar 5) (eC (.int 90))) (eC (.int 12)))) (aCons (eOp oAddX (eC (.int 1)) (eOp oMod (eOp oDiv (eVar 5) (eC (.int 1080))) (eC (.int 28)))) aNil))))))))))))
def b__law_term (S : Tb) : DM.S :=
  (sSeq (sSet (.one 5) (eCallN 1 (S 20) (aCons (eVar 0) aNil)))
    (sSeq (sIf (tOr' (tB' (eOp oLt (eVar 4) (eC (.int 1)))) (tB' (eOp oEqX (eOp oMod (eVar 5) (eC (.int 4))) (eC (.int 0))))) (sRet (eCallN 4 (S 22) (aCons (eVar 0) (aCons (eVar 1) (aCons (eVar 2) (aCons (eVar 3) aNil)))))) sNext)
    (sSeq (sLam 6 0)
    (sSeq (sSet (.one 7) (eOp oMod (eOp oDiv (eVar 5) (eC (.int 4))) (eC (.int 12))))
    (sSeq (sIf (tB' (eOp oEqX (eVar 7) (eC (.int 0)))) (sRet (eTup (aCons (eC (.str "or_else")) (aCons (eCallL 6 0 0 1 [0, 1, 2, 4] (lb__law_term S) (aCons (eVar 3) aNil)) (aCons (eCallL 6 0 0 1 [0, 1, 2, 4] (lb__law_term S) (aCons (eVar 3) aNil)) aNil))))) sNext)
    (sSeq (sIf (tB' (eOp oEqX (eVar 7) (eC (.int 1)))) (sRet (eTup (aCons (eC (.str "if")) (aCons (eCallN 4 (S 24) (aCons (eVar 0) (aCons (eVar 1) (aCons (eVar 2) (aCons (eOp oSub (eVar 4) (eC (.int 1))) aNil))))) (aCons (eCallL 6 0 0 1 [0, 1, 2, 4] (lb__law_term S) (aCons (eVar 3) aNil)) (aCons (eCallL 6 0 0 1 [0, 1, 2, 4] (lb__law_term S) (aCons (eVar 3) aNil)) aNil)))))) sNext)
    (sSeq (sIf (tB' (eOp oEqX (eVar 7) (eC (.int 2)))) (sSeq (sSet (.one 8) (eOp oIx (eLst (aCons (eC (.str "number")) (aCons (eC (.str "text")) aNil))) (eOp oMod (eOp oDiv (eVar 5) (eC (.int 64))) (eC (.int 2)))))
    (sSeq (sSet (.one 9) (eOp oAddX (eLc (.one 10) (iD isX (eVar 2)) (tB' (eOp oNeX (eOp oIx (eVar 10) (eC (.int 0))) (eC (.str "a")))) (eVar 10)) (eLst (aCons (eTup (aCons (eC (.str "a")) (aCons (eVar 8) aNil))) aNil))))
    (sRet (eTup (aCons (eC (.str "let")) (aCons (eC (.str "a")) (aCons (eCallL 6 0 0 1 [0, 1, 2, 4] (lb__law_term S) (aCons (eVar 8) aNil)) (aCons (eCallN 5 (S 23) (aCons (eVar 0) (aCons (eVar 1) (aCons (eVar 9) (aCons (eVar 3) (aCons (eOp oSub (eVar 4) (eC (.int 1))) aNil)))))) aNil)))))))) sNext)
    (sSeq (sIf (tAnd' (tB' (eOp oEqX (eVar 7) (eC (.int 3)))) (tB' (eOp oEqX (eVar 1) (eC (.str "hill"))))) (sRet (eTup (aCons (eC (.str "blank_if")) (aCons (eCallL 6 0 0 1 [0, 1, 2, 4] (lb__law_term S) (aCons (eVar 3) aNil)) (aCons (eCallL 6 0 0 1 [0, 1, 2, 4] (lb__law_term S) (aCons (eVar 3) aNil)) aNil))))) sNext)
    (sSeq (sIf (tB' (eOp oEqX (eVar 3) (eC (.str "text")))) (sSeq (sIf (tB' (eOp oLt (eVar 7) (eC (.int 8)))) (sRet (eTup (aCons (eC (.str "joined")) (aCons (eCallL 6 0 0 1 [0, 1, 2, 4] (lb__law_term S) (aCons (eC (.str "text")) aNil)) (aCons (eCallL 6 0 0 1 [0, 1, 2, 4] (lb__law_term S) (aCons (eC (.str "text")) aNil)) aNil))))) sNext)
    (sRet (eTup (aCons (eC (.str "part")) (aCons (eCallL 6 0 0 1 [0, 1, 2, 4] (lb__law_term S) (aCons (eC (.str "text")) aNil)) (aCons (eCallL 6 0 0 1 [0, 1, 2, 4] (lb__law_term S) (aCons (eC (.str "number")) aNil)) (aCons (eCallL 6 0 0 1 [0, 1, 2, 4] (lb__law_term S) (aCons (eC (.str "number")) aNil)) aNil))))))) sNext)
    (sSeq (sIf (tB' (eOp oEqX (eVar 3) (eC (.str "day")))) (sRet (eOp oIx (eLst (aCons (eTup (aCons (eC (.str "months")) (aCons (eCallL 6 0 0 1 [0, 1, 2, 4] (lb__law_term S) (aCons (eC (.str "day")) aNil)) (aCons (eCallL 6 0 0 1 [0, 1, 2, 4] (lb__law_term S) (aCons (eC (.str "number")) aNil)) aNil)))) (aCons (eTup (aCons (eC (.str "later")) (aCons (eCallL 6 0 0 1 [0, 1, 2, 4] (lb__law_term S) (aCons (eC (.str "day")) aNil)) (aCons (eCallL 6 0 0 1 [0, 1, 2, 4] (lb__law_term S) (aCons (eC (.str "number")) aNil)) aNil)))) aNil))) (eOp oMod (eVar 7) (eC (.int 2))))) sNext)
    (sSeq (sIf (tB' (eOp oEqX (eVar 7) (eC (.int 4)))) (sRet (eTup (aCons (eC (.str "size")) (aCons (eCallL 6 0 0 1 [0, 1, 2, 4] (lb__law_term S) (aCons (eC (.str "text")) aNil)) aNil)))) sNext)
    (sSeq (sIf (tAnd' (tB' (eOp oLt (eVar 7) (eC (.int 7)))) (tB' (eOp oEqX (eVar 1) (eC (.str "hill"))))) (sRet (eOp oIx (eLst (aCons (eTup (aCons (eC (.str "days")) (aCons (eCallL 6 0 0 1 [0, 1, 2, 4] (lb__law_term S) (aCons (eC (.str "day")) aNil)) (aCons (eCallL 6 0 0 1 [0, 1, 2, 4] (lb__law_term S) (aCons (eC (.str "day")) aNil)) aNil)))) (aCons (eTup (aCons (eOp oIx (eLst (aCons (eC (.str "year")) (aCons (eC (.str "month")) (aCons (eC (.str "daily")) aNil)))) (eOp oMod (eOp oDiv (eVar 5) (eC (.int 64))) (eC (.int 3)))) (aCons (eCallL 6 0 0 1 [0, 1, 2, 4] (lb__law_term S) (aCons (eC (.str "day")) aNil)) aNil))) aNil))) (eOp oSub (eVar 7) (eC (.int 5))))) sNext)
    (sRet (eTup (aCons (eOp oIx (eLst (aCons (eC (.str "plus")) (aCons (eC (.str "minus")) (aCons (eC (.str "times")) (aCons (eC (.str "over")) (aCons (eC (.str "rest")) aNil)))))) (eOp oMod (eOp oDiv (eVar 5) (eC (.int 64))) (eC (.int 5)))) (aCons (eCallL 6 0 0 1 [0, 1, 2, 4] (lb__law_term S) (aCons (eC (.str "number")) aNil)) (aCons (eCallL 6 0 0 1 [0, 1, 2, 4] (lb__law_term S) (aCons (eC (.str "number")) aNil)) aNil)))))))))))))))))
def b__law_condition (S : Tb) : DM.S :=
  (sSeq (sSet (.one 4) (eCallN 1 (S 20) (aCons (eVar 0) aNil)))
    (sSeq (sIf (tB' (eOp oEqX (eOp oMod (eVar 4) (eC (.int 16))) (eC (.int 0)))) (sRet (eOp oIx (eLst (aCons (eTup (aCons (eC (.str "yes")) aNil)) (aCons (eTup (aCons (eC (.str "no")) aNil)) aNil))) (eOp oMod (eOp oDiv (eVar 4) (eC (.int 16))) (eC (.int 2))))) sNext)
    (sSeq (sIf (tAnd' (tB' (eOp oGt (eVar 3) (eC (.int 0)))) (tB' (eOp oLt (eOp oMod (eVar 4) (eC (.int 16))) (eC (.int 7))))) (sSeq (sSet (.unl [5, 6]) (eLc (.one 9) (iDs isR (aCons (eC (.int 2)) aNil)) tYes' (eCallN 4 (S 24) (aCons (eVar 0) (aCons (eVar 1) (aCons (eVar 2) (aCons (eOp oSub (eVar 3) (eC (.int 1))) aNil)))))))
    (sRet (eOp oIx (eLst (aCons (eTup (aCons (eC (.str "and")) (aCons (eVar 5) (aCons (eVar 6) aNil)))) (aCons (eTup (aCons (eC (.str "or")) (aCons (eVar 5) (aCons (eVar 6) aNil)))) (aCons (eTup (aCons (eC (.str "not")) (aCons (eVar 5) aNil))) aNil)))) (eOp oMod (eOp oDiv (eVar 4) (eC (.int 16))) (eC (.int 3)))))) sNext)
    (sSeq (sSet (.one 7) (eSl slX (eLst (aCons (eC (.str "number")) (aCons (eC (.str "text")) (aCons (eC (.str "day")) aNil)))) oNone (oSome (eOp oAddX (eC (.int 2)) (eCB bInt (aCons (eOp oEqX (eVar 1) (eC (.str "hill"))) aNil))))))
    (sSeq (sSet (.one 8) (eOp oIx (eVar 7) (eOp oMod (eOp oDiv (eVar 4) (eC (.int 16))) (eCB bLenX (aCons (eVar 7) aNil)))))
    (sSeq (sSet (.unl [5, 6]) (eLc (.one 9) (iDs isR (aCons (eC (.int 2)) aNil)) tYes' (eCallN 5 (S 23) (aCons (eVar 0) (aCons (eVar 1) (aCons (eVar 2) (aCons (eVar 8) (aCons (eOp oSub (eVar 3) (eC (.int 1))) aNil))))))))
    (sSeq (sIf (tB' (eOp oEqX (eOp oMod (eOp oDiv (eVar 4) (eC (.int 64))) (eC (.int 6))) (eC (.int 0)))) (sRet (eTup (aCons (eC (.str "is_blank")) (aCons (eVar 5) aNil)))) sNext)
    (sSeq (sIf (tAnd' (tB' (eOp oEqX (eOp oMod (eOp oDiv (eVar 4) (eC (.int 64))) (eC (.int 6))) (eC (.int 1)))) (tB' (eOp oEqX (eVar 8) (eC (.str "text"))))) (sRet (eTup (aCons (eC (.str "begins")) (aCons (eVar 5) (aCons (eVar 6) aNil))))) sNext)
    (sRet (eTup (aCons (eOp oIx (eLst (aCons (eC (.str "same")) (aCons (eC (.str "less")) aNil))) (eOp oMod (eOp oDiv (eVar 4) (eC (.int 512))) (eC (.int 2)))) (aCons (eVar 5) (aCons (eVar 6) aNil)))))))))))))
def b__law_places (S : Tb) : DM.S :=
  (sSeq (sOwn 0 (eDic [("size", (eC (.int 1))), ("year", (eC (.int 1))), ("month", (eC (.int 1))), ("daily", (eC (.int 1))), ("is_blank", (eC (.int 1))), ("not", (eC (.int 1))), ("part", (eC (.int 3))), ("if", (eC (.int 3)))]))
    (sSeq (sFor (.one 1) (iD isX (eLst (aCons (eC (.str "col")) (aCons (eC (.str "num")) (aCons (eC (.str "text")) (aCons (eC (.str "blank")) (aCons (eC (.str "date")) (aCons (eC (.str "yes")) (aCons (eC (.str "no")) aNil))))))))) (sPut 0 (eVar 1) (eC (.int 0))))
    (sRetO 0)))
def b__law_inner (S : Tb) : DM.S :=
  (sSeq (sIf (tB' (eOp oEqX (eOp oIx (eVar 0) (eC (.int 0))) (eC (.str "let")))) (sRet (eCB bList (aCons (eSl slX (eVar 0) (oSome (eC (.int 2))) oNone) aNil))) sNext)
    (sRet (eCB bList (aCons (eSl slX (eVar 0) (oSome (eC (.int 1))) (oSome (eOp oAddX (eC (.int 1)) (eGet2 (eCallN 0 (S 25) aNil) (eOp oIx (eVar 0) (eC (.int 0))) (eC (.int 2)))))) aNil))))
def b__law_paths_of (S : Tb) : DM.S :=
  (sSeq (sSet (.one 1) (eLst (aCons (eTup aNil) aNil)))
    (sSeq (sFor (.many [(.one 2), (.one 3)]) (iDs isE (aCons (eCallN 1 (S 26) (aCons (eVar 0) aNil)) aNil)) (sSet (.one 1) (eOp oAddX (eVar 1) (eLc (.one 4) (iD isX (eCallN 1 (S 27) (aCons (eVar 3) aNil))) tYes' (eOp oAddX (eTup (aCons (eVar 2) aNil)) (eVar 4))))))
    (sRet (eVar 1))))
def b__law_there (S : Tb) : DM.S :=
  (sSeq (sFor (.one 2) (iD isX (eVar 1)) (sSet (.one 0) (eOp oIx (eCallN 1 (S 26) (aCons (eVar 0) aNil)) (eVar 2))))
    (sRet (eVar 0)))
def b__law_refused (S : Tb) : DM.S :=
  (sSeq (sSet (.one 2) (eC .non))
    (sSeq (sTryK mk_NoPath_NoTerm_NoName_NoKind 3 2 (sDrop (eCallN 2 (S 16) (aCons (eVar 0) (aCons (eVar 1) aNil)))))
    (sRet (eAnd (eUn (isC is_NoPath) (eVar 2)) (eAnd (eUn (isC is_LookupError) (eVar 2)) (eOp oEqX (eUn (oFldX cs_at "at") (eVar 2)) (eVar 1)))))))
def b__law_paths_right (S : Tb) : DM.S :=
  (sSeq (sSet (.one 1) (eCallN 1 (S 27) (aCons (eVar 0) aNil)))
    (sSeq (sOwn 2 (eCallN 1 (S 15) (aCons (eVar 0) aNil)))
    (sSeq (sIfP 2 (tOr' (tNot' (tB' (eUn (isF "list") (eVar 2)))) (tB' (eOp oNeX (eVar 2) (eVar 1)))) (sRet (eC (.bl false))) sNext)
    (sSeq (sAppend 2 (eTup aNil))
    (sSeq (sIf (tB' (eOp oNeX (eCallK 1 1 [0] (S 15) (aCons (eVar 0) aNil)) (eVar 1))) (sRet (eC (.bl false))) sNext)
    (sSeq (sFor (.one 3) (iD isX (eVar 1)) (sSeq (sSet (.one 4) (eCallN 2 (S 28) (aCons (eVar 0) (aCons (eVar 3) aNil))))
    (sSeq (sIf (tOr' (tB' (eOp oNeX (eCallN 2 (S 16) (aCons (eVar 0) (aCons (eVar 3) aNil))) (eVar 4))) (tB' (eOp oNeX (eCallK 2 2 [1, 0] (S 16) (aCons (eVar 3) (aCons (eVar 0) aNil))) (eVar 4)))) (sRet (eC (.bl false))) sNext)
    (sSeq (sSet (.one 5) (eCB bLenX (aCons (eCallN 1 (S 26) (aCons (eVar 4) aNil)) aNil)))
    (sFor (.one 6) (iD isX (eLst (aCons (eVar 5) (aCons (eOp oAddX (eVar 5) (eC (.int 1))) (aCons (eOp oSub (eC (.int 0)) (eC (.int 1))) (aCons (eC (.bl true)) aNil)))))) (sIf (tNot' (tB' (eCallN 2 (S 29) (aCons (eVar 0) (aCons (eOp oAddX (eVar 3) (eTup (aCons (eVar 6) aNil))) aNil))))) (sRet (eC (.bl false))) sNext))))))
    (sRet (eCallN 2 (S 29) (aCons (eVar 0) (aCons (eOp oAddX (eTup (aCons (eC (.int 9)) aNil)) (eOp oIx (eVar 1) (eUn oNeg (eC (.int 1))))) aNil))))))))))
def step (S : Tb) : Tb := fun i => match i with
  | 0 => fnD 1 (b_is_leap S)
  | 1 => fnD 2 (b_last_of S)
  | 2 => fnD 5 (b_day_of S)
  | 3 => fnD 1 (b_is_number S)
  | 4 => fnD 2 (b_is_name S)
  | 5 => fnD 2 (b_is_date S)
  | 6 => fnD 1 (b_places_of S)
  | 7 => fnD 2 (b_parts_of S)
  | 8 => fnD 2 (b_wants_ask S)
  | 9 => fnD 5 (b_has_shape S)
  | 10 => fnDz true 6 (b_check_shapes S)
  | 11 => fnD 7 (b_loose_columns S)
  | 12 => fnD 4 (b_with_one S)
  | 13 => fnD 7 (b_kinds_in S)
  | 14 => fnD 6 (b_kind_in S)
  | 15 => fnD 5 (b_paths S)
  | 16 => fnD 5 (b_part_at S)
  | 17 => fnD 6 (b_check S)
  | 18 => fnD 3 (b_kind_of S)
  | 19 => fnDz true 3 (b_check_condition S)
  | 20 => next
  | 21 => fnD 6 (b__law_heads S)
  | 22 => fnD 8 (b__law_leaf S)
  | 23 => fnD 11 (b__law_term S)
  | 24 => fnD 10 (b__law_condition S)
  | 25 => fnD 2 (b__law_places S)
  | 26 => fnD 1 (b__law_inner S)
  | 27 => fnD 5 (b__law_paths_of S)
  | 28 => fnD 3 (b__law_there S)
  | 29 => fnD 4 (b__law_refused S)
  | 30 => fnD 7 (b__law_paths_right S)
  | _ => fun _ _ => none
def sem : Nat → Tb
  | 0 => fun _ _ _ => none
  | n + 1 => step (sem n)
structure Tx (K : PySem.W.Frag) (mg : Str → Option Value) (w : World) where
  C_Day : Addr
  g_Day : mg "Day" = some (.ref C_Day)
  cl_Day : Cls K C_Day
  n_Day_number : NoAttr K C_Day "number"
  C_NoPath : Addr
  g_NoPath : mg "NoPath" = some (.ref C_NoPath)
  O_NoPath : OexLC K C_NoPath
  X_NoPath : XfC K C_NoPath
  E_NoPath : ExcC K C_NoPath
  n_NoPath_at : PySem.W.findIn K (.ref C_NoPath) "at" = some none
  C_NoDay : Addr
  g_NoDay : mg "NoDay" = some (.ref C_NoDay)
  C_NoTerm : Addr
  g_NoTerm : mg "NoTerm" = some (.ref C_NoTerm)
  C_NoName : Addr
  g_NoName : mg "NoName" = some (.ref C_NoName)
  C_NoKind : Addr
  g_NoKind : mg "NoKind" = some (.ref C_NoKind)
  f_NoPath___init__ : Addr
  fd_NoPath___init__ : FuncData
  F_NoPath___init__ : Fun K "__init__" "NoPath.__init__" s_NoPath___init__ f_NoPath___init__ fd_NoPath___init__
  b_NoPath___init__ : Binds K fd_NoPath___init__ ["self", "at"] []
  f_Day___init__ : Addr
  fd_Day___init__ : FuncData
  F_Day___init__ : Fun K "__init__" "Day.__init__" s_Day___init__ f_Day___init__ fd_Day___init__
  b_Day___init__ : Binds K fd_Day___init__ ["self", "number"] []
  M_Day : Mk K C_Day f_Day___init__
  f_is_leap : Addr
  fd_is_leap : FuncData
  F_is_leap : Fun K "is_leap" "is_leap" s_is_leap f_is_leap fd_is_leap
  b_is_leap : Binds K fd_is_leap ["year"] []
  g_is_leap : mg "is_leap" = some (.ref f_is_leap)
  f_last_of : Addr
  fd_last_of : FuncData
  F_last_of : Fun K "last_of" "last_of" s_last_of f_last_of fd_last_of
  b_last_of : Binds K fd_last_of ["year", "month"] []
  g_last_of : mg "last_of" = some (.ref f_last_of)
  f_day_of : Addr
  fd_day_of : FuncData
  F_day_of : Fun K "day_of" "day_of" s_day_of f_day_of fd_day_of
  b_day_of : Binds K fd_day_of ["year", "month", "day"] []
  g_day_of : mg "day_of" = some (.ref f_day_of)
  f_is_number : Addr
  fd_is_number : FuncData
  F_is_number : Fun K "is_number" "is_number" s_is_number f_is_number fd_is_number
  b_is_number : Binds K fd_is_number ["thing"] []
  g_is_number : mg "is_number" = some (.ref f_is_number)
  f_is_name : Addr
  fd_is_name : FuncData
  F_is_name : Fun K "is_name" "is_name" s_is_name f_is_name fd_is_name
  b_is_name : Binds K fd_is_name ["thing"] []
  g_is_name : mg "is_name" = some (.ref f_is_name)
  f_is_date : Addr
  fd_is_date : FuncData
  F_is_date : Fun K "is_date" "is_date" s_is_date f_is_date fd_is_date
  b_is_date : Binds K fd_is_date ["things"] []
  g_is_date : mg "is_date" = some (.ref f_is_date)
  f_places_of : Addr
  fd_places_of : FuncData
  F_places_of : Fun K "places_of" "places_of" s_places_of f_places_of fd_places_of
  b_places_of : Binds K fd_places_of ["thing"] []
  g_places_of : mg "places_of" = some (.ref f_places_of)
  f_parts_of : Addr
  fd_parts_of : FuncData
  F_parts_of : Fun K "parts_of" "parts_of" s_parts_of f_parts_of fd_parts_of
  b_parts_of : Binds K fd_parts_of ["thing"] []
  g_parts_of : mg "parts_of" = some (.ref f_parts_of)
  f_wants_ask : Addr
  fd_wants_ask : FuncData
  F_wants_ask : Fun K "wants_ask" "wants_ask" s_wants_ask f_wants_ask fd_wants_ask
  b_wants_ask : Binds K fd_wants_ask ["thing", "number"] []
  g_wants_ask : mg "wants_ask" = some (.ref f_wants_ask)
  f_has_shape : Addr
  fd_has_shape : FuncData
  F_has_shape : Fun K "has_shape" "has_shape" s_has_shape f_has_shape fd_has_shape
  b_has_shape : Binds K fd_has_shape ["tongue", "thing", "ask"] []
  g_has_shape : mg "has_shape" = some (.ref f_has_shape)
  f_check_shapes : Addr
  fd_check_shapes : FuncData
  F_check_shapes : Fun K "check_shapes" "check_shapes" s_check_shapes f_check_shapes fd_check_shapes
  b_check_shapes : Binds K fd_check_shapes ["tongue", "thing", "ask", "path"] []
  g_check_shapes : mg "check_shapes" = some (.ref f_check_shapes)
  f_loose_columns : Addr
  fd_loose_columns : FuncData
  F_loose_columns : Fun K "loose_columns" "loose_columns" s_loose_columns f_loose_columns fd_loose_columns
  b_loose_columns : Binds K fd_loose_columns ["thing", "names", "path"] []
  g_loose_columns : mg "loose_columns" = some (.ref f_loose_columns)
  f_with_one : Addr
  fd_with_one : FuncData
  F_with_one : Fun K "with_one" "with_one" s_with_one f_with_one fd_with_one
  b_with_one : Binds K fd_with_one ["table", "name", "thing"] []
  g_with_one : mg "with_one" = some (.ref f_with_one)
  f_kinds_in : Addr
  fd_kinds_in : FuncData
  F_kinds_in : Fun K "kinds_in" "kinds_in" s_kinds_in f_kinds_in fd_kinds_in
  b_kinds_in : Binds K fd_kinds_in ["thing", "kinds", "path"] []
  g_kinds_in : mg "kinds_in" = some (.ref f_kinds_in)
  f_kind_in : Addr
  fd_kind_in : FuncData
  F_kind_in : Fun K "kind_in" "kind_in" s_kind_in f_kind_in fd_kind_in
  b_kind_in : Binds K fd_kind_in ["thing", "kinds", "path"] []
  g_kind_in : mg "kind_in" = some (.ref f_kind_in)
  f_paths : Addr
  fd_paths : FuncData
  F_paths : Fun K "paths" "paths" s_paths f_paths fd_paths
  b_paths : Binds K fd_paths ["term"] []
  g_paths : mg "paths" = some (.ref f_paths)
  f_part_at : Addr
  fd_part_at : FuncData
  F_part_at : Fun K "part_at" "part_at" s_part_at f_part_at fd_part_at
  b_part_at : Binds K fd_part_at ["term", "path"] []
  g_part_at : mg "part_at" = some (.ref f_part_at)
  f_check : Addr
  fd_check : FuncData
  F_check : Fun K "check" "check" s_check f_check fd_check
  b_check : Binds K fd_check ["tongue", "thing", "ask", "kinds"] []
  g_check : mg "check" = some (.ref f_check)
  f_kind_of : Addr
  fd_kind_of : FuncData
  F_kind_of : Fun K "kind_of" "kind_of" s_kind_of f_kind_of fd_kind_of
  b_kind_of : Binds K fd_kind_of ["tongue", "term", "kinds"] []
  g_kind_of : mg "kind_of" = some (.ref f_kind_of)
  f_check_condition : Addr
  fd_check_condition : FuncData
  F_check_condition : Fun K "check_condition" "check_condition" s_check_condition f_check_condition fd_check_condition
  b_check_condition : Binds K fd_check_condition ["tongue", "condition", "kinds"] []
  g_check_condition : mg "check_condition" = some (.ref f_check_condition)
  f__law_draws : Addr
  fd__law_draws : FuncData
  F__law_draws : Fun K "_law_draws" "_law_draws" s__law_draws f__law_draws fd__law_draws
  b__law_draws : Binds K fd__law_draws ["_law_cell_here"] []
  g__law_draws : mg "_law_draws" = some (.ref f__law_draws)
  f__law_next : Addr
  fd__law_next : FuncData
  F__law_next : Fun K "_law_next" "_law_next" s__law_next f__law_next fd__law_next
  b__law_next : Binds K fd__law_next ["_law_draws_here"] []
  g__law_next : mg "_law_next" = some (.ref f__law_next)
  f__law_heads : Addr
  fd__law_heads : FuncData
  F__law_heads : Fun K "_law_heads" "_law_heads" s__law_heads f__law_heads fd__law_heads
  b__law_heads : Binds K fd__law_heads ["_law_draws_here", "_law_a_tongue", "_law_letters"] []
  g__law_heads : mg "_law_heads" = some (.ref f__law_heads)
  f__law_leaf : Addr
  fd__law_leaf : FuncData
  F__law_leaf : Fun K "_law_leaf" "_law_leaf" s__law_leaf f__law_leaf fd__law_leaf
  b__law_leaf : Binds K fd__law_leaf ["_law_draws_here", "_law_a_tongue", "_law_heads_here", "_law_kind"] []
  g__law_leaf : mg "_law_leaf" = some (.ref f__law_leaf)
  f__law_term : Addr
  fd__law_term : FuncData
  F__law_term : Fun K "_law_term" "_law_term" s__law_term f__law_term fd__law_term
  b__law_term : Binds K fd__law_term ["_law_draws_here", "_law_a_tongue", "_law_heads_here", "_law_kind", "_law_deep"] []
  g__law_term : mg "_law_term" = some (.ref f__law_term)
  f__law_condition : Addr
  fd__law_condition : FuncData
  F__law_condition : Fun K "_law_condition" "_law_condition" s__law_condition f__law_condition fd__law_condition
  b__law_condition : Binds K fd__law_condition ["_law_draws_here", "_law_a_tongue", "_law_heads_here", "_law_deep"] []
  g__law_condition : mg "_law_condition" = some (.ref f__law_condition)
  f__law_places : Addr
  fd__law_places : FuncData
  F__law_places : Fun K "_law_places" "_law_places" s__law_places f__law_places fd__law_places
  b__law_places : Binds K fd__law_places [] []
  g__law_places : mg "_law_places" = some (.ref f__law_places)
  f__law_inner : Addr
  fd__law_inner : FuncData
  F__law_inner : Fun K "_law_inner" "_law_inner" s__law_inner f__law_inner fd__law_inner
  b__law_inner : Binds K fd__law_inner ["_law_a_term"] []
  g__law_inner : mg "_law_inner" = some (.ref f__law_inner)
  f__law_paths_of : Addr
  fd__law_paths_of : FuncData
  F__law_paths_of : Fun K "_law_paths_of" "_law_paths_of" s__law_paths_of f__law_paths_of fd__law_paths_of
  b__law_paths_of : Binds K fd__law_paths_of ["_law_a_term"] []
  g__law_paths_of : mg "_law_paths_of" = some (.ref f__law_paths_of)
  f__law_there : Addr
  fd__law_there : FuncData
  F__law_there : Fun K "_law_there" "_law_there" s__law_there f__law_there fd__law_there
  b__law_there : Binds K fd__law_there ["_law_a_term", "_law_a_path"] []
  g__law_there : mg "_law_there" = some (.ref f__law_there)
  f__law_refused : Addr
  fd__law_refused : FuncData
  F__law_refused : Fun K "_law_refused" "_law_refused" s__law_refused f__law_refused fd__law_refused
  b__law_refused : Binds K fd__law_refused ["_law_a_term", "_law_a_path"] []
  g__law_refused : mg "_law_refused" = some (.ref f__law_refused)
  f__law_paths_right : Addr
  fd__law_paths_right : FuncData
  F__law_paths_right : Fun K "_law_paths_right" "_law_paths_right" s__law_paths_right f__law_paths_right fd__law_paths_right
  b__law_paths_right : Binds K fd__law_paths_right ["_law_a_term"] []
  g__law_paths_right : mg "_law_paths_right" = some (.ref f__law_paths_right)
  f_law : Addr
  fd_law : FuncData
  F_law : Fun K "law" "law" s_law f_law fd_law
  b_law : Binds K fd_law ["_law_script"] []
  g_law : mg "law" = some (.ref f_law)
  i_NoPath : PySem.W.findIn K (.ref C_NoPath) "__init__" = some (some (.ref f_NoPath___init__))
  t_NoPath : PySem.W.typeIn K (.ref f_NoPath___init__) = some (.type "function")
  z_int : mg "int" = none
  z_isinstance : mg "isinstance" = none
  z_bool : mg "bool" = none
  z_all : mg "all" = none
  z_str : mg "str" = none
  z_len : mg "len" = none
  z_dict : mg "dict" = none
  z_tuple : mg "tuple" = none
  z_enumerate : mg "enumerate" = none
  z_list : mg "list" = none
  z__law_some : mg "_law_some" = none
  z_range : mg "range" = none
  z_LookupError : mg "LookupError" = none
  a_PLACES : Addr
  g_PLACES : mg "PLACES" = some (.ref a_PLACES)
  W_PLACES : WDict K w a_PLACES tb_PLACES ms_PLACES
  V_PLACES : WAll K w a_PLACES tb_PLACES
  a_ASKS : Addr
  g_ASKS : mg "ASKS" = some (.ref a_ASKS)
  W_ASKS : WDict K w a_ASKS tb_ASKS ms_ASKS
  V_ASKS : WAll K w a_ASKS tb_ASKS
  a_SIZES : Addr
  g_SIZES : mg "SIZES" = some (.ref a_SIZES)
  W_SIZES : WDict K w a_SIZES tb_SIZES ms_SIZES
  V_SIZES : WAll K w a_SIZES tb_SIZES
  a_TOLD : Addr
  g_TOLD : mg "TOLD" = some (.ref a_TOLD)
  W_TOLD : WDict K w a_TOLD tb_TOLD ms_TOLD
  a_LENGTHS : Addr
  g_LENGTHS : mg "LENGTHS" = some (.ref a_LENGTHS)
  w_LENGTHS : wB K (.ref a_LENGTHS) wd_LENGTHS = true
  a_HILLS : Addr
  g_HILLS : mg "HILLS" = some (.ref a_HILLS)
  w_HILLS : wB K (.ref a_HILLS) wd_HILLS = true
  a_KINDS : Addr
  g_KINDS : mg "KINDS" = some (.ref a_KINDS)
  w_KINDS : wB K (.ref a_KINDS) wd_KINDS = true
  t_LETTERS : Tok
  g_LETTERS : mg "LETTERS" = some (.str "abcdefghijklmnopqrstuvwxyz" t_LETTERS)
  cd_term : fd__law_term.code = .ref (tabAt K "_law_term").1
  e_self : PySem.W.kitOne K (.ref C_NoPath) (.ref C_NoPath) = some true
  e_le : PySem.W.kitOne K (.ref C_NoPath) (.type "LookupError") = some true
  e_any : PySem.W.exmAny K (.ref C_NoPath) [.ref C_NoPath, .ref C_NoTerm, .ref C_NoName, .ref C_NoKind] = some true
def clT {K : PySem.W.Frag} {mg : Str → Option Value} {w : World} (T : Tx K mg w) : List (Str × Addr) := [("NoPath", T.C_NoPath), ("Day", T.C_Day)]
def Gm {K : PySem.W.Frag} {mg : Str → Option Value} {w : World} (T : Tx K mg w) (d : Addr) : Wc := ⟨d, [((tabAt K "_law_term").2, nm__law_term)], fun c => (clT T).lookup c⟩
section
variable {P : Program} {w : World} {K : PySem.W.Frag} {mg : Str → Option Value} {base : Heap} (T : Tx K mg w) (d : Addr)
theorem memT : ((tabAt K "_law_term").2, nm__law_term) ∈ (Gm T d).T := List.mem_cons_self
theorem uniT : ∀ p ∈ (Gm T d).T, p.1 = (tabAt K "_law_term").2 → p.2 = nm__law_term := fun p hp _ => by rw [List.mem_singleton.mp hp]
theorem cl_NoPath : (Gm T d).cl "NoPath" = some T.C_NoPath := rfl
theorem cl_Day : (Gm T d).cl "Day" = some T.C_Day := rfl
theorem if_one {c x : Str} {b : Bool} (h : (if c = x then some true else none) = some b) : c = x ∧ b = true := by
  split at h
  · cases h; exact ⟨‹_›, rfl⟩
  · cases h
theorem ie_NoPath : ∀ c A b, (Gm T d).cl c = some A → is_NoPath c = some b → ExcC K A ∧ PySem.W.kitOne K (.ref A) (.ref T.C_NoPath) = some b := by
  intro c A b h1 h2
  obtain ⟨rfl, rfl⟩ := if_one h2
  rw [cl_NoPath] at h1
  cases h1
  exact ⟨T.E_NoPath, T.e_self⟩
theorem ie_LookupError : ∀ c A b, (Gm T d).cl c = some A → is_LookupError c = some b → ExcC K A ∧ PySem.W.kitOne K (.ref A) (.type "LookupError") = some b := by
  intro c A b h1 h2
  obtain ⟨rfl, rfl⟩ := if_one h2
  rw [cl_NoPath] at h1
  cases h1
  exact ⟨T.E_NoPath, T.e_le⟩
theorem me_NoDay : ∀ c A b, (Gm T d).cl c = some A → mt_NoDay c = some b → PySem.W.exmOne K (.ref A) (.ref T.C_NoDay) = some b := by
  intro c A b h1 h2
  cases h2
theorem mke_NoPath_NoTerm_NoName_NoKind : ∀ c A b, (Gm T d).cl c = some A → mk_NoPath_NoTerm_NoName_NoKind c = some b → PySem.W.exmAny K (.ref A) [.ref T.C_NoPath, .ref T.C_NoTerm, .ref T.C_NoName, .ref T.C_NoKind] = some b := by
  intro c A b h1 h2
  obtain ⟨rfl, rfl⟩ := if_one h2
  rw [cl_NoPath] at h1
  cases h1
  exact T.e_any
theorem fx_at : ∀ c A, c ∈ cs_at → (Gm T d).cl c = some A → XfC K A ∧ PySem.W.findIn K (.ref A) "at" = some none := by
  intro c A hc h1
  have e : c = "NoPath" := by simpa [cs_at] using hc
  subst e
  rw [cl_NoPath] at h1
  cases h1
  exact ⟨T.X_NoPath, T.n_NoPath_at⟩
theorem Gx_NoPath : FnOk P w K mg base CX0 1 T.f_NoPath___init__ T.fd_NoPath___init__ ["self", "at"] (spX T.C_NoPath ["at"]) := by
  refine T.F_NoPath___init__.ok sc_NoPath___init__ (fun vs H Q E h => ?_) (fun cdv A outer s H vs Q E hr h => ?_)
  · obtain ⟨a, xs, rfl, hl, _⟩ := h
    simpa using hl
  · obtain ⟨a, xs, rfl, hl, ha, q⟩ := h
    obtain ⟨v, rfl⟩ : ∃ v, xs = [v] := by
      match xs, hl with
      | [v], _ => exact ⟨v, rfl⟩
    refine ⟨_, (pss_one (ps_osL (pv 0) (pv 1))), ?_⟩
    exact ⟨_, rfl, _, rfl, a, T.C_NoPath, rfl, T.O_NoPath, T.n_NoPath_at, ha, fun dx nd ne => q dx _ nd ne (fun b h1 h2 => by rw [upd_ne h1, upd_ne h2]) (by rw [upd_ne ne, upd_same]; rfl) upd_same⟩
theorem Gx_Day : FnOk P w K mg base CX0 1 T.f_Day___init__ T.fd_Day___init__ ["self", "number"] (spO T.C_Day ["number"]) := by
  refine T.F_Day___init__.ok sc_Day___init__ (fun vs H Q E h => ?_) (fun cdv A outer s H vs Q E hr h => ?_)
  · obtain ⟨a, dx, xs, rfl, hl, _⟩ := h
    simpa using hl
  · obtain ⟨a, dx, xs, rfl, hl, ha, q⟩ := h
    obtain ⟨v, rfl⟩ : ∃ v, xs = [v] := by
      match xs, hl with
      | [v], _ => exact ⟨v, rfl⟩
    refine ⟨_, (pss_one (ps_fld (pv 0) (pv 1) rfl)), ?_⟩
    exact ⟨_, rfl, _, rfl, a, _, dx, _, rfl, ha, T.cl_Day, T.n_Day_number, (by show 0 < 1000; decide), q _ (fun b h1 => by rw [upd_ne h1]) upd_same⟩
end
structure All (P : Program) (w : World) (K : PySem.W.Frag) (mg : Str → Option Value) (base : Heap) (T : Tx K mg w) (d : Addr) (S : Tb) (n : Nat) : Prop where
  G_is_leap : FnG P w K mg base (L2.CX P w) n T.f_is_leap T.fd_is_leap ["year"] (spF K (Gm T d) false 1 (S 0))
  G_last_of : FnG P w K mg base (L2.CX P w) n T.f_last_of T.fd_last_of ["year", "month"] (spF K (Gm T d) false 2 (S 1))
  G_day_of : FnG P w K mg base (L2.CX P w) n T.f_day_of T.fd_day_of ["year", "month", "day"] (spF K (Gm T d) false 3 (S 2))
  G_is_number : FnG P w K mg base (L2.CX P w) n T.f_is_number T.fd_is_number ["thing"] (spF K (Gm T d) false 1 (S 3))
  G_is_name : FnG P w K mg base (L2.CX P w) n T.f_is_name T.fd_is_name ["thing"] (spF K (Gm T d) false 1 (S 4))
  G_is_date : FnG P w K mg base (L2.CX P w) n T.f_is_date T.fd_is_date ["things"] (spF K (Gm T d) false 1 (S 5))
  G_places_of : FnG P w K mg base (L2.CX P w) n T.f_places_of T.fd_places_of ["thing"] (spF K (Gm T d) false 1 (S 6))
  G_parts_of : FnG P w K mg base (L2.CX P w) n T.f_parts_of T.fd_parts_of ["thing"] (spF K (Gm T d) false 1 (S 7))
  G_wants_ask : FnG P w K mg base (L2.CX P w) n T.f_wants_ask T.fd_wants_ask ["thing", "number"] (spF K (Gm T d) false 2 (S 8))
  G_has_shape : FnG P w K mg base (L2.CX P w) n T.f_has_shape T.fd_has_shape ["tongue", "thing", "ask"] (spF K (Gm T d) false 3 (S 9))
  G_check_shapes : FnG P w K mg base (L2.CX P w) n T.f_check_shapes T.fd_check_shapes ["tongue", "thing", "ask", "path"] (spF K (Gm T d) false 4 (S 10))
  G_loose_columns : FnG P w K mg base (L2.CX P w) n T.f_loose_columns T.fd_loose_columns ["thing", "names", "path"] (spF K (Gm T d) false 3 (S 11))
  G_with_one : FnG P w K mg base (L2.CX P w) n T.f_with_one T.fd_with_one ["table", "name", "thing"] (spF K (Gm T d) false 3 (S 12))
  G_kinds_in : FnG P w K mg base (L2.CX P w) n T.f_kinds_in T.fd_kinds_in ["thing", "kinds", "path"] (spF K (Gm T d) false 3 (S 13))
  G_kind_in : FnG P w K mg base (L2.CX P w) n T.f_kind_in T.fd_kind_in ["thing", "kinds", "path"] (spF K (Gm T d) false 3 (S 14))
  G_paths : FnG P w K mg base (L2.CX P w) n T.f_paths T.fd_paths ["term"] (spF K (Gm T d) true 1 (S 15))
  G_part_at : FnG P w K mg base (L2.CX P w) n T.f_part_at T.fd_part_at ["term", "path"] (spF K (Gm T d) false 2 (S 16))
  G_check : FnG P w K mg base (L2.CX P w) n T.f_check T.fd_check ["tongue", "thing", "ask", "kinds"] (spF K (Gm T d) false 4 (S 17))
  G_kind_of : FnG P w K mg base (L2.CX P w) n T.f_kind_of T.fd_kind_of ["tongue", "term", "kinds"] (spF K (Gm T d) false 3 (S 18))
  G_check_condition : FnG P w K mg base (L2.CX P w) n T.f_check_condition T.fd_check_condition ["tongue", "condition", "kinds"] (spF K (Gm T d) false 3 (S 19))
  G__law_next : FnG P w K mg base (L2.CX P w) n T.f__law_next T.fd__law_next ["_law_draws_here"] (spF K (Gm T d) false 1 (S 20))
  G__law_heads : FnG P w K mg base (L2.CX P w) n T.f__law_heads T.fd__law_heads ["_law_draws_here", "_law_a_tongue", "_law_letters"] (spF K (Gm T d) false 3 (S 21))
  G__law_leaf : FnG P w K mg base (L2.CX P w) n T.f__law_leaf T.fd__law_leaf ["_law_draws_here", "_law_a_tongue", "_law_heads_here", "_law_kind"] (spF K (Gm T d) false 4 (S 22))
  G__law_term : FnG P w K mg base (L2.CX P w) n T.f__law_term T.fd__law_term ["_law_draws_here", "_law_a_tongue", "_law_heads_here", "_law_kind", "_law_deep"] (spF K (Gm T d) false 5 (S 23))
  G__law_condition : FnG P w K mg base (L2.CX P w) n T.f__law_condition T.fd__law_condition ["_law_draws_here", "_law_a_tongue", "_law_heads_here", "_law_deep"] (spF K (Gm T d) false 4 (S 24))
  G__law_places : FnG P w K mg base (L2.CX P w) n T.f__law_places T.fd__law_places [] (spF K (Gm T d) false 0 (S 25))
  G__law_inner : FnG P w K mg base (L2.CX P w) n T.f__law_inner T.fd__law_inner ["_law_a_term"] (spF K (Gm T d) false 1 (S 26))
  G__law_paths_of : FnG P w K mg base (L2.CX P w) n T.f__law_paths_of T.fd__law_paths_of ["_law_a_term"] (spF K (Gm T d) false 1 (S 27))
  G__law_there : FnG P w K mg base (L2.CX P w) n T.f__law_there T.fd__law_there ["_law_a_term", "_law_a_path"] (spF K (Gm T d) false 2 (S 28))
  G__law_refused : FnG P w K mg base (L2.CX P w) n T.f__law_refused T.fd__law_refused ["_law_a_term", "_law_a_path"] (spF K (Gm T d) false 2 (S 29))
  G__law_paths_right : FnG P w K mg base (L2.CX P w) n T.f__law_paths_right T.fd__law_paths_right ["_law_a_term"] (spF K (Gm T d) false 1 (S 30))
end K10
set_option Elab.async false
set_option linter.all false
set_option maxRecDepth 100000
set_option maxHeartbeats 4000000
namespace K10
open PySem PySem.Spec PyProof.Rows L2 Lay NdefX LamX GD DM
section
variable {P : Program} {w : World} {K : PySem.W.Frag} {mg : Str → Option Value} {base : Heap} (T : Tx K mg w) (d : Addr)
theorem ok_is_leap {n : Nat} {S : Tb} (G : All P w K mg base T d S (3 * n)) : FnG P w K mg base (L2.CX P w) (3 * n + 3) T.f_is_leap T.fd_is_leap ["year"] (spF K (Gm T d) false 1 (fnD 1 (b_is_leap S))) := by
  refine fn_ok T.F_is_leap sc_is_leap rfl rfl (fun h => by cases h) fun cdv A outer s H E hcv hg hr => ?_
  have tk : Takes (cxOf (L2.CX P w) P w K mg base ["year"] "is_leap" (defScope s_is_leap) T.f_is_leap cdv A outer s H E) (fun cls d _ H' => E cls d H') := takes_of rfl rfl rfl rfl
  refine ⟨fun _ _ _ => .lst [], fun _ => "", _, (pss_one (ps_ret (pe_and (pe_cmpR (r := rEqX K) (op_eqX hr.units) (pe_op op_mod (pv 0) pe_int) pe_int (nomark _)) (pe_one (pe_or (pe_cmpR (r := rNeX K) (op_neX hr.units) (pe_op op_mod (pv 0) pe_int) pe_int (nomark _)) (pe_one (pe_cmpR (r := rEqX K) (op_eqX hr.units) (pe_op op_mod (pv 0) pe_int) pe_int (nomark _)))))))), ?_⟩
  exact (ss_ret (se_and (se_op os_eqX (se_op os_mod se_var se_int) se_int) (se_or (se_op os_neX (se_op os_mod se_var se_int) se_int) (se_op os_eqX (se_op os_mod se_var se_int) se_int))))
theorem ok_last_of {n : Nat} {S : Tb} (G : All P w K mg base T d S (3 * n)) : FnG P w K mg base (L2.CX P w) (3 * n + 3) T.f_last_of T.fd_last_of ["year", "month"] (spF K (Gm T d) false 2 (fnD 2 (b_last_of S))) := by
  refine fn_ok T.F_last_of sc_last_of rfl rfl (fun h => by cases h) fun cdv A outer s H E hcv hg hr => ?_
  have tk : Takes (cxOf (L2.CX P w) P w K mg base ["year", "month"] "last_of" (defScope s_last_of) T.f_last_of cdv A outer s H E) (fun cls d _ H' => E cls d H') := takes_of rfl rfl rfl rfl
  refine ⟨fun _ _ _ => .lst [], fun _ => "", _, (pss_one (ps_ret (pe_op (r := rAddX K) op_addX (pe_ix (r := rIx K) ix_seq (pe_glob (v := .ref T.a_LENGTHS) (by rfl) T.g_LENGTHS rfl) (pe_op op_sub (pv 1) pe_int) (fun _ _ => rfl)) (pe_callTy call_int1 (by rfl) T.z_int (by decide +kernel) (pa_cons (pe_and (pe_cmpR (r := rEqX K) (op_eqX hr.units) (pv 1) pe_int (nomark _)) (pe_one (pe_callG G.G_is_leap hg (hr.mono (by omega)) (by rfl) T.g_is_leap T.F_is_leap.kp T.b_is_leap (fun σ => passAt tk σ) (pa_cons (pv 0) pa_nil)))) pa_nil))))), ?_⟩
  exact (ss_ret (se_op os_addX (se_op os_ix (se_w T.w_LENGTHS) (se_op os_sub se_var se_int)) (se_cb cb_int (sa_cons (se_and (se_op os_eqX se_var se_int) (se_call (sa_cons se_var sa_nil))) sa_nil))))
theorem ok_day_of {n : Nat} {S : Tb} (G : All P w K mg base T d S (3 * n)) : FnG P w K mg base (L2.CX P w) (3 * n + 3) T.f_day_of T.fd_day_of ["year", "month", "day"] (spF K (Gm T d) false 3 (fnD 5 (b_day_of S))) := by
  refine fn_ok T.F_day_of sc_day_of rfl rfl (fun h => by cases h) fun cdv A outer s H E hcv hg hr => ?_
  have tk : Takes (cxOf (L2.CX P w) P w K mg base ["year", "month", "day", "since", "ahead"] "day_of" (defScope s_day_of) T.f_day_of cdv A outer s H E) (fun cls d _ H' => E cls d H') := takes_of rfl rfl rfl rfl
  refine ⟨fun _ _ _ => .lst [], fun _ => "", _, (pss_cons (ps_if (PW.pt (pw_or (pt_not (pt_chain op_le op_le pe_int (pv 1) pe_int)) (pw_or1 (pt_not (pt_chain op_le op_le pe_int (pv 2) (pe_callG G.G_last_of hg (hr.mono (by omega)) (by rfl) T.g_last_of T.F_last_of.kp T.b_last_of (fun σ => passAt tk σ) (pa_cons (pv 0) (pa_cons (pv 1) pa_nil)))))))) (pss_one ps_never) pss_nil)
    (pss_cons (ps_set (i := 3) sc_day_of.nd rfl (by first | exact .inl rfl | exact .inr rfl) (pe_op op_sub (pv 0) (pe_callTy call_int1 (by rfl) T.z_int (by decide +kernel) (pa_cons (pe_cmpR op_lt (pv 1) pe_int (nomark _)) pa_nil))))
    (pss_cons (ps_set (i := 4) sc_day_of.nd rfl (by first | exact .inl rfl | exact .inr rfl) (pe_op op_sub (pe_op (r := rAddX K) op_addX (pe_op op_fdiv (pe_op (r := rAddX K) op_addX (pe_op (r := rMulX) op_mulX pe_int (pe_op op_mod (pe_op (r := rAddX K) op_addX (pv 1) pe_int) pe_int)) pe_int) pe_int) (pv 2)) pe_int))
    (pss_one (ps_ret (pe_make T.M_Day (Gx_Day T) (hr.mono (by omega)) (by rfl) T.g_Day T.b_Day___init__ .nil pass0 (pa_cons (pe_op (r := rAddX K) op_addX (pe_op (r := rAddX K) op_addX (pe_op op_sub (pe_op (r := rAddX K) op_addX (pe_op (r := rMulX) op_mulX pe_int (pv 3)) (pe_op op_fdiv (pv 3) pe_int)) (pe_op op_fdiv (pv 3) pe_int)) (pe_op op_fdiv (pv 3) pe_int)) (pv 4)) pa_nil))))))), ?_⟩
  exact (ss_seq (ss_if (st_or (st_not (st_test (se_chain os_B0 os_B0 se_int se_var se_int))) (st_not (st_test (se_chain os_B0 os_B0 se_int se_var (se_call (sa_cons se_var (sa_cons se_var sa_nil))))))) ss_never ss_next)
    (ss_seq (ss_set (tg := .one 3) (se_op os_sub se_var (se_cb cb_int (sa_cons (se_op os_B0 se_var se_int) sa_nil))))
    (ss_seq (ss_set (tg := .one 4) (se_op os_sub (se_op os_addX (se_op os_fdiv (se_op os_addX (se_op os_mulX se_int (se_op os_mod (se_op os_addX se_var se_int) se_int)) se_int) se_int) se_var) se_int))
    (ss_ret (se_mk (cl_Day T d) (sa_cons (se_op os_addX (se_op os_addX (se_op os_sub (se_op os_addX (se_op os_mulX se_int se_var) (se_op os_fdiv se_var se_int)) (se_op os_fdiv se_var se_int)) (se_op os_fdiv se_var se_int)) se_var) sa_nil))))))
theorem ok_is_number {n : Nat} {S : Tb} (G : All P w K mg base T d S (3 * n)) : FnG P w K mg base (L2.CX P w) (3 * n + 3) T.f_is_number T.fd_is_number ["thing"] (spF K (Gm T d) false 1 (fnD 1 (b_is_number S))) := by
  refine fn_ok T.F_is_number sc_is_number rfl rfl (fun h => by cases h) fun cdv A outer s H E hcv hg hr => ?_
  have tk : Takes (cxOf (L2.CX P w) P w K mg base ["thing"] "is_number" (defScope s_is_number) T.f_is_number cdv A outer s H E) (fun cls d _ H' => E cls d H') := takes_of rfl rfl rfl rfl
  refine ⟨fun _ _ _ => .lst [], fun _ => "", _, (pss_one (ps_ret (pe_and (pe_callB (r := rIsi K) call_isi (by rfl) T.z_isinstance (by decide +kernel) (pa_cons (pv 0) (pa_cons (pe_bltn (v := .ty "int") (u := .type "int") (by rfl) T.z_int (by decide +kernel) rfl) pa_nil))) (pe_one (pe_not (pe_callB (r := rIsi K) call_isi (by rfl) T.z_isinstance (by decide +kernel) (pa_cons (pv 0) (pa_cons (pe_bltn (v := .ty "bool") (u := .type "bool") (by rfl) T.z_bool (by decide +kernel) rfl) pa_nil)))))))), ?_⟩
  exact (ss_ret (se_and (se_isi se_var) (se_notV (se_isi se_var))))
theorem ok_is_name {n : Nat} {S : Tb} (G : All P w K mg base T d S (3 * n)) : FnG P w K mg base (L2.CX P w) (3 * n + 3) T.f_is_name T.fd_is_name ["thing"] (spF K (Gm T d) false 1 (fnD 2 (b_is_name S))) := by
  refine fn_ok T.F_is_name sc_is_name rfl rfl (fun h => by cases h) fun cdv A outer s H E hcv hg hr => ?_
  have tk : Takes (cxOf (L2.CX P w) P w K mg base ["thing", "sign"] "is_name" (defScope s_is_name) T.f_is_name cdv A outer s H E) (fun cls d _ H' => E cls d H') := takes_of rfl rfl rfl rfl
  refine ⟨fun _ _ _ => .lst [], fun _ => "", _, (pss_cons (ps_if (PW.pt (pw_or (pt_not (pt_val (pe_callB (r := rIsi K) call_isi (by rfl) T.z_isinstance (by decide +kernel) (pa_cons (pv 0) (pa_cons (pe_bltn (v := .ty "str") (u := .type "str") (by rfl) T.z_str (by decide +kernel) rfl) pa_nil))))) (pw_or (pt_not (pt_chain op_le op_le pe_int (pe_callB (r := rLenX K) call_lenX (by rfl) T.z_len (by decide +kernel) (pa_cons (pv 0) pa_nil)) pe_int)) (pw_or1 (pt_cmpR (r := rNiZ) op_notIn_str (pe_ix (r := rIx K) ix_seq (pv 0) pe_int (fun _ _ => rfl)) (pe_glob (v := .str "abcdefghijklmnopqrstuvwxyz") (by rfl) T.g_LETTERS ⟨_, rfl⟩) rfl))))) (pss_one (ps_ret pe_bl)) pss_nil)
    (pss_one (ps_ret (pe_callB (r := rAll K) (cr_all rfl) (by rfl) T.z_all (by decide +kernel) (pa_cons (pe_lc (own := [("sign", 1)]) (g := gOf K (.one 1)) (tt := tYes) rfl sc_is_name.nd (pi_seq (pv 0)) (blkOk_by (own := [("sign", 1)]) (N := ["thing", "sign"]) (sc := defScope s_is_name) (by decide +kernel)) (fun _ _ _ _ _ => (pg_name (i := 1) sc_is_name.nd rfl (by first | exact .inl rfl | exact .inr rfl))) (fun _ _ _ _ _ => pts_nil) (fun _ _ _ _ _ => (pe_or (pe_cmpR (r := rInZ) op_in_str (pv 1) (pe_glob (v := .str "abcdefghijklmnopqrstuvwxyz") (by rfl) T.g_LETTERS ⟨_, rfl⟩) rfl) (pe_one (pe_cmpR (r := rInZ) op_in_str (pv 1) pe_str rfl))))) pa_nil))))), ?_⟩
  exact (ss_seq (ss_if (st_or (st_not (st_b (se_isi se_var))) (st_or (st_not (st_test (se_chain os_B0 os_B0 se_int (se_cb cb_lenX (sa_cons se_var sa_nil)) se_int))) (st_test (se_op os_niZ (se_op os_ixZ se_var se_int) se_str)))) (ss_ret se_bl) ss_next)
    (ss_ret (se_cb cb_all (sa_cons (se_lc (tg := (.one 1)) (si_seq se_var) st_yes (se_or (se_op os_inZ se_var se_str) (se_op os_inZ se_var se_str))) sa_nil))))
theorem ok_is_date {n : Nat} {S : Tb} (G : All P w K mg base T d S (3 * n)) : FnG P w K mg base (L2.CX P w) (3 * n + 3) T.f_is_date T.fd_is_date ["things"] (spF K (Gm T d) false 1 (fnD 2 (b_is_date S))) := by
  refine fn_ok T.F_is_date sc_is_date rfl rfl (fun h => by cases h) fun cdv A outer s H E hcv hg hr => ?_
  have tk : Takes (cxOf (L2.CX P w) P w K mg base ["things", "thing"] "is_date" (defScope s_is_date) T.f_is_date cdv A outer s H E) (fun cls d _ H' => E cls d H') := takes_of rfl rfl rfl rfl
  refine ⟨fun _ _ _ => .lst [], fun _ => "", _, (pss_cons (ps_if (pt_not (pt_val (pe_callB (r := rAll K) (cr_all rfl) (by rfl) T.z_all (by decide +kernel) (pa_cons (pe_lc (own := [("thing", 1)]) (g := gOf K (.one 1)) (tt := tYes) rfl sc_is_date.nd (pi_seq (pv 0)) (blkOk_by (own := [("thing", 1)]) (N := ["things", "thing"]) (sc := defScope s_is_date) (by decide +kernel)) (fun _ _ _ _ _ => (pg_name (i := 1) sc_is_date.nd rfl (by first | exact .inl rfl | exact .inr rfl))) (fun _ _ _ _ _ => pts_nil) (fun _ _ _ _ _ => (pe_callG G.G_is_number hg (hr.mono (by omega)) (by rfl) T.g_is_number T.F_is_number.kp T.b_is_number passF (pa_cons (pv 1) pa_nil)))) pa_nil)))) (pss_one (ps_ret pe_bl)) pss_nil)
    (pss_cons (ps_try_only rfl rfl ⟨rfl, by decide, .inl T.g_NoDay⟩ tk (fun W pn xe tk _ => (pss_one (ps_expr (pe_callG G.G_day_of hg (hr.mono (by omega)) (by rfl) T.g_day_of T.F_day_of.kp T.b_day_of (fun σ => passAt tk σ) (pa_cons (pe_ix (r := rIx K) ix_seq (pv 0) pe_int (fun _ _ => rfl)) (pa_cons (pe_ix (r := rIx K) ix_seq (pv 0) pe_int (fun _ _ => rfl)) (pa_cons (pe_ix (r := rIx K) ix_seq (pv 0) pe_int (fun _ _ => rfl)) pa_nil))))))) (fun a oe cls d pn hz hf => (pss_one (ps_ret pe_bl))))
    (pss_one (ps_ret pe_bl)))), ?_⟩
  exact (ss_seq (ss_if (st_not (st_b (se_cb cb_all (sa_cons (se_lc (tg := (.one 1)) (si_seq se_var) st_yes (se_call (sa_cons se_var sa_nil))) sa_nil)))) (ss_ret se_bl) ss_next)
    (ss_seq (ss_try (me_NoDay T d) (fun W => (ss_drop (se_call (sa_cons (se_op os_ix se_var se_int) (sa_cons (se_op os_ix se_var se_int) (sa_cons (se_op os_ix se_var se_int) sa_nil)))))) (fun a cls d => (ss_ret se_bl)))
    (ss_ret se_bl)))
theorem ok_places_of {n : Nat} {S : Tb} (G : All P w K mg base T d S (3 * n)) : FnG P w K mg base (L2.CX P w) (3 * n + 3) T.f_places_of T.fd_places_of ["thing"] (spF K (Gm T d) false 1 (fnD 1 (b_places_of S))) := by
  refine fn_ok T.F_places_of sc_places_of rfl rfl (fun h => by cases h) fun cdv A outer s H E hcv hg hr => ?_
  have tk : Takes (cxOf (L2.CX P w) P w K mg base ["thing"] "places_of" (defScope s_places_of) T.f_places_of cdv A outer s H E) (fun cls d _ H' => E cls d H') := takes_of rfl rfl rfl rfl
  refine ⟨fun _ _ _ => .lst [], fun _ => "", _, (pss_one (ps_ret (pe_ifExp (pt_cmpR (r := rInK K w) op_inK (pe_ix (r := rIx K) ix_seq (pv 0) pe_int (fun _ _ => rfl)) (pe_glob (v := .ref T.a_PLACES) (by rfl) T.g_PLACES rfl) rfl) (pe_ix (r := rIxD K w) ix_kdict (pe_glob (v := .ref T.a_PLACES) (by rfl) T.g_PLACES rfl) (pe_ix (r := rIx K) ix_seq (pv 0) pe_int (fun _ _ => rfl)) (fun _ _ => rfl)) (pe_ix (r := rIxD K w) ix_kdict (pe_glob (v := .ref T.a_ASKS) (by rfl) T.g_ASKS rfl) (pe_ix (r := rIx K) ix_seq (pv 0) pe_int (fun _ _ => rfl)) (fun _ _ => rfl))))), ?_⟩
  exact (ss_ret (se_if (st_test (se_win T.W_PLACES (se_op os_ix se_var se_int))) (se_wix T.W_PLACES (se_op os_ix se_var se_int)) (se_wix T.W_ASKS (se_op os_ix se_var se_int))))
theorem ok_parts_of {n : Nat} {S : Tb} (G : All P w K mg base T d S (3 * n)) : FnG P w K mg base (L2.CX P w) (3 * n + 3) T.f_parts_of T.fd_parts_of ["thing"] (spF K (Gm T d) false 1 (fnD 2 (b_parts_of S))) := by
  refine fn_ok T.F_parts_of sc_parts_of rfl rfl (fun h => by cases h) fun cdv A outer s H E hcv hg hr => ?_
  have tk : Takes (cxOf (L2.CX P w) P w K mg base ["thing", "place"] "parts_of" (defScope s_parts_of) T.f_parts_of cdv A outer s H E) (fun cls d _ H' => E cls d H') := takes_of rfl rfl rfl rfl
  refine ⟨fun _ _ _ => .lst [], fun _ => "", _, (pss_one (ps_ret (pe_lc (own := [("place", 1)]) (g := gOf K (.one 1)) (tt := tYes) rfl sc_parts_of.nd (pi_seq (pe_callG G.G_places_of hg (hr.mono (by omega)) (by rfl) T.g_places_of T.F_places_of.kp T.b_places_of (fun σ => passAt tk σ) (pa_cons (pv 0) pa_nil))) (blkOk_by (own := [("place", 1)]) (N := ["thing", "place"]) (sc := defScope s_parts_of) (by decide +kernel)) (fun _ _ _ _ _ => (pg_name (i := 1) sc_parts_of.nd rfl (by first | exact .inl rfl | exact .inr rfl))) (fun _ _ _ _ _ => pts_nil) (fun _ _ _ _ _ => (pe_ix (r := rIx K) ix_seq (pv 0) (pv 1) (fun _ _ => rfl)))))), ?_⟩
  exact (ss_ret (se_lc (tg := (.one 1)) (si_seq (se_call (sa_cons se_var sa_nil))) st_yes (se_op os_ix se_var se_var)))
theorem ok_wants_ask {n : Nat} {S : Tb} (G : All P w K mg base T d S (3 * n)) : FnG P w K mg base (L2.CX P w) (3 * n + 3) T.f_wants_ask T.fd_wants_ask ["thing", "number"] (spF K (Gm T d) false 2 (fnD 2 (b_wants_ask S))) := by
  refine fn_ok T.F_wants_ask sc_wants_ask rfl rfl (fun h => by cases h) fun cdv A outer s H E hcv hg hr => ?_
  have tk : Takes (cxOf (L2.CX P w) P w K mg base ["thing", "number"] "wants_ask" (defScope s_wants_ask) T.f_wants_ask cdv A outer s H E) (fun cls d _ H' => E cls d H') := takes_of rfl rfl rfl rfl
  refine ⟨fun _ _ _ => .lst [], fun _ => "", _, (pss_one (ps_ret (pe_or (pe_cmpR (r := rInA K) (op_inA (hu65 hr)) (pe_ix (r := rIx K) ix_seq (pv 0) pe_int (fun _ _ => rfl)) (pe_tup (pa_cons pe_str (pa_cons pe_str (pa_cons pe_str pa_nil)))) rfl) (pe_one (pe_and (pe_cmpR (r := rEqX K) (op_eqX hr.units) (pe_ix (r := rIx K) ix_seq (pv 0) pe_int (fun _ _ => rfl)) pe_str (nomark _)) (pe_one (pe_cmpR (r := rEqX K) (op_eqX hr.units) (pv 1) pe_int (nomark _)))))))), ?_⟩
  exact (ss_ret (se_or (se_op os_inA (se_op os_ix se_var se_int) (se_tup (sa_cons se_str (sa_cons se_str (sa_cons se_str sa_nil))))) (se_and (se_op os_eqX (se_op os_ix se_var se_int) se_str) (se_op os_eqX se_var se_int))))
theorem ok_has_shape {n : Nat} {S : Tb} (G : All P w K mg base T d S (3 * n)) : FnG P w K mg base (L2.CX P w) (3 * n + 3) T.f_has_shape T.fd_has_shape ["tongue", "thing", "ask"] (spF K (Gm T d) false 3 (fnD 5 (b_has_shape S))) := by
  refine fn_ok T.F_has_shape sc_has_shape rfl rfl (fun h => by cases h) fun cdv A outer s H E hcv hg hr => ?_
  have tk : Takes (cxOf (L2.CX P w) P w K mg base ["tongue", "thing", "ask", "table", "word"] "has_shape" (defScope s_has_shape) T.f_has_shape cdv A outer s H E) (fun cls d _ H' => E cls d H') := takes_of rfl rfl rfl rfl
  refine ⟨fun _ _ _ => .lst [], fun _ => "", _, (pss_cons (ps_if (PW.pt (pw_or (pt_not (pt_val (pe_callB (r := rIsi K) call_isi (by rfl) T.z_isinstance (by decide +kernel) (pa_cons (pv 1) (pa_cons (pe_bltn (v := .ty "tuple") (u := .type "tuple") (by rfl) T.z_tuple (by decide +kernel) rfl) pa_nil))))) (pw_or (pt_cmpR (r := rEqX K) (op_eqX hr.units) (pv 1) (pe_tup pa_nil) (nomark _)) (pw_or1 (pt_not (pt_val (pe_callB (r := rIsi K) call_isi (by rfl) T.z_isinstance (by decide +kernel) (pa_cons (pe_ix (r := rIx K) ix_seq (pv 1) pe_int (fun _ _ => rfl)) (pa_cons (pe_bltn (v := .ty "str") (u := .type "str") (by rfl) T.z_str (by decide +kernel) rfl) pa_nil))))))))) (pss_one (ps_ret pe_bl)) pss_nil)
    (pss_cons (ps_set (i := 3) sc_has_shape.nd rfl (by first | exact .inl rfl | exact .inr rfl) (pe_ifExp (pt_val (pv 2)) (pe_callTy (r := rDictW K w) call_dictW (by rfl) T.z_dict (by decide +kernel) (pa_cons (pe_glob (v := .ref T.a_ASKS) (by rfl) T.g_ASKS rfl) pa_nil)) (pe_callTy (r := rDictW K w) call_dictW (by rfl) T.z_dict (by decide +kernel) (pa_cons (pe_glob (v := .ref T.a_PLACES) (by rfl) T.g_PLACES rfl) pa_nil))))
    (pss_cons (ps_set (i := 4) sc_has_shape.nd rfl (by first | exact .inl rfl | exact .inr rfl) (pe_ix (r := rIx K) ix_seq (pv 1) pe_int (fun _ _ => rfl)))
    (pss_cons (ps_if (PW.pt (pw_or (pt_cmp (pc_dnotin (hu_of hr) (pv 4) (pv 3))) (pw_or1 (PW.pt (pw_and (pt_cmpR (r := rInA K) (op_inA (hu65 hr)) (pv 4) (pe_glob (v := .ref T.a_HILLS) (by rfl) T.g_HILLS rfl) rfl) (pw_and1 (pt_cmpR (r := rEqX K) (op_eqX hr.units) (pv 0) pe_str (nomark _)))))))) (pss_one (ps_ret pe_bl)) pss_nil)
    (pss_cons (ps_if (pt_cmpR (r := rNeX K) (op_neX hr.units) (pe_callB (r := rLenX K) call_lenX (by rfl) T.z_len (by decide +kernel) (pa_cons (pv 1) pa_nil)) (pe_kget2 (pe_glob (v := .ref T.a_SIZES) (by rfl) T.g_SIZES rfl) (pv 4) (pe_op (r := rAddX K) op_addX pe_int (pe_callB (r := rLenX K) call_lenX (by rfl) T.z_len (by decide +kernel) (pa_cons (pe_dget (hu_of hr) (pv 3) (pv 4) (fun _ _ => rfl)) pa_nil))) ⟨rfl, rfl, rfl, rfl⟩) (nomark _)) (pss_one (ps_ret pe_bl)) pss_nil)
    (pss_cons (ps_if (pt_cmpR (r := rInA K) (op_inA (hu65 hr)) (pv 4) (pe_tup (pa_cons pe_str (pa_cons pe_str pa_nil))) rfl) (pss_one (ps_ret (pe_callG G.G_is_name hg (hr.mono (by omega)) (by rfl) T.g_is_name T.F_is_name.kp T.b_is_name (fun σ => passAt tk σ) (pa_cons (pe_ix (r := rIx K) ix_seq (pv 1) pe_int (fun _ _ => rfl)) pa_nil)))) pss_nil)
    (pss_cons (ps_if (pt_cmpR (r := rEqX K) (op_eqX hr.units) (pv 4) pe_str (nomark _)) (pss_one (ps_ret (pe_callG G.G_is_number hg (hr.mono (by omega)) (by rfl) T.g_is_number T.F_is_number.kp T.b_is_number (fun σ => passAt tk σ) (pa_cons (pe_ix (r := rIx K) ix_seq (pv 1) pe_int (fun _ _ => rfl)) pa_nil)))) pss_nil)
    (pss_cons (ps_if (pt_cmpR (r := rEqX K) (op_eqX hr.units) (pv 4) pe_str (nomark _)) (pss_one (ps_ret (pe_and (pe_callB (r := rIsi K) call_isi (by rfl) T.z_isinstance (by decide +kernel) (pa_cons (pe_ix (r := rIx K) ix_seq (pv 1) pe_int (fun _ _ => rfl)) (pa_cons (pe_bltn (v := .ty "str") (u := .type "str") (by rfl) T.z_str (by decide +kernel) rfl) pa_nil))) (pe_one (pe_or (pe_cmpR (r := rEqX K) (op_eqX hr.units) (pv 0) pe_str (nomark _)) (pe_one (pe_cmpR (r := rNeX K) (op_neX hr.units) (pe_ix (r := rIx K) ix_seq (pv 1) pe_int (fun _ _ => rfl)) pe_str (nomark _)))))))) pss_nil)
    (pss_cons (ps_if (pt_cmpR (r := rEqX K) (op_eqX hr.units) (pv 4) pe_str (nomark _)) (pss_one (ps_ret (pe_and (pe_callB (r := rIsi K) call_isi (by rfl) T.z_isinstance (by decide +kernel) (pa_cons (pe_ix (r := rIx K) ix_seq (pv 1) pe_int (fun _ _ => rfl)) (pa_cons (pe_bltn (v := .ty "str") (u := .type "str") (by rfl) T.z_str (by decide +kernel) rfl) pa_nil))) (pe_and (pe_cmpR (r := rInA K) (op_inA (hu65 hr)) (pe_ix (r := rIx K) ix_seq (pv 1) pe_int (fun _ _ => rfl)) (pe_glob (v := .ref T.a_KINDS) (by rfl) T.g_KINDS rfl) rfl) (pe_one (pe_or (pe_cmpR (r := rEqX K) (op_eqX hr.units) (pv 0) pe_str (nomark _)) (pe_one (pe_cmpR (r := rNeX K) (op_neX hr.units) (pe_ix (r := rIx K) ix_seq (pv 1) pe_int (fun _ _ => rfl)) pe_str (nomark _))))))))) pss_nil)
    (pss_one (ps_ret (pe_or (pe_cmpR (r := rNeX K) (op_neX hr.units) (pv 4) pe_str (nomark _)) (pe_one (pe_callG G.G_is_date hg (hr.mono (by omega)) (by rfl) T.g_is_date T.F_is_date.kp T.b_is_date (fun σ => passAt tk σ) (pa_cons (pe_slice (r := rSlX K) sl_X (pv 1) (po_some pe_int) po_none) pa_nil))))))))))))))), ?_⟩
  exact (ss_seq (ss_if (st_or (st_not (st_b (se_isi se_var))) (st_or (st_test (se_op os_eqX se_var (se_tup sa_nil))) (st_not (st_b (se_isi (se_op os_ix se_var se_int)))))) (ss_ret se_bl) ss_next)
    (ss_seq (ss_set (tg := .one 3) (se_if (st_b se_var) (SF.se (sf_dictW T.V_ASKS)) (SF.se (sf_dictW T.V_PLACES))))
    (ss_seq (ss_set (tg := .one 4) (se_op os_ix se_var se_int))
    (ss_seq (ss_if (st_or (st_test (se_dnin se_var se_var)) (st_and (st_test (se_op os_inA se_var (se_w T.w_HILLS))) (st_test (se_op os_eqX se_var se_str)))) (ss_ret se_bl) ss_next)
    (ss_seq (ss_if (st_test (se_op os_neX (se_cb cb_lenX (sa_cons se_var sa_nil)) (se_wget T.W_SIZES T.V_SIZES se_var (se_op os_addX se_int (se_cb cb_lenX (sa_cons (se_dget se_var se_var) sa_nil)))))) (ss_ret se_bl) ss_next)
    (ss_seq (ss_if (st_test (se_op os_inA se_var (se_tup (sa_cons se_str (sa_cons se_str sa_nil))))) (ss_ret (se_call (sa_cons (se_op os_ix se_var se_int) sa_nil))) ss_next)
    (ss_seq (ss_if (st_test (se_op os_eqX se_var se_str)) (ss_ret (se_call (sa_cons (se_op os_ix se_var se_int) sa_nil))) ss_next)
    (ss_seq (ss_if (st_test (se_op os_eqX se_var se_str)) (ss_ret (se_and (se_isi (se_op os_ix se_var se_int)) (se_or (se_op os_eqX se_var se_str) (se_op os_neX (se_op os_ix se_var se_int) se_str)))) ss_next)
    (ss_seq (ss_if (st_test (se_op os_eqX se_var se_str)) (ss_ret (se_and (se_isi (se_op os_ix se_var se_int)) (se_and (se_op os_inA (se_op os_ix se_var se_int) (se_w T.w_KINDS)) (se_or (se_op os_eqX se_var se_str) (se_op os_neX (se_op os_ix se_var se_int) se_str))))) ss_next)
    (ss_ret (se_or (se_op os_neX se_var se_str) (se_call (sa_cons (se_sl sl_XS se_var (so_some se_int) so_none) sa_nil)))))))))))))
theorem ok_check_shapes {n : Nat} {S : Tb} (G : All P w K mg base T d S (3 * n)) : FnG P w K mg base (L2.CX P w) (3 * n + 3) T.f_check_shapes T.fd_check_shapes ["tongue", "thing", "ask", "path"] (spF K (Gm T d) false 4 (fnDz true 6 (b_check_shapes S))) := by
  refine fn_ok T.F_check_shapes sc_check_shapes rfl rfl (fun _ => rfl) fun cdv A outer s H E hcv hg hr => ?_
  have tk : Takes (cxOf (L2.CX P w) P w K mg base ["tongue", "thing", "ask", "path", "number", "part"] "check_shapes" (defScope s_check_shapes) T.f_check_shapes cdv A outer s H E) (fun cls d _ H' => E cls d H') := takes_of rfl rfl rfl rfl
  refine ⟨fun _ _ _ => .lst [], fun _ => "", _, (pss_cons (ps_if (pt_not (pt_val (pe_callG G.G_has_shape hg (hr.mono (by omega)) (by rfl) T.g_has_shape T.F_has_shape.kp T.b_has_shape (fun σ => passAt tk σ) (pa_cons (pv 0) (pa_cons (pv 1) (pa_cons (pv 2) pa_nil)))))) (pss_one ps_never) pss_nil)
    (pss_one (ps_for (passes_of rfl) rfl (pi_enum (by rfl) T.z_enumerate (pa_cons (pe_callG G.G_parts_of hg (hr.mono (by omega)) (by rfl) T.g_parts_of T.F_parts_of.kp T.b_parts_of (fun σ => passAt tk σ) (pa_cons (pv 1) pa_nil)) pa_nil)) (pg_tup (by rfl) (pgs_cons (pg_name (i := 4) sc_check_shapes.nd rfl (by first | exact .inl rfl | exact .inr rfl)) (pgs_cons (pg_name (i := 5) sc_check_shapes.nd rfl (by first | exact .inl rfl | exact .inr rfl)) pgs_nil))) (pss_one (ps_expr (pe_callG G.G_check_shapes hg (hr.mono (by omega)) (by rfl) T.g_check_shapes T.F_check_shapes.kp T.b_check_shapes (fun σ => passAt tk σ) (pa_cons (pv 0) (pa_cons (pv 5) (pa_cons (pe_callG G.G_wants_ask hg (hr.mono (by omega)) (by rfl) T.g_wants_ask T.F_wants_ask.kp T.b_wants_ask (fun σ => passAt tk σ) (pa_cons (pv 1) (pa_cons (pv 4) pa_nil))) (pa_cons (pe_op (r := rAddX K) op_addX (pv 3) (pe_tup (pa_cons (pv 4) pa_nil))) pa_nil)))))))))), ?_⟩
  exact (ss_seq (ss_if (st_not (st_b (se_call (sa_cons se_var (sa_cons se_var (sa_cons se_var sa_nil)))))) ss_never ss_next)
    (ss_for (tg := (.many [(.one 4), (.one 5)])) (si_enum (sa_cons (se_call (sa_cons se_var sa_nil)) sa_nil)) (ss_drop (se_call (sa_cons se_var (sa_cons se_var (sa_cons (se_call (sa_cons se_var (sa_cons se_var sa_nil))) (sa_cons (se_op os_addX se_var (se_tup (sa_cons se_var sa_nil))) sa_nil))))))))
theorem ok_loose_columns {n : Nat} {S : Tb} (G : All P w K mg base T d S (3 * n)) : FnG P w K mg base (L2.CX P w) (3 * n + 3) T.f_loose_columns T.fd_loose_columns ["thing", "names", "path"] (spF K (Gm T d) false 3 (fnD 7 (b_loose_columns S))) := by
  refine fn_ok T.F_loose_columns sc_loose_columns rfl rfl (fun h => by cases h) fun cdv A outer s H E hcv hg hr => ?_
  have tk : Takes (cxOf (L2.CX P w) P w K mg base ["thing", "names", "path", "told", "number", "part", "inner"] "loose_columns" (defScope s_loose_columns) T.f_loose_columns cdv A outer s H E) (fun cls d _ H' => E cls d H') := takes_of rfl rfl rfl rfl
  refine ⟨fun _ _ _ => .lst [], fun _ => "", _, (pss_cons (ps_if (pt_cmpR (r := rEqX K) (op_eqX hr.units) (pe_ix (r := rIx K) ix_seq (pv 0) pe_int (fun _ _ => rfl)) pe_str (nomark _)) (pss_one (ps_ret (pe_ifExp (pt_cmpR (r := rInA K) (op_inA (hu65 hr)) (pe_ix (r := rIx K) ix_seq (pv 0) pe_int (fun _ _ => rfl)) (pv 1) rfl) (pe_lst pa_nil) (pe_lst (pa_cons (pe_tup (pa_cons (pv 2) (pa_cons (pe_ix (r := rIx K) ix_seq (pv 0) pe_int (fun _ _ => rfl)) pa_nil))) pa_nil))))) pss_nil)
    (pss_cons (ps_set (i := 3) sc_loose_columns.nd rfl (by first | exact .inl rfl | exact .inr rfl) (pe_lst pa_nil))
    (pss_cons (ps_for (passes_of rfl) rfl (pi_enum (by rfl) T.z_enumerate (pa_cons (pe_callG G.G_parts_of hg (hr.mono (by omega)) (by rfl) T.g_parts_of T.F_parts_of.kp T.b_parts_of (fun σ => passAt tk σ) (pa_cons (pv 0) pa_nil)) pa_nil)) (pg_tup (by rfl) (pgs_cons (pg_name (i := 4) sc_loose_columns.nd rfl (by first | exact .inl rfl | exact .inr rfl)) (pgs_cons (pg_name (i := 5) sc_loose_columns.nd rfl (by first | exact .inl rfl | exact .inr rfl)) pgs_nil))) (pss_cons (ps_set (i := 6) sc_loose_columns.nd rfl (by first | exact .inl rfl | exact .inr rfl) (pe_ifExp (PW.pt (pw_and (pt_cmpR (r := rEqX K) (op_eqX hr.units) (pe_ix (r := rIx K) ix_seq (pv 0) pe_int (fun _ _ => rfl)) pe_str (nomark _)) (pw_and1 (pt_cmpR (r := rEqX K) (op_eqX hr.units) (pv 4) pe_int (nomark _))))) (pe_op (r := rAddX K) op_addX (pe_callTy call_list_of (by rfl) T.z_list (by decide +kernel) (pa_cons (pv 1) pa_nil)) (pe_lst (pa_cons (pe_ix (r := rIx K) ix_seq (pv 0) pe_int (fun _ _ => rfl)) pa_nil))) (pv 1)))
    (pss_one (ps_aug (i := 3) sc_loose_columns.nd rfl (by first | exact .inl rfl | exact .inr rfl) (pe_callG G.G_loose_columns hg (hr.mono (by omega)) (by rfl) T.g_loose_columns T.F_loose_columns.kp T.b_loose_columns (fun σ => passAt tk σ) (pa_cons (pv 5) (pa_cons (pv 6) (pa_cons (pe_op (r := rAddX K) op_addX (pv 2) (pe_tup (pa_cons (pv 4) pa_nil))) pa_nil)))) iop_ext))))
    (pss_one (ps_ret (pv 3)))))), ?_⟩
  exact (ss_seq (ss_if (st_test (se_op os_eqX (se_op os_ix se_var se_int) se_str)) (ss_ret (se_if (st_test (se_op os_inA (se_op os_ix se_var se_int) se_var)) (se_lst sa_nil) (se_lst (sa_cons (se_tup (sa_cons se_var (sa_cons (se_op os_ix se_var se_int) sa_nil))) sa_nil)))) ss_next)
    (ss_seq (ss_own (sf_lst sa_nil))
    (ss_seq (ss_for (tg := (.many [(.one 4), (.one 5)])) (si_enum (sa_cons (se_call (sa_cons se_var sa_nil)) sa_nil)) (ss_seq (ss_set (tg := .one 6) (se_if (st_and (st_test (se_op os_eqX (se_op os_ix se_var se_int) se_str)) (st_test (se_op os_eqX se_var se_int))) (se_op os_addX (SF.se (sf_cb cf_list (sa_cons se_var sa_nil))) (se_lst (sa_cons (se_op os_ix se_var se_int) sa_nil))) se_var))
    (ss_ext (se_call (sa_cons se_var (sa_cons se_var (sa_cons (se_op os_addX se_var (se_tup (sa_cons se_var sa_nil))) sa_nil)))))))
    ss_retO)))
theorem ok_with_one {n : Nat} {S : Tb} (G : All P w K mg base T d S (3 * n)) : FnG P w K mg base (L2.CX P w) (3 * n + 3) T.f_with_one T.fd_with_one ["table", "name", "thing"] (spF K (Gm T d) false 3 (fnD 4 (b_with_one S))) := by
  refine fn_ok T.F_with_one sc_with_one rfl rfl (fun h => by cases h) fun cdv A outer s H E hcv hg hr => ?_
  have tk : Takes (cxOf (L2.CX P w) P w K mg base ["table", "name", "thing", "told"] "with_one" (defScope s_with_one) T.f_with_one cdv A outer s H E) (fun cls d _ H' => E cls d H') := takes_of rfl rfl rfl rfl
  refine ⟨fun _ _ _ => .lst [], fun _ => "", _, (pss_cons (ps_set (i := 3) sc_with_one.nd rfl (by first | exact .inl rfl | exact .inr rfl) (pe_callTy call_dictD (by rfl) T.z_dict (by decide +kernel) (pa_cons (pv 0) pa_nil)))
    (pss_cons (ps_dput (hu_of hr) (pv 3) (pv 1) (pv 2) rfl)
    (pss_one (ps_ret (pv 3))))), ?_⟩
  exact (ss_seq (ss_own (sf_cb cf_dict (sa_cons se_var sa_nil)))
    (ss_seq (ss_put se_var se_var)
    ss_retO))
theorem ok_kinds_in {n : Nat} {S : Tb} (G : All P w K mg base T d S (3 * n)) : FnG P w K mg base (L2.CX P w) (3 * n + 3) T.f_kinds_in T.fd_kinds_in ["thing", "kinds", "path"] (spF K (Gm T d) false 3 (fnD 7 (b_kinds_in S))) := by
  refine fn_ok T.F_kinds_in sc_kinds_in rfl rfl (fun h => by cases h) fun cdv A outer s H E hcv hg hr => ?_
  have tk : Takes (cxOf (L2.CX P w) P w K mg base ["thing", "kinds", "path", "told", "inner", "number", "part"] "kinds_in" (defScope s_kinds_in) T.f_kinds_in cdv A outer s H E) (fun cls d _ H' => E cls d H') := takes_of rfl rfl rfl rfl
  refine ⟨fun _ _ _ => .lst [], fun _ => "", _, (pss_cons (ps_set (i := 3) sc_kinds_in.nd rfl (by first | exact .inl rfl | exact .inr rfl) (pe_lst pa_nil))
    (pss_cons (ps_set (i := 4) sc_kinds_in.nd rfl (by first | exact .inl rfl | exact .inr rfl) (pv 1))
    (pss_cons (ps_for (passes_of rfl) rfl (pi_enum (by rfl) T.z_enumerate (pa_cons (pe_callG G.G_parts_of hg (hr.mono (by omega)) (by rfl) T.g_parts_of T.F_parts_of.kp T.b_parts_of (fun σ => passAt tk σ) (pa_cons (pv 0) pa_nil)) pa_nil)) (pg_tup (by rfl) (pgs_cons (pg_name (i := 5) sc_kinds_in.nd rfl (by first | exact .inl rfl | exact .inr rfl)) (pgs_cons (pg_name (i := 6) sc_kinds_in.nd rfl (by first | exact .inl rfl | exact .inr rfl)) pgs_nil))) (pss_cons (ps_expr (pe_bm PySem.F.plainAttrs_list PySem.F.slot_list_append PySem.F.type_list_append mt_append (pv 3) (pa_cons (pe_callG G.G_kind_in hg (hr.mono (by omega)) (by rfl) T.g_kind_in T.F_kind_in.kp T.b_kind_in (fun σ => passAt tk σ) (pa_cons (pv 6) (pa_cons (pv 4) (pa_cons (pe_op (r := rAddX K) op_addX (pv 2) (pe_tup (pa_cons (pv 5) pa_nil))) pa_nil)))) pa_nil)))
    (pss_one (ps_if (pt_cmpR (r := rEqX K) (op_eqX hr.units) (pe_ix (r := rIx K) ix_seq (pv 0) pe_int (fun _ _ => rfl)) pe_str (nomark _)) (pss_one (ps_set (i := 4) sc_kinds_in.nd rfl (by first | exact .inl rfl | exact .inr rfl) (pe_callG G.G_with_one hg (hr.mono (by omega)) (by rfl) T.g_with_one T.F_with_one.kp T.b_with_one (fun σ => passAt tk σ) (pa_cons (pv 1) (pa_cons (pe_ix (r := rIx K) ix_seq (pv 0) pe_int (fun _ _ => rfl)) (pa_cons (pe_ix (r := rIx K) ix_seq (pv 3) pe_int (fun _ _ => rfl)) pa_nil)))))) pss_nil))))
    (pss_one (ps_ret (pv 3)))))), ?_⟩
  exact (ss_seq (ss_own (sf_lst sa_nil))
    (ss_seq (ss_set (tg := .one 4) se_var)
    (ss_seq (ss_for (tg := (.many [(.one 5), (.one 6)])) (si_enum (sa_cons (se_call (sa_cons se_var sa_nil)) sa_nil)) (ss_seq (ss_append (se_call (sa_cons se_var (sa_cons se_var (sa_cons (se_op os_addX se_var (se_tup (sa_cons se_var sa_nil))) sa_nil)))))
    (ss_if (st_test (se_op os_eqX (se_op os_ix se_var se_int) se_str)) (ss_setC3 se_var (se_op os_ix se_var se_int)) ss_next)))
    ss_retO)))
theorem ok_kind_in {n : Nat} {S : Tb} (G : All P w K mg base T d S (3 * n)) : FnG P w K mg base (L2.CX P w) (3 * n + 3) T.f_kind_in T.fd_kind_in ["thing", "kinds", "path"] (spF K (Gm T d) false 3 (fnD 6 (b_kind_in S))) := by
  refine fn_ok T.F_kind_in sc_kind_in rfl rfl (fun h => by cases h) fun cdv A outer s H E hcv hg hr => ?_
  have tk : Takes (cxOf (L2.CX P w) P w K mg base ["thing", "kinds", "path", "word", "some", "plain"] "kind_in" (defScope s_kind_in) T.f_kind_in cdv A outer s H E) (fun cls d _ H' => E cls d H') := takes_of rfl rfl rfl rfl
  refine ⟨fun _ _ _ => .lst [], fun _ => "", _, (pss_cons (ps_set (i := 3) sc_kind_in.nd rfl (by first | exact .inl rfl | exact .inr rfl) (pe_ix (r := rIx K) ix_seq (pv 0) pe_int (fun _ _ => rfl)))
    (pss_cons (ps_set (i := 4) sc_kind_in.nd rfl (by first | exact .inl rfl | exact .inr rfl) (pe_callG G.G_kinds_in hg (hr.mono (by omega)) (by rfl) T.g_kinds_in T.F_kinds_in.kp T.b_kinds_in (fun σ => passAt tk σ) (pa_cons (pv 0) (pa_cons (pv 1) (pa_cons (pv 2) pa_nil)))))
    (pss_cons (ps_if (pt_cmpR (r := rInK K w) op_inK (pv 3) (pe_glob (v := .ref T.a_TOLD) (by rfl) T.g_TOLD rfl) rfl) (pss_cons (ps_if (pt_cmpR (r := rNeX K) (op_neX hr.units) (pe_callTy (r := rTupX K) call_tuple_of (by rfl) T.z_tuple (by decide +kernel) (pa_cons (pv 4) pa_nil)) (pe_slice (r := rSlX K) sl_X (pe_ix (r := rIxD K w) ix_kdict (pe_glob (v := .ref T.a_TOLD) (by rfl) T.g_TOLD rfl) (pv 3) (fun _ _ => rfl)) (po_some pe_int) po_none) (nomark _)) (pss_one ps_never) pss_nil)
    (pss_one (ps_ret (pe_ix (r := rIx K) ix_seq (pe_ix (r := rIxD K w) ix_kdict (pe_glob (v := .ref T.a_TOLD) (by rfl) T.g_TOLD rfl) (pv 3) (fun _ _ => rfl)) pe_int (fun _ _ => rfl))))) pss_nil)
    (pss_cons (ps_if (PW.pt (pw_and (pt_cmpR (r := rEqX K) (op_eqX hr.units) (pv 3) pe_str (nomark _)) (pw_and1 (pt_cmpR (r := rNeX K) (op_neX hr.units) (pv 4) (pe_lst (pa_cons pe_str (pa_cons pe_str pa_nil))) (nomark _))))) (pss_one ps_never) pss_nil)
    (pss_cons (ps_if (PW.pt (pw_and (pt_cmpR (r := rInA K) (op_inA (hu65 hr)) (pv 3) (pe_tup (pa_cons pe_str (pa_cons pe_str (pa_cons pe_str (pa_cons pe_str pa_nil))))) rfl) (pw_and1 (pt_cmpR (r := rNeX K) (op_neX hr.units) (pe_ix (r := rIx K) ix_seq (pv 4) pe_int (fun _ _ => rfl)) (pe_ix (r := rIx K) ix_seq (pv 4) pe_int (fun _ _ => rfl)) (nomark _))))) (pss_one ps_never) pss_nil)
    (pss_cons (ps_if (PW.pt (pw_and (pt_cmpR (r := rEqX K) (op_eqX hr.units) (pv 3) pe_str (nomark _)) (pw_and1 (pt_cmpR (r := rNeX K) (op_neX hr.units) (pe_ix (r := rIx K) ix_seq (pv 4) pe_int (fun _ _ => rfl)) (pe_ix (r := rIx K) ix_seq (pv 4) pe_int (fun _ _ => rfl)) (nomark _))))) (pss_one ps_never) pss_nil)
    (pss_cons (ps_if (pt_cmpR (r := rInK K w) op_inK (pv 3) (pe_glob (v := .ref T.a_ASKS) (by rfl) T.g_ASKS rfl) rfl) (pss_one (ps_ret pe_non)) pss_nil)
    (pss_cons (ps_set (i := 5) sc_kind_in.nd rfl (by first | exact .inl rfl | exact .inr rfl) (pe_disp (pps_cons pe_str pe_str (pps_cons pe_str pe_str (pps_cons pe_str pe_str pps_nil))) rfl rfl (by simp) (by decide)))
    (pss_cons (ps_if (pt_cmp (pc_din (hu_of hr) (pv 3) (pv 5))) (pss_one (ps_ret (pe_dget (hu_of hr) (pv 5) (pv 3) (fun _ _ => rfl)))) pss_nil)
    (pss_cons (ps_if (pt_cmpR (r := rInA K) (op_inA (hu65 hr)) (pv 3) (pe_tup (pa_cons pe_str (pa_cons pe_str pa_nil))) rfl) (pss_one (ps_ret (pe_ifExp (pt_cmpR (r := rEqX K) (op_eqX hr.units) (pv 3) pe_str (nomark _)) (pe_dget (hu_of hr) (pv 1) (pe_ix (r := rIx K) ix_seq (pv 0) pe_int (fun _ _ => rfl)) (fun _ _ => rfl)) (pe_ix (r := rIx K) ix_seq (pv 0) pe_int (fun _ _ => rfl))))) pss_nil)
    (pss_one (ps_ret (pe_ifExp (pt_cmpR (r := rInA K) (op_inA (hu65 hr)) (pv 3) (pe_tup (pa_cons pe_str (pa_cons pe_str pa_nil))) rfl) (pe_ix (r := rIx K) ix_seq (pv 4) pe_int (fun _ _ => rfl)) (pe_ix (r := rIx K) ix_seq (pv 4) (pe_un un_neg pe_int) (fun _ _ => rfl))))))))))))))), ?_⟩
  exact (ss_seq (ss_set (tg := .one 3) (se_op os_ix se_var se_int))
    (ss_seq (ss_set (tg := .one 4) (se_call (sa_cons se_var (sa_cons se_var (sa_cons se_var sa_nil)))))
    (ss_seq (ss_if (st_test (se_win T.W_TOLD se_var)) (ss_seq (ss_if (st_test (se_op os_neX (se_cb cb_tuple (sa_cons se_var sa_nil)) (se_sl sl_XS (se_wix T.W_TOLD se_var) (so_some se_int) so_none))) ss_never ss_next)
    (ss_ret (se_op os_ix (se_wix T.W_TOLD se_var) se_int))) ss_next)
    (ss_seq (ss_if (st_and (st_test (se_op os_eqX se_var se_str)) (st_test (se_op os_neX se_var (se_lst (sa_cons se_str (sa_cons se_str sa_nil)))))) ss_never ss_next)
    (ss_seq (ss_if (st_and (st_test (se_op os_inA se_var (se_tup (sa_cons se_str (sa_cons se_str (sa_cons se_str (sa_cons se_str sa_nil))))))) (st_test (se_op os_neX (se_op os_ix se_var se_int) (se_op os_ix se_var se_int)))) ss_never ss_next)
    (ss_seq (ss_if (st_and (st_test (se_op os_eqX se_var se_str)) (st_test (se_op os_neX (se_op os_ix se_var se_int) (se_op os_ix se_var se_int)))) ss_never ss_next)
    (ss_seq (ss_if (st_test (se_win T.W_ASKS se_var)) (ss_ret se_non) ss_next)
    (ss_seq (ss_set (tg := .one 5) (SF.se (sf_disp (SP.cons se_str (SP.cons se_str (SP.cons se_str SP.nil))))))
    (ss_seq (ss_if (st_test (se_din se_var se_var)) (ss_ret (se_dget se_var se_var)) ss_next)
    (ss_seq (ss_if (st_test (se_op os_inA se_var (se_tup (sa_cons se_str (sa_cons se_str sa_nil))))) (ss_ret (se_if (st_test (se_op os_eqX se_var se_str)) (se_dget se_var (se_op os_ix se_var se_int)) (se_op os_ix se_var se_int))) ss_next)
    (ss_ret (se_if (st_test (se_op os_inA se_var (se_tup (sa_cons se_str (sa_cons se_str sa_nil))))) (se_op os_ix se_var se_int) (se_op os_ix se_var (se_un un_negS se_int))))))))))))))
theorem ok_paths {n : Nat} {S : Tb} (G : All P w K mg base T d S (3 * n)) : FnG P w K mg base (L2.CX P w) (3 * n + 3) T.f_paths T.fd_paths ["term"] (spF K (Gm T d) true 1 (fnD 5 (b_paths S))) := by
  refine fn_ok T.F_paths sc_paths rfl rfl (fun h => by cases h) fun cdv A outer s H E hcv hg hr => ?_
  have tk : Takes (cxOf (L2.CX P w) P w K mg base ["term", "told", "number", "part", "path"] "paths" (defScope s_paths) T.f_paths cdv A outer s H E) (fun cls d _ H' => E cls d H') := takes_of rfl rfl rfl rfl
  refine ⟨fun _ _ _ => .lst [], fun _ => "", _, (pss_cons (ps_set (i := 1) sc_paths.nd rfl (by first | exact .inl rfl | exact .inr rfl) (pe_lst (pa_cons (pe_tup pa_nil) pa_nil)))
    (pss_cons (ps_for (passes_of rfl) rfl (pi_enum (by rfl) T.z_enumerate (pa_cons (pe_callG G.G_parts_of hg (hr.mono (by omega)) (by rfl) T.g_parts_of T.F_parts_of.kp T.b_parts_of (fun σ => passAt tk σ) (pa_cons (pv 0) pa_nil)) pa_nil)) (pg_tup (by rfl) (pgs_cons (pg_name (i := 2) sc_paths.nd rfl (by first | exact .inl rfl | exact .inr rfl)) (pgs_cons (pg_name (i := 3) sc_paths.nd rfl (by first | exact .inl rfl | exact .inr rfl)) pgs_nil))) (pss_one (ps_aug (i := 1) sc_paths.nd rfl (by first | exact .inl rfl | exact .inr rfl) (pe_lc (own := [("path", 4)]) (g := gOf K (.one 4)) (tt := tYes) rfl sc_paths.nd (pi_seq (pe_callG G.G_paths hg (hr.mono (by omega)) (by rfl) T.g_paths T.F_paths.kp T.b_paths (fun σ => passAt tk σ) (pa_cons (pv 3) pa_nil))) (blkOk_by (own := [("path", 4)]) (N := ["term", "told", "number", "part", "path"]) (sc := defScope s_paths) (by decide +kernel)) (fun _ _ _ _ _ => (pg_name (i := 4) sc_paths.nd rfl (by first | exact .inl rfl | exact .inr rfl))) (fun _ _ _ _ _ => pts_nil) (fun _ _ _ _ _ => (pe_op (r := rAddX K) op_addX (pe_tup (pa_cons (pv 2) pa_nil)) (pv 4)))) iop_ext)))
    (pss_one (ps_ret (pv 1))))), ?_⟩
  exact (ss_seq (ss_own (sf_lst (sa_cons (se_tup sa_nil) sa_nil)))
    (ss_seq (ss_for (tg := (.many [(.one 2), (.one 3)])) (si_enum (sa_cons (se_call (sa_cons se_var sa_nil)) sa_nil)) (ss_ext (se_lc (tg := (.one 4)) (si_seq (se_call (sa_cons se_var sa_nil))) st_yes (se_op os_addX (se_tup (sa_cons se_var sa_nil)) se_var))))
    ss_retO))
theorem ok_part_at {n : Nat} {S : Tb} (G : All P w K mg base T d S (3 * n)) : FnG P w K mg base (L2.CX P w) (3 * n + 3) T.f_part_at T.fd_part_at ["term", "path"] (spF K (Gm T d) false 2 (fnD 5 (b_part_at S))) := by
  refine fn_ok T.F_part_at sc_part_at rfl rfl (fun h => by cases h) fun cdv A outer s H E hcv hg hr => ?_
  have tk : Takes (cxOf (L2.CX P w) P w K mg base ["term", "path", "here", "number", "parts"] "part_at" (defScope s_part_at) T.f_part_at cdv A outer s H E) (fun cls d _ H' => E cls d H') := takes_of rfl rfl rfl rfl
  refine ⟨fun _ _ _ => .lst [], fun _ => "", _, (pss_cons (ps_set (i := 2) sc_part_at.nd rfl (by first | exact .inl rfl | exact .inr rfl) (pv 0))
    (pss_cons (ps_for (passes_of rfl) rfl (pi_seq (pv 1)) (pg_name (i := 3) sc_part_at.nd rfl (by first | exact .inl rfl | exact .inr rfl)) (pss_cons (ps_set (i := 4) sc_part_at.nd rfl (by first | exact .inl rfl | exact .inr rfl) (pe_callG G.G_parts_of hg (hr.mono (by omega)) (by rfl) T.g_parts_of T.F_parts_of.kp T.b_parts_of (fun σ => passAt tk σ) (pa_cons (pv 2) pa_nil)))
    (pss_cons (ps_if (PW.pt (pw_or (pt_not (pt_val (pe_callG G.G_is_number hg (hr.mono (by omega)) (by rfl) T.g_is_number T.F_is_number.kp T.b_is_number (fun σ => passAt tk σ) (pa_cons (pv 3) pa_nil)))) (pw_or1 (pt_not (pt_chain op_le op_lt pe_int (pv 3) (pe_callB (r := rLenX K) call_lenX (by rfl) T.z_len (by decide +kernel) (pa_cons (pv 4) pa_nil))))))) (pss_one (ps_raise rfl tk (pmk_oexL T.O_NoPath T.i_NoPath T.t_NoPath (Gx_NoPath T) (hr.mono (by omega)) T.b_NoPath___init__ pass0 (by rfl) T.g_NoPath (pa_cons (pv 1) pa_nil)))) pss_nil)
    (pss_one (ps_set (i := 2) sc_part_at.nd rfl (by first | exact .inl rfl | exact .inr rfl) (pe_ix (r := rIx K) ix_seq (pv 4) (pv 3) (fun _ _ => rfl)))))))
    (pss_one (ps_ret (pv 2))))), ?_⟩
  exact (ss_seq (ss_set (tg := .one 2) se_var)
    (ss_seq (ss_for (tg := (.one 3)) (si_seq se_var) (ss_seq (ss_set (tg := .one 4) (se_call (sa_cons se_var sa_nil)))
    (ss_seq (ss_if (st_or (st_not (st_b (se_call (sa_cons se_var sa_nil)))) (st_not (st_test (se_chain os_B0 os_B0 se_int se_var (se_cb cb_lenX (sa_cons se_var sa_nil)))))) (ss_raise (cl_NoPath T d) (sa_cons se_var sa_nil)) ss_next)
    (ss_set (tg := .one 2) (se_op os_ix se_var se_var)))))
    (ss_ret se_var)))
theorem ok_check {n : Nat} {S : Tb} (G : All P w K mg base T d S (3 * n)) : FnG P w K mg base (L2.CX P w) (3 * n + 3) T.f_check T.fd_check ["tongue", "thing", "ask", "kinds"] (spF K (Gm T d) false 4 (fnD 6 (b_check S))) := by
  refine fn_ok T.F_check sc_check rfl rfl (fun h => by cases h) fun cdv A outer s H E hcv hg hr => ?_
  have tk : Takes (cxOf (L2.CX P w) P w K mg base ["tongue", "thing", "ask", "kinds", "path", "name"] "check" (defScope s_check) T.f_check cdv A outer s H E) (fun cls d _ H' => E cls d H') := takes_of rfl rfl rfl rfl
  refine ⟨fun _ _ _ => .lst [], fun _ => "", _, (pss_cons (ps_expr (pe_callG G.G_check_shapes hg (hr.mono (by omega)) (by rfl) T.g_check_shapes T.F_check_shapes.kp T.b_check_shapes (fun σ => passAt tk σ) (pa_cons (pv 0) (pa_cons (pv 1) (pa_cons (pv 2) (pa_cons (pe_tup pa_nil) pa_nil))))))
    (pss_cons (ps_for (passes_of rfl) rfl (pi_seq (pe_callG G.G_loose_columns hg (hr.mono (by omega)) (by rfl) T.g_loose_columns T.F_loose_columns.kp T.b_loose_columns (fun σ => passAt tk σ) (pa_cons (pv 1) (pa_cons (pe_callTy (r := rListK) (call_listD rfl) (by rfl) T.z_list (by decide +kernel) (pa_cons (pv 3) pa_nil)) (pa_cons (pe_tup pa_nil) pa_nil))))) (pg_tup (by rfl) (pgs_cons (pg_name (i := 4) sc_check.nd rfl (by first | exact .inl rfl | exact .inr rfl)) (pgs_cons (pg_name (i := 5) sc_check.nd rfl (by first | exact .inl rfl | exact .inr rfl)) pgs_nil))) (pss_one ps_never))
    (pss_one (ps_ret (pe_callG G.G_kind_in hg (hr.mono (by omega)) (by rfl) T.g_kind_in T.F_kind_in.kp T.b_kind_in (fun σ => passAt tk σ) (pa_cons (pv 1) (pa_cons (pv 3) (pa_cons (pe_tup pa_nil) pa_nil)))))))), ?_⟩
  exact (ss_seq (ss_drop (se_call (sa_cons se_var (sa_cons se_var (sa_cons se_var (sa_cons (se_tup sa_nil) sa_nil))))))
    (ss_seq (ss_for (tg := (.many [(.one 4), (.one 5)])) (si_seq (se_call (sa_cons se_var (sa_cons (SF.se (sf_cb cf_listK (sa_cons se_var sa_nil))) (sa_cons (se_tup sa_nil) sa_nil))))) ss_never)
    (ss_ret (se_call (sa_cons se_var (sa_cons se_var (sa_cons (se_tup sa_nil) sa_nil)))))))
theorem ok_kind_of {n : Nat} {S : Tb} (G : All P w K mg base T d S (3 * n)) : FnG P w K mg base (L2.CX P w) (3 * n + 3) T.f_kind_of T.fd_kind_of ["tongue", "term", "kinds"] (spF K (Gm T d) false 3 (fnD 3 (b_kind_of S))) := by
  refine fn_ok T.F_kind_of sc_kind_of rfl rfl (fun h => by cases h) fun cdv A outer s H E hcv hg hr => ?_
  have tk : Takes (cxOf (L2.CX P w) P w K mg base ["tongue", "term", "kinds"] "kind_of" (defScope s_kind_of) T.f_kind_of cdv A outer s H E) (fun cls d _ H' => E cls d H') := takes_of rfl rfl rfl rfl
  refine ⟨fun _ _ _ => .lst [], fun _ => "", _, (pss_one (ps_ret (pe_callG G.G_check hg (hr.mono (by omega)) (by rfl) T.g_check T.F_check.kp T.b_check (fun σ => passAt tk σ) (pa_cons (pv 0) (pa_cons (pv 1) (pa_cons pe_bl (pa_cons (pv 2) pa_nil))))))), ?_⟩
  exact (ss_ret (se_call (sa_cons se_var (sa_cons se_var (sa_cons se_bl (sa_cons se_var sa_nil))))))
theorem ok_check_condition {n : Nat} {S : Tb} (G : All P w K mg base T d S (3 * n)) : FnG P w K mg base (L2.CX P w) (3 * n + 3) T.f_check_condition T.fd_check_condition ["tongue", "condition", "kinds"] (spF K (Gm T d) false 3 (fnDz true 3 (b_check_condition S))) := by
  refine fn_ok T.F_check_condition sc_check_condition rfl rfl (fun _ => rfl) fun cdv A outer s H E hcv hg hr => ?_
  have tk : Takes (cxOf (L2.CX P w) P w K mg base ["tongue", "condition", "kinds"] "check_condition" (defScope s_check_condition) T.f_check_condition cdv A outer s H E) (fun cls d _ H' => E cls d H') := takes_of rfl rfl rfl rfl
  refine ⟨fun _ _ _ => .lst [], fun _ => "", _, (pss_one (ps_expr (pe_callG G.G_check hg (hr.mono (by omega)) (by rfl) T.g_check T.F_check.kp T.b_check (fun σ => passAt tk σ) (pa_cons (pv 0) (pa_cons (pv 1) (pa_cons pe_bl (pa_cons (pv 2) pa_nil))))))), ?_⟩
  exact (ss_drop (se_call (sa_cons se_var (sa_cons se_var (sa_cons se_bl (sa_cons se_var sa_nil))))))
end
end K10
set_option Elab.async false
set_option linter.all false
set_option maxRecDepth 100000
set_option maxHeartbeats 4000000
namespace K10
open PySem PySem.Spec PyProof.Rows L2 Lay NdefX LamX GD DM
section
variable {P : Program} {w : World} {K : PySem.W.Frag} {mg : Str → Option Value} {base : Heap} (T : Tx K mg w) (d : Addr)
theorem ok__law_heads {n : Nat} {S : Tb} (G : All P w K mg base T d S (3 * n)) : FnG P w K mg base (L2.CX P w) (3 * n + 3) T.f__law_heads T.fd__law_heads ["_law_draws_here", "_law_a_tongue", "_law_letters"] (spF K (Gm T d) false 3 (fnD 6 (b__law_heads S))) := by
  refine fn_ok T.F__law_heads sc__law_heads rfl rfl (fun h => by cases h) fun cdv A outer s H E hcv hg hr => ?_
  have tk : Takes (cxOf (L2.CX P w) P w K mg base ["_law_draws_here", "_law_a_tongue", "_law_letters", "_law_a_kinds", "_law_many", "_law_letter"] "_law_heads" (defScope s__law_heads) T.f__law_heads cdv A outer s H E) (fun cls d _ H' => E cls d H') := takes_of rfl rfl rfl rfl
  refine ⟨fun _ _ _ => .lst [], fun _ => "", _, (pss_cons (ps_set (i := 3) sc__law_heads.nd rfl (by first | exact .inl rfl | exact .inr rfl) (pe_slice (r := rSlX K) sl_X (pe_lst (pa_cons pe_str (pa_cons pe_str (pa_cons pe_str (pa_cons pe_str (pa_cons pe_str pa_nil)))))) po_none (po_some (pe_ix (r := rIx K) ix_seq (pe_lst (pa_cons pe_int (pa_cons pe_int pa_nil))) (pe_callTy call_int1 (by rfl) T.z_int (by decide +kernel) (pa_cons (pe_cmpR (r := rEqX K) (op_eqX hr.units) (pv 1) pe_str (nomark _)) pa_nil)) (fun _ _ => rfl)))))
    (pss_cons (ps_set (i := 4) sc__law_heads.nd rfl (by first | exact .inl rfl | exact .inr rfl) (pe_op (r := rAddX K) op_addX pe_int (pe_op op_mod (pe_callG G.G__law_next hg (hr.mono (by omega)) (by rfl) T.g__law_next T.F__law_next.kp T.b__law_next (fun σ => passAt tk σ) (pa_cons (pv 0) pa_nil)) (pe_callB (r := rLenX K) call_lenX (by rfl) T.z_len (by decide +kernel) (pa_cons (pv 2) pa_nil)))))
    (pss_one (ps_ret (pe_lc (own := [("_law_letter", 5)]) (g := gOf K (.one 5)) (tt := tYes) rfl sc__law_heads.nd (pi_seq (pe_slice (r := rSlX K) sl_X (pv 2) po_none (po_some (pv 4)))) (blkOk_by (own := [("_law_letter", 5)]) (N := ["_law_draws_here", "_law_a_tongue", "_law_letters", "_law_a_kinds", "_law_many", "_law_letter"]) (sc := defScope s__law_heads) (by decide +kernel)) (fun _ _ _ _ _ => (pg_name (i := 5) sc__law_heads.nd rfl (by first | exact .inl rfl | exact .inr rfl))) (fun _ _ _ _ _ => pts_nil) (fun _ _ _ _ _ => (pe_tup (pa_cons (pv 5) (pa_cons (pe_ix (r := rIx K) ix_seq (pv 3) (pe_op op_mod (pe_callG G.G__law_next hg (hr.mono (by omega)) (by rfl) T.g__law_next T.F__law_next.kp T.b__law_next passF (pa_cons (pv 0) pa_nil)) (pe_callB (r := rLenX K) call_lenX (by rfl) T.z_len (by decide +kernel) (pa_cons (pv 3) pa_nil))) (fun _ _ => rfl)) pa_nil))))))))), ?_⟩
  exact (ss_seq (ss_set (tg := .one 3) (se_sl sl_XS (se_lst (sa_cons se_str (sa_cons se_str (sa_cons se_str (sa_cons se_str (sa_cons se_str sa_nil)))))) so_none (so_some (se_op os_ix (se_lst (sa_cons se_int (sa_cons se_int sa_nil))) (se_cb cb_int (sa_cons (se_op os_eqX se_var se_str) sa_nil))))))
    (ss_seq (ss_set (tg := .one 4) (se_op os_addX se_int (se_op os_mod (se_call (sa_cons se_var sa_nil)) (se_cb cb_lenX (sa_cons se_var sa_nil)))))
    (ss_ret (se_lc (tg := (.one 5)) (si_seq (se_sl sl_XS se_var so_none (so_some se_var))) st_yes (se_tup (sa_cons se_var (sa_cons (se_op os_ix se_var (se_op os_mod (se_call (sa_cons se_var sa_nil)) (se_cb cb_lenX (sa_cons se_var sa_nil)))) sa_nil)))))))
theorem ok__law_leaf {n : Nat} {S : Tb} (G : All P w K mg base T d S (3 * n)) : FnG P w K mg base (L2.CX P w) (3 * n + 3) T.f__law_leaf T.fd__law_leaf ["_law_draws_here", "_law_a_tongue", "_law_heads_here", "_law_kind"] (spF K (Gm T d) false 4 (fnD 8 (b__law_leaf S))) := by
  refine fn_ok T.F__law_leaf sc__law_leaf rfl rfl (fun h => by cases h) fun cdv A outer s H E hcv hg hr => ?_
  have tk : Takes (cxOf (L2.CX P w) P w K mg base ["_law_draws_here", "_law_a_tongue", "_law_heads_here", "_law_kind", "_law_some", "_law_pick", "_law_letter", "_law_other"] "_law_leaf" (defScope s__law_leaf) T.f__law_leaf cdv A outer s H E) (fun cls d _ H' => E cls d H') := takes_of rfl rfl rfl rfl
  refine ⟨fun _ _ _ => .lst [], fun _ => "", _, (pss_cons (ps_setLc (i := 4) (own := [("_law_letter", 6), ("_law_other", 7)]) (g := gOf K (.many [(.one 6), (.one 7)])) rfl sc__law_leaf.nd rfl rfl (sw_true rfl rfl rfl rfl) (pi_seq (pv 2)) (blkOk_by (own := [("_law_letter", 6), ("_law_other", 7)]) (N := ["_law_draws_here", "_law_a_tongue", "_law_heads_here", "_law_kind", "_law_some", "_law_pick", "_law_letter", "_law_other"]) (sc := defScope s__law_leaf) (by decide +kernel)) (fun _ _ _ _ _ => (pg_tup (by rfl) (pgs_cons (pg_name (i := 6) sc__law_leaf.nd rfl (by first | exact .inl rfl | exact .inr rfl)) (pgs_cons (pg_name (i := 7) sc__law_leaf.nd rfl (by first | exact .inl rfl | exact .inr rfl)) pgs_nil)))) (fun _ _ _ _ _ => (pts_one (pt_cmpR (r := rEqX K) (op_eqX hr.units) (pv 7) (pv 3) (nomark _)))) (fun _ _ _ _ _ => (pv 6)))
    (pss_cons (ps_set (i := 5) sc__law_leaf.nd rfl (by first | exact .inl rfl | exact .inr rfl) (pe_callG G.G__law_next hg (hr.mono (by omega)) (by rfl) T.g__law_next T.F__law_next.kp T.b__law_next (fun σ => passAt tk σ) (pa_cons (pv 0) pa_nil)))
    (pss_cons (ps_if (PW.pt (pw_and (pt_cmpR (r := rNeX K) (op_neX hr.units) (pv 4) (pe_lst pa_nil) (nomark _)) (pw_and1 (pt_cmpR op_gt (pe_op op_mod (pv 5) pe_int) pe_int (nomark _))))) (pss_one (ps_ret (pe_tup (pa_cons pe_str (pa_cons (pe_ix (r := rIx K) ix_seq (pv 4) (pe_op op_mod (pe_op op_fdiv (pv 5) pe_int) (pe_callB (r := rLenX K) call_lenX (by rfl) T.z_len (by decide +kernel) (pa_cons (pv 4) pa_nil))) (fun _ _ => rfl)) pa_nil))))) pss_nil)
    (pss_cons (ps_if (pt_cmpR (r := rEqX K) (op_eqX hr.units) (pe_op op_mod (pe_op op_fdiv (pv 5) pe_int) pe_int) pe_int (nomark _)) (pss_one (ps_ret (pe_tup (pa_cons pe_str (pa_cons (pv 3) pa_nil))))) pss_nil)
    (pss_cons (ps_if (pt_cmpR (r := rEqX K) (op_eqX hr.units) (pv 3) pe_str (nomark _)) (pss_one (ps_ret (pe_tup (pa_cons pe_str (pa_cons (pe_ix (r := rIx K) ix_seq (pe_lst (pa_cons (pe_op op_sub (pe_op op_mod (pe_op op_fdiv (pv 5) pe_int) pe_int) pe_int) (pa_cons (pe_op (r := rMulX) op_mulX (pe_op op_sub (pe_op op_pow pe_int pe_int) (pv 5)) (pe_ix (r := rIx K) ix_seq (pe_lst (pa_cons pe_int (pa_cons (pe_op op_sub pe_int pe_int) pa_nil))) (pe_op op_mod (pe_op op_fdiv (pv 5) pe_int) pe_int) (fun _ _ => rfl))) pa_nil))) (pe_callTy call_int1 (by rfl) T.z_int (by decide +kernel) (pa_cons (pe_cmpR (r := rEqX K) (op_eqX hr.units) (pe_op op_mod (pe_op op_fdiv (pv 5) pe_int) pe_int) pe_int (nomark _)) pa_nil)) (fun _ _ => rfl)) pa_nil))))) pss_nil)
    (pss_cons (ps_if (pt_cmpR (r := rEqX K) (op_eqX hr.units) (pv 3) pe_str (nomark _)) (pss_one (ps_ret (pe_tup (pa_cons pe_str (pa_cons (pe_ix (r := rIx K) ix_seq (pe_lst (pa_cons pe_str (pa_cons pe_str (pa_cons pe_str (pa_cons (pe_slice (r := rSlX K) sl_X pe_str (po_some (pe_callTy call_int1 (by rfl) T.z_int (by decide +kernel) (pa_cons (pe_cmpR (r := rEqX K) (op_eqX hr.units) (pv 1) pe_str (nomark _)) pa_nil))) po_none) pa_nil))))) (pe_op op_mod (pe_op op_fdiv (pv 5) pe_int) pe_int) (fun _ _ => rfl)) pa_nil))))) pss_nil)
    (pss_one (ps_ret (pe_tup (pa_cons pe_str (pa_cons (pe_ix (r := rIx K) ix_seq (pe_lst (pa_cons pe_int (pa_cons pe_int (pa_cons pe_int (pa_cons pe_int (pa_cons pe_int pa_nil)))))) (pe_op op_mod (pe_op op_fdiv (pv 5) pe_int) pe_int) (fun _ _ => rfl)) (pa_cons (pe_op (r := rAddX K) op_addX pe_int (pe_op op_mod (pe_op op_fdiv (pv 5) pe_int) pe_int)) (pa_cons (pe_op (r := rAddX K) op_addX pe_int (pe_op op_mod (pe_op op_fdiv (pv 5) pe_int) pe_int)) pa_nil))))))))))))), ?_⟩
  exact (ss_seq (ss_set (tg := .one 4) (se_lc (tg := (.many [(.one 6), (.one 7)])) (si_seq se_var) (st_test (se_op os_eqX se_var se_var)) se_var))
    (ss_seq (ss_set (tg := .one 5) (se_call (sa_cons se_var sa_nil)))
    (ss_seq (ss_if (st_and (st_test (se_op os_neX se_var (se_lst sa_nil))) (st_test (se_op os_B0 (se_op os_mod se_var se_int) se_int))) (ss_ret (se_tup (sa_cons se_str (sa_cons (se_op os_ix se_var (se_op os_mod (se_op os_fdiv se_var se_int) (se_cb cb_lenX (sa_cons se_var sa_nil)))) sa_nil)))) ss_next)
    (ss_seq (ss_if (st_test (se_op os_eqX (se_op os_mod (se_op os_fdiv se_var se_int) se_int) se_int)) (ss_ret (se_tup (sa_cons se_str (sa_cons se_var sa_nil)))) ss_next)
    (ss_seq (ss_if (st_test (se_op os_eqX se_var se_str)) (ss_ret (se_tup (sa_cons se_str (sa_cons (se_op os_ix (se_lst (sa_cons (se_op os_sub (se_op os_mod (se_op os_fdiv se_var se_int) se_int) se_int) (sa_cons (se_op os_mulX (se_op os_sub (se_op os_pow se_int se_int) se_var) (se_op os_ix (se_lst (sa_cons se_int (sa_cons (se_op os_sub se_int se_int) sa_nil))) (se_op os_mod (se_op os_fdiv se_var se_int) se_int))) sa_nil))) (se_cb cb_int (sa_cons (se_op os_eqX (se_op os_mod (se_op os_fdiv se_var se_int) se_int) se_int) sa_nil))) sa_nil)))) ss_next)
    (ss_seq (ss_if (st_test (se_op os_eqX se_var se_str)) (ss_ret (se_tup (sa_cons se_str (sa_cons (se_op os_ix (se_lst (sa_cons se_str (sa_cons se_str (sa_cons se_str (sa_cons (se_sl sl_XS se_str (so_some (se_cb cb_int (sa_cons (se_op os_eqX se_var se_str) sa_nil))) so_none) sa_nil))))) (se_op os_mod (se_op os_fdiv se_var se_int) se_int)) sa_nil)))) ss_next)
    (ss_ret (se_tup (sa_cons se_str (sa_cons (se_op os_ix (se_lst (sa_cons se_int (sa_cons se_int (sa_cons se_int (sa_cons se_int (sa_cons se_int sa_nil)))))) (se_op os_mod (se_op os_fdiv se_var se_int) se_int)) (sa_cons (se_op os_addX se_int (se_op os_mod (se_op os_fdiv se_var se_int) se_int)) (sa_cons (se_op os_addX se_int (se_op os_mod (se_op os_fdiv se_var se_int) se_int)) sa_nil))))))))))))
theorem ok__law_condition {n : Nat} {S : Tb} (G : All P w K mg base T d S (3 * n)) : FnG P w K mg base (L2.CX P w) (3 * n + 3) T.f__law_condition T.fd__law_condition ["_law_draws_here", "_law_a_tongue", "_law_heads_here", "_law_deep"] (spF K (Gm T d) false 4 (fnD 10 (b__law_condition S))) := by
  refine fn_ok T.F__law_condition sc__law_condition rfl rfl (fun h => by cases h) fun cdv A outer s H E hcv hg hr => ?_
  have tk : Takes (cxOf (L2.CX P w) P w K mg base ["_law_draws_here", "_law_a_tongue", "_law_heads_here", "_law_deep", "_law_pick", "_law_one", "_law_two", "_law_a_kinds", "_law_kind", "_law_k"] "_law_condition" (defScope s__law_condition) T.f__law_condition cdv A outer s H E) (fun cls d _ H' => E cls d H') := takes_of rfl rfl rfl rfl
  refine ⟨fun _ _ _ => .lst [], fun _ => "", _, (pss_cons (ps_set (i := 4) sc__law_condition.nd rfl (by first | exact .inl rfl | exact .inr rfl) (pe_callG G.G__law_next hg (hr.mono (by omega)) (by rfl) T.g__law_next T.F__law_next.kp T.b__law_next (fun σ => passAt tk σ) (pa_cons (pv 0) pa_nil)))
    (pss_cons (ps_if (pt_cmpR (r := rEqX K) (op_eqX hr.units) (pe_op op_mod (pv 4) pe_int) pe_int (nomark _)) (pss_one (ps_ret (pe_ix (r := rIx K) ix_seq (pe_lst (pa_cons (pe_tup (pa_cons pe_str pa_nil)) (pa_cons (pe_tup (pa_cons pe_str pa_nil)) pa_nil))) (pe_op op_mod (pe_op op_fdiv (pv 4) pe_int) pe_int) (fun _ _ => rfl)))) pss_nil)
    (pss_cons (ps_if (PW.pt (pw_and (pt_cmpR op_gt (pv 3) pe_int (nomark _)) (pw_and1 (pt_cmpR op_lt (pe_op op_mod (pv 4) pe_int) pe_int (nomark _))))) (pss_cons (ps_asg (pe_lc (own := [("_law_k", 9)]) (g := gOf K (.one 9)) (tt := tYes) rfl sc__law_condition.nd (pi_range1 (by rfl) T.z_range (pa_cons pe_int pa_nil)) (blkOk_by (own := [("_law_k", 9)]) (N := ["_law_draws_here", "_law_a_tongue", "_law_heads_here", "_law_deep", "_law_pick", "_law_one", "_law_two", "_law_a_kinds", "_law_kind", "_law_k"]) (sc := defScope s__law_condition) (by decide +kernel)) (fun _ _ _ _ _ => (pg_name (i := 9) sc__law_condition.nd rfl (by first | exact .inl rfl | exact .inr rfl))) (fun _ _ _ _ _ => pts_nil) (fun _ _ _ _ _ => (pe_callG G.G__law_condition hg (hr.mono (by omega)) (by rfl) T.g__law_condition T.F__law_condition.kp T.b__law_condition passF (pa_cons (pv 0) (pa_cons (pv 1) (pa_cons (pv 2) (pa_cons (pe_op op_sub (pv 3) pe_int) pa_nil))))))) (pg_unl rfl (pgs_cons (pg_name (i := 5) sc__law_condition.nd rfl (by first | exact .inl rfl | exact .inr rfl)) (pgs_cons (pg_name (i := 6) sc__law_condition.nd rfl (by first | exact .inl rfl | exact .inr rfl)) pgs_nil))))
    (pss_one (ps_ret (pe_ix (r := rIx K) ix_seq (pe_lst (pa_cons (pe_tup (pa_cons pe_str (pa_cons (pv 5) (pa_cons (pv 6) pa_nil)))) (pa_cons (pe_tup (pa_cons pe_str (pa_cons (pv 5) (pa_cons (pv 6) pa_nil)))) (pa_cons (pe_tup (pa_cons pe_str (pa_cons (pv 5) pa_nil))) pa_nil)))) (pe_op op_mod (pe_op op_fdiv (pv 4) pe_int) pe_int) (fun _ _ => rfl))))) pss_nil)
    (pss_cons (ps_set (i := 7) sc__law_condition.nd rfl (by first | exact .inl rfl | exact .inr rfl) (pe_slice (r := rSlX K) sl_X (pe_lst (pa_cons pe_str (pa_cons pe_str (pa_cons pe_str pa_nil)))) po_none (po_some (pe_op (r := rAddX K) op_addX pe_int (pe_callTy call_int1 (by rfl) T.z_int (by decide +kernel) (pa_cons (pe_cmpR (r := rEqX K) (op_eqX hr.units) (pv 1) pe_str (nomark _)) pa_nil))))))
    (pss_cons (ps_set (i := 8) sc__law_condition.nd rfl (by first | exact .inl rfl | exact .inr rfl) (pe_ix (r := rIx K) ix_seq (pv 7) (pe_op op_mod (pe_op op_fdiv (pv 4) pe_int) (pe_callB (r := rLenX K) call_lenX (by rfl) T.z_len (by decide +kernel) (pa_cons (pv 7) pa_nil))) (fun _ _ => rfl)))
    (pss_cons (ps_asg (pe_lc (own := [("_law_k", 9)]) (g := gOf K (.one 9)) (tt := tYes) rfl sc__law_condition.nd (pi_range1 (by rfl) T.z_range (pa_cons pe_int pa_nil)) (blkOk_by (own := [("_law_k", 9)]) (N := ["_law_draws_here", "_law_a_tongue", "_law_heads_here", "_law_deep", "_law_pick", "_law_one", "_law_two", "_law_a_kinds", "_law_kind", "_law_k"]) (sc := defScope s__law_condition) (by decide +kernel)) (fun _ _ _ _ _ => (pg_name (i := 9) sc__law_condition.nd rfl (by first | exact .inl rfl | exact .inr rfl))) (fun _ _ _ _ _ => pts_nil) (fun _ _ _ _ _ => (pe_callG G.G__law_term hg (hr.mono (by omega)) (by rfl) T.g__law_term T.F__law_term.kp T.b__law_term passF (pa_cons (pv 0) (pa_cons (pv 1) (pa_cons (pv 2) (pa_cons (pv 8) (pa_cons (pe_op op_sub (pv 3) pe_int) pa_nil)))))))) (pg_unl rfl (pgs_cons (pg_name (i := 5) sc__law_condition.nd rfl (by first | exact .inl rfl | exact .inr rfl)) (pgs_cons (pg_name (i := 6) sc__law_condition.nd rfl (by first | exact .inl rfl | exact .inr rfl)) pgs_nil))))
    (pss_cons (ps_if (pt_cmpR (r := rEqX K) (op_eqX hr.units) (pe_op op_mod (pe_op op_fdiv (pv 4) pe_int) pe_int) pe_int (nomark _)) (pss_one (ps_ret (pe_tup (pa_cons pe_str (pa_cons (pv 5) pa_nil))))) pss_nil)
    (pss_cons (ps_if (PW.pt (pw_and (pt_cmpR (r := rEqX K) (op_eqX hr.units) (pe_op op_mod (pe_op op_fdiv (pv 4) pe_int) pe_int) pe_int (nomark _)) (pw_and1 (pt_cmpR (r := rEqX K) (op_eqX hr.units) (pv 8) pe_str (nomark _))))) (pss_one (ps_ret (pe_tup (pa_cons pe_str (pa_cons (pv 5) (pa_cons (pv 6) pa_nil)))))) pss_nil)
    (pss_one (ps_ret (pe_tup (pa_cons (pe_ix (r := rIx K) ix_seq (pe_lst (pa_cons pe_str (pa_cons pe_str pa_nil))) (pe_op op_mod (pe_op op_fdiv (pv 4) pe_int) pe_int) (fun _ _ => rfl)) (pa_cons (pv 5) (pa_cons (pv 6) pa_nil)))))))))))))), ?_⟩
  exact (ss_seq (ss_set (tg := .one 4) (se_call (sa_cons se_var sa_nil)))
    (ss_seq (ss_if (st_test (se_op os_eqX (se_op os_mod se_var se_int) se_int)) (ss_ret (se_op os_ix (se_lst (sa_cons (se_tup (sa_cons se_str sa_nil)) (sa_cons (se_tup (sa_cons se_str sa_nil)) sa_nil))) (se_op os_mod (se_op os_fdiv se_var se_int) se_int))) ss_next)
    (ss_seq (ss_if (st_and (st_test (se_op os_B0 se_var se_int)) (st_test (se_op os_B0 (se_op os_mod se_var se_int) se_int))) (ss_seq (ss_set (tg := (.unl [5, 6])) (se_lc (tg := (.one 9)) (si_range (sa_cons se_int sa_nil)) st_yes (se_call (sa_cons se_var (sa_cons se_var (sa_cons se_var (sa_cons (se_op os_sub se_var se_int) sa_nil)))))))
    (ss_ret (se_op os_ix (se_lst (sa_cons (se_tup (sa_cons se_str (sa_cons se_var (sa_cons se_var sa_nil)))) (sa_cons (se_tup (sa_cons se_str (sa_cons se_var (sa_cons se_var sa_nil)))) (sa_cons (se_tup (sa_cons se_str (sa_cons se_var sa_nil))) sa_nil)))) (se_op os_mod (se_op os_fdiv se_var se_int) se_int)))) ss_next)
    (ss_seq (ss_set (tg := .one 7) (se_sl sl_XS (se_lst (sa_cons se_str (sa_cons se_str (sa_cons se_str sa_nil)))) so_none (so_some (se_op os_addX se_int (se_cb cb_int (sa_cons (se_op os_eqX se_var se_str) sa_nil))))))
    (ss_seq (ss_set (tg := .one 8) (se_op os_ix se_var (se_op os_mod (se_op os_fdiv se_var se_int) (se_cb cb_lenX (sa_cons se_var sa_nil)))))
    (ss_seq (ss_set (tg := (.unl [5, 6])) (se_lc (tg := (.one 9)) (si_range (sa_cons se_int sa_nil)) st_yes (se_call (sa_cons se_var (sa_cons se_var (sa_cons se_var (sa_cons se_var (sa_cons (se_op os_sub se_var se_int) sa_nil))))))))
    (ss_seq (ss_if (st_test (se_op os_eqX (se_op os_mod (se_op os_fdiv se_var se_int) se_int) se_int)) (ss_ret (se_tup (sa_cons se_str (sa_cons se_var sa_nil)))) ss_next)
    (ss_seq (ss_if (st_and (st_test (se_op os_eqX (se_op os_mod (se_op os_fdiv se_var se_int) se_int) se_int)) (st_test (se_op os_eqX se_var se_str))) (ss_ret (se_tup (sa_cons se_str (sa_cons se_var (sa_cons se_var sa_nil))))) ss_next)
    (ss_ret (se_tup (sa_cons (se_op os_ix (se_lst (sa_cons se_str (sa_cons se_str sa_nil))) (se_op os_mod (se_op os_fdiv se_var se_int) se_int)) (sa_cons se_var (sa_cons se_var sa_nil)))))))))))))
theorem ok__law_places {n : Nat} {S : Tb} (G : All P w K mg base T d S (3 * n)) : FnG P w K mg base (L2.CX P w) (3 * n + 3) T.f__law_places T.fd__law_places [] (spF K (Gm T d) false 0 (fnD 2 (b__law_places S))) := by
  refine fn_ok T.F__law_places sc__law_places rfl rfl (fun h => by cases h) fun cdv A outer s H E hcv hg hr => ?_
  have tk : Takes (cxOf (L2.CX P w) P w K mg base ["_law_told", "_law_word"] "_law_places" (defScope s__law_places) T.f__law_places cdv A outer s H E) (fun cls d _ H' => E cls d H') := takes_of rfl rfl rfl rfl
  refine ⟨fun _ _ _ => .lst [], fun _ => "", _, (pss_cons (ps_set (i := 0) sc__law_places.nd rfl (by first | exact .inl rfl | exact .inr rfl) (pe_disp (pps_cons pe_str pe_int (pps_cons pe_str pe_int (pps_cons pe_str pe_int (pps_cons pe_str pe_int (pps_cons pe_str pe_int (pps_cons pe_str pe_int (pps_cons pe_str pe_int (pps_cons pe_str pe_int pps_nil)))))))) rfl rfl (by simp) (by decide)))
    (pss_cons (ps_for (passes_of rfl) rfl (pi_seq (pe_lst (pa_cons pe_str (pa_cons pe_str (pa_cons pe_str (pa_cons pe_str (pa_cons pe_str (pa_cons pe_str (pa_cons pe_str pa_nil))))))))) (pg_name (i := 1) sc__law_places.nd rfl (by first | exact .inl rfl | exact .inr rfl)) (pss_one (ps_dput (hu_of hr) (pv 0) (pv 1) pe_int rfl)))
    (pss_one (ps_ret (pv 0))))), ?_⟩
  exact (ss_seq (ss_own (sf_disp (SP.cons se_int (SP.cons se_int (SP.cons se_int (SP.cons se_int (SP.cons se_int (SP.cons se_int (SP.cons se_int (SP.cons se_int SP.nil))))))))))
    (ss_seq (ss_for (tg := (.one 1)) (si_seq (se_lst (sa_cons se_str (sa_cons se_str (sa_cons se_str (sa_cons se_str (sa_cons se_str (sa_cons se_str (sa_cons se_str sa_nil))))))))) (ss_put se_var se_int))
    ss_retO))
theorem ok__law_inner {n : Nat} {S : Tb} (G : All P w K mg base T d S (3 * n)) : FnG P w K mg base (L2.CX P w) (3 * n + 3) T.f__law_inner T.fd__law_inner ["_law_a_term"] (spF K (Gm T d) false 1 (fnD 1 (b__law_inner S))) := by
  refine fn_ok T.F__law_inner sc__law_inner rfl rfl (fun h => by cases h) fun cdv A outer s H E hcv hg hr => ?_
  have tk : Takes (cxOf (L2.CX P w) P w K mg base ["_law_a_term"] "_law_inner" (defScope s__law_inner) T.f__law_inner cdv A outer s H E) (fun cls d _ H' => E cls d H') := takes_of rfl rfl rfl rfl
  refine ⟨fun _ _ _ => .lst [], fun _ => "", _, (pss_cons (ps_if (pt_cmpR (r := rEqX K) (op_eqX hr.units) (pe_ix (r := rIx K) ix_seq (pv 0) pe_int (fun _ _ => rfl)) pe_str (nomark _)) (pss_one (ps_ret (pe_callTy call_list_of (by rfl) T.z_list (by decide +kernel) (pa_cons (pe_slice (r := rSlX K) sl_X (pv 0) (po_some pe_int) po_none) pa_nil)))) pss_nil)
    (pss_one (ps_ret (pe_callTy call_list_of (by rfl) T.z_list (by decide +kernel) (pa_cons (pe_slice (r := rSlX K) sl_X (pv 0) (po_some pe_int) (po_some (pe_op (r := rAddX K) op_addX pe_int (pe_dget2 (hu_of hr) (pe_callG0 G.G__law_places hg (hr.mono (by omega)) (by rfl) T.g__law_places T.F__law_places.kp T.b__law_places (fun σ => passAt tk σ)) (pe_ix (r := rIx K) ix_seq (pv 0) pe_int (fun _ _ => rfl)) pe_int ⟨rfl, rfl, rfl, rfl⟩)))) pa_nil))))), ?_⟩
  exact (ss_seq (ss_if (st_test (se_op os_eqX (se_op os_ix se_var se_int) se_str)) (ss_ret (SF.se (sf_cb cf_list (sa_cons (se_sl sl_XS se_var (so_some se_int) so_none) sa_nil)))) ss_next)
    (ss_ret (SF.se (sf_cb cf_list (sa_cons (se_sl sl_XS se_var (so_some se_int) (so_some (se_op os_addX se_int (se_dget2 (se_call sa_nil) (se_op os_ix se_var se_int) se_int)))) sa_nil)))))
theorem ok__law_paths_of {n : Nat} {S : Tb} (G : All P w K mg base T d S (3 * n)) : FnG P w K mg base (L2.CX P w) (3 * n + 3) T.f__law_paths_of T.fd__law_paths_of ["_law_a_term"] (spF K (Gm T d) false 1 (fnD 5 (b__law_paths_of S))) := by
  refine fn_ok T.F__law_paths_of sc__law_paths_of rfl rfl (fun h => by cases h) fun cdv A outer s H E hcv hg hr => ?_
  have tk : Takes (cxOf (L2.CX P w) P w K mg base ["_law_a_term", "_law_told", "_law_number", "_law_part", "_law_a_path"] "_law_paths_of" (defScope s__law_paths_of) T.f__law_paths_of cdv A outer s H E) (fun cls d _ H' => E cls d H') := takes_of rfl rfl rfl rfl
  refine ⟨fun _ _ _ => .lst [], fun _ => "", _, (pss_cons (ps_set (i := 1) sc__law_paths_of.nd rfl (by first | exact .inl rfl | exact .inr rfl) (pe_lst (pa_cons (pe_tup pa_nil) pa_nil)))
    (pss_cons (ps_for (passes_of rfl) rfl (pi_enum (by rfl) T.z_enumerate (pa_cons (pe_callG G.G__law_inner hg (hr.mono (by omega)) (by rfl) T.g__law_inner T.F__law_inner.kp T.b__law_inner (fun σ => passAt tk σ) (pa_cons (pv 0) pa_nil)) pa_nil)) (pg_tup (by rfl) (pgs_cons (pg_name (i := 2) sc__law_paths_of.nd rfl (by first | exact .inl rfl | exact .inr rfl)) (pgs_cons (pg_name (i := 3) sc__law_paths_of.nd rfl (by first | exact .inl rfl | exact .inr rfl)) pgs_nil))) (pss_one (ps_set (i := 1) sc__law_paths_of.nd rfl (by first | exact .inl rfl | exact .inr rfl) (pe_op (r := rAddX K) op_addX (pv 1) (pe_lc (own := [("_law_a_path", 4)]) (g := gOf K (.one 4)) (tt := tYes) rfl sc__law_paths_of.nd (pi_seq (pe_callG G.G__law_paths_of hg (hr.mono (by omega)) (by rfl) T.g__law_paths_of T.F__law_paths_of.kp T.b__law_paths_of (fun σ => passAt tk σ) (pa_cons (pv 3) pa_nil))) (blkOk_by (own := [("_law_a_path", 4)]) (N := ["_law_a_term", "_law_told", "_law_number", "_law_part", "_law_a_path"]) (sc := defScope s__law_paths_of) (by decide +kernel)) (fun _ _ _ _ _ => (pg_name (i := 4) sc__law_paths_of.nd rfl (by first | exact .inl rfl | exact .inr rfl))) (fun _ _ _ _ _ => pts_nil) (fun _ _ _ _ _ => (pe_op (r := rAddX K) op_addX (pe_tup (pa_cons (pv 2) pa_nil)) (pv 4))))))))
    (pss_one (ps_ret (pv 1))))), ?_⟩
  exact (ss_seq (ss_set (tg := .one 1) (se_lst (sa_cons (se_tup sa_nil) sa_nil)))
    (ss_seq (ss_for (tg := (.many [(.one 2), (.one 3)])) (si_enum (sa_cons (se_call (sa_cons se_var sa_nil)) sa_nil)) (ss_set (tg := .one 1) (se_op os_addX se_var (se_lc (tg := (.one 4)) (si_seq (se_call (sa_cons se_var sa_nil))) st_yes (se_op os_addX (se_tup (sa_cons se_var sa_nil)) se_var)))))
    (ss_ret se_var)))
theorem ok__law_there {n : Nat} {S : Tb} (G : All P w K mg base T d S (3 * n)) : FnG P w K mg base (L2.CX P w) (3 * n + 3) T.f__law_there T.fd__law_there ["_law_a_term", "_law_a_path"] (spF K (Gm T d) false 2 (fnD 3 (b__law_there S))) := by
  refine fn_ok T.F__law_there sc__law_there rfl rfl (fun h => by cases h) fun cdv A outer s H E hcv hg hr => ?_
  have tk : Takes (cxOf (L2.CX P w) P w K mg base ["_law_a_term", "_law_a_path", "_law_number"] "_law_there" (defScope s__law_there) T.f__law_there cdv A outer s H E) (fun cls d _ H' => E cls d H') := takes_of rfl rfl rfl rfl
  refine ⟨fun _ _ _ => .lst [], fun _ => "", _, (pss_cons (ps_for (passes_of rfl) rfl (pi_seq (pv 1)) (pg_name (i := 2) sc__law_there.nd rfl (by first | exact .inl rfl | exact .inr rfl)) (pss_one (ps_set (i := 0) sc__law_there.nd rfl (by first | exact .inl rfl | exact .inr rfl) (pe_ix (r := rIx K) ix_seq (pe_callG G.G__law_inner hg (hr.mono (by omega)) (by rfl) T.g__law_inner T.F__law_inner.kp T.b__law_inner (fun σ => passAt tk σ) (pa_cons (pv 0) pa_nil)) (pv 2) (fun _ _ => rfl)))))
    (pss_one (ps_ret (pv 0)))), ?_⟩
  exact (ss_seq (ss_for (tg := (.one 2)) (si_seq se_var) (ss_set (tg := .one 0) (se_op os_ix (se_call (sa_cons se_var sa_nil)) se_var)))
    (ss_ret se_var))
theorem ok__law_refused {n : Nat} {S : Tb} (G : All P w K mg base T d S (3 * n)) : FnG P w K mg base (L2.CX P w) (3 * n + 3) T.f__law_refused T.fd__law_refused ["_law_a_term", "_law_a_path"] (spF K (Gm T d) false 2 (fnD 4 (b__law_refused S))) := by
  refine fn_ok T.F__law_refused sc__law_refused rfl rfl (fun h => by cases h) fun cdv A outer s H E hcv hg hr => ?_
  have tk : Takes (cxOf (L2.CX P w) P w K mg base ["_law_a_term", "_law_a_path", "_law_kept", "e"] "_law_refused" (defScope s__law_refused) T.f__law_refused cdv A outer s H E) (fun cls d _ H' => E cls d H') := takes_of rfl rfl rfl rfl
  refine ⟨fun _ _ _ => .lst [], fun _ => "", _, (pss_cons (ps_set (i := 2) sc__law_refused.nd rfl (by first | exact .inl rfl | exact .inr rfl) pe_non)
    (pss_cons (ps_try_keep (i := 3) rfl rfl rfl sc__law_refused.nd rfl rfl (.cons ⟨rfl, by decide, .inl T.g_NoPath⟩ (.cons ⟨rfl, by decide, .inl T.g_NoTerm⟩ (.cons ⟨rfl, by decide, .inl T.g_NoName⟩ (.cons ⟨rfl, by decide, .inl T.g_NoKind⟩ .nil)))) (by show 4 ≤ sizeLine; decide) tk (fun W pn xe tk _ => (pss_one (ps_expr (pe_callG G.G_part_at hg (hr.mono (by omega)) (by rfl) T.g_part_at T.F_part_at.kp T.b_part_at (fun σ => passAt tk σ) (pa_cons (pv 0) (pa_cons (pv 1) pa_nil)))))) (fun a oe cls d pn hz hf => (pss_one (ps_set (i := 2) sc__law_refused.nd rfl (by first | exact .inl rfl | exact .inr rfl) (pv 3)))))
    (pss_one (ps_ret (pe_and (pe_callB (r := rIsX K) call_isX (by rfl) T.z_isinstance (by decide +kernel) (pa_cons (pv 2) (pa_cons (pe_glob (v := .ref T.C_NoPath) (by rfl) T.g_NoPath rfl) pa_nil))) (pe_and (pe_callB (r := rIsX K) call_isX (by rfl) T.z_isinstance (by decide +kernel) (pa_cons (pv 2) (pa_cons (pe_bltn (v := .ty "LookupError") (u := .type "LookupError") (by rfl) T.z_LookupError (by decide +kernel) rfl) pa_nil))) (pe_one (pe_cmpR (r := rEqX K) (op_eqX hr.units) (pe_xk (pv 2)) (pv 1) (nomark _))))))))), ?_⟩
  exact (ss_seq (ss_set (tg := .one 2) se_non)
    (ss_seq (ss_tryK (by decide) (mke_NoPath_NoTerm_NoName_NoKind T d) (fun W => (ss_drop (se_call (sa_cons se_var (sa_cons se_var sa_nil))))) (fun a cls d D σ H v h q => ⟨v, h, q⟩))
    (ss_ret (se_and (se_isX (ClsV.own _) (ie_NoPath T d) se_var) (se_and (se_isX (ClsV.ty _) (ie_LookupError T d) se_var) (se_op os_eqX (se_fldX (fx_at T d) se_var) se_var))))))
theorem ok__law_paths_right {n : Nat} {S : Tb} (G : All P w K mg base T d S (3 * n)) : FnG P w K mg base (L2.CX P w) (3 * n + 3) T.f__law_paths_right T.fd__law_paths_right ["_law_a_term"] (spF K (Gm T d) false 1 (fnD 7 (b__law_paths_right S))) := by
  refine fn_ok T.F__law_paths_right sc__law_paths_right rfl rfl (fun h => by cases h) fun cdv A outer s H E hcv hg hr => ?_
  have tk : Takes (cxOf (L2.CX P w) P w K mg base ["_law_a_term", "_law_due", "_law_told", "_law_a_path", "_law_there_here", "_law_many", "_law_number"] "_law_paths_right" (defScope s__law_paths_right) T.f__law_paths_right cdv A outer s H E) (fun cls d _ H' => E cls d H') := takes_of rfl rfl rfl rfl
  refine ⟨fun _ _ _ => .lst [], fun _ => "", _, (pss_cons (ps_set (i := 1) sc__law_paths_right.nd rfl (by first | exact .inl rfl | exact .inr rfl) (pe_callG G.G__law_paths_of hg (hr.mono (by omega)) (by rfl) T.g__law_paths_of T.F__law_paths_of.kp T.b__law_paths_of (fun σ => passAt tk σ) (pa_cons (pv 0) pa_nil)))
    (pss_cons (ps_set (i := 2) sc__law_paths_right.nd rfl (by first | exact .inl rfl | exact .inr rfl) (pe_callG G.G_paths hg (hr.mono (by omega)) (by rfl) T.g_paths T.F_paths.kp T.b_paths (fun σ => passAt tk σ) (pa_cons (pv 0) pa_nil)))
    (pss_cons (ps_if (PW.pt (pw_or (pt_not (pt_val (pe_callB (r := rIsi K) call_isi (by rfl) T.z_isinstance (by decide +kernel) (pa_cons (pv 2) (pa_cons (pe_bltn (v := .ty "list") (u := .type "list") (by rfl) T.z_list (by decide +kernel) rfl) pa_nil))))) (pw_or1 (pt_cmpR (r := rNeX K) (op_neX hr.units) (pv 2) (pv 1) (nomark _))))) (pss_one (ps_ret pe_bl)) pss_nil)
    (pss_cons (ps_expr (pe_bm PySem.F.plainAttrs_list PySem.F.slot_list_append PySem.F.type_list_append mt_append (pv 2) (pa_cons (pe_tup pa_nil) pa_nil)))
    (pss_cons (ps_if (pt_cmpR (r := rNeX K) (op_neX hr.units) (pe_callKG (ks := ["term"]) (is := [0]) G.G_paths hg (hr.mono (by omega)) (by rfl) T.g_paths T.F_paths.kp (kbi_of (is := [0]) (ks := ["term"]) T.F_paths fun _ _ _ _ _ _ ws h => match ws, h with | [_], _ => rfl) (fun σ => passAt tk σ) (pk_cons (pv 0) pk_nil)) (pv 1) (nomark _)) (pss_one (ps_ret pe_bl)) pss_nil)
    (pss_cons (ps_for (passes_of rfl) rfl (pi_seq (pv 1)) (pg_name (i := 3) sc__law_paths_right.nd rfl (by first | exact .inl rfl | exact .inr rfl)) (pss_cons (ps_set (i := 4) sc__law_paths_right.nd rfl (by first | exact .inl rfl | exact .inr rfl) (pe_callG G.G__law_there hg (hr.mono (by omega)) (by rfl) T.g__law_there T.F__law_there.kp T.b__law_there (fun σ => passAt tk σ) (pa_cons (pv 0) (pa_cons (pv 3) pa_nil))))
    (pss_cons (ps_if (PW.pt (pw_or (pt_cmpR (r := rNeX K) (op_neX hr.units) (pe_callG G.G_part_at hg (hr.mono (by omega)) (by rfl) T.g_part_at T.F_part_at.kp T.b_part_at (fun σ => passAt tk σ) (pa_cons (pv 0) (pa_cons (pv 3) pa_nil))) (pv 4) (nomark _)) (pw_or1 (pt_cmpR (r := rNeX K) (op_neX hr.units) (pe_callKG (ks := ["path", "term"]) (is := [1, 0]) G.G_part_at hg (hr.mono (by omega)) (by rfl) T.g_part_at T.F_part_at.kp (kbi_of (is := [1, 0]) (ks := ["path", "term"]) T.F_part_at fun _ _ _ _ _ _ ws h => match ws, h with | [_, _], _ => rfl) (fun σ => passAt tk σ) (pk_cons (pv 3) (pk_cons (pv 0) pk_nil))) (pv 4) (nomark _))))) (pss_one (ps_ret pe_bl)) pss_nil)
    (pss_cons (ps_set (i := 5) sc__law_paths_right.nd rfl (by first | exact .inl rfl | exact .inr rfl) (pe_callB (r := rLenX K) call_lenX (by rfl) T.z_len (by decide +kernel) (pa_cons (pe_callG G.G__law_inner hg (hr.mono (by omega)) (by rfl) T.g__law_inner T.F__law_inner.kp T.b__law_inner (fun σ => passAt tk σ) (pa_cons (pv 4) pa_nil)) pa_nil)))
    (pss_one (ps_for (passes_of rfl) rfl (pi_seq (pe_lst (pa_cons (pv 5) (pa_cons (pe_op (r := rAddX K) op_addX (pv 5) pe_int) (pa_cons (pe_op op_sub pe_int pe_int) (pa_cons pe_bl pa_nil)))))) (pg_name (i := 6) sc__law_paths_right.nd rfl (by first | exact .inl rfl | exact .inr rfl)) (pss_one (ps_if (pt_not (pt_val (pe_callG G.G__law_refused hg (hr.mono (by omega)) (by rfl) T.g__law_refused T.F__law_refused.kp T.b__law_refused (fun σ => passAt tk σ) (pa_cons (pv 0) (pa_cons (pe_op (r := rAddX K) op_addX (pv 3) (pe_tup (pa_cons (pv 6) pa_nil))) pa_nil))))) (pss_one (ps_ret pe_bl)) pss_nil))))))))
    (pss_one (ps_ret (pe_callG G.G__law_refused hg (hr.mono (by omega)) (by rfl) T.g__law_refused T.F__law_refused.kp T.b__law_refused (fun σ => passAt tk σ) (pa_cons (pv 0) (pa_cons (pe_op (r := rAddX K) op_addX (pe_tup (pa_cons pe_int pa_nil)) (pe_ix (r := rIx K) ix_seq (pv 1) (pe_un un_neg pe_int) (fun _ _ => rfl))) pa_nil))))))))))), ?_⟩
  exact (ss_seq (ss_set (tg := .one 1) (se_call (sa_cons se_var sa_nil)))
    (ss_seq (ss_own (sf_call (sa_cons se_var sa_nil)))
    (ss_seq (ss_ifP (st_or (st_not (st_b (se_isi se_var))) (st_test (se_op os_neX se_var se_var))) (ss_ret se_bl) ss_next)
    (ss_seq (ss_append (se_tup sa_nil))
    (ss_seq (ss_if (st_test (se_op os_neX (se_callK (sa_cons se_var sa_nil)) se_var)) (ss_ret se_bl) ss_next)
    (ss_seq (ss_for (tg := (.one 3)) (si_seq se_var) (ss_seq (ss_set (tg := .one 4) (se_call (sa_cons se_var (sa_cons se_var sa_nil))))
    (ss_seq (ss_if (st_or (st_test (se_op os_neX (se_call (sa_cons se_var (sa_cons se_var sa_nil))) se_var)) (st_test (se_op os_neX (se_callK (sa_cons se_var (sa_cons se_var sa_nil))) se_var))) (ss_ret se_bl) ss_next)
    (ss_seq (ss_set (tg := .one 5) (se_cb cb_lenX (sa_cons (se_call (sa_cons se_var sa_nil)) sa_nil)))
    (ss_for (tg := (.one 6)) (si_seq (se_lst (sa_cons se_var (sa_cons (se_op os_addX se_var se_int) (sa_cons (se_op os_sub se_int se_int) (sa_cons se_bl sa_nil)))))) (ss_if (st_not (st_b (se_call (sa_cons se_var (sa_cons (se_op os_addX se_var (se_tup (sa_cons se_var sa_nil))) sa_nil))))) (ss_ret se_bl) ss_next))))))
    (ss_ret (se_call (sa_cons se_var (sa_cons (se_op os_addX (se_tup (sa_cons se_int sa_nil)) (se_op os_ix se_var (se_un un_negS se_int))) sa_nil))))))))))
theorem ok__law_term {n : Nat} {S : Tb} (G : All P w K mg base T d S (3 * n)) (TB : TabB base mg (tabAt K "_law_term").1 (tabAt K "_law_term").2) : FnG P w K mg base (L2.CX P w) (3 * n + 3) T.f__law_term T.fd__law_term ["_law_draws_here", "_law_a_tongue", "_law_heads_here", "_law_kind", "_law_deep"] (spF K (Gm T d) false 5 (fnD 11 (b__law_term S))) := by
  refine fn_ok T.F__law_term sc__law_term rfl rfl (fun h => by cases h) fun cdv A0 outer0 s0 H0 E0 hcv hg hr => ?_
  have tk : Takes (cxOf (L2.CX P w) P w K mg base ["_law_draws_here", "_law_a_tongue", "_law_heads_here", "_law_kind", "_law_deep", "_law_pick", "_law_part", "_law_way", "_law_other", "_law_inner_here", "_law_head"] "_law_term" (defScope s__law_term) T.f__law_term cdv A0 outer0 s0 H0 E0) (fun cls d _ H' => E0 cls d H') := takes_of rfl rfl rfl rfl
  have hcode : (cxOf (L2.CX P w) P w K mg base ["_law_draws_here", "_law_a_tongue", "_law_heads_here", "_law_kind", "_law_deep", "_law_pick", "_law_part", "_law_way", "_law_other", "_law_inner_here", "_law_head"] "_law_term" (defScope s__law_term) T.f__law_term cdv A0 outer0 s0 H0 E0).env.code = .ref (tabAt K "_law_term").1 := hcv.symm.trans T.cd_term
  have LA : ∀ f c', LOk P w K mg base (L2.CX P w) (3 * n + 1) f (lamF (cxOf (L2.CX P w) P w K mg base ["_law_draws_here", "_law_a_tongue", "_law_heads_here", "_law_kind", "_law_deep", "_law_pick", "_law_part", "_law_way", "_law_other", "_law_inner_here", "_law_head"] "_law_term" (defScope s__law_term) T.f__law_term cdv A0 outer0 s0 H0 E0) (lamA le__law_term) (lamS le__law_term) c') (lamB le__law_term) ["_law_some"] ["_law_draws_here", "_law_a_tongue", "_law_heads_here", "_law_deep"] (spL K (Gm T d) 0 1 (lb__law_term S)) := by
    intro f c'
    refine lam_ok (N := ["_law_some", "_law_draws_here", "_law_a_tongue", "_law_heads_here", "_law_deep"]) lsc__law_term (fun _ _ us hl => match us, hl with | [_], _ => rfl) rfl rfl fun A o s H E hg hr => ?_
    have tk : Takes (ncx (L2.CX P w) P w K mg base ["_law_some", "_law_draws_here", "_law_a_tongue", "_law_heads_here", "_law_deep"] (lamF (cxOf (L2.CX P w) P w K mg base ["_law_draws_here", "_law_a_tongue", "_law_heads_here", "_law_kind", "_law_deep", "_law_pick", "_law_part", "_law_way", "_law_other", "_law_inner_here", "_law_head"] "_law_term" (defScope s__law_term) T.f__law_term cdv A0 outer0 s0 H0 E0) (lamA le__law_term) (lamS le__law_term) c') f A o s H E) (fun cls d _ H' => E cls d H') := takes_of rfl rfl rfl rfl
    exact ⟨fun _ _ _ => .lst [], fun _ => "", _, (pe_callG G.G__law_term hg (hr.mono (by omega)) (by rfl) T.g__law_term T.F__law_term.kp T.b__law_term (fun σ => passAt tk σ) (pa_cons (pv 1) (pa_cons (pv 2) (pa_cons (pv 3) (pa_cons (pv 0) (pa_cons (pe_op op_sub (pv 4) pe_int) pa_nil)))))), (se_call (sa_cons se_var (sa_cons se_var (sa_cons se_var (sa_cons se_var (sa_cons (se_op os_sub se_var se_int) sa_nil))))))⟩
  have HC : ∀ c', (lamF (cxOf (L2.CX P w) P w K mg base ["_law_draws_here", "_law_a_tongue", "_law_heads_here", "_law_kind", "_law_deep", "_law_pick", "_law_part", "_law_way", "_law_other", "_law_inner_here", "_law_head"] "_law_term" (defScope s__law_term) T.f__law_term cdv A0 outer0 s0 H0 E0) (lamA le__law_term) (lamS le__law_term) c').cl = cloFrom (cxOf (L2.CX P w) P w K mg base ["_law_draws_here", "_law_a_tongue", "_law_heads_here", "_law_kind", "_law_deep", "_law_pick", "_law_part", "_law_way", "_law_other", "_law_inner_here", "_law_head"] "_law_term" (defScope s__law_term) T.f__law_term cdv A0 outer0 s0 H0 E0).env.cells (lamS le__law_term).names [] := fun _ => rfl
  have CP : (cxOf (L2.CX P w) P w K mg base ["_law_draws_here", "_law_a_tongue", "_law_heads_here", "_law_kind", "_law_deep", "_law_pick", "_law_part", "_law_way", "_law_other", "_law_inner_here", "_law_head"] "_law_term" (defScope s__law_term) T.f__law_term cdv A0 outer0 s0 H0 E0).Ok → Caps (cxOf (L2.CX P w) P w K mg base ["_law_draws_here", "_law_a_tongue", "_law_heads_here", "_law_kind", "_law_deep", "_law_pick", "_law_part", "_law_way", "_law_other", "_law_inner_here", "_law_head"] "_law_term" (defScope s__law_term) T.f__law_term cdv A0 outer0 s0 H0 E0) (cloFrom (cxOf (L2.CX P w) P w K mg base ["_law_draws_here", "_law_a_tongue", "_law_heads_here", "_law_kind", "_law_deep", "_law_pick", "_law_part", "_law_way", "_law_other", "_law_inner_here", "_law_head"] "_law_term" (defScope s__law_term) T.f__law_term cdv A0 outer0 s0 H0 E0).env.cells (lamS le__law_term).names []) ["_law_draws_here", "_law_a_tongue", "_law_heads_here", "_law_deep"] [0, 1, 2, 4] := fun ok => Caps.made ok (ndef_free lnd__law_term) (ndef_fr lnd__law_term) rfl
  refine ⟨fun _ f c' => LmO f (lamF (cxOf (L2.CX P w) P w K mg base ["_law_draws_here", "_law_a_tongue", "_law_heads_here", "_law_kind", "_law_deep", "_law_pick", "_law_part", "_law_way", "_law_other", "_law_inner_here", "_law_head"] "_law_term" (defScope s__law_term) T.f__law_term cdv A0 outer0 s0 H0 E0) (lamA le__law_term) (lamS le__law_term) c') (lamB le__law_term), fun _ => "_law_term.<locals>.<lambda>", _, (pss_cons (ps_set (i := 5) sc__law_term.nd rfl (by first | exact .inl rfl | exact .inr rfl) (pe_callG G.G__law_next hg (hr.mono (by omega)) (by rfl) T.g__law_next T.F__law_next.kp T.b__law_next (fun σ => passAt tk σ) (pa_cons (pv 0) pa_nil)))
    (pss_cons (ps_if (PW.pt (pw_or (pt_cmpR op_lt (pv 4) pe_int (nomark _)) (pw_or1 (pt_cmpR (r := rEqX K) (op_eqX hr.units) (pe_op op_mod (pv 5) pe_int) pe_int (nomark _))))) (pss_one (ps_ret (pe_callG G.G__law_leaf hg (hr.mono (by omega)) (by rfl) T.g__law_leaf T.F__law_leaf.kp T.b__law_leaf (fun σ => passAt tk σ) (pa_cons (pv 0) (pa_cons (pv 1) (pa_cons (pv 2) (pa_cons (pv 3) pa_nil))))))) pss_nil)
    (pss_cons (ps_set (i := 6) sc__law_term.nd rfl (by first | exact .inl rfl | exact .inr rfl) (pe_lamb (T := (Gm T d).T) (nm := nm__law_term) TB hcode (memT T d) rfl (uniT T d) (ndef_free lnd__law_term) rfl))
    (pss_cons (ps_set (i := 7) sc__law_term.nd rfl (by first | exact .inl rfl | exact .inr rfl) (pe_op op_mod (pe_op op_fdiv (pv 5) pe_int) pe_int))
    (pss_cons (ps_if (pt_cmpR (r := rEqX K) (op_eqX hr.units) (pv 7) pe_int (nomark _)) (pss_one (ps_ret (pe_tup (pa_cons pe_str (pa_cons (pe_callL (js := [0, 1, 2, 4]) LA hg HC CP (hr.mono (by omega)) (fun σ => passAt tk σ) (i := 6) rfl (by first | exact .inl rfl | exact .inr (.inl rfl)) (pa_cons (pv 3) pa_nil)) (pa_cons (pe_callL (js := [0, 1, 2, 4]) LA hg HC CP (hr.mono (by omega)) (fun σ => passAt tk σ) (i := 6) rfl (by first | exact .inl rfl | exact .inr (.inl rfl)) (pa_cons (pv 3) pa_nil)) pa_nil)))))) pss_nil)
    (pss_cons (ps_if (pt_cmpR (r := rEqX K) (op_eqX hr.units) (pv 7) pe_int (nomark _)) (pss_one (ps_ret (pe_tup (pa_cons pe_str (pa_cons (pe_callG G.G__law_condition hg (hr.mono (by omega)) (by rfl) T.g__law_condition T.F__law_condition.kp T.b__law_condition (fun σ => passAt tk σ) (pa_cons (pv 0) (pa_cons (pv 1) (pa_cons (pv 2) (pa_cons (pe_op op_sub (pv 4) pe_int) pa_nil))))) (pa_cons (pe_callL (js := [0, 1, 2, 4]) LA hg HC CP (hr.mono (by omega)) (fun σ => passAt tk σ) (i := 6) rfl (by first | exact .inl rfl | exact .inr (.inl rfl)) (pa_cons (pv 3) pa_nil)) (pa_cons (pe_callL (js := [0, 1, 2, 4]) LA hg HC CP (hr.mono (by omega)) (fun σ => passAt tk σ) (i := 6) rfl (by first | exact .inl rfl | exact .inr (.inl rfl)) (pa_cons (pv 3) pa_nil)) pa_nil))))))) pss_nil)
    (pss_cons (ps_if (pt_cmpR (r := rEqX K) (op_eqX hr.units) (pv 7) pe_int (nomark _)) (pss_cons (ps_set (i := 8) sc__law_term.nd rfl (by first | exact .inl rfl | exact .inr rfl) (pe_ix (r := rIx K) ix_seq (pe_lst (pa_cons pe_str (pa_cons pe_str pa_nil))) (pe_op op_mod (pe_op op_fdiv (pv 5) pe_int) pe_int) (fun _ _ => rfl)))
    (pss_cons (ps_set (i := 9) sc__law_term.nd rfl (by first | exact .inl rfl | exact .inr rfl) (pe_op (r := rAddX K) op_addX (pe_lc (own := [("_law_head", 10)]) (g := gOf K (.one 10)) rfl sc__law_term.nd (pi_seq (pv 2)) (blkOk_by (own := [("_law_head", 10)]) (N := ["_law_draws_here", "_law_a_tongue", "_law_heads_here", "_law_kind", "_law_deep", "_law_pick", "_law_part", "_law_way", "_law_other", "_law_inner_here", "_law_head"]) (sc := defScope s__law_term) (by decide +kernel)) (fun _ _ _ _ _ => (pg_name (i := 10) sc__law_term.nd rfl (by first | exact .inl rfl | exact .inr rfl))) (fun _ _ _ _ _ => (pts_one (pt_cmpR (r := rNeX K) (op_neX hr.units) (pe_ix (r := rIx K) ix_seq (pv 10) pe_int (fun _ _ => rfl)) pe_str (nomark _)))) (fun _ _ _ _ _ => (pv 10))) (pe_lst (pa_cons (pe_tup (pa_cons pe_str (pa_cons (pv 8) pa_nil))) pa_nil))))
    (pss_one (ps_ret (pe_tup (pa_cons pe_str (pa_cons pe_str (pa_cons (pe_callL (js := [0, 1, 2, 4]) LA hg HC CP (hr.mono (by omega)) (fun σ => passAt tk σ) (i := 6) rfl (by first | exact .inl rfl | exact .inr (.inl rfl)) (pa_cons (pv 8) pa_nil)) (pa_cons (pe_callG G.G__law_term hg (hr.mono (by omega)) (by rfl) T.g__law_term T.F__law_term.kp T.b__law_term (fun σ => passAt tk σ) (pa_cons (pv 0) (pa_cons (pv 1) (pa_cons (pv 9) (pa_cons (pv 3) (pa_cons (pe_op op_sub (pv 4) pe_int) pa_nil)))))) pa_nil))))))))) pss_nil)
    (pss_cons (ps_if (PW.pt (pw_and (pt_cmpR (r := rEqX K) (op_eqX hr.units) (pv 7) pe_int (nomark _)) (pw_and1 (pt_cmpR (r := rEqX K) (op_eqX hr.units) (pv 1) pe_str (nomark _))))) (pss_one (ps_ret (pe_tup (pa_cons pe_str (pa_cons (pe_callL (js := [0, 1, 2, 4]) LA hg HC CP (hr.mono (by omega)) (fun σ => passAt tk σ) (i := 6) rfl (by first | exact .inl rfl | exact .inr (.inl rfl)) (pa_cons (pv 3) pa_nil)) (pa_cons (pe_callL (js := [0, 1, 2, 4]) LA hg HC CP (hr.mono (by omega)) (fun σ => passAt tk σ) (i := 6) rfl (by first | exact .inl rfl | exact .inr (.inl rfl)) (pa_cons (pv 3) pa_nil)) pa_nil)))))) pss_nil)
    (pss_cons (ps_if (pt_cmpR (r := rEqX K) (op_eqX hr.units) (pv 3) pe_str (nomark _)) (pss_cons (ps_if (pt_cmpR op_lt (pv 7) pe_int (nomark _)) (pss_one (ps_ret (pe_tup (pa_cons pe_str (pa_cons (pe_callL (js := [0, 1, 2, 4]) LA hg HC CP (hr.mono (by omega)) (fun σ => passAt tk σ) (i := 6) rfl (by first | exact .inl rfl | exact .inr (.inl rfl)) (pa_cons pe_str pa_nil)) (pa_cons (pe_callL (js := [0, 1, 2, 4]) LA hg HC CP (hr.mono (by omega)) (fun σ => passAt tk σ) (i := 6) rfl (by first | exact .inl rfl | exact .inr (.inl rfl)) (pa_cons pe_str pa_nil)) pa_nil)))))) pss_nil)
    (pss_one (ps_ret (pe_tup (pa_cons pe_str (pa_cons (pe_callL (js := [0, 1, 2, 4]) LA hg HC CP (hr.mono (by omega)) (fun σ => passAt tk σ) (i := 6) rfl (by first | exact .inl rfl | exact .inr (.inl rfl)) (pa_cons pe_str pa_nil)) (pa_cons (pe_callL (js := [0, 1, 2, 4]) LA hg HC CP (hr.mono (by omega)) (fun σ => passAt tk σ) (i := 6) rfl (by first | exact .inl rfl | exact .inr (.inl rfl)) (pa_cons pe_str pa_nil)) (pa_cons (pe_callL (js := [0, 1, 2, 4]) LA hg HC CP (hr.mono (by omega)) (fun σ => passAt tk σ) (i := 6) rfl (by first | exact .inl rfl | exact .inr (.inl rfl)) (pa_cons pe_str pa_nil)) pa_nil)))))))) pss_nil)
    (pss_cons (ps_if (pt_cmpR (r := rEqX K) (op_eqX hr.units) (pv 3) pe_str (nomark _)) (pss_one (ps_ret (pe_ix (r := rIx K) ix_seq (pe_lst (pa_cons (pe_tup (pa_cons pe_str (pa_cons (pe_callL (js := [0, 1, 2, 4]) LA hg HC CP (hr.mono (by omega)) (fun σ => passAt tk σ) (i := 6) rfl (by first | exact .inl rfl | exact .inr (.inl rfl)) (pa_cons pe_str pa_nil)) (pa_cons (pe_callL (js := [0, 1, 2, 4]) LA hg HC CP (hr.mono (by omega)) (fun σ => passAt tk σ) (i := 6) rfl (by first | exact .inl rfl | exact .inr (.inl rfl)) (pa_cons pe_str pa_nil)) pa_nil)))) (pa_cons (pe_tup (pa_cons pe_str (pa_cons (pe_callL (js := [0, 1, 2, 4]) LA hg HC CP (hr.mono (by omega)) (fun σ => passAt tk σ) (i := 6) rfl (by first | exact .inl rfl | exact .inr (.inl rfl)) (pa_cons pe_str pa_nil)) (pa_cons (pe_callL (js := [0, 1, 2, 4]) LA hg HC CP (hr.mono (by omega)) (fun σ => passAt tk σ) (i := 6) rfl (by first | exact .inl rfl | exact .inr (.inl rfl)) (pa_cons pe_str pa_nil)) pa_nil)))) pa_nil))) (pe_op op_mod (pv 7) pe_int) (fun _ _ => rfl)))) pss_nil)
    (pss_cons (ps_if (pt_cmpR (r := rEqX K) (op_eqX hr.units) (pv 7) pe_int (nomark _)) (pss_one (ps_ret (pe_tup (pa_cons pe_str (pa_cons (pe_callL (js := [0, 1, 2, 4]) LA hg HC CP (hr.mono (by omega)) (fun σ => passAt tk σ) (i := 6) rfl (by first | exact .inl rfl | exact .inr (.inl rfl)) (pa_cons pe_str pa_nil)) pa_nil))))) pss_nil)
    (pss_cons (ps_if (PW.pt (pw_and (pt_cmpR op_lt (pv 7) pe_int (nomark _)) (pw_and1 (pt_cmpR (r := rEqX K) (op_eqX hr.units) (pv 1) pe_str (nomark _))))) (pss_one (ps_ret (pe_ix (r := rIx K) ix_seq (pe_lst (pa_cons (pe_tup (pa_cons pe_str (pa_cons (pe_callL (js := [0, 1, 2, 4]) LA hg HC CP (hr.mono (by omega)) (fun σ => passAt tk σ) (i := 6) rfl (by first | exact .inl rfl | exact .inr (.inl rfl)) (pa_cons pe_str pa_nil)) (pa_cons (pe_callL (js := [0, 1, 2, 4]) LA hg HC CP (hr.mono (by omega)) (fun σ => passAt tk σ) (i := 6) rfl (by first | exact .inl rfl | exact .inr (.inl rfl)) (pa_cons pe_str pa_nil)) pa_nil)))) (pa_cons (pe_tup (pa_cons (pe_ix (r := rIx K) ix_seq (pe_lst (pa_cons pe_str (pa_cons pe_str (pa_cons pe_str pa_nil)))) (pe_op op_mod (pe_op op_fdiv (pv 5) pe_int) pe_int) (fun _ _ => rfl)) (pa_cons (pe_callL (js := [0, 1, 2, 4]) LA hg HC CP (hr.mono (by omega)) (fun σ => passAt tk σ) (i := 6) rfl (by first | exact .inl rfl | exact .inr (.inl rfl)) (pa_cons pe_str pa_nil)) pa_nil))) pa_nil))) (pe_op op_sub (pv 7) pe_int) (fun _ _ => rfl)))) pss_nil)
    (pss_one (ps_ret (pe_tup (pa_cons (pe_ix (r := rIx K) ix_seq (pe_lst (pa_cons pe_str (pa_cons pe_str (pa_cons pe_str (pa_cons pe_str (pa_cons pe_str pa_nil)))))) (pe_op op_mod (pe_op op_fdiv (pv 5) pe_int) pe_int) (fun _ _ => rfl)) (pa_cons (pe_callL (js := [0, 1, 2, 4]) LA hg HC CP (hr.mono (by omega)) (fun σ => passAt tk σ) (i := 6) rfl (by first | exact .inl rfl | exact .inr (.inl rfl)) (pa_cons pe_str pa_nil)) (pa_cons (pe_callL (js := [0, 1, 2, 4]) LA hg HC CP (hr.mono (by omega)) (fun σ => passAt tk σ) (i := 6) rfl (by first | exact .inl rfl | exact .inr (.inl rfl)) (pa_cons pe_str pa_nil)) pa_nil)))))))))))))))))), ?_⟩
  exact (ss_seq (ss_set (tg := .one 5) (se_call (sa_cons se_var sa_nil)))
    (ss_seq (ss_if (st_or (st_test (se_op os_B0 se_var se_int)) (st_test (se_op os_eqX (se_op os_mod se_var se_int) se_int))) (ss_ret (se_call (sa_cons se_var (sa_cons se_var (sa_cons se_var (sa_cons se_var sa_nil)))))) ss_next)
    (ss_seq (ss_lam (k := 0) (memT T d) (fun _ _ => rfl) (fun _ => rfl))
    (ss_seq (ss_set (tg := .one 7) (se_op os_mod (se_op os_fdiv se_var se_int) se_int))
    (ss_seq (ss_if (st_test (se_op os_eqX se_var se_int)) (ss_ret (se_tup (sa_cons se_str (sa_cons (se_callL (k := 0) (fun _ _ => rfl) (fun _ => rfl) (fun _ => rfl) (sa_cons se_var sa_nil)) (sa_cons (se_callL (k := 0) (fun _ _ => rfl) (fun _ => rfl) (fun _ => rfl) (sa_cons se_var sa_nil)) sa_nil))))) ss_next)
    (ss_seq (ss_if (st_test (se_op os_eqX se_var se_int)) (ss_ret (se_tup (sa_cons se_str (sa_cons (se_call (sa_cons se_var (sa_cons se_var (sa_cons se_var (sa_cons (se_op os_sub se_var se_int) sa_nil))))) (sa_cons (se_callL (k := 0) (fun _ _ => rfl) (fun _ => rfl) (fun _ => rfl) (sa_cons se_var sa_nil)) (sa_cons (se_callL (k := 0) (fun _ _ => rfl) (fun _ => rfl) (fun _ => rfl) (sa_cons se_var sa_nil)) sa_nil)))))) ss_next)
    (ss_seq (ss_if (st_test (se_op os_eqX se_var se_int)) (ss_seq (ss_set (tg := .one 8) (se_op os_ix (se_lst (sa_cons se_str (sa_cons se_str sa_nil))) (se_op os_mod (se_op os_fdiv se_var se_int) se_int)))
    (ss_seq (ss_set (tg := .one 9) (se_op os_addX (se_lc (tg := (.one 10)) (si_seq se_var) (st_test (se_op os_neX (se_op os_ix se_var se_int) se_str)) se_var) (se_lst (sa_cons (se_tup (sa_cons se_str (sa_cons se_var sa_nil))) sa_nil))))
    (ss_ret (se_tup (sa_cons se_str (sa_cons se_str (sa_cons (se_callL (k := 0) (fun _ _ => rfl) (fun _ => rfl) (fun _ => rfl) (sa_cons se_var sa_nil)) (sa_cons (se_call (sa_cons se_var (sa_cons se_var (sa_cons se_var (sa_cons se_var (sa_cons (se_op os_sub se_var se_int) sa_nil)))))) sa_nil)))))))) ss_next)
    (ss_seq (ss_if (st_and (st_test (se_op os_eqX se_var se_int)) (st_test (se_op os_eqX se_var se_str))) (ss_ret (se_tup (sa_cons se_str (sa_cons (se_callL (k := 0) (fun _ _ => rfl) (fun _ => rfl) (fun _ => rfl) (sa_cons se_var sa_nil)) (sa_cons (se_callL (k := 0) (fun _ _ => rfl) (fun _ => rfl) (fun _ => rfl) (sa_cons se_var sa_nil)) sa_nil))))) ss_next)
    (ss_seq (ss_if (st_test (se_op os_eqX se_var se_str)) (ss_seq (ss_if (st_test (se_op os_B0 se_var se_int)) (ss_ret (se_tup (sa_cons se_str (sa_cons (se_callL (k := 0) (fun _ _ => rfl) (fun _ => rfl) (fun _ => rfl) (sa_cons se_str sa_nil)) (sa_cons (se_callL (k := 0) (fun _ _ => rfl) (fun _ => rfl) (fun _ => rfl) (sa_cons se_str sa_nil)) sa_nil))))) ss_next)
    (ss_ret (se_tup (sa_cons se_str (sa_cons (se_callL (k := 0) (fun _ _ => rfl) (fun _ => rfl) (fun _ => rfl) (sa_cons se_str sa_nil)) (sa_cons (se_callL (k := 0) (fun _ _ => rfl) (fun _ => rfl) (fun _ => rfl) (sa_cons se_str sa_nil)) (sa_cons (se_callL (k := 0) (fun _ _ => rfl) (fun _ => rfl) (fun _ => rfl) (sa_cons se_str sa_nil)) sa_nil))))))) ss_next)
    (ss_seq (ss_if (st_test (se_op os_eqX se_var se_str)) (ss_ret (se_op os_ix (se_lst (sa_cons (se_tup (sa_cons se_str (sa_cons (se_callL (k := 0) (fun _ _ => rfl) (fun _ => rfl) (fun _ => rfl) (sa_cons se_str sa_nil)) (sa_cons (se_callL (k := 0) (fun _ _ => rfl) (fun _ => rfl) (fun _ => rfl) (sa_cons se_str sa_nil)) sa_nil)))) (sa_cons (se_tup (sa_cons se_str (sa_cons (se_callL (k := 0) (fun _ _ => rfl) (fun _ => rfl) (fun _ => rfl) (sa_cons se_str sa_nil)) (sa_cons (se_callL (k := 0) (fun _ _ => rfl) (fun _ => rfl) (fun _ => rfl) (sa_cons se_str sa_nil)) sa_nil)))) sa_nil))) (se_op os_mod se_var se_int))) ss_next)
    (ss_seq (ss_if (st_test (se_op os_eqX se_var se_int)) (ss_ret (se_tup (sa_cons se_str (sa_cons (se_callL (k := 0) (fun _ _ => rfl) (fun _ => rfl) (fun _ => rfl) (sa_cons se_str sa_nil)) sa_nil)))) ss_next)
    (ss_seq (ss_if (st_and (st_test (se_op os_B0 se_var se_int)) (st_test (se_op os_eqX se_var se_str))) (ss_ret (se_op os_ix (se_lst (sa_cons (se_tup (sa_cons se_str (sa_cons (se_callL (k := 0) (fun _ _ => rfl) (fun _ => rfl) (fun _ => rfl) (sa_cons se_str sa_nil)) (sa_cons (se_callL (k := 0) (fun _ _ => rfl) (fun _ => rfl) (fun _ => rfl) (sa_cons se_str sa_nil)) sa_nil)))) (sa_cons (se_tup (sa_cons (se_op os_ix (se_lst (sa_cons se_str (sa_cons se_str (sa_cons se_str sa_nil)))) (se_op os_mod (se_op os_fdiv se_var se_int) se_int)) (sa_cons (se_callL (k := 0) (fun _ _ => rfl) (fun _ => rfl) (fun _ => rfl) (sa_cons se_str sa_nil)) sa_nil))) sa_nil))) (se_op os_sub se_var se_int))) ss_next)
    (ss_ret (se_tup (sa_cons (se_op os_ix (se_lst (sa_cons se_str (sa_cons se_str (sa_cons se_str (sa_cons se_str (sa_cons se_str sa_nil)))))) (se_op os_mod (se_op os_fdiv se_var se_int) se_int)) (sa_cons (se_callL (k := 0) (fun _ _ => rfl) (fun _ => rfl) (fun _ => rfl) (sa_cons se_str sa_nil)) (sa_cons (se_callL (k := 0) (fun _ _ => rfl) (fun _ => rfl) (fun _ => rfl) (sa_cons se_str sa_nil)) sa_nil)))))))))))))))))
end
end K10
set_option Elab.async false
set_option linter.all false
set_option maxRecDepth 100000
set_option maxHeartbeats 2000000
/-! Steps for errors, objects, chains (Stp). -/
namespace DM
open PySem L2
section
variable {ρ ρ' : En} {s : DS} {E : Xn → DS → Prop} {P : D → DS → Prop} {a b c e : En → M D} {ms : En → M (List D)} {f g : D → D → Option D} {R : Res → DS → Prop} {m n m1 m2 : S} {Q : D → Prop} {d : D} {ds xs ys : List D} {i j : Nat}
theorem wp_chain (h : Wp (a ρ s) E fun x s1 => Wp (b ρ s1) E fun y s2 => WO (f x y) fun z => ∃ k, z = .bl k ∧ ((k = true → Wp (c ρ s2) E fun w s3 => WO (g y w) fun z => P z s3) ∧ (k = false → P (.bl false) s2))) : Wp (eChain f g a b c ρ s) E P := by
  refine wp_bx (h.mono fun x s1 h => wp_bx (h.mono fun y s2 h => ?_))
  obtain ⟨z, e1, k, rfl, h1, h2⟩ := h
  rw [e1]
  cases k with
  | true => exact wp_bx ((h1 rfl).mono fun _ _ h => wp_ox h)
  | false => exact wp_ok (h2 rfl)
instance : Stp (Wp (eChain f g a b c ρ s) E P) (Wp (a ρ s) E fun x s1 => Wp (b ρ s1) E fun y s2 => WO (f x y) fun z => ∃ k, z = .bl k ∧ ((k = true → Wp (c ρ s2) E fun w s3 => WO (g y w) fun z => P z s3) ∧ (k = false → P (.bl false) s2))) := ⟨wp_chain⟩
instance : Stp (Wp (eNotV a ρ s) E P) (Wp (a ρ s) E fun x s1 => ∃ k, x = .bl k ∧ P (.bl (!k)) s1) := ⟨fun h => wp_bx (h.mono fun x s1 ⟨k, e, h⟩ => by subst e; exact wp_ok h)⟩
instance {cl : Str} {ns : List Str} : Stp (Wp (eMk cl ns ms ρ s) E P) (Wp (ms ρ s) E fun xs s1 => xs.length = ns.length ∧ P (.obj cl ns xs) s1) := ⟨fun h => wp_bx (h.mono fun x s1 h => by rw [if_pos h.1]; exact wp_ok h.2)⟩
theorem wp_wget {tbl : List (Str × D)} {miss : List Str} (h : Wp (a ρ s) E fun x s1 => Wp (b ρ s1) E fun y s2 => ∃ k, x = .str k ∧ WO (match tbl.lookup k with | some d => some d | none => if k ∈ miss then some y else none) fun z => P z s2) : Wp (wGet tbl miss a b ρ s) E P := by
  refine wp_bx (h.mono fun x s1 h => wp_bx (h.mono fun y s2 h => ?_))
  obtain ⟨k, rfl, z, e1, p⟩ := h
  dsimp only
  cases hl : tbl.lookup k with
  | some d =>
    rw [hl] at e1
    cases e1
    exact wp_ok p
  | none =>
    rw [hl] at e1
    dsimp only at e1 ⊢
    split at e1
    · rename_i hm
      cases e1
      rw [if_pos hm]
      exact wp_ok p
    · cases e1
instance {tbl : List (Str × D)} {miss : List Str} : Stp (Wp (wGet tbl miss a b ρ s) E P) (Wp (a ρ s) E fun x s1 => Wp (b ρ s1) E fun y s2 => ∃ k, x = .str k ∧ WO (match tbl.lookup k with | some d => some d | none => if k ∈ miss then some y else none) fun z => P z s2) := ⟨wp_wget⟩
instance : Stp (Wp (eGet2 a b c ρ s) E P) (Wp (a ρ s) E fun x s1 => ∃ ks ds, x = .dic ks ds ∧ Wp (b ρ s1) E fun y s2 => Wp (c ρ s2) E fun z s3 => ∃ k, y = .str k ∧ P ((getD ks ds k).getD z) s3) := ⟨fun h => wp_bx (h.mono fun x s1 ⟨ks, ds, e, h⟩ => by
  subst e
  exact wp_bx (h.mono fun y s2 h => wp_bx (h.mono fun z s3 h => by
    obtain ⟨k, e, hq⟩ := h
    subst e
    exact wp_ok hq)))⟩
instance {ks : List Str} {k : List Str → List D → Prop} : Stp (∃ u v, D.dic ks ds = D.dic u v ∧ k u v) (k ks ds) := ⟨fun q => ⟨ks, ds, rfl, q⟩⟩
theorem wr_raise {cl : Str} {ns : List Str} (h : Wp (ms ρ s) (fun x s => R (.er ρ x) s) fun xs s1 => (xs.length = ns.length ∧ ns.length ≤ 900) ∧ R (.er ρ ⟨cl, ns, xs⟩) s1) : Wr (sRaise cl ns ms ρ s) R := wr_bs (h.mono fun x s1 h => by rw [if_pos h.1]; exact wr_some h.2)
instance {cl : Str} {ns : List Str} : Stp (Wr (sRaise cl ns ms ρ s) R) (Wp (ms ρ s) (fun x s => R (.er ρ x) s) fun xs s1 => (xs.length = ns.length ∧ ns.length ≤ 900) ∧ R (.er ρ ⟨cl, ns, xs⟩) s1) := ⟨wr_raise⟩
/-- what stands behind a try -/
def tryR (mt : Mt) (mh : S) (R : Res → DS → Prop) : Res → DS → Prop
  | .er ρ' x', s1 => WO (mt x'.c) fun b => (b = true → Wr (mh ρ' s1) R) ∧ (b = false → R (.er ρ' x') s1)
  | r, s1 => R r s1
theorem wr_try {mt : Mt} (h : Wr (m ρ s) (tryR mt n R)) : Wr (sTry mt m n ρ s) R := by
  obtain ⟨r, s1, e1, h⟩ := h
  unfold sTry
  rw [e1]
  cases r with
  | er ρ' x =>
    obtain ⟨b, e2, h1, h2⟩ := h
    show Wr ((mt x.c).bind fun b => if b = true then n ρ' s1 else some (.er ρ' x, s1)) R
    rw [e2]
    cases b with
    | true => exact h1 rfl
    | false => exact wr_some (h2 rfl)
  | nx ρ' => exact wr_some h
  | rt d => exact wr_some h
  | bk d => exact wr_some h
  | ct d => exact wr_some h
instance {mt : Mt} : Stp (Wr (sTry mt m n ρ s) R) (Wr (m ρ s) (tryR mt n R)) := ⟨wr_try⟩
instance {mt : Mt} : Stp (tryR mt n R (.nx ρ) s) (R (.nx ρ) s) := ⟨fun h => h⟩
instance {mt : Mt} : Stp (tryR mt n R (.rt d) s) (R (.rt d) s) := ⟨fun h => h⟩
instance {mt : Mt} {x : Xn} : Stp (tryR mt n R (.er ρ x) s) (WO (mt x.c) fun b => (b = true → Wr (n ρ s) R) ∧ (b = false → R (.er ρ x) s)) := ⟨fun h => h⟩
def tryK (mt : Mt) (i j : Nat) (R : Res → DS → Prop) : Res → DS → Prop
  | .er ρ' x', s1 => WO (mt x'.c) fun b => (b = true → (x'.ns ≠ [] ∧ i < ρ'.length) ∧ R (.nx ((ρ'.set j (.val (.exc x'.c x'.ns x'.xs))).set i .no)) s1) ∧ (b = false → R (.er ρ' x') s1)
  | r, s1 => R r s1
theorem wr_tryK {mt : Mt} (h : Wr (m ρ s) (tryK mt i j R)) : Wr (sTryK mt i j m ρ s) R := by
  obtain ⟨r, s1, e1, h⟩ := h
  unfold sTryK
  rw [e1]
  cases r with
  | er ρ' x =>
    obtain ⟨b, e2, h1, h2⟩ := h
    show Wr ((mt x.c).bind fun b => if b = true then (if x.ns ≠ [] ∧ i < ρ'.length then some (.nx ((ρ'.set j (.val (.exc x.c x.ns x.xs))).set i .no), s1) else none) else some (.er ρ' x, s1)) R
    rw [e2]
    cases b with
    | true =>
      show Wr (if x.ns ≠ [] ∧ i < ρ'.length then some (.nx ((ρ'.set j (.val (.exc x.c x.ns x.xs))).set i .no), s1) else none) R
      rw [if_pos (h1 rfl).1]
      exact wr_some (h1 rfl).2
    | false => exact wr_some (h2 rfl)
  | nx ρ' => exact wr_some h
  | rt d => exact wr_some h
  | bk d => exact wr_some h
  | ct d => exact wr_some h
instance {mt : Mt} : Stp (Wr (sTryK mt i j m ρ s) R) (Wr (m ρ s) (tryK mt i j R)) := ⟨wr_tryK⟩
instance {mt : Mt} : Stp (tryK mt i j R (.nx ρ) s) (R (.nx ρ) s) := ⟨fun h => h⟩
instance {mt : Mt} : Stp (tryK mt i j R (.rt d) s) (R (.rt d) s) := ⟨fun h => h⟩
class LtL (ρ : En) (i : Nat) : Prop where
  lt : i < ρ.length
instance {y : Sl} : LtL (y :: ρ) 0 := ⟨Nat.zero_lt_succ _⟩
instance {y : Sl} [h : LtL ρ i] : LtL (y :: ρ) (i + 1) := ⟨Nat.succ_lt_succ h.lt⟩
instance {mt : Mt} {cl n1 : Str} {ns : List Str} {ρ1 ρ2 : En} [h1 : SetL ρ j (.val (.exc cl (n1 :: ns) xs)) ρ1] [h2 : SetL ρ1 i .no ρ2] [h3 : LtL ρ i] : Stp (tryK mt i j R (.er ρ ⟨cl, n1 :: ns, xs⟩) s) (WO (mt cl) fun b => (b = true → R (.nx ρ2) s) ∧ (b = false → R (.er ρ ⟨cl, n1 :: ns, xs⟩) s)) := ⟨fun h => by
  obtain ⟨b, e, q1, q2⟩ := h
  refine ⟨b, e, fun k => ⟨⟨by simp, h3.lt⟩, ?_⟩, q2⟩
  dsimp only
  rw [h1.eq, h2.eq]
  exact q1 k⟩
theorem wp_fnZ {k : Nat} [h : Ev0 k ds ρ] (g : Wr (m ρ s) fun r s' => retR E P r s' ∨ ∃ ρ', r = .nx ρ' ∧ P .non s') : Wp (fnDz true k m ds s) E P := by
  obtain ⟨r, s1, e1, g⟩ := g
  show Wp (fnR true (m (env0 k ds) s)) E P
  rw [h.eq, e1]
  cases r with
  | rt d => exact wp_ok (g.elim id (fun ⟨_, e, _⟩ => nomatch e))
  | nx d => exact wp_ok (g.elim (fun h => h.elim) (fun ⟨_, _, p⟩ => p))
  | bk d => exact g.elim (fun h => h.elim) (fun ⟨_, e, _⟩ => nomatch e)
  | ct d => exact g.elim (fun h => h.elim) (fun ⟨_, e, _⟩ => nomatch e)
  | er d x => exact .inr ⟨x, s1, rfl, g.elim id (fun ⟨_, e, _⟩ => nomatch e)⟩
/-- what a def that may end without return leaves -/
def retZ (E : Xn → DS → Prop) (P : D → DS → Prop) : Res → DS → Prop
  | .rt d, s => P d s
  | .nx _, s => P .non s
  | .er _ x, s => E x s
  | _, _ => False
instance : Stp (retZ E P (.rt d) s) (P d s) := ⟨fun h => h⟩
instance : Stp (retZ E P (.nx ρ) s) (P .non s) := ⟨fun h => h⟩
instance {x : Xn} : Stp (retZ E P (.er ρ x) s) (E x s) := ⟨fun h => h⟩
theorem wp_fnZL {k : Nat} [h : Ev0 k ds ρ] (g : Wr (m ρ s) (retZ E P)) : Wp (fnDz true k m ds s) E P := by
  obtain ⟨r, s1, e1, g⟩ := g
  show Wp (fnR true (m (env0 k ds) s)) E P
  rw [h.eq, e1]
  cases r with
  | rt d => exact wp_ok g
  | nx d => exact wp_ok g
  | bk d => exact g.elim
  | ct d => exact g.elim
  | er d x => exact .inr ⟨x, s1, rfl, g⟩
instance {F : List D → M D} {r1 : D → En} {k l : Nat} [h0 : Lk ρ k (.own (.lst ds))] [h : ∀ x, SetL ρ i (.val x) (r1 x)] : Stp (Wr (sSetC3 i k l F a b ρ s) R) (Wp (a ρ s) (fun x s => R (.er ρ x) s) fun x s1 => Wp (b ρ s1) (fun x s => R (.er ρ x) s) fun y s2 => WO ds[l]? fun d => Wp (F [x, y, d] s2) (fun x s => R (.er ρ x) s) fun z s3 => R (.nx (r1 z)) s3) := ⟨fun g => wr_bs (g.mono fun x s1 g => wr_bs (g.mono fun y s2 ⟨d, e, g⟩ => by
  rw [h0.eq]
  dsimp only
  rw [e]
  exact wr_bs (g.mono fun z s3 g => ⟨_, s3, rfl, by rw [(h z).eq]; exact g⟩)))⟩
instance {x : D} : Stp (WO (x :: xs)[0]? Q) (Q x) := ⟨fun h => ⟨_, rfl, h⟩⟩
instance {ks : List Str} : Stp (WO (bListK [.dic ks xs]) Q) (Q (.lst (ks.map D.str))) := ⟨fun h => ⟨_, rfl, h⟩⟩
instance {i : Int} : Stp (WO (isF "int" (.int i)) Q) (Q (.bl true)) := ⟨fun h => ⟨_, rfl, h⟩⟩
instance {i : Int} : Stp (WO (isF "bool" (.int i)) Q) (Q (.bl false)) := ⟨fun h => ⟨_, rfl, h⟩⟩
instance {i : Str} : Stp (WO (isF "str" (.str i)) Q) (Q (.bl true)) := ⟨fun h => ⟨_, rfl, h⟩⟩
instance : Stp (WO (isF "tuple" (.tup xs)) Q) (Q (.bl true)) := ⟨fun h => ⟨_, rfl, h⟩⟩
instance : Stp (WO (isF "list" (.lst xs)) Q) (Q (.bl true)) := ⟨fun h => ⟨_, rfl, h⟩⟩
instance {bs : List Bool} [h : Bls xs bs] : Stp (WO (bAll [.lst xs]) Q) (Q (.bl (bs.all id))) := ⟨fun q => ⟨_, by show (boolsD xs).map _ = _; rw [h.eq]; rfl, q⟩⟩
instance {A : Prop} {ns : List Str} {k : Nat} [h : LenIs xs k] : Stp ((xs.length = ns.length ∧ ns.length ≤ 900) ∧ A) ((k = ns.length ∧ ns.length ≤ 900) ∧ A) := ⟨fun q => ⟨⟨h.eq.trans q.1.1, q.1.2⟩, q.2⟩⟩
end
/-! ### displays -/
section
variable {ρ : En} {s : DS} {E : Xn → DS → Prop} {P : D → DS → Prop} {QL : List D → DS → Prop} {a : En → M D} {k : Str} {r : List (Str × (En → M D))}
instance : Stp (Wp (eDic r ρ s) E P) (Wp (eDisp r ρ s) E fun xs s1 => WO (mkD (r.map (·.1)) xs) fun z => P z s1) := ⟨fun h => wp_bx (h.mono fun _ _ h => wp_ox h)⟩
instance : Stp (Wp (eDisp [] ρ s) E QL) (QL [] s) := ⟨wp_ok⟩
instance : Stp (Wp (eDisp ((k, a) :: r) ρ s) E QL) (Wp (a ρ s) E fun x s1 => Wp (eDisp r ρ s1) E fun y s2 => QL (x :: y) s2) := ⟨fun h => wp_bx (h.mono fun _ _ h => wp_bx (h.mono fun _ _ h => wp_ok h))⟩
end
/-! ### calls whose result is known -/
theorem wp_eq {α : Type} {x : Option (Except Xn α × DS)} {a : α} {s : DS} {E : Xn → DS → Prop} {P : α → DS → Prop} (e : x = some (.ok a, s)) (h : P a s) : Wp x E P := by rw [e]; exact wp_ok h
theorem eq_wp {α : Type} {x : Option (Except Xn α × DS)} {a : α} {s : DS} (h : Wp x nE fun b s' => b = a ∧ s' = s) : x = some (.ok a, s) := by
  rcases h with ⟨b, s', e, rfl, rfl⟩ | ⟨_, _, _, h⟩
  · exact e
  · exact h.elim
theorem wp_er {α : Type} {x : Option (Except Xn α × DS)} {e : Xn} {s : DS} {E : Xn → DS → Prop} {P : α → DS → Prop} (h : x = some (.error e, s)) (q : E e s) : Wp x E P := .inr ⟨e, s, h, q⟩
theorem er_wp {α : Type} {x : Option (Except Xn α × DS)} {e : Xn} {s : DS} (h : Wp x (fun e' s' => e' = e ∧ s' = s) fun _ _ => False) : x = some (.error e, s) := by
  rcases h with ⟨b, s', e, h⟩ | ⟨_, _, h, rfl, rfl⟩
  · exact h.elim
  · exact h
end DM
set_option Elab.async false
set_option linter.all false
set_option maxRecDepth 100000
set_option maxHeartbeats 4000000
/-! The plain law of k10: terms and conditions as a tree. -/
namespace K10
open PySem L2 Lay DM
inductive Kd where
  | number | text | day
def Kd.s : Kd → Str
  | .number => "number"
  | .text => "text"
  | .day => "day"
inductive W0 where
  | yes | no
inductive W1 where
  | size | year | month | daily | is_blank | not
inductive W2 where
  | plus | minus | times | over | rest | joined | or_else | months | later | days | blank_if | same | less | begins | and | or
inductive W3 where
  | part | ite
def W0.s : W0 → Str
  | .yes => "yes"
  | .no => "no"
def W1.s : W1 → Str
  | .size => "size"
  | .year => "year"
  | .month => "month"
  | .daily => "daily"
  | .is_blank => "is_blank"
  | .not => "not"
def W2.s : W2 → Str
  | .plus => "plus"
  | .minus => "minus"
  | .times => "times"
  | .over => "over"
  | .rest => "rest"
  | .joined => "joined"
  | .or_else => "or_else"
  | .months => "months"
  | .later => "later"
  | .days => "days"
  | .blank_if => "blank_if"
  | .same => "same"
  | .less => "less"
  | .begins => "begins"
  | .and => "and"
  | .or => "or"
def W3.s : W3 → Str
  | .part => "part"
  | .ite => "if"
inductive Tm where
  | col (x : Str)
  | num (i : Int)
  | text (z : Str)
  | blank (k : Kd)
  | date (y m d : Int)
  | lt (x : Str) (a b : Tm)
  | n0 (w : W0)
  | n1 (w : W1) (a : Tm)
  | n2 (w : W2) (a b : Tm)
  | n3 (w : W3) (a b c : Tm)
def en : Tm → D
  | .col x => .tup [.str "col", .str x]
  | .num i => .tup [.str "num", .int i]
  | .text z => .tup [.str "text", .str z]
  | .blank k => .tup [.str "blank", .str k.s]
  | .date y m d => .tup [.str "date", .int y, .int m, .int d]
  | .lt x a b => .tup [.str "let", .str x, en a, en b]
  | .n0 w => .tup [.str w.s]
  | .n1 w a => .tup [.str w.s, en a]
  | .n2 w a b => .tup [.str w.s, en a, en b]
  | .n3 w a b c => .tup [.str w.s, en a, en b, en c]
def ps : Tm → List Tm
  | .lt _ a b => [a, b]
  | .n1 _ a => [a]
  | .n2 _ a b => [a, b]
  | .n3 _ a b c => [a, b, c]
  | _ => []
def plc : Tm → List D
  | .lt _ _ _ => [.int 2, .int 3]
  | .n1 _ _ => [.int 1]
  | .n2 _ _ _ => [.int 1, .int 2]
  | .n3 _ _ _ _ => [.int 1, .int 2, .int 3]
  | _ => []
def ht : Tm → Nat
  | .lt _ a b => max (ht a) (ht b) + 1
  | .n1 _ a => ht a + 1
  | .n2 _ a b => max (ht a) (ht b) + 1
  | .n3 _ a b c => max (ht a) (max (ht b) (ht c)) + 1
  | _ => 1
theorem ht_ps {t u : Tm} (h : u ∈ ps t) : ht u < ht t := by
  cases t <;> simp [ps] at h
  · rcases h with rfl | rfl <;> simp only [ht] <;> omega
  · subst h; simp only [ht]; omega
  · rcases h with rfl | rfl <;> simp only [ht] <;> omega
  · rcases h with rfl | rfl | rfl <;> simp only [ht] <;> omega
theorem ht_pos (t : Tm) : 1 ≤ ht t := by cases t <;> simp [ht]
/-! ### what kinds the words take -/
def sg1 : W1 → Option (Kd × Kd)
  | .size => some (.number, .text)
  | .year => some (.number, .day)
  | .month => some (.number, .day)
  | .daily => some (.number, .day)
  | _ => none
def sg2 : W2 → Option (Kd × Kd × Kd)
  | .plus => some (.number, .number, .number)
  | .minus => some (.number, .number, .number)
  | .times => some (.number, .number, .number)
  | .over => some (.number, .number, .number)
  | .rest => some (.number, .number, .number)
  | .joined => some (.text, .text, .text)
  | .months => some (.day, .day, .number)
  | .later => some (.day, .day, .number)
  | .days => some (.number, .day, .day)
  | _ => none
/-- words of hill alone -/
def hl1 : W1 → Bool
  | .year => true
  | .month => true
  | .daily => true
  | _ => false
def hl2 : W2 → Bool
  | .months => true
  | .later => true
  | .days => true
  | .blank_if => true
  | _ => false
abbrev Gk := Str → Option Kd
def Gk.up (g : Gk) (x : Str) (k : Kd) : Gk := fun y => if y = x then some k else g y
/-- a name as the law draws it -/
def Nm (x : Str) : Prop := x = "a" ∨ x = "b" ∨ x = "c"
inductive TT (h : Bool) : Gk → Option Kd → Tm → Prop
  | col {g : Gk} {x : Str} {k : Kd} : g x = some k → Nm x → TT h g (some k) (.col x)
  | num {g : Gk} {i : Int} : TT h g (some .number) (.num i)
  | text {g : Gk} {z : Str} : PyData.strOk z = true → (h = false → z ≠ "") → TT h g (some .text) (.text z)
  | blank {g : Gk} {k : Kd} : (h = false → k ≠ .day) → TT h g (some k) (.blank k)
  | date {g : Gk} {y m d : Int} : h = true → 1 ≤ m → m ≤ 12 → 1 ≤ d → d ≤ 28 → TT h g (some .day) (.date y m d)
  | lt {g : Gk} {x : Str} {k1 k : Kd} {a b : Tm} : Nm x → TT h g (some k1) a → TT h (g.up x k1) (some k) b → TT h g (some k) (.lt x a b)
  | n0 {g : Gk} {w : W0} : TT h g none (.n0 w)
  | n1 {g : Gk} {w : W1} {r k : Kd} {a : Tm} : sg1 w = some (r, k) → (hl1 w = true → h = true) → TT h g (some k) a → TT h g (some r) (.n1 w a)
  | isb {g : Gk} {k : Kd} {a : Tm} : TT h g (some k) a → TT h g none (.n1 .is_blank a)
  | not {g : Gk} {a : Tm} : TT h g none a → TT h g none (.n1 .not a)
  | n2 {g : Gk} {w : W2} {r k1 k2 : Kd} {a b : Tm} : sg2 w = some (r, k1, k2) → (hl2 w = true → h = true) → TT h g (some k1) a → TT h g (some k2) b → TT h g (some r) (.n2 w a b)
  | oe {g : Gk} {k : Kd} {a b : Tm} : TT h g (some k) a → TT h g (some k) b → TT h g (some k) (.n2 .or_else a b)
  | bi {g : Gk} {k : Kd} {a b : Tm} : h = true → TT h g (some k) a → TT h g (some k) b → TT h g (some k) (.n2 .blank_if a b)
  | same {g : Gk} {k : Kd} {a b : Tm} : TT h g (some k) a → TT h g (some k) b → TT h g none (.n2 .same a b)
  | less {g : Gk} {k : Kd} {a b : Tm} : TT h g (some k) a → TT h g (some k) b → TT h g none (.n2 .less a b)
  | begins {g : Gk} {a b : Tm} : TT h g (some .text) a → TT h g (some .text) b → TT h g none (.n2 .begins a b)
  | and {g : Gk} {a b : Tm} : TT h g none a → TT h g none b → TT h g none (.n2 .and a b)
  | or {g : Gk} {a b : Tm} : TT h g none a → TT h g none b → TT h g none (.n2 .or a b)
  | part {g : Gk} {a b c : Tm} : TT h g (some .text) a → TT h g (some .number) b → TT h g (some .number) c → TT h g (some .text) (.n3 .part a b c)
  | ite {g : Gk} {k : Kd} {a b c : Tm} : TT h g none a → TT h g (some k) b → TT h g (some k) c → TT h g (some k) (.n3 .ite a b c)
/-! ### places, parts -/
theorem f_places {n : Nat} {s : DS} (t : Tm) : sem (n + 1) 6 [en t] s = some (.ok (.tup (plc t)), s) := by
  cases t with
  | n0 w => cases w <;> rfl
  | n1 w a => cases w <;> rfl
  | n2 w a b => cases w <;> rfl
  | n3 w a b c => cases w <;> rfl
  | _ => rfl
theorem f_parts {n : Nat} {s : DS} (t : Tm) : sem (n + 2) 7 [en t] s = some (.ok (.lst ((ps t).map en)), s) := by
  cases t with
  | n0 w => cases w <;> rfl
  | n1 w a => cases w <;> rfl
  | n2 w a b => cases w <;> rfl
  | n3 w a b c => cases w <;> rfl
  | _ => rfl
end K10
set_option Elab.async false
set_option linter.all false
set_option maxRecDepth 100000
set_option maxHeartbeats 4000000
namespace K10
open PySem L2 Lay DM
local macro_rules
  | `(tactic| array_get_dec) => `(tactic| first
    | with_reducible refine Stp.go ?_
    | (with_reducible refine wo_mod ?_ ?_; focus (first | decide | omega))
    | (with_reducible refine wo_div ?_ ?_; focus (first | decide | omega))
    | with_reducible refine wo_pow19 ?_
    | (with_reducible refine wo_pow ?_ ?_; focus decide)
    | (with_reducible refine wo_mulX ?_ ?_; focus (first | (left; decide) | (right; decide) | (left; omega) | (right; omega))))
local macro_rules
  | `(tactic| array_mem_dec) => `(tactic| first
    | (with_reducible refine sp_T ?_ ?_; focus (first | rfl | decide))
    | (with_reducible refine sp_F ?_ ?_; focus (first | rfl | decide)))
def tg (h : Bool) : Str := if h then "hill" else "dale"
theorem f_inner {n : Nat} {s : DS} (t : Tm) : sem (n + 2) 26 [en t] s = some (.ok (.lst ((ps t).map en)), s) := by
  cases t with
  | n0 w => cases w <;> rfl
  | n1 w a => cases w <;> rfl
  | n2 w a b => cases w <;> rfl
  | n3 w a b c => cases w <;> rfl
  | _ => rfl
/-- is the part at i to be a condition -/
def wa : Tm → Nat → Bool
  | .n1 .not _, _ => true
  | .n2 .and _ _, _ => true
  | .n2 .or _ _, _ => true
  | .n3 .ite _ _ _, i => i == 0
  | _, _ => false
theorem f_wants {n : Nat} {s : DS} (t : Tm) : sem (n + 1) 8 [en t, .int 0] s = some (.ok (.bl (wa t 0)), s) ∧ sem (n + 1) 8 [en t, .int 1] s = some (.ok (.bl (wa t 1)), s) ∧ sem (n + 1) 8 [en t, .int 2] s = some (.ok (.bl (wa t 2)), s) := by
  cases t with
  | n0 w => cases w <;> exact ⟨rfl, rfl, rfl⟩
  | n1 w a => cases w <;> exact ⟨rfl, rfl, rfl⟩
  | n2 w a b => cases w <;> exact ⟨rfl, rfl, rfl⟩
  | n3 w a b c => cases w <;> exact ⟨rfl, rfl, rfl⟩
  | _ => exact ⟨rfl, rfl, rfl⟩
section
variable {n : Nat} {s : DS} {E : Xn → DS → Prop} {P : D → DS → Prop}
theorem f_number {i : Int} : sem (n + 1) 3 [.int i] s = some (.ok (.bl true), s) := rfl
theorem f_name {x : Str} (h : Nm x) : sem (n + 1) 4 [.str x] s = some (.ok (.bl true), s) := by
  rcases h with rfl | rfl | rfl <;> kernel_rfl
theorem w_leap {y : Int} (p : ∀ b, P (.bl b) s) : Wp (sem (n + 1) 0 [.int y] s) E P := by
  show Wp (fnD 1 (b_is_leap (sem n)) [.int y] s) E P
  refine wp_fnL ?_
  unfold b_is_leap
  repeat array_get_dec
  refine sp_dec (fun _ => ?_) (fun _ => ?_)
  · repeat array_get_dec
    refine sp_ndec (fun _ => ?_) (fun _ => ?_)
    · repeat array_get_dec
      exact p _
    · repeat array_get_dec
      exact p _
  · repeat array_get_dec
    exact p _
theorem f_last {y m : Int} {k : Int} (hm : m ≠ 2) (h0 : 1 ≤ m) (h1 : m ≤ 12) : ∃ l : Int, 28 ≤ l ∧ sem (n + 1) 1 [.int y, .int m] s = some (.ok (.int l), s) := by
  have : m = 1 ∨ m = 3 ∨ m = 4 ∨ m = 5 ∨ m = 6 ∨ m = 7 ∨ m = 8 ∨ m = 9 ∨ m = 10 ∨ m = 11 ∨ m = 12 := by omega
  rcases this with rfl | rfl | rfl | rfl | rfl | rfl | rfl | rfl | rfl | rfl | rfl <;> first | exact ⟨31, by decide, rfl⟩ | exact ⟨30, by decide, rfl⟩
theorem w_last {y m : Int} (h0 : 1 ≤ m) (h1 : m ≤ 12) (p : ∀ l, 28 ≤ l → P (.int l) s) : Wp (sem (n + 2) 1 [.int y, .int m] s) E P := by
  by_cases hm : m = 2
  · subst hm
    show Wp (fnD 2 (b_last_of (sem (n + 1))) [.int y, .int 2] s) E P
    refine wp_fnL ?_
    unfold b_last_of
    repeat array_get_dec
    refine ⟨.int 28, rfl, ?_⟩
    repeat array_get_dec
    refine sp_T (by decide) ?_
    repeat array_get_dec
    refine w_leap fun b => ?_
    repeat array_get_dec
    exact p _ (by cases b <;> decide)
  · obtain ⟨l, h2, e⟩ := f_last (n := n + 1) (s := s) (y := y) (k := 0) hm h0 h1
    exact wp_eq e (p l h2)
end
end K10
set_option Elab.async false
set_option linter.all false
set_option maxRecDepth 100000
set_option maxHeartbeats 4000000
namespace K10
open PySem L2 Lay DM
local macro_rules
  | `(tactic| array_get_dec) => `(tactic| first
    | with_reducible refine Stp.go ?_
    | (with_reducible refine wo_mod ?_ ?_; focus (first | decide | omega))
    | (with_reducible refine wo_div ?_ ?_; focus (first | decide | omega))
    | with_reducible refine wo_pow19 ?_
    | (with_reducible refine wo_pow ?_ ?_; focus decide)
    | (with_reducible refine wo_mulX ?_ ?_; focus (first | (left; decide) | (right; decide) | (left; omega) | (right; omega))))
local macro_rules
  | `(tactic| array_mem_dec) => `(tactic| first
    | (with_reducible refine sp_T ?_ ?_; focus (first | rfl | decide))
    | (with_reducible refine sp_F ?_ ?_; focus (first | rfl | decide)))
section
variable {n : Nat} {s : DS} {E : Xn → DS → Prop} {P : D → DS → Prop}
theorem w_day {y m d : Int} (h0 : 1 ≤ m) (h1 : m ≤ 12) (h2 : 1 ≤ d) (h3 : d ≤ 28) (p : ∀ x, P x s) : Wp (sem (n + 3) 2 [.int y, .int m, .int d] s) E P := by
  show Wp (fnD 5 (b_day_of (sem (n + 2))) [.int y, .int m, .int d] s) E P
  refine wp_fnL ?_
  unfold b_day_of
  repeat array_get_dec
  refine sp_T (decide_eq_true h0) ?_
  repeat array_get_dec
  rw [decide_eq_true h1]
  refine sp_F rfl ?_
  repeat array_get_dec
  refine sp_T (decide_eq_true h2) ?_
  repeat array_get_dec
  refine w_last h0 h1 fun l hl => ?_
  repeat array_get_dec
  rw [decide_eq_true (show d ≤ l by omega)]
  refine sp_F rfl ?_
  repeat array_get_dec
  exact ⟨rfl, p _⟩
theorem f_date {y m d : Int} (h0 : 1 ≤ m) (h1 : m ≤ 12) (h2 : 1 ≤ d) (h3 : d ≤ 28) : sem (n + 4) 5 [.tup [.int y, .int m, .int d]] s = some (.ok (.bl true), s) := by
  refine eq_wp ?_
  show Wp (fnD 2 (b_is_date (sem (n + 3))) [.tup [.int y, .int m, .int d]] s) _ _
  refine wp_fnL ?_
  unfold b_is_date
  repeat (first | array_get_dec | refine wp_eq f_number ?_)
  refine sp_F rfl ?_
  repeat array_get_dec
  refine w_day h0 h1 h2 h3 fun x => ?_
  repeat array_get_dec
  exact ⟨rfl, rfl⟩
theorem wr_seqF {c : En → M Bool} {m r : DM.S} {ρ : En} {R : Res → DS → Prop} (hc : Wp (c ρ s) nE fun k s1 => k = false ∧ s1 = s) (h : Wr (r ρ s) R) : Wr (sSeq (sIf c m sNext) r ρ s) R := by
  rcases hc with ⟨k, s1, e, rfl, rfl⟩ | ⟨_, _, _, q⟩
  · obtain ⟨x, s2, e2, q⟩ := h
    refine ⟨x, s2, ?_, q⟩
    unfold sSeq sIf bs
    rw [e]
    exact e2
  · exact q.elim
theorem wo_by {α : Type} {x : Option α} {a : α} {Q : α → Prop} (e : x = some a) (h : Q a) : WO x Q := ⟨a, e, h⟩
theorem shape_if {a c : D} {w : Str} {xs : List D} (hc : cmpb (.tup (.str w :: xs))) : Wp ((tOr' (tNot' (tB' (eUn (isF "tuple") (eVar 1)))) (tOr' (tB' (eOp oEqX (eVar 1) (eTup aNil))) (tNot' (tB' (eUn (isF "str") (eOp oIx (eVar 1) (eC (.int 0)))))))) [.val a, .val (.tup (.str w :: xs)), .val c, .no, .no] s) nE fun k s1 => k = false ∧ s1 = s := by
  repeat array_get_dec
  refine sp_F rfl ?_
  repeat array_get_dec
  refine wo_eqT hc cmpb_nilT ?_
  rw [eqD_nilT]
  repeat array_get_dec
  refine sp_F rfl ?_
  repeat array_get_dec
  exact ⟨rfl, rfl⟩
theorem f_shape {h : Bool} {g : Gk} {r : Option Kd} {t : Tm} (hc : cmpb (en t)) (w : TT h g r t) : sem (n + 5) 9 [.str (tg h), en t, .bl r.isNone] s = some (.ok (.bl true), s) := by
  refine eq_wp ?_
  show Wp (fnD 5 (b_has_shape (sem (n + 4))) [.str (tg h), en t, .bl r.isNone] s) _ _
  refine wp_fnL ?_
  unfold b_has_shape
  cases w with
  | @col _ x k h1 h2 => rcases h2 with rfl | rfl | rfl <;> cases h <;> exact wr_seqF (shape_if hc) ⟨.rt (.bl true), s, by kernel_rfl, rfl, rfl⟩
  | num => cases h <;> exact wr_seqF (shape_if hc) ⟨.rt (.bl true), s, by kernel_rfl, rfl, rfl⟩
  | @text _ z h1 h2 =>
    cases h with
    | true => exact wr_seqF (shape_if hc) ⟨.rt (.bl true), s, by kernel_rfl, rfl, rfl⟩
    | false =>
      refine wr_seqF (shape_if hc) ?_
      rw [show en (.text z) = .tup [.str "text", .str z] from rfl, show tg false = "dale" from rfl]
      repeat (first | array_get_dec | array_mem_dec | refine wo_by rfl ?_)
      exact ⟨by rw [decide_eq_false (h2 rfl)]; rfl, rfl⟩
  | @blank _ k h1 => cases h <;> cases k <;> first | exact absurd rfl (h1 rfl) | exact wr_seqF (shape_if hc) ⟨.rt (.bl true), s, by kernel_rfl, rfl, rfl⟩
  | @date _ y m d hh h1 h2 h3 h4 =>
    subst hh
    refine wr_seqF (shape_if hc) ?_
    rw [show en (.date y m d) = .tup [.str "date", .int y, .int m, .int d] from rfl, show tg true = "hill" from rfl]
    repeat (first | array_get_dec | array_mem_dec | refine wo_by rfl ?_)
    refine wp_eq (f_date h1 h2 h3 h4) ?_
    repeat array_get_dec
    exact ⟨rfl, rfl⟩
  | @lt _ x k1 k a b h1 h2 h3 => rcases h1 with rfl | rfl | rfl <;> cases h <;> exact wr_seqF (shape_if hc) ⟨.rt (.bl true), s, by kernel_rfl, rfl, rfl⟩
  | @n0 _ w => cases w <;> cases h <;> exact wr_seqF (shape_if hc) ⟨.rt (.bl true), s, by kernel_rfl, rfl, rfl⟩
  | @n1 _ w r k a h1 h2 h3 => cases w <;> cases h <;> first | (cases h1; done) | (cases (h2 rfl); done) | exact wr_seqF (shape_if hc) ⟨.rt (.bl true), s, by kernel_rfl, rfl, rfl⟩
  | isb h1 => cases h <;> exact wr_seqF (shape_if hc) ⟨.rt (.bl true), s, by kernel_rfl, rfl, rfl⟩
  | not h1 => cases h <;> exact wr_seqF (shape_if hc) ⟨.rt (.bl true), s, by kernel_rfl, rfl, rfl⟩
  | @n2 _ w r k1 k2 a b h1 h2 h3 h4 => cases w <;> cases h <;> first | (cases h1; done) | (cases (h2 rfl); done) | exact wr_seqF (shape_if hc) ⟨.rt (.bl true), s, by kernel_rfl, rfl, rfl⟩
  | oe h1 h2 => cases h <;> exact wr_seqF (shape_if hc) ⟨.rt (.bl true), s, by kernel_rfl, rfl, rfl⟩
  | bi h0 h1 h2 => subst h0; exact wr_seqF (shape_if hc) ⟨.rt (.bl true), s, by kernel_rfl, rfl, rfl⟩
  | same h1 h2 => cases h <;> exact wr_seqF (shape_if hc) ⟨.rt (.bl true), s, by kernel_rfl, rfl, rfl⟩
  | less h1 h2 => cases h <;> exact wr_seqF (shape_if hc) ⟨.rt (.bl true), s, by kernel_rfl, rfl, rfl⟩
  | begins h1 h2 => cases h <;> exact wr_seqF (shape_if hc) ⟨.rt (.bl true), s, by kernel_rfl, rfl, rfl⟩
  | and h1 h2 => cases h <;> exact wr_seqF (shape_if hc) ⟨.rt (.bl true), s, by kernel_rfl, rfl, rfl⟩
  | or h1 h2 => cases h <;> exact wr_seqF (shape_if hc) ⟨.rt (.bl true), s, by kernel_rfl, rfl, rfl⟩
  | part h1 h2 h3 => cases h <;> exact wr_seqF (shape_if hc) ⟨.rt (.bl true), s, by kernel_rfl, rfl, rfl⟩
  | ite h1 h2 h3 => cases h <;> exact wr_seqF (shape_if hc) ⟨.rt (.bl true), s, by kernel_rfl, rfl, rfl⟩
end
end K10
set_option Elab.async false
set_option linter.all false
set_option maxRecDepth 100000
set_option maxHeartbeats 4000000
namespace K10
open PySem L2 Lay DM
local macro_rules
  | `(tactic| array_get_dec) => `(tactic| first
    | with_reducible refine Stp.go ?_
    | (with_reducible refine wo_mod ?_ ?_; focus (first | decide | omega))
    | (with_reducible refine wo_div ?_ ?_; focus (first | decide | omega))
    | with_reducible refine wo_pow19 ?_
    | (with_reducible refine wo_pow ?_ ?_; focus decide)
    | (with_reducible refine wo_mulX ?_ ?_; focus (first | (left; decide) | (right; decide) | (left; omega) | (right; omega))))
local macro_rules
  | `(tactic| array_mem_dec) => `(tactic| first
    | (with_reducible refine sp_T ?_ ?_; focus (first | rfl | decide))
    | (with_reducible refine sp_F ?_ ?_; focus (first | rfl | decide)))
theorem okNm {x : Str} (h : Nm x) : PyData.strOk x = true := by rcases h with rfl | rfl | rfl <;> decide +kernel
theorem okKd (k : Kd) : PyData.strOk k.s = true := by cases k <;> decide +kernel
theorem okW0 (w : W0) : PyData.strOk w.s = true := by cases w <;> decide +kernel
theorem okW1 (w : W1) : PyData.strOk w.s = true := by cases w <;> decide +kernel
theorem okW2 (w : W2) : PyData.strOk w.s = true := by cases w <;> decide +kernel
theorem okW3 (w : W3) : PyData.strOk w.s = true := by cases w <;> decide +kernel
theorem okL : PyData.strOk "col" = true ∧ PyData.strOk "num" = true ∧ PyData.strOk "text" = true ∧ PyData.strOk "blank" = true ∧ PyData.strOk "date" = true ∧ PyData.strOk "let" = true := by decide +kernel
/-- texts that can be shown -/
def okT : Tm → Bool
  | .col x => PyData.strOk x
  | .text z => PyData.strOk z
  | .lt x a b => PyData.strOk x && okT a && okT b
  | .n1 _ a => okT a
  | .n2 _ a b => okT a && okT b
  | .n3 _ a b c => okT a && okT b && okT c
  | _ => true
theorem TT.ok {h : Bool} {g : Gk} {r : Option Kd} {t : Tm} (w : TT h g r t) : okT t = true := by
  induction w with
  | col _ h2 => exact okNm h2
  | text h1 _ => exact h1
  | lt h1 _ _ i1 i2 => simp [okT, okNm h1, i1, i2]
  | n1 _ _ _ i => exact i
  | isb _ i => exact i
  | not _ i => exact i
  | n2 _ _ _ _ i1 i2 => simp [okT, i1, i2]
  | oe _ _ i1 i2 => simp [okT, i1, i2]
  | bi _ _ _ i1 i2 => simp [okT, i1, i2]
  | same _ _ i1 i2 => simp [okT, i1, i2]
  | less _ _ i1 i2 => simp [okT, i1, i2]
  | begins _ _ i1 i2 => simp [okT, i1, i2]
  | and _ _ i1 i2 => simp [okT, i1, i2]
  | or _ _ i1 i2 => simp [okT, i1, i2]
  | part _ _ _ i1 i2 i3 => simp [okT, i1, i2, i3]
  | ite _ _ _ i1 i2 i3 => simp [okT, i1, i2, i3]
  | _ => rfl
theorem plen : ∀ t : Tm, okT t = true → pl (en t) = true ∧ dep (en t) ≤ ht t
  | .col x, h => by
    have h : PyData.strOk x = true := h
    simp [en, pl, pls, dep, deps, ht, okL.1, h]
  | .num i, h => by simp [en, pl, pls, dep, deps, ht, okL.2.1]
  | .text z, h => by
    have h : PyData.strOk z = true := h
    simp [en, pl, pls, dep, deps, ht, okL.2.2.1, h]
  | .blank k, h => by simp [en, pl, pls, dep, deps, ht, okL.2.2.2.1, okKd]
  | .date _ _ _, h => by simp [en, pl, pls, dep, deps, ht, okL.2.2.2.2.1]
  | .lt x a b, h => by
    simp only [okT, Bool.and_eq_true] at h
    obtain ⟨h1, h2⟩ := plen a h.1.2
    obtain ⟨h3, h4⟩ := plen b h.2
    simp [en, pl, pls, dep, deps, ht, okL.2.2.2.2.2, h.1.1, h1, h3]
    omega
  | .n0 w, h => by simp [en, pl, pls, dep, deps, ht, okW0]
  | .n1 w a, h => by
    obtain ⟨h1, h2⟩ := plen a h
    simp [en, pl, pls, dep, deps, ht, okW1, h1]
    omega
  | .n2 w a b, h => by
    simp only [okT, Bool.and_eq_true] at h
    obtain ⟨h1, h2⟩ := plen a h.1
    obtain ⟨h3, h4⟩ := plen b h.2
    simp [en, pl, pls, dep, deps, ht, okW2, h1, h3]
    omega
  | .n3 w a b c, h => by
    simp only [okT, Bool.and_eq_true] at h
    obtain ⟨h1, h2⟩ := plen a h.1.1
    obtain ⟨h3, h4⟩ := plen b h.1.2
    obtain ⟨h5, h6⟩ := plen c h.2
    simp [en, pl, pls, dep, deps, ht, okW3, h1, h3, h5]
    omega
theorem cmE {t : Tm} (h : okT t = true) (hh : ht t ≤ 50) : cmpb (en t) := ⟨(plen t h).1, Nat.le_trans (plen t h).2 (by omega)⟩
theorem ps_cases (t : Tm) : ps t = [] ∨ (∃ a, ps t = [a]) ∨ (∃ a b, ps t = [a, b]) ∨ (∃ a b c, ps t = [a, b, c]) := by
  cases t <;> simp [ps]
theorem lineP {p : List D} {k : Nat} (h : p.length ≤ 60) (hk : k ≤ 1000) : p.length + k ≤ line := by
  have : line = 100000 := rfl
  omega
section
variable {n : Nat} {s : DS} {E : Xn → DS → Prop} {P : D → DS → Prop}
theorem cs_step {h k : Bool} {t : Tm} {p : List D} (hl : p.length ≤ 50) (hs : sem (n + 2) 9 [.str (tg h), en t, .bl k] s = some (.ok (.bl true), s))
    (ih : ∀ i u, (ps t)[i]? = some u → ∀ q : List D, q.length ≤ p.length + 1 → sem (n + 2) 10 [.str (tg h), en u, .bl (wa t i), .tup q] s = some (.ok .non, s)) :
    sem (n + 3) 10 [.str (tg h), en t, .bl k, .tup p] s = some (.ok .non, s) := by
  refine eq_wp ?_
  show Wp (fnDz true 6 (b_check_shapes (sem (n + 2))) [.str (tg h), en t, .bl k, .tup p] s) _ _
  refine wp_fnZL ?_
  unfold b_check_shapes
  repeat array_get_dec
  refine wp_eq hs ?_
  repeat array_get_dec
  refine sp_F rfl ?_
  repeat array_get_dec
  refine wp_eq (f_parts t) ?_
  rcases ps_cases t with e | ⟨a, e⟩ | ⟨a, b, e⟩ | ⟨a, b, c, e⟩ <;> rw [e] at ih ⊢ <;> dsimp only [List.map]
  · repeat array_get_dec
    dsimp only [enumD]
    repeat array_get_dec
    exact ⟨rfl, rfl⟩
  · repeat array_get_dec
    dsimp only [enumD]
    repeat array_get_dec
    refine wp_eq (f_wants t).1 ?_
    repeat array_get_dec
    refine wo_catTX (lineP (by omega) (by decide)) ?_
    repeat array_get_dec
    refine wp_eq (ih 0 a rfl _ (by simp)) ?_
    repeat array_get_dec
    exact ⟨rfl, rfl⟩
  · repeat array_get_dec
    dsimp only [enumD]
    repeat array_get_dec
    refine wp_eq (f_wants t).1 ?_
    repeat array_get_dec
    refine wo_catTX (lineP (by omega) (by decide)) ?_
    repeat array_get_dec
    refine wp_eq (ih 0 a rfl _ (by simp)) ?_
    repeat array_get_dec
    refine wp_eq (f_wants t).2.1 ?_
    repeat array_get_dec
    refine wo_catTX (lineP (by omega) (by decide)) ?_
    repeat array_get_dec
    refine wp_eq (ih 1 b rfl _ (by simp)) ?_
    repeat array_get_dec
    exact ⟨rfl, rfl⟩
  · repeat array_get_dec
    dsimp only [enumD]
    repeat array_get_dec
    refine wp_eq (f_wants t).1 ?_
    repeat array_get_dec
    refine wo_catTX (lineP (by omega) (by decide)) ?_
    repeat array_get_dec
    refine wp_eq (ih 0 a rfl _ (by simp)) ?_
    repeat array_get_dec
    refine wp_eq (f_wants t).2.1 ?_
    repeat array_get_dec
    refine wo_catTX (lineP (by omega) (by decide)) ?_
    repeat array_get_dec
    refine wp_eq (ih 1 b rfl _ (by simp)) ?_
    repeat array_get_dec
    refine wp_eq (f_wants t).2.2 ?_
    repeat array_get_dec
    refine wo_catTX (lineP (by omega) (by decide)) ?_
    repeat array_get_dec
    refine wp_eq (ih 2 c rfl _ (by simp)) ?_
    repeat array_get_dec
    exact ⟨rfl, rfl⟩
end
end K10
set_option Elab.async false
set_option linter.all false
set_option maxRecDepth 100000
set_option maxHeartbeats 4000000
namespace K10
open PySem L2 Lay DM
local macro_rules
  | `(tactic| array_get_dec) => `(tactic| first
    | with_reducible refine Stp.go ?_
    | (with_reducible refine wo_mod ?_ ?_; focus (first | decide | omega))
    | (with_reducible refine wo_div ?_ ?_; focus (first | decide | omega))
    | with_reducible refine wo_pow19 ?_
    | (with_reducible refine wo_pow ?_ ?_; focus decide)
    | (with_reducible refine wo_mulX ?_ ?_; focus (first | (left; decide) | (right; decide) | (left; omega) | (right; omega))))
local macro_rules
  | `(tactic| array_mem_dec) => `(tactic| first
    | (with_reducible refine sp_T ?_ ?_; focus (first | rfl | decide))
    | (with_reducible refine sp_F ?_ ?_; focus (first | rfl | decide)))
theorem TT.part_ {h : Bool} {g : Gk} {r : Option Kd} {t : Tm} (w : TT h g r t) {i : Nat} {u : Tm} (e : (ps t)[i]? = some u) : ∃ g' r', TT h g' r' u ∧ r'.isNone = wa t i := by
  cases w with
  | @lt _ x k1 k a b h1 h2 h3 =>
    match i, e with
    | 0, e => cases e; exact ⟨_, _, h2, rfl⟩
    | 1, e => cases e; exact ⟨_, _, h3, rfl⟩
    | i + 2, e => simp [ps] at e
  | @n1 _ w r k a h1 h2 h3 =>
    match i, e with
    | 0, e => cases e; exact ⟨_, _, h3, by cases w <;> first | rfl | cases h1⟩
    | i + 1, e => simp [ps] at e
  | isb h1 =>
    match i, e with
    | 0, e => cases e; exact ⟨_, _, h1, rfl⟩
    | i + 1, e => simp [ps] at e
  | not h1 =>
    match i, e with
    | 0, e => cases e; exact ⟨_, _, h1, rfl⟩
    | i + 1, e => simp [ps] at e
  | @n2 _ w r k1 k2 a b h1 h2 h3 h4 =>
    match i, e with
    | 0, e => cases e; exact ⟨_, _, h3, by cases w <;> first | rfl | cases h1⟩
    | 1, e => cases e; exact ⟨_, _, h4, by cases w <;> first | rfl | cases h1⟩
    | i + 2, e => simp [ps] at e
  | oe h1 h2 =>
    match i, e with
    | 0, e => cases e; exact ⟨_, _, h1, rfl⟩
    | 1, e => cases e; exact ⟨_, _, h2, rfl⟩
    | i + 2, e => simp [ps] at e
  | bi h0 h1 h2 =>
    match i, e with
    | 0, e => cases e; exact ⟨_, _, h1, rfl⟩
    | 1, e => cases e; exact ⟨_, _, h2, rfl⟩
    | i + 2, e => simp [ps] at e
  | same h1 h2 =>
    match i, e with
    | 0, e => cases e; exact ⟨_, _, h1, rfl⟩
    | 1, e => cases e; exact ⟨_, _, h2, rfl⟩
    | i + 2, e => simp [ps] at e
  | less h1 h2 =>
    match i, e with
    | 0, e => cases e; exact ⟨_, _, h1, rfl⟩
    | 1, e => cases e; exact ⟨_, _, h2, rfl⟩
    | i + 2, e => simp [ps] at e
  | begins h1 h2 =>
    match i, e with
    | 0, e => cases e; exact ⟨_, _, h1, rfl⟩
    | 1, e => cases e; exact ⟨_, _, h2, rfl⟩
    | i + 2, e => simp [ps] at e
  | and h1 h2 =>
    match i, e with
    | 0, e => cases e; exact ⟨_, _, h1, rfl⟩
    | 1, e => cases e; exact ⟨_, _, h2, rfl⟩
    | i + 2, e => simp [ps] at e
  | or h1 h2 =>
    match i, e with
    | 0, e => cases e; exact ⟨_, _, h1, rfl⟩
    | 1, e => cases e; exact ⟨_, _, h2, rfl⟩
    | i + 2, e => simp [ps] at e
  | part h1 h2 h3 =>
    match i, e with
    | 0, e => cases e; exact ⟨_, _, h1, rfl⟩
    | 1, e => cases e; exact ⟨_, _, h2, rfl⟩
    | 2, e => cases e; exact ⟨_, _, h3, rfl⟩
    | i + 3, e => simp [ps] at e
  | ite h1 h2 h3 =>
    match i, e with
    | 0, e => cases e; exact ⟨_, _, h1, rfl⟩
    | 1, e => cases e; exact ⟨_, _, h2, rfl⟩
    | 2, e => cases e; exact ⟨_, _, h3, rfl⟩
    | i + 3, e => simp [ps] at e
  | _ => simp [ps] at e
section
variable {n : Nat} {s : DS} {E : Xn → DS → Prop} {P : D → DS → Prop}
theorem f_cs {h : Bool} : ∀ (k : Nat) (t : Tm) (g : Gk) (r : Option Kd) (p : List D) (m : Nat), ht t ≤ k → TT h g r t → p.length + k ≤ 50 → k + 5 ≤ m → sem m 10 [.str (tg h), en t, .bl r.isNone, .tup p] s = some (.ok .non, s)
  | 0, t, g, r, p, m, hk, w, hp, hm => absurd (ht_pos t) (by omega)
  | k + 1, t, g, r, p, m, hk, w, hp, hm => by
    obtain ⟨m, rfl⟩ := Nat.exists_eq_add_of_le (show 6 ≤ m by omega)
    rw [show 6 + m = (m + 3) + 3 by omega]
    refine cs_step (by omega) (f_shape (n := m) (cmE w.ok (by omega)) w) fun i u e q hq => ?_
    obtain ⟨g', r', w', e'⟩ := w.part_ e
    rw [← e']
    exact f_cs k u g' r' q _ (by have := ht_ps (List.mem_of_getElem? e); omega) w' (by omega) (by omega)
/-! ### columns that have no kind -/
def nmi : Tm → Nat → List Str → List Str
  | .lt x _ _, i, ns => if i = 1 then ns ++ [x] else ns
  | _, _, ns => ns
def isCol : Tm → Bool
  | .col _ => true
  | _ => false
theorem lc_step {t : Tm} {p : List D} {ns : List Str} (hn : isCol t = false) (hl : p.length ≤ 50) (hs : ns.length ≤ 100)
    (ih : ∀ i u, (ps t)[i]? = some u → ∀ q : List D, q.length ≤ p.length + 1 → sem (n + 2) 11 [en u, .lst ((nmi t i ns).map .str), .tup q] s = some (.ok (.lst []), s)) :
    sem (n + 3) 11 [en t, .lst (ns.map .str), .tup p] s = some (.ok (.lst []), s) := by
  refine eq_wp ?_
  have hp := f_parts (n := n) (s := s) t
  have z1 : ∀ w : W1, decide (w.s = ("col" : Str)) = false ∧ decide (w.s = ("let" : Str)) = false := fun w => by cases w <;> decide +kernel
  have z2 : ∀ w : W2, decide (w.s = ("col" : Str)) = false ∧ decide (w.s = ("let" : Str)) = false := fun w => by cases w <;> decide +kernel
  have z3 : ∀ w : W3, decide (w.s = ("col" : Str)) = false ∧ decide (w.s = ("let" : Str)) = false := fun w => by cases w <;> decide +kernel
  have z0 : ∀ w : W0, decide (w.s = ("col" : Str)) = false ∧ decide (w.s = ("let" : Str)) = false := fun w => by cases w <;> decide +kernel
  have hli : line = 100000 := rfl
  show Wp (fnD 7 (b_loose_columns (sem (n + 2))) [en t, .lst (ns.map .str), .tup p] s) _ _
  refine wp_fnL ?_
  unfold b_loose_columns
  cases t with
  | col x => cases hn
  | num i =>
    dsimp only [en, ps, List.map] at hp ⊢
    repeat array_get_dec
    refine sp_F rfl ?_
    repeat (first | array_get_dec | refine wp_eq hp ?_ | dsimp only [enumD])
    exact ⟨rfl, rfl⟩
  | text i =>
    dsimp only [en, ps, List.map] at hp ⊢
    repeat array_get_dec
    refine sp_F rfl ?_
    repeat (first | array_get_dec | refine wp_eq hp ?_ | dsimp only [enumD])
    exact ⟨rfl, rfl⟩
  | blank i =>
    dsimp only [en, ps, List.map] at hp ⊢
    repeat array_get_dec
    refine sp_F rfl ?_
    repeat (first | array_get_dec | refine wp_eq hp ?_ | dsimp only [enumD])
    exact ⟨rfl, rfl⟩
  | date i _ _ =>
    dsimp only [en, ps, List.map] at hp ⊢
    repeat array_get_dec
    refine sp_F rfl ?_
    repeat (first | array_get_dec | refine wp_eq hp ?_ | dsimp only [enumD])
    exact ⟨rfl, rfl⟩
  | n0 w =>
    dsimp only [en, ps, List.map] at hp ⊢
    repeat array_get_dec
    refine sp_F (z0 w).1 ?_
    repeat (first | array_get_dec | refine wp_eq hp ?_ | dsimp only [enumD])
    exact ⟨rfl, rfl⟩
  | n1 w a =>
    dsimp only [en, ps, List.map] at hp ⊢
    repeat array_get_dec
    refine sp_F (z1 w).1 ?_
    repeat (first | array_get_dec | refine wp_eq hp ?_ | refine sp_F (z1 w).2 ?_ | refine wo_catTX (lineP (by omega) (by decide)) ?_ | dsimp only [enumD])
    refine wp_eq (ih 0 a rfl _ (by simp)) ?_
    repeat array_get_dec
    refine ⟨by decide, ?_⟩
    repeat array_get_dec
    exact ⟨rfl, rfl⟩
  | n2 w a b =>
    dsimp only [en, ps, List.map] at hp ⊢
    repeat array_get_dec
    refine sp_F (z2 w).1 ?_
    repeat (first | array_get_dec | refine wp_eq hp ?_ | refine sp_F (z2 w).2 ?_ | refine wo_catTX (lineP (by omega) (by decide)) ?_ | dsimp only [enumD])
    refine wp_eq (ih 0 a rfl _ (by simp)) ?_
    repeat array_get_dec
    refine ⟨by decide, ?_⟩
    repeat (first | array_get_dec | refine wp_eq hp ?_ | refine sp_F (z2 w).2 ?_ | refine wo_catTX (lineP (by omega) (by decide)) ?_)
    refine wp_eq (ih 1 b rfl _ (by simp)) ?_
    repeat array_get_dec
    refine ⟨by decide, ?_⟩
    repeat array_get_dec
    exact ⟨rfl, rfl⟩
  | n3 w a b c =>
    dsimp only [en, ps, List.map] at hp ⊢
    repeat array_get_dec
    refine sp_F (z3 w).1 ?_
    repeat (first | array_get_dec | refine wp_eq hp ?_ | refine sp_F (z3 w).2 ?_ | refine wo_catTX (lineP (by omega) (by decide)) ?_ | dsimp only [enumD])
    refine wp_eq (ih 0 a rfl _ (by simp)) ?_
    repeat array_get_dec
    refine ⟨by decide, ?_⟩
    repeat (first | array_get_dec | refine wp_eq hp ?_ | refine sp_F (z3 w).2 ?_ | refine wo_catTX (lineP (by omega) (by decide)) ?_)
    refine wp_eq (ih 1 b rfl _ (by simp)) ?_
    repeat array_get_dec
    refine ⟨by decide, ?_⟩
    repeat (first | array_get_dec | refine wp_eq hp ?_ | refine sp_F (z3 w).2 ?_ | refine wo_catTX (lineP (by omega) (by decide)) ?_)
    refine wp_eq (ih 2 c rfl _ (by simp)) ?_
    repeat array_get_dec
    refine ⟨by decide, ?_⟩
    repeat array_get_dec
    exact ⟨rfl, rfl⟩
  | lt x a b =>
    have i0 := ih 0 a rfl
    have i1 := ih 1 b rfl
    dsimp only [nmi] at i0 i1
    rw [if_neg (by decide)] at i0
    rw [if_pos (by decide), List.map_append] at i1
    dsimp only [en, ps, List.map] at hp i1 ⊢
    repeat array_get_dec
    refine sp_F rfl ?_
    repeat (first | array_get_dec | refine wp_eq hp ?_ | dsimp only [enumD])
    refine sp_T rfl ?_
    repeat array_get_dec
    refine sp_F rfl ?_
    repeat (first | array_get_dec | refine wo_catTX (lineP (by omega) (by decide)) ?_)
    refine wp_eq (i0 _ (by simp)) ?_
    repeat array_get_dec
    refine ⟨by decide, ?_⟩
    repeat array_get_dec
    refine sp_T rfl ?_
    repeat array_get_dec
    refine sp_T rfl ?_
    repeat array_get_dec
    refine wo_catX (by simp; omega) ?_
    repeat (first | array_get_dec | refine wo_catTX (lineP (by omega) (by decide)) ?_)
    refine wp_eq (i1 _ (by simp)) ?_
    repeat array_get_dec
    refine ⟨by decide, ?_⟩
    repeat array_get_dec
    exact ⟨rfl, rfl⟩
end
end K10
set_option Elab.async false
set_option linter.all false
set_option maxRecDepth 100000
set_option maxHeartbeats 4000000
namespace K10
open PySem L2 Lay DM
local macro_rules
  | `(tactic| array_get_dec) => `(tactic| first
    | with_reducible refine Stp.go ?_
    | (with_reducible refine wo_mod ?_ ?_; focus (first | decide | omega))
    | (with_reducible refine wo_div ?_ ?_; focus (first | decide | omega))
    | with_reducible refine wo_pow19 ?_
    | (with_reducible refine wo_pow ?_ ?_; focus decide)
    | (with_reducible refine wo_mulX ?_ ?_; focus (first | (left; decide) | (right; decide) | (left; omega) | (right; omega))))
local macro_rules
  | `(tactic| array_mem_dec) => `(tactic| first
    | (with_reducible refine sp_T ?_ ?_; focus (first | rfl | decide))
    | (with_reducible refine sp_F ?_ ?_; focus (first | rfl | decide)))
def Cov (g : Gk) (ns : List Str) : Prop := ∀ x k, g x = some k → x ∈ ns
theorem Cov.up {g : Gk} {ns : List Str} {x : Str} {k : Kd} (h : Cov g ns) : Cov (g.up x k) (ns ++ [x]) := fun y j e => by
  unfold Gk.up at e
  split at e
  · rename_i hy
    subst hy
    simp
  · exact List.mem_append_left _ (h y j e)
theorem TT.partC {h : Bool} {g : Gk} {r : Option Kd} {t : Tm} (w : TT h g r t) {ns : List Str} (c : Cov g ns) {i : Nat} {u : Tm} (e : (ps t)[i]? = some u) : ∃ g' r', TT h g' r' u ∧ Cov g' (nmi t i ns) := by
  cases w with
  | @lt _ x k1 k a b h1 h2 h3 =>
    match i, e with
    | 0, e => cases e; exact ⟨_, _, h2, c⟩
    | 1, e => cases e; exact ⟨_, _, h3, c.up⟩
    | i + 2, e => simp [ps] at e
  | n1 h1 h2 h3 =>
    match i, e with
    | 0, e => cases e; exact ⟨_, _, h3, c⟩
    | i + 1, e => simp [ps] at e
  | isb h1 =>
    match i, e with
    | 0, e => cases e; exact ⟨_, _, h1, c⟩
    | i + 1, e => simp [ps] at e
  | not h1 =>
    match i, e with
    | 0, e => cases e; exact ⟨_, _, h1, c⟩
    | i + 1, e => simp [ps] at e
  | n2 h1 h2 h3 h4 =>
    match i, e with
    | 0, e => cases e; exact ⟨_, _, h3, c⟩
    | 1, e => cases e; exact ⟨_, _, h4, c⟩
    | i + 2, e => simp [ps] at e
  | oe h1 h2 =>
    match i, e with
    | 0, e => cases e; exact ⟨_, _, h1, c⟩
    | 1, e => cases e; exact ⟨_, _, h2, c⟩
    | i + 2, e => simp [ps] at e
  | bi h0 h1 h2 =>
    match i, e with
    | 0, e => cases e; exact ⟨_, _, h1, c⟩
    | 1, e => cases e; exact ⟨_, _, h2, c⟩
    | i + 2, e => simp [ps] at e
  | same h1 h2 =>
    match i, e with
    | 0, e => cases e; exact ⟨_, _, h1, c⟩
    | 1, e => cases e; exact ⟨_, _, h2, c⟩
    | i + 2, e => simp [ps] at e
  | less h1 h2 =>
    match i, e with
    | 0, e => cases e; exact ⟨_, _, h1, c⟩
    | 1, e => cases e; exact ⟨_, _, h2, c⟩
    | i + 2, e => simp [ps] at e
  | begins h1 h2 =>
    match i, e with
    | 0, e => cases e; exact ⟨_, _, h1, c⟩
    | 1, e => cases e; exact ⟨_, _, h2, c⟩
    | i + 2, e => simp [ps] at e
  | and h1 h2 =>
    match i, e with
    | 0, e => cases e; exact ⟨_, _, h1, c⟩
    | 1, e => cases e; exact ⟨_, _, h2, c⟩
    | i + 2, e => simp [ps] at e
  | or h1 h2 =>
    match i, e with
    | 0, e => cases e; exact ⟨_, _, h1, c⟩
    | 1, e => cases e; exact ⟨_, _, h2, c⟩
    | i + 2, e => simp [ps] at e
  | part h1 h2 h3 =>
    match i, e with
    | 0, e => cases e; exact ⟨_, _, h1, c⟩
    | 1, e => cases e; exact ⟨_, _, h2, c⟩
    | 2, e => cases e; exact ⟨_, _, h3, c⟩
    | i + 3, e => simp [ps] at e
  | ite h1 h2 h3 =>
    match i, e with
    | 0, e => cases e; exact ⟨_, _, h1, c⟩
    | 1, e => cases e; exact ⟨_, _, h2, c⟩
    | 2, e => cases e; exact ⟨_, _, h3, c⟩
    | i + 3, e => simp [ps] at e
  | _ => simp [ps] at e
theorem nmi_len {t : Tm} {i : Nat} {ns : List Str} : (nmi t i ns).length ≤ ns.length + 1 := by
  unfold nmi
  split
  · split
    · simp
    · omega
  · omega
section
variable {n : Nat} {s : DS} {E : Xn → DS → Prop} {P : D → DS → Prop}
theorem f_lcol {x : Str} {ns : List Str} {p : List D} (h : x ∈ ns) : sem (n + 1) 11 [en (.col x), .lst (ns.map .str), .tup p] s = some (.ok (.lst []), s) := by
  refine eq_wp ?_
  show Wp (fnD 7 (b_loose_columns (sem n)) [.tup [.str "col", .str x], .lst (ns.map .str), .tup p] s) _ _
  refine wp_fnL ?_
  unfold b_loose_columns
  repeat array_get_dec
  refine sp_T rfl ?_
  repeat array_get_dec
  rw [inS_map, decide_eq_true h]
  repeat array_get_dec
  exact ⟨rfl, rfl⟩
theorem f_loose {h : Bool} : ∀ (k : Nat) (t : Tm) (g : Gk) (r : Option Kd) (ns : List Str) (p : List D) (m : Nat), ht t ≤ k → TT h g r t → Cov g ns → ns.length + k ≤ 100 → p.length + k ≤ 50 → k + 2 ≤ m → sem m 11 [en t, .lst (ns.map .str), .tup p] s = some (.ok (.lst []), s)
  | 0, t, g, r, ns, p, m, hk, w, c, hs, hp, hm => absurd (ht_pos t) (by omega)
  | k + 1, t, g, r, ns, p, m, hk, w, c, hs, hp, hm => by
    obtain ⟨m, rfl⟩ := Nat.exists_eq_add_of_le (show 3 ≤ m by omega)
    rw [show 3 + m = m + 3 by omega]
    by_cases hc : isCol t = true
    · cases t <;> first | (cases hc; done) | skip
      cases w with
      | col h1 h2 => exact f_lcol (c _ _ h1)
    · refine lc_step (by simpa using hc) (by omega) (by omega) fun i u e q hq => ?_
      obtain ⟨g', r', w', c'⟩ := w.partC c e
      have := nmi_len (t := t) (i := i) (ns := ns)
      exact f_loose k u g' r' _ q _ (by have := ht_ps (List.mem_of_getElem? e); omega) w' c' (by omega) (by omega) (by omega)
/-! ### kinds -/
theorem getD_zip {x y : Str} {d : D} : ∀ (ks : List Str) (ds : List D), ks.length = ds.length → getD ks (List.zipWith (fun k v => if k = x then d else v) ks ds) y = if y = x then (if x ∈ ks then some d else none) else getD ks ds y
  | [], [], _ => by by_cases h : y = x <;> simp [getD, h]
  | k :: ks, v :: ds, hl => by
    have ih := getD_zip (x := x) (y := y) (d := d) ks ds (Nat.succ.inj hl)
    simp only [List.zipWith_cons_cons, getD]
    by_cases hy : y = x
    · subst hy
      by_cases hk : k = y
      · subst hk; simp
      · have : ¬ y = k := fun e => hk e.symm
        simp [hk, ih, this]
    · by_cases hk : k = y
      · subst hk
        simp [hy]
      · simp [hk, ih, hy]
theorem getD_app {x y : Str} {d : D} : ∀ (ks : List Str) (ds : List D), ks.length = ds.length → x ∉ ks → getD (ks ++ [x]) (ds ++ [d]) y = if y = x then some d else getD ks ds y
  | [], [], _, _ => by
    by_cases h : y = x
    · subst h; simp [getD]
    · have : ¬ x = y := fun e => h e.symm
      simp [getD, h, this]
  | k :: ks, v :: ds, hl, hn => by
    have ih := getD_app (x := x) (y := y) (d := d) ks ds (Nat.succ.inj hl) (fun e => hn (List.mem_cons_of_mem _ e))
    simp only [List.cons_append, getD]
    by_cases hk : k = y
    · subst hk
      have : ¬ k = x := fun e => hn (by rw [e]; exact List.mem_cons_self)
      simp [this]
    · simp [hk, ih]
theorem getD_put {ks : List Str} {ds : List D} {x y : Str} {d : D} (hl : ks.length = ds.length) : getD (putD ks ds x d).1 (putD ks ds x d).2 y = if y = x then some d else getD ks ds y := by
  unfold putD
  split
  · rename_i h
    simp only [List.any_eq_true, decide_eq_true_eq] at h
    obtain ⟨k, hk, rfl⟩ := h
    show getD ks (List.zipWith _ ks ds) y = _
    rw [getD_zip ks ds hl]
    simp [hk]
  · rename_i h
    simp only [List.any_eq_true, decide_eq_true_eq, not_exists, not_and] at h
    exact getD_app ks ds hl fun e => h x e rfl
theorem putD_len {ks : List Str} {ds : List D} {x : Str} {d : D} (hl : ks.length = ds.length) : (putD ks ds x d).1.length = (putD ks ds x d).2.length ∧ (putD ks ds x d).1.length ≤ ks.length + 1 := by
  unfold putD
  split
  · simp; omega
  · simp [hl]
structure KE (g : Gk) (ks : List Str) (xs : List D) (b : Nat) : Prop where
  len : ks.length = xs.length
  le : ks.length ≤ b
  get : ∀ x k, g x = some k → getD ks xs x = some (.str k.s)
theorem KE.up {g : Gk} {ks : List Str} {xs : List D} {b : Nat} {x : Str} {k : Kd} (h : KE g ks xs b) : KE (g.up x k) (putD ks xs x (.str k.s)).1 (putD ks xs x (.str k.s)).2 (b + 1) := by
  refine ⟨(putD_len h.len).1, by have := (putD_len (x := x) (d := .str k.s) h.len).2; have := h.le; omega, fun y j e => ?_⟩
  rw [getD_put h.len]
  unfold Gk.up at e
  split
  · rename_i hy
    rw [if_pos hy] at e
    cases e
    rfl
  · rename_i hy
    rw [if_neg hy] at e
    exact h.get y j e
theorem KE.mono {g : Gk} {ks : List Str} {xs : List D} {b c : Nat} (h : KE g ks xs b) (hb : b ≤ c) : KE g ks xs c := ⟨h.len, Nat.le_trans h.le hb, h.get⟩
theorem f_with {ks : List Str} {xs : List D} {x : Str} {d : D} (h : ks.length ≤ 1000) : sem (n + 1) 12 [.dic ks xs, .str x, d] s = some (.ok (.dic (putD ks xs x d).1 (putD ks xs x d).2), s) := by
  refine eq_wp ?_
  show Wp (fnD 4 (b_with_one (sem n)) [.dic ks xs, .str x, d] s) _ _
  refine wp_fnL ?_
  unfold b_with_one
  repeat array_get_dec
  refine ⟨by have : line = 100000 := rfl; omega, ?_⟩
  repeat array_get_dec
  exact ⟨rfl, rfl⟩
def kD : Option Kd → D
  | none => .non
  | some k => .str k.s
end
end K10
set_option Elab.async false
set_option linter.all false
set_option maxRecDepth 100000
set_option maxHeartbeats 4000000
namespace K10
open PySem L2 Lay DM
local macro_rules
  | `(tactic| array_get_dec) => `(tactic| first
    | with_reducible refine Stp.go ?_
    | (with_reducible refine wo_mod ?_ ?_; focus (first | decide | omega))
    | (with_reducible refine wo_div ?_ ?_; focus (first | decide | omega))
    | with_reducible refine wo_pow19 ?_
    | (with_reducible refine wo_pow ?_ ?_; focus decide)
    | (with_reducible refine wo_mulX ?_ ?_; focus (first | (left; decide) | (right; decide) | (left; omega) | (right; omega))))
local macro_rules
  | `(tactic| array_mem_dec) => `(tactic| first
    | (with_reducible refine sp_T ?_ ?_; focus (first | rfl | decide))
    | (with_reducible refine sp_F ?_ ?_; focus (first | rfl | decide)))
section
variable {n : Nat} {s : DS} {E : Xn → DS → Prop} {P : D → DS → Prop}
/-- a part's kind, told anywhere -/
def KiAt (m : Nat) (s : DS) (u : Tm) (ks : List Str) (xs : List D) (b : Nat) (d : D) : Prop := ∀ q : List D, q.length ≤ b → sem m 14 [en u, .dic ks xs, .tup q] s = some (.ok d, s)
theorem kinds_leaf {t : Tm} {ks : List Str} {xs p : List D} (h : ps t = []) : sem (n + 3) 13 [en t, .dic ks xs, .tup p] s = some (.ok (.lst []), s) := by
  have hp := f_parts (n := n) (s := s) t
  rw [h] at hp
  refine eq_wp ?_
  show Wp (fnD 7 (b_kinds_in (sem (n + 2))) [en t, .dic ks xs, .tup p] s) _ _
  refine wp_fnL ?_
  unfold b_kinds_in
  repeat (first | array_get_dec | refine wp_eq hp ?_ | dsimp only [enumD, List.map])
  exact ⟨rfl, rfl⟩
theorem kinds_n1 {w : W1} {a : Tm} {ks : List Str} {xs p : List D} {d0 : D} (hl : p.length ≤ 50) (i0 : KiAt (n + 2) s a ks xs (p.length + 1) d0) : sem (n + 3) 13 [en (.n1 w a), .dic ks xs, .tup p] s = some (.ok (.lst [d0]), s) := by
  have hp := f_parts (n := n) (s := s) (.n1 w a)
  have z : decide (w.s = ("let" : Str)) = false := by cases w <;> decide +kernel
  refine eq_wp ?_
  show Wp (fnD 7 (b_kinds_in (sem (n + 2))) [en (.n1 w a), .dic ks xs, .tup p] s) _ _
  refine wp_fnL ?_
  unfold b_kinds_in
  dsimp only [en, ps, List.map] at hp ⊢
  repeat (first | array_get_dec | refine wp_eq hp ?_ | dsimp only [enumD] | refine wo_catTX (lineP (by omega) (by decide)) ?_ | dsimp only [List.nil_append, List.cons_append])
  refine wp_eq (i0 _ (by simp)) ?_
  repeat (first | array_get_dec | refine sp_F z ?_ | dsimp only [List.nil_append, List.cons_append])
  exact ⟨rfl, rfl⟩
theorem kinds_n2 {w : W2} {a b : Tm} {ks : List Str} {xs p : List D} {d0 d1 : D} (hl : p.length ≤ 50) (i0 : KiAt (n + 2) s a ks xs (p.length + 1) d0) (i1 : KiAt (n + 2) s b ks xs (p.length + 1) d1) : sem (n + 3) 13 [en (.n2 w a b), .dic ks xs, .tup p] s = some (.ok (.lst [d0, d1]), s) := by
  have hp := f_parts (n := n) (s := s) (.n2 w a b)
  have z : decide (w.s = ("let" : Str)) = false := by cases w <;> decide +kernel
  refine eq_wp ?_
  show Wp (fnD 7 (b_kinds_in (sem (n + 2))) [en (.n2 w a b), .dic ks xs, .tup p] s) _ _
  refine wp_fnL ?_
  unfold b_kinds_in
  dsimp only [en, ps, List.map] at hp ⊢
  repeat (first | array_get_dec | refine wp_eq hp ?_ | dsimp only [enumD] | refine wo_catTX (lineP (by omega) (by decide)) ?_ | dsimp only [List.nil_append, List.cons_append])
  refine wp_eq (i0 _ (by simp)) ?_
  repeat (first | array_get_dec | refine sp_F z ?_ | refine wo_catTX (lineP (by omega) (by decide)) ?_ | dsimp only [List.nil_append, List.cons_append])
  refine wp_eq (i1 _ (by simp)) ?_
  repeat (first | array_get_dec | refine sp_F z ?_ | refine wo_catTX (lineP (by omega) (by decide)) ?_ | dsimp only [List.nil_append, List.cons_append])
  exact ⟨rfl, rfl⟩
theorem kinds_n3 {w : W3} {a b c : Tm} {ks : List Str} {xs p : List D} {d0 d1 d2 : D} (hl : p.length ≤ 50) (i0 : KiAt (n + 2) s a ks xs (p.length + 1) d0) (i1 : KiAt (n + 2) s b ks xs (p.length + 1) d1) (i2 : KiAt (n + 2) s c ks xs (p.length + 1) d2) : sem (n + 3) 13 [en (.n3 w a b c), .dic ks xs, .tup p] s = some (.ok (.lst [d0, d1, d2]), s) := by
  have hp := f_parts (n := n) (s := s) (.n3 w a b c)
  have z : decide (w.s = ("let" : Str)) = false := by cases w <;> decide +kernel
  refine eq_wp ?_
  show Wp (fnD 7 (b_kinds_in (sem (n + 2))) [en (.n3 w a b c), .dic ks xs, .tup p] s) _ _
  refine wp_fnL ?_
  unfold b_kinds_in
  dsimp only [en, ps, List.map] at hp ⊢
  repeat (first | array_get_dec | refine wp_eq hp ?_ | dsimp only [enumD] | refine wo_catTX (lineP (by omega) (by decide)) ?_ | dsimp only [List.nil_append, List.cons_append])
  refine wp_eq (i0 _ (by simp)) ?_
  repeat (first | array_get_dec | refine sp_F z ?_ | refine wo_catTX (lineP (by omega) (by decide)) ?_ | dsimp only [List.nil_append, List.cons_append])
  refine wp_eq (i1 _ (by simp)) ?_
  repeat (first | array_get_dec | refine sp_F z ?_ | refine wo_catTX (lineP (by omega) (by decide)) ?_ | dsimp only [List.nil_append, List.cons_append])
  refine wp_eq (i2 _ (by simp)) ?_
  repeat (first | array_get_dec | refine sp_F z ?_ | refine wo_catTX (lineP (by omega) (by decide)) ?_ | dsimp only [List.nil_append, List.cons_append])
  exact ⟨rfl, rfl⟩
theorem kinds_lt {x : Str} {a b : Tm} {ks : List Str} {xs p : List D} {d0 d1 : D} (hl : p.length ≤ 50) (hk : ks.length ≤ 1000) (i0 : KiAt (n + 2) s a ks xs (p.length + 1) d0) (i1 : KiAt (n + 2) s b (putD ks xs x d0).1 (putD ks xs x d0).2 (p.length + 1) d1) : sem (n + 3) 13 [en (.lt x a b), .dic ks xs, .tup p] s = some (.ok (.lst [d0, d1]), s) := by
  have hp := f_parts (n := n) (s := s) (.lt x a b)
  refine eq_wp ?_
  show Wp (fnD 7 (b_kinds_in (sem (n + 2))) [en (.lt x a b), .dic ks xs, .tup p] s) _ _
  refine wp_fnL ?_
  unfold b_kinds_in
  dsimp only [en, ps, List.map] at hp ⊢
  repeat (first | array_get_dec | refine wp_eq hp ?_ | dsimp only [enumD] | refine wo_catTX (lineP (by omega) (by decide)) ?_ | dsimp only [List.nil_append, List.cons_append])
  refine wp_eq (i0 _ (by simp)) ?_
  repeat (first | array_get_dec | refine sp_T rfl ?_ | refine wo_catTX (lineP (by omega) (by decide)) ?_ | dsimp only [List.nil_append, List.cons_append])
  refine wp_eq (f_with hk) ?_
  repeat (first | array_get_dec | refine sp_T rfl ?_ | refine wo_catTX (lineP (by omega) (by decide)) ?_ | dsimp only [List.nil_append, List.cons_append])
  refine wp_eq (i1 _ (by simp)) ?_
  repeat (first | array_get_dec | refine sp_T rfl ?_ | refine wo_catTX (lineP (by omega) (by decide)) ?_ | dsimp only [List.nil_append, List.cons_append])
  refine wp_eq (f_with hk) ?_
  repeat (first | array_get_dec | dsimp only [List.nil_append, List.cons_append])
  exact ⟨rfl, rfl⟩
/-! ### what kind_in makes of its parts' kinds -/
theorem cm2 {x y : Str} (h : PyData.strOk x = true) (h2 : PyData.strOk y = true) : cmpb (.tup [.str x, .str y]) := ⟨by simp [pl, pls, h, h2], by simp [dep, deps]⟩
end
end K10
set_option Elab.async false
set_option linter.all false
set_option maxRecDepth 100000
set_option maxHeartbeats 4000000
namespace K10
open PySem L2 Lay DM
local macro_rules
  | `(tactic| array_get_dec) => `(tactic| first
    | with_reducible refine Stp.go ?_
    | (with_reducible refine wo_mod ?_ ?_; focus (first | decide | omega))
    | (with_reducible refine wo_div ?_ ?_; focus (first | decide | omega))
    | with_reducible refine wo_pow19 ?_
    | (with_reducible refine wo_pow ?_ ?_; focus decide)
    | (with_reducible refine wo_mulX ?_ ?_; focus (first | (left; decide) | (right; decide) | (left; omega) | (right; omega))))
local macro_rules
  | `(tactic| array_mem_dec) => `(tactic| first
    | (with_reducible refine sp_T ?_ ?_; focus (first | rfl | decide))
    | (with_reducible refine sp_F ?_ ?_; focus (first | rfl | decide)))
section
variable {n : Nat} {s : DS} {D0 : D} {p : List D}
theorem kt_n1 {w : W1} {a : Tm} {r k : Kd} (h : sg1 w = some (r, k)) (hk : sem n 13 [en (.n1 w a), D0, .tup p] s = some (.ok (.lst [kD (some k)]), s)) : fnD 6 (b_kind_in (sem n)) [en (.n1 w a), D0, .tup p] s = some (.ok (kD (some r)), s) := by
  cases w <;> cases h <;> ((refine eq_wp ?_; refine wp_fnL (m := b_kind_in (sem _)) ?_; unfold b_kind_in; dsimp only [en, W0.s, W1.s, W2.s, W3.s, kD, Kd.s] at hk ⊢; repeat (first | array_get_dec | array_mem_dec | refine wp_eq hk ?_ | refine wo_neT ⟨by decide +kernel, by decide +kernel⟩ ⟨by decide +kernel, by decide +kernel⟩ ?_ | refine wo_neL ⟨by decide +kernel, by decide +kernel⟩ ⟨by decide +kernel, by decide +kernel⟩ ?_ | refine wo_by rfl ?_)); exact ⟨rfl, rfl⟩)
theorem kt_isb {a : Tm} {d : D} (hk : sem n 13 [en (.n1 .is_blank a), D0, .tup p] s = some (.ok (.lst [d]), s)) : fnD 6 (b_kind_in (sem n)) [en (.n1 .is_blank a), D0, .tup p] s = some (.ok .non, s) := by
  (refine eq_wp ?_; refine wp_fnL (m := b_kind_in (sem _)) ?_; unfold b_kind_in; dsimp only [en, W0.s, W1.s, W2.s, W3.s, kD, Kd.s] at hk ⊢; repeat (first | array_get_dec | array_mem_dec | refine wp_eq hk ?_ | refine wo_neT ⟨by decide +kernel, by decide +kernel⟩ ⟨by decide +kernel, by decide +kernel⟩ ?_ | refine wo_neL ⟨by decide +kernel, by decide +kernel⟩ ⟨by decide +kernel, by decide +kernel⟩ ?_ | refine wo_by rfl ?_))
  exact ⟨rfl, rfl⟩
theorem kt_not {a : Tm} {d : D} (hk : sem n 13 [en (.n1 .not a), D0, .tup p] s = some (.ok (.lst [d]), s)) : fnD 6 (b_kind_in (sem n)) [en (.n1 .not a), D0, .tup p] s = some (.ok .non, s) := by
  (refine eq_wp ?_; refine wp_fnL (m := b_kind_in (sem _)) ?_; unfold b_kind_in; dsimp only [en, W0.s, W1.s, W2.s, W3.s, kD, Kd.s] at hk ⊢; repeat (first | array_get_dec | array_mem_dec | refine wp_eq hk ?_ | refine wo_neT ⟨by decide +kernel, by decide +kernel⟩ ⟨by decide +kernel, by decide +kernel⟩ ?_ | refine wo_neL ⟨by decide +kernel, by decide +kernel⟩ ⟨by decide +kernel, by decide +kernel⟩ ?_ | refine wo_by rfl ?_))
  exact ⟨rfl, rfl⟩
theorem kt_n2 {w : W2} {a b : Tm} {r k1 k2 : Kd} (h : sg2 w = some (r, k1, k2)) (hk : sem n 13 [en (.n2 w a b), D0, .tup p] s = some (.ok (.lst [kD (some k1), kD (some k2)]), s)) : fnD 6 (b_kind_in (sem n)) [en (.n2 w a b), D0, .tup p] s = some (.ok (kD (some r)), s) := by
  cases w <;> cases h <;> ((refine eq_wp ?_; refine wp_fnL (m := b_kind_in (sem _)) ?_; unfold b_kind_in; dsimp only [en, W0.s, W1.s, W2.s, W3.s, kD, Kd.s] at hk ⊢; repeat (first | array_get_dec | array_mem_dec | refine wp_eq hk ?_ | refine wo_neT ⟨by decide +kernel, by decide +kernel⟩ ⟨by decide +kernel, by decide +kernel⟩ ?_ | refine wo_neL ⟨by decide +kernel, by decide +kernel⟩ ⟨by decide +kernel, by decide +kernel⟩ ?_ | refine wo_by rfl ?_)); exact ⟨rfl, rfl⟩)
theorem kt_or_else {a b : Tm} {k : Kd} (hk : sem n 13 [en (.n2 .or_else a b), D0, .tup p] s = some (.ok (.lst [kD (some k), kD (some k)]), s)) : fnD 6 (b_kind_in (sem n)) [en (.n2 .or_else a b), D0, .tup p] s = some (.ok (kD (some k)), s) := by
  cases k <;> ((refine eq_wp ?_; refine wp_fnL (m := b_kind_in (sem _)) ?_; unfold b_kind_in; dsimp only [en, W0.s, W1.s, W2.s, W3.s, kD, Kd.s] at hk ⊢; repeat (first | array_get_dec | array_mem_dec | refine wp_eq hk ?_ | refine wo_neT ⟨by decide +kernel, by decide +kernel⟩ ⟨by decide +kernel, by decide +kernel⟩ ?_ | refine wo_neL ⟨by decide +kernel, by decide +kernel⟩ ⟨by decide +kernel, by decide +kernel⟩ ?_ | refine wo_by rfl ?_)); exact ⟨rfl, rfl⟩)
theorem kt_blank_if {a b : Tm} {k : Kd} (hk : sem n 13 [en (.n2 .blank_if a b), D0, .tup p] s = some (.ok (.lst [kD (some k), kD (some k)]), s)) : fnD 6 (b_kind_in (sem n)) [en (.n2 .blank_if a b), D0, .tup p] s = some (.ok (kD (some k)), s) := by
  cases k <;> ((refine eq_wp ?_; refine wp_fnL (m := b_kind_in (sem _)) ?_; unfold b_kind_in; dsimp only [en, W0.s, W1.s, W2.s, W3.s, kD, Kd.s] at hk ⊢; repeat (first | array_get_dec | array_mem_dec | refine wp_eq hk ?_ | refine wo_neT ⟨by decide +kernel, by decide +kernel⟩ ⟨by decide +kernel, by decide +kernel⟩ ?_ | refine wo_neL ⟨by decide +kernel, by decide +kernel⟩ ⟨by decide +kernel, by decide +kernel⟩ ?_ | refine wo_by rfl ?_)); exact ⟨rfl, rfl⟩)
theorem kt_same {a b : Tm} {k : Kd} (hk : sem n 13 [en (.n2 .same a b), D0, .tup p] s = some (.ok (.lst [kD (some k), kD (some k)]), s)) : fnD 6 (b_kind_in (sem n)) [en (.n2 .same a b), D0, .tup p] s = some (.ok .non, s) := by
  cases k <;> ((refine eq_wp ?_; refine wp_fnL (m := b_kind_in (sem _)) ?_; unfold b_kind_in; dsimp only [en, W0.s, W1.s, W2.s, W3.s, kD, Kd.s] at hk ⊢; repeat (first | array_get_dec | array_mem_dec | refine wp_eq hk ?_ | refine wo_neT ⟨by decide +kernel, by decide +kernel⟩ ⟨by decide +kernel, by decide +kernel⟩ ?_ | refine wo_neL ⟨by decide +kernel, by decide +kernel⟩ ⟨by decide +kernel, by decide +kernel⟩ ?_ | refine wo_by rfl ?_)); exact ⟨rfl, rfl⟩)
theorem kt_less {a b : Tm} {k : Kd} (hk : sem n 13 [en (.n2 .less a b), D0, .tup p] s = some (.ok (.lst [kD (some k), kD (some k)]), s)) : fnD 6 (b_kind_in (sem n)) [en (.n2 .less a b), D0, .tup p] s = some (.ok .non, s) := by
  cases k <;> ((refine eq_wp ?_; refine wp_fnL (m := b_kind_in (sem _)) ?_; unfold b_kind_in; dsimp only [en, W0.s, W1.s, W2.s, W3.s, kD, Kd.s] at hk ⊢; repeat (first | array_get_dec | array_mem_dec | refine wp_eq hk ?_ | refine wo_neT ⟨by decide +kernel, by decide +kernel⟩ ⟨by decide +kernel, by decide +kernel⟩ ?_ | refine wo_neL ⟨by decide +kernel, by decide +kernel⟩ ⟨by decide +kernel, by decide +kernel⟩ ?_ | refine wo_by rfl ?_)); exact ⟨rfl, rfl⟩)
theorem kt_begins {a b : Tm} (hk : sem n 13 [en (.n2 .begins a b), D0, .tup p] s = some (.ok (.lst [kD (some .text), kD (some .text)]), s)) : fnD 6 (b_kind_in (sem n)) [en (.n2 .begins a b), D0, .tup p] s = some (.ok .non, s) := by
  (refine eq_wp ?_; refine wp_fnL (m := b_kind_in (sem _)) ?_; unfold b_kind_in; dsimp only [en, W0.s, W1.s, W2.s, W3.s, kD, Kd.s] at hk ⊢; repeat (first | array_get_dec | array_mem_dec | refine wp_eq hk ?_ | refine wo_neT ⟨by decide +kernel, by decide +kernel⟩ ⟨by decide +kernel, by decide +kernel⟩ ?_ | refine wo_neL ⟨by decide +kernel, by decide +kernel⟩ ⟨by decide +kernel, by decide +kernel⟩ ?_ | refine wo_by rfl ?_))
  exact ⟨rfl, rfl⟩
theorem kt_and {a b : Tm} (hk : sem n 13 [en (.n2 .and a b), D0, .tup p] s = some (.ok (.lst [.non, .non]), s)) : fnD 6 (b_kind_in (sem n)) [en (.n2 .and a b), D0, .tup p] s = some (.ok .non, s) := by
  (refine eq_wp ?_; refine wp_fnL (m := b_kind_in (sem _)) ?_; unfold b_kind_in; dsimp only [en, W0.s, W1.s, W2.s, W3.s, kD, Kd.s] at hk ⊢; repeat (first | array_get_dec | array_mem_dec | refine wp_eq hk ?_ | refine wo_neT ⟨by decide +kernel, by decide +kernel⟩ ⟨by decide +kernel, by decide +kernel⟩ ?_ | refine wo_neL ⟨by decide +kernel, by decide +kernel⟩ ⟨by decide +kernel, by decide +kernel⟩ ?_ | refine wo_by rfl ?_))
  exact ⟨rfl, rfl⟩
theorem kt_or {a b : Tm} (hk : sem n 13 [en (.n2 .or a b), D0, .tup p] s = some (.ok (.lst [.non, .non]), s)) : fnD 6 (b_kind_in (sem n)) [en (.n2 .or a b), D0, .tup p] s = some (.ok .non, s) := by
  (refine eq_wp ?_; refine wp_fnL (m := b_kind_in (sem _)) ?_; unfold b_kind_in; dsimp only [en, W0.s, W1.s, W2.s, W3.s, kD, Kd.s] at hk ⊢; repeat (first | array_get_dec | array_mem_dec | refine wp_eq hk ?_ | refine wo_neT ⟨by decide +kernel, by decide +kernel⟩ ⟨by decide +kernel, by decide +kernel⟩ ?_ | refine wo_neL ⟨by decide +kernel, by decide +kernel⟩ ⟨by decide +kernel, by decide +kernel⟩ ?_ | refine wo_by rfl ?_))
  exact ⟨rfl, rfl⟩
theorem kt_part {a b c : Tm} (hk : sem n 13 [en (.n3 .part a b c), D0, .tup p] s = some (.ok (.lst [kD (some .text), kD (some .number), kD (some .number)]), s)) : fnD 6 (b_kind_in (sem n)) [en (.n3 .part a b c), D0, .tup p] s = some (.ok (kD (some .text)), s) := by
  (refine eq_wp ?_; refine wp_fnL (m := b_kind_in (sem _)) ?_; unfold b_kind_in; dsimp only [en, W0.s, W1.s, W2.s, W3.s, kD, Kd.s] at hk ⊢; repeat (first | array_get_dec | array_mem_dec | refine wp_eq hk ?_ | refine wo_neT ⟨by decide +kernel, by decide +kernel⟩ ⟨by decide +kernel, by decide +kernel⟩ ?_ | refine wo_neL ⟨by decide +kernel, by decide +kernel⟩ ⟨by decide +kernel, by decide +kernel⟩ ?_ | refine wo_by rfl ?_))
  exact ⟨rfl, rfl⟩
theorem kt_ite {a b c : Tm} {k : Kd} (hk : sem n 13 [en (.n3 .ite a b c), D0, .tup p] s = some (.ok (.lst [.non, kD (some k), kD (some k)]), s)) : fnD 6 (b_kind_in (sem n)) [en (.n3 .ite a b c), D0, .tup p] s = some (.ok (kD (some k)), s) := by
  cases k <;> ((refine eq_wp ?_; refine wp_fnL (m := b_kind_in (sem _)) ?_; unfold b_kind_in; dsimp only [en, W0.s, W1.s, W2.s, W3.s, kD, Kd.s] at hk ⊢; repeat (first | array_get_dec | array_mem_dec | refine wp_eq hk ?_ | refine wo_neT ⟨by decide +kernel, by decide +kernel⟩ ⟨by decide +kernel, by decide +kernel⟩ ?_ | refine wo_neL ⟨by decide +kernel, by decide +kernel⟩ ⟨by decide +kernel, by decide +kernel⟩ ?_ | refine wo_by rfl ?_)); exact ⟨rfl, rfl⟩)
theorem kt_lt {x : Str} {a b : Tm} {k1 k : Kd} (hk : sem n 13 [en (.lt x a b), D0, .tup p] s = some (.ok (.lst [kD (some k1), kD (some k)]), s)) : fnD 6 (b_kind_in (sem n)) [en (.lt x a b), D0, .tup p] s = some (.ok (kD (some k)), s) := by
  cases k <;> ((refine eq_wp ?_; refine wp_fnL (m := b_kind_in (sem _)) ?_; unfold b_kind_in; dsimp only [en, W0.s, W1.s, W2.s, W3.s, kD, Kd.s] at hk ⊢; repeat (first | array_get_dec | array_mem_dec | refine wp_eq hk ?_ | refine wo_neT ⟨by decide +kernel, by decide +kernel⟩ ⟨by decide +kernel, by decide +kernel⟩ ?_ | refine wo_neL ⟨by decide +kernel, by decide +kernel⟩ ⟨by decide +kernel, by decide +kernel⟩ ?_ | refine wo_by rfl ?_)); exact ⟨rfl, rfl⟩)
theorem kt_n0 {w : W0} (hk : sem n 13 [en (.n0 w), D0, .tup p] s = some (.ok (.lst []), s)) : fnD 6 (b_kind_in (sem n)) [en (.n0 w), D0, .tup p] s = some (.ok .non, s) := by
  cases w <;> ((refine eq_wp ?_; refine wp_fnL (m := b_kind_in (sem _)) ?_; unfold b_kind_in; dsimp only [en, W0.s, W1.s, W2.s, W3.s, kD, Kd.s] at hk ⊢; repeat (first | array_get_dec | array_mem_dec | refine wp_eq hk ?_ | refine wo_neT ⟨by decide +kernel, by decide +kernel⟩ ⟨by decide +kernel, by decide +kernel⟩ ?_ | refine wo_neL ⟨by decide +kernel, by decide +kernel⟩ ⟨by decide +kernel, by decide +kernel⟩ ?_ | refine wo_by rfl ?_)); exact ⟨rfl, rfl⟩)
theorem kt_num {i : Int} (hk : sem n 13 [en (.num i), D0, .tup p] s = some (.ok (.lst []), s)) : fnD 6 (b_kind_in (sem n)) [en (.num i), D0, .tup p] s = some (.ok (kD (some .number)), s) := by
  (refine eq_wp ?_; refine wp_fnL (m := b_kind_in (sem _)) ?_; unfold b_kind_in; dsimp only [en, W0.s, W1.s, W2.s, W3.s, kD, Kd.s] at hk ⊢; repeat (first | array_get_dec | array_mem_dec | refine wp_eq hk ?_ | refine wo_neT ⟨by decide +kernel, by decide +kernel⟩ ⟨by decide +kernel, by decide +kernel⟩ ?_ | refine wo_neL ⟨by decide +kernel, by decide +kernel⟩ ⟨by decide +kernel, by decide +kernel⟩ ?_ | refine wo_by rfl ?_))
  exact ⟨rfl, rfl⟩
theorem kt_text {i : Str} (hk : sem n 13 [en (.text i), D0, .tup p] s = some (.ok (.lst []), s)) : fnD 6 (b_kind_in (sem n)) [en (.text i), D0, .tup p] s = some (.ok (kD (some .text)), s) := by
  (refine eq_wp ?_; refine wp_fnL (m := b_kind_in (sem _)) ?_; unfold b_kind_in; dsimp only [en, W0.s, W1.s, W2.s, W3.s, kD, Kd.s] at hk ⊢; repeat (first | array_get_dec | array_mem_dec | refine wp_eq hk ?_ | refine wo_neT ⟨by decide +kernel, by decide +kernel⟩ ⟨by decide +kernel, by decide +kernel⟩ ?_ | refine wo_neL ⟨by decide +kernel, by decide +kernel⟩ ⟨by decide +kernel, by decide +kernel⟩ ?_ | refine wo_by rfl ?_))
  exact ⟨rfl, rfl⟩
theorem kt_date {i j k : Int} (hk : sem n 13 [en (.date i j k), D0, .tup p] s = some (.ok (.lst []), s)) : fnD 6 (b_kind_in (sem n)) [en (.date i j k), D0, .tup p] s = some (.ok (kD (some .day)), s) := by
  (refine eq_wp ?_; refine wp_fnL (m := b_kind_in (sem _)) ?_; unfold b_kind_in; dsimp only [en, W0.s, W1.s, W2.s, W3.s, kD, Kd.s] at hk ⊢; repeat (first | array_get_dec | array_mem_dec | refine wp_eq hk ?_ | refine wo_neT ⟨by decide +kernel, by decide +kernel⟩ ⟨by decide +kernel, by decide +kernel⟩ ?_ | refine wo_neL ⟨by decide +kernel, by decide +kernel⟩ ⟨by decide +kernel, by decide +kernel⟩ ?_ | refine wo_by rfl ?_))
  exact ⟨rfl, rfl⟩
theorem kt_blank {k : Kd} (hk : sem n 13 [en (.blank k), D0, .tup p] s = some (.ok (.lst []), s)) : fnD 6 (b_kind_in (sem n)) [en (.blank k), D0, .tup p] s = some (.ok (kD (some k)), s) := by
  cases k <;> ((refine eq_wp ?_; refine wp_fnL (m := b_kind_in (sem _)) ?_; unfold b_kind_in; dsimp only [en, W0.s, W1.s, W2.s, W3.s, kD, Kd.s] at hk ⊢; repeat (first | array_get_dec | array_mem_dec | refine wp_eq hk ?_ | refine wo_neT ⟨by decide +kernel, by decide +kernel⟩ ⟨by decide +kernel, by decide +kernel⟩ ?_ | refine wo_neL ⟨by decide +kernel, by decide +kernel⟩ ⟨by decide +kernel, by decide +kernel⟩ ?_ | refine wo_by rfl ?_)); exact ⟨rfl, rfl⟩)
theorem kt_col {x : Str} {k : Kd} {ks : List Str} {xs : List D} (hg : getD ks xs x = some (.str k.s)) (hk : sem n 13 [en (.col x), .dic ks xs, .tup p] s = some (.ok (.lst []), s)) : fnD 6 (b_kind_in (sem n)) [en (.col x), .dic ks xs, .tup p] s = some (.ok (kD (some k)), s) := by
  have hg' : ∀ Q : D → Prop, Q (.str k.s) → WO (getD ks xs x) Q := fun Q q => ⟨_, hg, q⟩
  refine eq_wp ?_
  refine wp_fnL (m := b_kind_in (sem _)) ?_
  unfold b_kind_in
  dsimp only [en] at hk ⊢
  repeat (first | array_get_dec | array_mem_dec | refine wp_eq hk ?_ | refine hg' _ ?_ | refine wo_by rfl ?_)
  exact ⟨rfl, rfl⟩
theorem f_kind {h : Bool} {g : Gk} {r : Option Kd} {t : Tm} (w : TT h g r t) : ∀ (ks : List Str) (xs p : List D) (m b : Nat), KE g ks xs b → b + ht t ≤ 500 → p.length + ht t ≤ 50 → 2 * ht t + 2 ≤ m → sem m 14 [en t, .dic ks xs, .tup p] s = some (.ok (kD r), s) := by
  induction w with
  | @col g x k h1 h2 =>
    intro ks xs p m b ke hb hp hm
    simp only [ht] at hb hp hm
    obtain ⟨m, rfl⟩ := Nat.exists_eq_add_of_le (show 4 ≤ m by omega)
    rw [show 4 + m = (m + 3) + 1 by omega]
    exact kt_col (ke.get _ _ h1) (kinds_leaf rfl)
  | num =>
    intro ks xs p m b ke hb hp hm
    simp only [ht] at hb hp hm
    obtain ⟨m, rfl⟩ := Nat.exists_eq_add_of_le (show 4 ≤ m by omega)
    rw [show 4 + m = (m + 3) + 1 by omega]
    exact kt_num (n := m + 3) (kinds_leaf (n := m) rfl)
  | text _ _ =>
    intro ks xs p m b ke hb hp hm
    simp only [ht] at hb hp hm
    obtain ⟨m, rfl⟩ := Nat.exists_eq_add_of_le (show 4 ≤ m by omega)
    rw [show 4 + m = (m + 3) + 1 by omega]
    exact kt_text (n := m + 3) (kinds_leaf (n := m) rfl)
  | blank _ =>
    intro ks xs p m b ke hb hp hm
    simp only [ht] at hb hp hm
    obtain ⟨m, rfl⟩ := Nat.exists_eq_add_of_le (show 4 ≤ m by omega)
    rw [show 4 + m = (m + 3) + 1 by omega]
    exact kt_blank (n := m + 3) (kinds_leaf (n := m) rfl)
  | date _ _ _ _ _ =>
    intro ks xs p m b ke hb hp hm
    simp only [ht] at hb hp hm
    obtain ⟨m, rfl⟩ := Nat.exists_eq_add_of_le (show 4 ≤ m by omega)
    rw [show 4 + m = (m + 3) + 1 by omega]
    exact kt_date (n := m + 3) (kinds_leaf (n := m) rfl)
  | n0 =>
    intro ks xs p m b ke hb hp hm
    simp only [ht] at hb hp hm
    obtain ⟨m, rfl⟩ := Nat.exists_eq_add_of_le (show 4 ≤ m by omega)
    rw [show 4 + m = (m + 3) + 1 by omega]
    exact kt_n0 (n := m + 3) (kinds_leaf (n := m) rfl)
  | @n1 g w r k a h1 h2 h3 i1 =>
    intro ks xs p m b ke hb hp hm
    simp only [ht] at hb hp hm
    obtain ⟨m, rfl⟩ := Nat.exists_eq_add_of_le (show 4 ≤ m by omega)
    rw [show 4 + m = (m + 3) + 1 by omega]
    exact kt_n1 h1 (kinds_n1 (by omega) (fun q hq => i1 ks xs q _ b ke (by omega) (by omega) (by omega)))
  | isb _ i1 =>
    intro ks xs p m b ke hb hp hm
    simp only [ht] at hb hp hm
    obtain ⟨m, rfl⟩ := Nat.exists_eq_add_of_le (show 4 ≤ m by omega)
    rw [show 4 + m = (m + 3) + 1 by omega]
    exact kt_isb (kinds_n1 (by omega) (fun q hq => i1 ks xs q _ b ke (by omega) (by omega) (by omega)))
  | not _ i1 =>
    intro ks xs p m b ke hb hp hm
    simp only [ht] at hb hp hm
    obtain ⟨m, rfl⟩ := Nat.exists_eq_add_of_le (show 4 ≤ m by omega)
    rw [show 4 + m = (m + 3) + 1 by omega]
    exact kt_not (kinds_n1 (by omega) (fun q hq => i1 ks xs q _ b ke (by omega) (by omega) (by omega)))
  | @n2 g w r k1 k2 a b h1 h2 h3 h4 i1 i2 =>
    intro ks xs p m b ke hb hp hm
    simp only [ht] at hb hp hm
    obtain ⟨m, rfl⟩ := Nat.exists_eq_add_of_le (show 4 ≤ m by omega)
    rw [show 4 + m = (m + 3) + 1 by omega]
    exact kt_n2 h1 (kinds_n2 (by omega) (fun q hq => i1 ks xs q _ b ke (by omega) (by omega) (by omega)) (fun q hq => i2 ks xs q _ b ke (by omega) (by omega) (by omega)))
  | oe _ _ i1 i2 =>
    intro ks xs p m b ke hb hp hm
    simp only [ht] at hb hp hm
    obtain ⟨m, rfl⟩ := Nat.exists_eq_add_of_le (show 4 ≤ m by omega)
    rw [show 4 + m = (m + 3) + 1 by omega]
    exact kt_or_else (kinds_n2 (by omega) (fun q hq => i1 ks xs q _ b ke (by omega) (by omega) (by omega)) (fun q hq => i2 ks xs q _ b ke (by omega) (by omega) (by omega)))
  | same _ _ i1 i2 =>
    intro ks xs p m b ke hb hp hm
    simp only [ht] at hb hp hm
    obtain ⟨m, rfl⟩ := Nat.exists_eq_add_of_le (show 4 ≤ m by omega)
    rw [show 4 + m = (m + 3) + 1 by omega]
    exact kt_same (kinds_n2 (by omega) (fun q hq => i1 ks xs q _ b ke (by omega) (by omega) (by omega)) (fun q hq => i2 ks xs q _ b ke (by omega) (by omega) (by omega)))
  | less _ _ i1 i2 =>
    intro ks xs p m b ke hb hp hm
    simp only [ht] at hb hp hm
    obtain ⟨m, rfl⟩ := Nat.exists_eq_add_of_le (show 4 ≤ m by omega)
    rw [show 4 + m = (m + 3) + 1 by omega]
    exact kt_less (kinds_n2 (by omega) (fun q hq => i1 ks xs q _ b ke (by omega) (by omega) (by omega)) (fun q hq => i2 ks xs q _ b ke (by omega) (by omega) (by omega)))
  | begins _ _ i1 i2 =>
    intro ks xs p m b ke hb hp hm
    simp only [ht] at hb hp hm
    obtain ⟨m, rfl⟩ := Nat.exists_eq_add_of_le (show 4 ≤ m by omega)
    rw [show 4 + m = (m + 3) + 1 by omega]
    exact kt_begins (kinds_n2 (by omega) (fun q hq => i1 ks xs q _ b ke (by omega) (by omega) (by omega)) (fun q hq => i2 ks xs q _ b ke (by omega) (by omega) (by omega)))
  | and _ _ i1 i2 =>
    intro ks xs p m b ke hb hp hm
    simp only [ht] at hb hp hm
    obtain ⟨m, rfl⟩ := Nat.exists_eq_add_of_le (show 4 ≤ m by omega)
    rw [show 4 + m = (m + 3) + 1 by omega]
    exact kt_and (kinds_n2 (by omega) (fun q hq => i1 ks xs q _ b ke (by omega) (by omega) (by omega)) (fun q hq => i2 ks xs q _ b ke (by omega) (by omega) (by omega)))
  | or _ _ i1 i2 =>
    intro ks xs p m b ke hb hp hm
    simp only [ht] at hb hp hm
    obtain ⟨m, rfl⟩ := Nat.exists_eq_add_of_le (show 4 ≤ m by omega)
    rw [show 4 + m = (m + 3) + 1 by omega]
    exact kt_or (kinds_n2 (by omega) (fun q hq => i1 ks xs q _ b ke (by omega) (by omega) (by omega)) (fun q hq => i2 ks xs q _ b ke (by omega) (by omega) (by omega)))
  | bi _ _ _ i1 i2 =>
    intro ks xs p m b ke hb hp hm
    simp only [ht] at hb hp hm
    obtain ⟨m, rfl⟩ := Nat.exists_eq_add_of_le (show 4 ≤ m by omega)
    rw [show 4 + m = (m + 3) + 1 by omega]
    exact kt_blank_if (kinds_n2 (by omega) (fun q hq => i1 ks xs q _ b ke (by omega) (by omega) (by omega)) (fun q hq => i2 ks xs q _ b ke (by omega) (by omega) (by omega)))
  | part _ _ _ i1 i2 i3 =>
    intro ks xs p m b ke hb hp hm
    simp only [ht] at hb hp hm
    obtain ⟨m, rfl⟩ := Nat.exists_eq_add_of_le (show 4 ≤ m by omega)
    rw [show 4 + m = (m + 3) + 1 by omega]
    exact kt_part (kinds_n3 (by omega) (fun q hq => i1 ks xs q _ b ke (by omega) (by omega) (by omega)) (fun q hq => i2 ks xs q _ b ke (by omega) (by omega) (by omega)) (fun q hq => i3 ks xs q _ b ke (by omega) (by omega) (by omega)))
  | ite _ _ _ i1 i2 i3 =>
    intro ks xs p m b ke hb hp hm
    simp only [ht] at hb hp hm
    obtain ⟨m, rfl⟩ := Nat.exists_eq_add_of_le (show 4 ≤ m by omega)
    rw [show 4 + m = (m + 3) + 1 by omega]
    exact kt_ite (kinds_n3 (by omega) (fun q hq => i1 ks xs q _ b ke (by omega) (by omega) (by omega)) (fun q hq => i2 ks xs q _ b ke (by omega) (by omega) (by omega)) (fun q hq => i3 ks xs q _ b ke (by omega) (by omega) (by omega)))
  | @lt g x k1 k a b h1 h2 h3 i1 i2 =>
    intro ks xs p m b ke hb hp hm
    simp only [ht] at hb hp hm
    obtain ⟨m, rfl⟩ := Nat.exists_eq_add_of_le (show 4 ≤ m by omega)
    rw [show 4 + m = (m + 3) + 1 by omega]
    exact kt_lt (kinds_lt (by omega) (by have := ke.le; omega) (fun q hq => i1 ks xs q _ b ke (by omega) (by omega) (by omega)) (fun q hq => i2 _ _ q _ (b + 1) ke.up (by omega) (by omega) (by omega)))
end
end K10
set_option Elab.async false
set_option linter.all false
set_option maxRecDepth 100000
set_option maxHeartbeats 4000000
namespace K10
open PySem L2 Lay DM
local macro_rules
  | `(tactic| array_get_dec) => `(tactic| first
    | with_reducible refine Stp.go ?_
    | (with_reducible refine wo_mod ?_ ?_; focus (first | decide | omega))
    | (with_reducible refine wo_div ?_ ?_; focus (first | decide | omega))
    | with_reducible refine wo_pow19 ?_
    | (with_reducible refine wo_pow ?_ ?_; focus decide)
    | (with_reducible refine wo_mulX ?_ ?_; focus (first | (left; decide) | (right; decide) | (left; omega) | (right; omega))))
local macro_rules
  | `(tactic| array_mem_dec) => `(tactic| first
    | (with_reducible refine sp_T ?_ ?_; focus (first | rfl | decide))
    | (with_reducible refine sp_F ?_ ?_; focus (first | rfl | decide)))
section
variable {n : Nat} {s : DS} {E : Xn → DS → Prop} {P : D → DS → Prop}
theorem f_check {h : Bool} {g : Gk} {r : Option Kd} {t : Tm} {ks : List Str} {xs : List D} (w : TT h g r t) (hh : ht t ≤ 10) (ke : KE g ks xs 10) (c : Cov g ks) (hm : 30 ≤ n) : sem (n + 1) 17 [.str (tg h), en t, .bl r.isNone, .dic ks xs] s = some (.ok (kD r), s) := by
  have hk := ke.le
  refine eq_wp ?_
  show Wp (fnD 6 (b_check (sem n)) [.str (tg h), en t, .bl r.isNone, .dic ks xs] s) _ _
  refine wp_fnL ?_
  unfold b_check
  repeat array_get_dec
  refine wp_eq (f_cs (ht t) t g r [] n (Nat.le_refl _) w (by simp; omega) (by omega)) ?_
  repeat array_get_dec
  refine wp_eq (f_loose (ht t) t g r ks [] n (Nat.le_refl _) w c (by omega) (by simp; omega) (by omega)) ?_
  repeat array_get_dec
  refine wp_eq (f_kind w ks xs [] n 10 ke (by omega) (by simp; omega) (by omega)) ?_
  repeat array_get_dec
  exact ⟨rfl, rfl⟩
theorem f_kind_of {h : Bool} {g : Gk} {k : Kd} {t : Tm} {ks : List Str} {xs : List D} (w : TT h g (some k) t) (hh : ht t ≤ 10) (ke : KE g ks xs 10) (c : Cov g ks) (hm : 40 ≤ n) : sem n 18 [.str (tg h), en t, .dic ks xs] s = some (.ok (.str k.s), s) := by
  obtain ⟨n, rfl⟩ := Nat.exists_eq_add_of_le hm
  rw [show 40 + n = ((38 + n) + 1) + 1 by omega]
  refine eq_wp ?_
  show Wp (fnD 3 (b_kind_of (sem ((38 + n) + 1))) [.str (tg h), en t, .dic ks xs] s) _ _
  refine wp_fnL ?_
  unfold b_kind_of
  repeat array_get_dec
  refine wp_eq (f_check w hh ke c (by omega)) ?_
  repeat array_get_dec
  exact ⟨rfl, rfl⟩
theorem f_check_condition {h : Bool} {g : Gk} {t : Tm} {ks : List Str} {xs : List D} (w : TT h g none t) (hh : ht t ≤ 10) (ke : KE g ks xs 10) (c : Cov g ks) (hm : 40 ≤ n) : sem n 19 [.str (tg h), en t, .dic ks xs] s = some (.ok .non, s) := by
  obtain ⟨n, rfl⟩ := Nat.exists_eq_add_of_le hm
  rw [show 40 + n = ((38 + n) + 1) + 1 by omega]
  refine eq_wp ?_
  show Wp (fnDz true 3 (b_check_condition (sem ((38 + n) + 1))) [.str (tg h), en t, .dic ks xs] s) _ _
  refine wp_fnZL ?_
  unfold b_check_condition
  repeat array_get_dec
  refine wp_eq (f_check w hh ke c (by omega)) ?_
  repeat array_get_dec
  exact ⟨rfl, rfl⟩
/-! ### paths -/
def enP (p : List Nat) : D := .tup (p.map fun i : Nat => .int (i : Int))
def encs (i : Nat) (l : List (List Nat)) : List (List Nat) := l.map (i :: ·)
def pth : Tm → List (List Nat)
  | .lt _ a b => [] :: (encs 0 (pth a) ++ encs 1 (pth b))
  | .n1 _ a => [] :: encs 0 (pth a)
  | .n2 _ a b => [] :: (encs 0 (pth a) ++ encs 1 (pth b))
  | .n3 _ a b c => [] :: (encs 0 (pth a) ++ encs 1 (pth b) ++ encs 2 (pth c))
  | _ => [[]]
def pthL (t : Tm) : List D := (pth t).map enP
theorem pth_len : ∀ t : Tm, 2 * (pth t).length + 1 ≤ 3 ^ (ht t)
  | .lt x a b => by
    have h1 := pth_len a
    have h2 := pth_len b
    have h3 : 3 ^ ht a ≤ 3 ^ max (ht a) (ht b) := Nat.pow_le_pow_right (by decide) (by omega)
    have h4 : 3 ^ ht b ≤ 3 ^ max (ht a) (ht b) := Nat.pow_le_pow_right (by decide) (by omega)
    simp only [pth, encs, ht, List.length_cons, List.length_append, List.length_map, Nat.pow_succ]
    omega
  | .n1 _ a => by
    have h1 := pth_len a
    simp only [pth, encs, ht, List.length_cons, List.length_map, Nat.pow_succ]
    omega
  | .n2 _ a b => by
    have h1 := pth_len a
    have h2 := pth_len b
    have h3 : 3 ^ ht a ≤ 3 ^ max (ht a) (ht b) := Nat.pow_le_pow_right (by decide) (by omega)
    have h4 : 3 ^ ht b ≤ 3 ^ max (ht a) (ht b) := Nat.pow_le_pow_right (by decide) (by omega)
    simp only [pth, encs, ht, List.length_cons, List.length_append, List.length_map, Nat.pow_succ]
    omega
  | .n3 _ a b c => by
    have h1 := pth_len a
    have h2 := pth_len b
    have h3 := pth_len c
    have h4 : 3 ^ ht a ≤ 3 ^ max (ht a) (max (ht b) (ht c)) := Nat.pow_le_pow_right (by decide) (by omega)
    have h5 : 3 ^ ht b ≤ 3 ^ max (ht a) (max (ht b) (ht c)) := Nat.pow_le_pow_right (by decide) (by omega)
    have h6 : 3 ^ ht c ≤ 3 ^ max (ht a) (max (ht b) (ht c)) := Nat.pow_le_pow_right (by decide) (by omega)
    simp only [pth, encs, ht, List.length_cons, List.length_append, List.length_map, Nat.pow_succ]
    omega
  | .col _ => by simp [pth, ht]
  | .num _ => by simp [pth, ht]
  | .text _ => by simp [pth, ht]
  | .blank _ => by simp [pth, ht]
  | .date _ _ _ => by simp [pth, ht]
  | .n0 _ => by simp [pth, ht]
theorem pth_dep : ∀ (t : Tm) (p : List Nat), p ∈ pth t → p.length < ht t
  | .lt x a b, p, h => by
    simp only [pth, encs, List.mem_cons, List.mem_append, List.mem_map] at h
    rcases h with rfl | ⟨q, hq, rfl⟩ | ⟨q, hq, rfl⟩
    · simp [ht]
    · have := pth_dep a q hq; simp [ht]; omega
    · have := pth_dep b q hq; simp [ht]; omega
  | .n1 _ a, p, h => by
    simp only [pth, encs, List.mem_cons, List.mem_map] at h
    rcases h with rfl | ⟨q, hq, rfl⟩
    · simp [ht]
    · have := pth_dep a q hq; simp [ht]; omega
  | .n2 _ a b, p, h => by
    simp only [pth, encs, List.mem_cons, List.mem_append, List.mem_map] at h
    rcases h with rfl | ⟨q, hq, rfl⟩ | ⟨q, hq, rfl⟩
    · simp [ht]
    · have := pth_dep a q hq; simp [ht]; omega
    · have := pth_dep b q hq; simp [ht]; omega
  | .n3 _ a b c, p, h => by
    simp only [pth, encs, List.mem_cons, List.mem_append, List.mem_map] at h
    rcases h with rfl | (⟨q, hq, rfl⟩ | ⟨q, hq, rfl⟩) | ⟨q, hq, rfl⟩
    · simp [ht]
    · have := pth_dep a q hq; simp [ht]; omega
    · have := pth_dep b q hq; simp [ht]; omega
    · have := pth_dep c q hq; simp [ht]; omega
  | .col _, p, h => by simp [pth] at h; subst h; simp [ht]
  | .num _, p, h => by simp [pth] at h; subst h; simp [ht]
  | .text _, p, h => by simp [pth] at h; subst h; simp [ht]
  | .blank _, p, h => by simp [pth] at h; subst h; simp [ht]
  | .date _ _ _, p, h => by simp [pth] at h; subst h; simp [ht]
  | .n0 _, p, h => by simp [pth] at h; subst h; simp [ht]
end
end K10
set_option Elab.async false
set_option linter.all false
set_option maxRecDepth 100000
set_option maxHeartbeats 4000000
namespace K10
open PySem L2 Lay DM
local macro_rules
  | `(tactic| array_get_dec) => `(tactic| first
    | with_reducible refine Stp.go ?_
    | (with_reducible refine wo_mod ?_ ?_; focus (first | decide | omega))
    | (with_reducible refine wo_div ?_ ?_; focus (first | decide | omega))
    | with_reducible refine wo_pow19 ?_
    | (with_reducible refine wo_pow ?_ ?_; focus decide)
    | (with_reducible refine wo_mulX ?_ ?_; focus (first | (left; decide) | (right; decide) | (left; omega) | (right; omega))))
local macro_rules
  | `(tactic| array_mem_dec) => `(tactic| first
    | (with_reducible refine sp_T ?_ ?_; focus (first | rfl | decide))
    | (with_reducible refine sp_F ?_ ?_; focus (first | rfl | decide)))
section
variable {n : Nat} {s : DS} {E : Xn → DS → Prop} {P : D → DS → Prop}
/-- (i,) + path of each path -/
theorem lc_paths {i : Nat} {l : List (List Nat)} {ρ : En} {j k : Nat} (hl : ∀ p ∈ l, p.length ≤ 50) (h1 : ∀ p : List Nat, Lk (ρ.set k (.val (enP p))) j (.val (.int (i : Int)))) (h2 : ∀ p : List Nat, Lk (ρ.set k (.val (enP p))) k (.val (enP p))) {Q : List D → DS → Prop} (q : Q ((encs i l).map enP) s) :
    Wp (lcGo (.one k) tYes' (eOp oAddX (eTup (aCons (eVar j) aNil)) (eVar k)) ρ (l.map enP) s) E Q := by
  refine wp_lcM enP (fun _ => true) (fun p => enP (i :: p)) l (fun p hp => ?_) ?_
  · refine tgK_one ?_
    have := h1 p
    have := h2 p
    repeat array_get_dec
    refine ⟨rfl, rfl, fun _ => ?_⟩
    repeat array_get_dec
    unfold enP
    refine wo_catTX ?_ ?_
    · have := hl p hp
      have h : line = 100000 := rfl
      simp
      omega
    · exact ⟨rfl, rfl⟩
  · rw [List.filter_eq_self.mpr fun _ _ => rfl]
    unfold encs at q
    rw [List.map_map] at q
    exact q
theorem all50 {t : Tm} (h : ht t ≤ 50) : ∀ p ∈ pth t, p.length ≤ 50 := fun p hp => by
  have := pth_dep t p hp
  omega
theorem lineT {t : Tm} (h : ht t ≤ 9) : (pth t).length ≤ 9841 := by
  have h1 := pth_len t
  have h2 : 3 ^ ht t ≤ 3 ^ 9 := Nat.pow_le_pow_right (by decide) h
  have h3 : 3 ^ 9 = 19683 := by decide
  omega
theorem f_paths : ∀ (t : Tm) (m : Nat), ht t ≤ 9 → ht t + 2 ≤ m → sem m 15 [en t] s = some (.ok (.lst (pthL t)), s) := by
  have hli : line = 100000 := rfl
  have leaf : ∀ (t : Tm) (m : Nat), ps t = [] → pth t = [[]] → ht t + 2 ≤ m → sem m 15 [en t] s = some (.ok (.lst (pthL t)), s) := fun t m h1 h2 hm => by
    have := ht_pos t
    obtain ⟨m, rfl⟩ := Nat.exists_eq_add_of_le (show 3 ≤ m by omega)
    rw [show 3 + m = (m + 2) + 1 by omega]
    have hp := f_parts (n := m) (s := s) t
    rw [h1] at hp
    unfold pthL
    rw [h2]
    refine eq_wp ?_
    refine wp_fnL (m := b_paths (sem _)) ?_
    unfold b_paths
    repeat (first | array_get_dec | refine wp_eq hp ?_ | dsimp only [enumD, List.map])
    exact ⟨rfl, rfl⟩
  intro t
  induction t with
  | col x => exact fun m _ hm => leaf _ m rfl rfl hm
  | num x => exact fun m _ hm => leaf _ m rfl rfl hm
  | text x => exact fun m _ hm => leaf _ m rfl rfl hm
  | blank x => exact fun m _ hm => leaf _ m rfl rfl hm
  | date x _ _ => exact fun m _ hm => leaf _ m rfl rfl hm
  | n0 x => exact fun m _ hm => leaf _ m rfl rfl hm
  | n1 w a i1 =>
    intro m hh hm
    simp only [ht] at hh hm
    obtain ⟨m, rfl⟩ := Nat.exists_eq_add_of_le (show 3 ≤ m by omega)
    rw [show 3 + m = (m + 2) + 1 by omega]
    have hp := f_parts (n := m) (s := s) (.n1 w a)
    dsimp only [ps, List.map] at hp
    have e1 := i1 (m + 2) (by omega) (by omega)
    have l1 := lineT (t := a) (by omega)
    refine eq_wp ?_
    refine wp_fnL (m := b_paths (sem _)) ?_
    unfold b_paths
    repeat (first | array_get_dec | refine wp_eq hp ?_ | dsimp only [enumD])
    refine wp_eq e1 ?_
    repeat array_get_dec
    refine lc_paths (i := 0) (all50 (by omega)) (fun p => by dsimp only [List.set]; infer_instance) (fun p => by dsimp only [List.set]; infer_instance) ?_
    refine ⟨by simp [encs]; omega, ?_⟩
    repeat array_get_dec
    refine ⟨by simp [encs]; omega, ?_⟩
    repeat array_get_dec
    refine ⟨?_, rfl⟩
    simp [pthL, pth, enP]
  | n2 w a b i1 i2 =>
    intro m hh hm
    simp only [ht] at hh hm
    obtain ⟨m, rfl⟩ := Nat.exists_eq_add_of_le (show 3 ≤ m by omega)
    rw [show 3 + m = (m + 2) + 1 by omega]
    have hp := f_parts (n := m) (s := s) (.n2 w a b)
    dsimp only [ps, List.map] at hp
    have e1 := i1 (m + 2) (by omega) (by omega)
    have l1 := lineT (t := a) (by omega)
    have e2 := i2 (m + 2) (by omega) (by omega)
    have l2 := lineT (t := b) (by omega)
    refine eq_wp ?_
    refine wp_fnL (m := b_paths (sem _)) ?_
    unfold b_paths
    repeat (first | array_get_dec | refine wp_eq hp ?_ | dsimp only [enumD])
    refine wp_eq e1 ?_
    repeat array_get_dec
    refine lc_paths (i := 0) (all50 (by omega)) (fun p => by dsimp only [List.set]; infer_instance) (fun p => by dsimp only [List.set]; infer_instance) ?_
    refine ⟨by simp [encs]; omega, ?_⟩
    repeat array_get_dec
    refine ⟨by simp [encs]; omega, ?_⟩
    repeat array_get_dec
    refine wp_eq e2 ?_
    repeat array_get_dec
    refine lc_paths (i := 1) (all50 (by omega)) (fun p => by dsimp only [List.set]; infer_instance) (fun p => by dsimp only [List.set]; infer_instance) ?_
    refine ⟨by simp [encs]; omega, ?_⟩
    repeat array_get_dec
    refine ⟨by simp [encs]; omega, ?_⟩
    repeat array_get_dec
    refine ⟨?_, rfl⟩
    simp [pthL, pth, enP]
  | lt w a b i1 i2 =>
    intro m hh hm
    simp only [ht] at hh hm
    obtain ⟨m, rfl⟩ := Nat.exists_eq_add_of_le (show 3 ≤ m by omega)
    rw [show 3 + m = (m + 2) + 1 by omega]
    have hp := f_parts (n := m) (s := s) (.lt w a b)
    dsimp only [ps, List.map] at hp
    have e1 := i1 (m + 2) (by omega) (by omega)
    have l1 := lineT (t := a) (by omega)
    have e2 := i2 (m + 2) (by omega) (by omega)
    have l2 := lineT (t := b) (by omega)
    refine eq_wp ?_
    refine wp_fnL (m := b_paths (sem _)) ?_
    unfold b_paths
    repeat (first | array_get_dec | refine wp_eq hp ?_ | dsimp only [enumD])
    refine wp_eq e1 ?_
    repeat array_get_dec
    refine lc_paths (i := 0) (all50 (by omega)) (fun p => by dsimp only [List.set]; infer_instance) (fun p => by dsimp only [List.set]; infer_instance) ?_
    refine ⟨by simp [encs]; omega, ?_⟩
    repeat array_get_dec
    refine ⟨by simp [encs]; omega, ?_⟩
    repeat array_get_dec
    refine wp_eq e2 ?_
    repeat array_get_dec
    refine lc_paths (i := 1) (all50 (by omega)) (fun p => by dsimp only [List.set]; infer_instance) (fun p => by dsimp only [List.set]; infer_instance) ?_
    refine ⟨by simp [encs]; omega, ?_⟩
    repeat array_get_dec
    refine ⟨by simp [encs]; omega, ?_⟩
    repeat array_get_dec
    refine ⟨?_, rfl⟩
    simp [pthL, pth, enP]
  | n3 w a b c i1 i2 i3 =>
    intro m hh hm
    simp only [ht] at hh hm
    obtain ⟨m, rfl⟩ := Nat.exists_eq_add_of_le (show 3 ≤ m by omega)
    rw [show 3 + m = (m + 2) + 1 by omega]
    have hp := f_parts (n := m) (s := s) (.n3 w a b c)
    dsimp only [ps, List.map] at hp
    have e1 := i1 (m + 2) (by omega) (by omega)
    have l1 := lineT (t := a) (by omega)
    have e2 := i2 (m + 2) (by omega) (by omega)
    have l2 := lineT (t := b) (by omega)
    have e3 := i3 (m + 2) (by omega) (by omega)
    have l3 := lineT (t := c) (by omega)
    refine eq_wp ?_
    refine wp_fnL (m := b_paths (sem _)) ?_
    unfold b_paths
    repeat (first | array_get_dec | refine wp_eq hp ?_ | dsimp only [enumD])
    refine wp_eq e1 ?_
    repeat array_get_dec
    refine lc_paths (i := 0) (all50 (by omega)) (fun p => by dsimp only [List.set]; infer_instance) (fun p => by dsimp only [List.set]; infer_instance) ?_
    refine ⟨by simp [encs]; omega, ?_⟩
    repeat array_get_dec
    refine ⟨by simp [encs]; omega, ?_⟩
    repeat array_get_dec
    refine wp_eq e2 ?_
    repeat array_get_dec
    refine lc_paths (i := 1) (all50 (by omega)) (fun p => by dsimp only [List.set]; infer_instance) (fun p => by dsimp only [List.set]; infer_instance) ?_
    refine ⟨by simp [encs]; omega, ?_⟩
    repeat array_get_dec
    refine ⟨by simp [encs]; omega, ?_⟩
    repeat array_get_dec
    refine wp_eq e3 ?_
    repeat array_get_dec
    refine lc_paths (i := 2) (all50 (by omega)) (fun p => by dsimp only [List.set]; infer_instance) (fun p => by dsimp only [List.set]; infer_instance) ?_
    refine ⟨by simp [encs]; omega, ?_⟩
    repeat array_get_dec
    refine ⟨by simp [encs]; omega, ?_⟩
    repeat array_get_dec
    refine ⟨?_, rfl⟩
    simp [pthL, pth, enP]
theorem f_lpaths : ∀ (t : Tm) (m : Nat), ht t ≤ 9 → ht t + 2 ≤ m → sem m 27 [en t] s = some (.ok (.lst (pthL t)), s) := by
  have hli : line = 100000 := rfl
  have leaf : ∀ (t : Tm) (m : Nat), ps t = [] → pth t = [[]] → ht t + 2 ≤ m → sem m 27 [en t] s = some (.ok (.lst (pthL t)), s) := fun t m h1 h2 hm => by
    have := ht_pos t
    obtain ⟨m, rfl⟩ := Nat.exists_eq_add_of_le (show 3 ≤ m by omega)
    rw [show 3 + m = (m + 2) + 1 by omega]
    have hp := f_inner (n := m) (s := s) t
    rw [h1] at hp
    unfold pthL
    rw [h2]
    refine eq_wp ?_
    refine wp_fnL (m := b__law_paths_of (sem _)) ?_
    unfold b__law_paths_of
    repeat (first | array_get_dec | refine wp_eq hp ?_ | dsimp only [enumD, List.map])
    exact ⟨rfl, rfl⟩
  intro t
  induction t with
  | col x => exact fun m _ hm => leaf _ m rfl rfl hm
  | num x => exact fun m _ hm => leaf _ m rfl rfl hm
  | text x => exact fun m _ hm => leaf _ m rfl rfl hm
  | blank x => exact fun m _ hm => leaf _ m rfl rfl hm
  | date x _ _ => exact fun m _ hm => leaf _ m rfl rfl hm
  | n0 x => exact fun m _ hm => leaf _ m rfl rfl hm
  | n1 w a i1 =>
    intro m hh hm
    simp only [ht] at hh hm
    obtain ⟨m, rfl⟩ := Nat.exists_eq_add_of_le (show 3 ≤ m by omega)
    rw [show 3 + m = (m + 2) + 1 by omega]
    have hp := f_inner (n := m) (s := s) (.n1 w a)
    dsimp only [ps, List.map] at hp
    have e1 := i1 (m + 2) (by omega) (by omega)
    have l1 := lineT (t := a) (by omega)
    refine eq_wp ?_
    refine wp_fnL (m := b__law_paths_of (sem _)) ?_
    unfold b__law_paths_of
    repeat (first | array_get_dec | refine wp_eq hp ?_ | dsimp only [enumD])
    refine wp_eq e1 ?_
    repeat array_get_dec
    refine lc_paths (i := 0) (all50 (by omega)) (fun p => by dsimp only [List.set]; infer_instance) (fun p => by dsimp only [List.set]; infer_instance) ?_
    refine ⟨by simp [encs]; omega, ?_⟩
    repeat array_get_dec
    refine wo_catX (by simp [encs]; omega) ?_
    repeat array_get_dec
    refine ⟨?_, rfl⟩
    simp [pthL, pth, enP]
  | n2 w a b i1 i2 =>
    intro m hh hm
    simp only [ht] at hh hm
    obtain ⟨m, rfl⟩ := Nat.exists_eq_add_of_le (show 3 ≤ m by omega)
    rw [show 3 + m = (m + 2) + 1 by omega]
    have hp := f_inner (n := m) (s := s) (.n2 w a b)
    dsimp only [ps, List.map] at hp
    have e1 := i1 (m + 2) (by omega) (by omega)
    have l1 := lineT (t := a) (by omega)
    have e2 := i2 (m + 2) (by omega) (by omega)
    have l2 := lineT (t := b) (by omega)
    refine eq_wp ?_
    refine wp_fnL (m := b__law_paths_of (sem _)) ?_
    unfold b__law_paths_of
    repeat (first | array_get_dec | refine wp_eq hp ?_ | dsimp only [enumD])
    refine wp_eq e1 ?_
    repeat array_get_dec
    refine lc_paths (i := 0) (all50 (by omega)) (fun p => by dsimp only [List.set]; infer_instance) (fun p => by dsimp only [List.set]; infer_instance) ?_
    refine ⟨by simp [encs]; omega, ?_⟩
    repeat array_get_dec
    refine wo_catX (by simp [encs]; omega) ?_
    repeat array_get_dec
    refine wp_eq e2 ?_
    repeat array_get_dec
    refine lc_paths (i := 1) (all50 (by omega)) (fun p => by dsimp only [List.set]; infer_instance) (fun p => by dsimp only [List.set]; infer_instance) ?_
    refine ⟨by simp [encs]; omega, ?_⟩
    repeat array_get_dec
    refine wo_catX (by simp [encs]; omega) ?_
    repeat array_get_dec
    refine ⟨?_, rfl⟩
    simp [pthL, pth, enP]
  | lt w a b i1 i2 =>
    intro m hh hm
    simp only [ht] at hh hm
    obtain ⟨m, rfl⟩ := Nat.exists_eq_add_of_le (show 3 ≤ m by omega)
    rw [show 3 + m = (m + 2) + 1 by omega]
    have hp := f_inner (n := m) (s := s) (.lt w a b)
    dsimp only [ps, List.map] at hp
    have e1 := i1 (m + 2) (by omega) (by omega)
    have l1 := lineT (t := a) (by omega)
    have e2 := i2 (m + 2) (by omega) (by omega)
    have l2 := lineT (t := b) (by omega)
    refine eq_wp ?_
    refine wp_fnL (m := b__law_paths_of (sem _)) ?_
    unfold b__law_paths_of
    repeat (first | array_get_dec | refine wp_eq hp ?_ | dsimp only [enumD])
    refine wp_eq e1 ?_
    repeat array_get_dec
    refine lc_paths (i := 0) (all50 (by omega)) (fun p => by dsimp only [List.set]; infer_instance) (fun p => by dsimp only [List.set]; infer_instance) ?_
    refine ⟨by simp [encs]; omega, ?_⟩
    repeat array_get_dec
    refine wo_catX (by simp [encs]; omega) ?_
    repeat array_get_dec
    refine wp_eq e2 ?_
    repeat array_get_dec
    refine lc_paths (i := 1) (all50 (by omega)) (fun p => by dsimp only [List.set]; infer_instance) (fun p => by dsimp only [List.set]; infer_instance) ?_
    refine ⟨by simp [encs]; omega, ?_⟩
    repeat array_get_dec
    refine wo_catX (by simp [encs]; omega) ?_
    repeat array_get_dec
    refine ⟨?_, rfl⟩
    simp [pthL, pth, enP]
  | n3 w a b c i1 i2 i3 =>
    intro m hh hm
    simp only [ht] at hh hm
    obtain ⟨m, rfl⟩ := Nat.exists_eq_add_of_le (show 3 ≤ m by omega)
    rw [show 3 + m = (m + 2) + 1 by omega]
    have hp := f_inner (n := m) (s := s) (.n3 w a b c)
    dsimp only [ps, List.map] at hp
    have e1 := i1 (m + 2) (by omega) (by omega)
    have l1 := lineT (t := a) (by omega)
    have e2 := i2 (m + 2) (by omega) (by omega)
    have l2 := lineT (t := b) (by omega)
    have e3 := i3 (m + 2) (by omega) (by omega)
    have l3 := lineT (t := c) (by omega)
    refine eq_wp ?_
    refine wp_fnL (m := b__law_paths_of (sem _)) ?_
    unfold b__law_paths_of
    repeat (first | array_get_dec | refine wp_eq hp ?_ | dsimp only [enumD])
    refine wp_eq e1 ?_
    repeat array_get_dec
    refine lc_paths (i := 0) (all50 (by omega)) (fun p => by dsimp only [List.set]; infer_instance) (fun p => by dsimp only [List.set]; infer_instance) ?_
    refine ⟨by simp [encs]; omega, ?_⟩
    repeat array_get_dec
    refine wo_catX (by simp [encs]; omega) ?_
    repeat array_get_dec
    refine wp_eq e2 ?_
    repeat array_get_dec
    refine lc_paths (i := 1) (all50 (by omega)) (fun p => by dsimp only [List.set]; infer_instance) (fun p => by dsimp only [List.set]; infer_instance) ?_
    refine ⟨by simp [encs]; omega, ?_⟩
    repeat array_get_dec
    refine wo_catX (by simp [encs]; omega) ?_
    repeat array_get_dec
    refine wp_eq e3 ?_
    repeat array_get_dec
    refine lc_paths (i := 2) (all50 (by omega)) (fun p => by dsimp only [List.set]; infer_instance) (fun p => by dsimp only [List.set]; infer_instance) ?_
    refine ⟨by simp [encs]; omega, ?_⟩
    repeat array_get_dec
    refine wo_catX (by simp [encs]; omega) ?_
    repeat array_get_dec
    refine ⟨?_, rfl⟩
    simp [pthL, pth, enP]
end
end K10
set_option Elab.async false
set_option linter.all false
set_option maxRecDepth 100000
set_option maxHeartbeats 4000000
namespace K10
open PySem L2 Lay DM
local macro_rules
  | `(tactic| array_get_dec) => `(tactic| first
    | with_reducible refine Stp.go ?_
    | (with_reducible refine wo_mod ?_ ?_; focus (first | decide | omega))
    | (with_reducible refine wo_div ?_ ?_; focus (first | decide | omega))
    | with_reducible refine wo_pow19 ?_
    | (with_reducible refine wo_pow ?_ ?_; focus decide)
    | (with_reducible refine wo_mulX ?_ ?_; focus (first | (left; decide) | (right; decide) | (left; omega) | (right; omega))))
local macro_rules
  | `(tactic| array_mem_dec) => `(tactic| first
    | (with_reducible refine sp_T ?_ ?_; focus (first | rfl | decide))
    | (with_reducible refine sp_F ?_ ?_; focus (first | rfl | decide)))
mutual
theorem eqD_self : ∀ d : D, pl d = true → eqD d d = true
  | .non, _ => rfl
  | .bl b, _ => by simp [eqD]
  | .int b, _ => by simp [eqD]
  | .str b, _ => by simp [eqD]
  | .lst xs, h => by
    simp only [eqD]
    exact eqDs_self xs (by simpa [pl] using h)
  | .tup xs, h => by
    simp only [eqD]
    exact eqDs_self xs (by simpa [pl] using h)
  | .dic _ _, h => by simp [pl] at h
  | .obj _ _ _, h => by simp [pl] at h
  | .exc _ _ _, h => by simp [pl] at h
  | .drw, h => by simp [pl] at h
theorem eqDs_self : ∀ d : List D, pls d = true → eqDs d d = true
  | [], _ => rfl
  | x :: xs, h => by
    simp only [pls, Bool.and_eq_true] at h
    simp [eqDs, eqD_self x h.1, eqDs_self xs h.2]
end
def gt : Tm → List Nat → Option Tm
  | t, [] => some t
  | t, i :: p => match (ps t)[i]? with
    | some u => gt u p
    | none => none
theorem gt_pth : ∀ (t : Tm) (p : List Nat), p ∈ pth t → ∃ u, gt t p = some u ∧ ht u ≤ ht t ∧ (okT t = true → okT u = true)
  | .lt x a b, p, h => by
    simp only [pth, encs, List.mem_cons, List.mem_append, List.mem_map] at h
    rcases h with rfl | ⟨q, hq, rfl⟩ | ⟨q, hq, rfl⟩
    · exact ⟨_, rfl, Nat.le_refl _, id⟩
    · obtain ⟨u, h1, h2, h3⟩ := gt_pth a q hq
      exact ⟨u, h1, by simp [ht]; omega, fun h => h3 (by simp [okT] at h; exact h.1.2)⟩
    · obtain ⟨u, h1, h2, h3⟩ := gt_pth b q hq
      exact ⟨u, h1, by simp [ht]; omega, fun h => h3 (by simp [okT] at h; exact h.2)⟩
  | .n1 _ a, p, h => by
    simp only [pth, encs, List.mem_cons, List.mem_map] at h
    rcases h with rfl | ⟨q, hq, rfl⟩
    · exact ⟨_, rfl, Nat.le_refl _, id⟩
    · obtain ⟨u, h1, h2, h3⟩ := gt_pth a q hq
      exact ⟨u, h1, by simp [ht]; omega, h3⟩
  | .n2 _ a b, p, h => by
    simp only [pth, encs, List.mem_cons, List.mem_append, List.mem_map] at h
    rcases h with rfl | ⟨q, hq, rfl⟩ | ⟨q, hq, rfl⟩
    · exact ⟨_, rfl, Nat.le_refl _, id⟩
    · obtain ⟨u, h1, h2, h3⟩ := gt_pth a q hq
      exact ⟨u, h1, by simp [ht]; omega, fun h => h3 (by simp [okT] at h; exact h.1)⟩
    · obtain ⟨u, h1, h2, h3⟩ := gt_pth b q hq
      exact ⟨u, h1, by simp [ht]; omega, fun h => h3 (by simp [okT] at h; exact h.2)⟩
  | .n3 _ a b c, p, h => by
    simp only [pth, encs, List.mem_cons, List.mem_append, List.mem_map] at h
    rcases h with rfl | (⟨q, hq, rfl⟩ | ⟨q, hq, rfl⟩) | ⟨q, hq, rfl⟩
    · exact ⟨_, rfl, Nat.le_refl _, id⟩
    · obtain ⟨u, h1, h2, h3⟩ := gt_pth a q hq
      exact ⟨u, h1, by simp [ht]; omega, fun h => h3 (by simp [okT] at h; exact h.1.1)⟩
    · obtain ⟨u, h1, h2, h3⟩ := gt_pth b q hq
      exact ⟨u, h1, by simp [ht]; omega, fun h => h3 (by simp [okT] at h; exact h.1.2)⟩
    · obtain ⟨u, h1, h2, h3⟩ := gt_pth c q hq
      exact ⟨u, h1, by simp [ht]; omega, fun h => h3 (by simp [okT] at h; exact h.2)⟩
  | .col _, p, h => by simp [pth] at h; subst h; exact ⟨_, rfl, Nat.le_refl _, id⟩
  | .num _, p, h => by simp [pth] at h; subst h; exact ⟨_, rfl, Nat.le_refl _, id⟩
  | .text _, p, h => by simp [pth] at h; subst h; exact ⟨_, rfl, Nat.le_refl _, id⟩
  | .blank _, p, h => by simp [pth] at h; subst h; exact ⟨_, rfl, Nat.le_refl _, id⟩
  | .date _ _ _, p, h => by simp [pth] at h; subst h; exact ⟨_, rfl, Nat.le_refl _, id⟩
  | .n0 _, p, h => by simp [pth] at h; subst h; exact ⟨_, rfl, Nat.le_refl _, id⟩
section
variable {n : Nat} {s : DS} {E : Xn → DS → Prop} {P : D → DS → Prop} {R : Res → DS → Prop}
/-- the loop of part_at -/
def paB (S : Tb) : DM.S := (sSeq (sSet (.one 4) (eCallN 1 (S 7) (aCons (eVar 2) aNil)))
    (sSeq (sIf (tOr' (tNot' (tB' (eCallN 1 (S 3) (aCons (eVar 3) aNil)))) (tNot' (tB' (eChain oLe oLt (eC (.int 0)) (eVar 3) (eCB bLenX (aCons (eVar 4) aNil)))))) (sRaise "NoPath" ["at"] (aCons (eVar 1) aNil)) sNext)
    (sSet (.one 2) (eOp oIx (eVar 4) (eVar 3)))))
theorem pa_go {T0 p0 : D} : ∀ (p : List Nat) (t u : Tm), gt t p = some u → ∀ (rest : List D) (c3 c4 : Sl), (∀ c3 c4, Wr (forGo (.one 3) (paB (sem (n + 2))) rest [.val T0, .val p0, .val (en u), c3, c4] s) R) → Wr (forGo (.one 3) (paB (sem (n + 2))) ((p.map fun i : Nat => D.int (i : Int)) ++ rest) [.val T0, .val p0, .val (en t), c3, c4] s) R
  | [], t, u, e, rest, c3, c4, h => by cases e; exact h c3 c4
  | i :: p, t, u, e, rest, c3, c4, h => by
    unfold gt at e
    cases e1 : (ps t)[i]? with
    | none => rw [e1] at e; cases e
    | some v =>
      rw [e1] at e
      have hi : i < (ps t).length := by
        rcases Nat.lt_or_ge i (ps t).length with h | h
        · exact h
        · rw [List.getElem?_eq_none h] at e1; cases e1
      have e2 : ((ps t).map en)[i]? = some (en v) := by rw [List.getElem?_map, e1]; rfl
      have ih := pa_go (T0 := T0) (p0 := p0) p v u e rest
      show Wr (forGo (.one 3) (paB (sem (n + 2))) (D.int (i : Int) :: ((p.map fun i : Nat => D.int (i : Int)) ++ rest)) [.val T0, .val p0, .val (en t), c3, c4] s) R
      repeat array_get_dec
      unfold paB
      repeat array_get_dec
      refine wp_eq (f_parts t) ?_
      repeat array_get_dec
      refine wp_eq f_number ?_
      repeat array_get_dec
      refine sp_F rfl ?_
      repeat array_get_dec
      refine sp_T (decide_eq_true (by omega)) ?_
      repeat array_get_dec
      rw [decide_eq_true (show (i : Int) < ((ps t).map en).length by rw [List.length_map]; omega)]
      refine sp_F rfl ?_
      repeat array_get_dec
      refine wo_ixLn e2 ?_
      repeat array_get_dec
      exact ih _ _ h
theorem f_part_at {t u : Tm} {p : List Nat} (h : gt t p = some u) : sem (n + 3) 16 [en t, enP p] s = some (.ok (en u), s) := by
  refine eq_wp ?_
  refine wp_fnL (m := b_part_at (sem (n + 2))) ?_
  unfold b_part_at enP
  repeat array_get_dec
  have e := pa_go (n := n) (s := s) (R := thenR (retR nE fun b s' => b = en u ∧ s' = s) (sRet (eVar 2))) (T0 := en t) (p0 := .tup (p.map fun i : Nat => .int (i : Int))) p t u h [] .no .no (fun c3 c4 => by
    repeat array_get_dec
    exact ⟨rfl, rfl⟩)
  rw [List.append_nil] at e
  exact e
/-- what ends a path wrongly -/
def Bad (k : Nat) (d : D) : Prop := (∃ i : Int, d = .int i ∧ (i < 0 ∨ (k : Int) ≤ i)) ∨ d = .bl true
theorem f_part_bad {t u : Tm} {p : List Nat} {d : D} {q : D} {more : List D} (h : gt t p = some u) (hd : Bad (ps u).length d) (hq : q = .tup ((p.map fun i : Nat => D.int (i : Int)) ++ d :: more)) : sem (n + 3) 16 [en t, q] s = some (.error ⟨"NoPath", ["at"], [q]⟩, s) := by
  refine er_wp ?_
  refine wp_fnL (m := b_part_at (sem (n + 2))) ?_
  unfold b_part_at
  have e := pa_go (n := n) (s := s) (R := thenR (retR (fun e' s' => e' = ⟨"NoPath", ["at"], [q]⟩ ∧ s' = s) fun _ _ => False) (sRet (eVar 2))) (T0 := en t) (p0 := q) p t u h (d :: more) .no .no (fun c3 c4 => by
    repeat array_get_dec
    unfold paB
    repeat array_get_dec
    refine wp_eq (f_parts u) ?_
    rcases hd with ⟨i, rfl, hi⟩ | rfl
    · repeat array_get_dec
      refine wp_eq f_number ?_
      repeat array_get_dec
      refine sp_F rfl ?_
      repeat array_get_dec
      by_cases h0 : 0 ≤ i
      · refine sp_T (decide_eq_true h0) ?_
        repeat array_get_dec
        rw [decide_eq_false (show ¬ i < ((ps u).map en).length by rw [List.length_map]; omega)]
        refine sp_T rfl ?_
        repeat array_get_dec
        exact ⟨⟨rfl, by decide⟩, rfl, rfl⟩
      · refine sp_F (decide_eq_false h0) ?_
        repeat array_get_dec
        refine sp_T rfl ?_
        repeat array_get_dec
        exact ⟨⟨rfl, by decide⟩, rfl, rfl⟩
    · repeat array_get_dec
      refine wp_eq (a := .bl false) (s := s) rfl ?_
      repeat array_get_dec
      refine sp_T rfl ?_
      repeat array_get_dec
      exact ⟨⟨rfl, by decide⟩, rfl, rfl⟩)
  subst hq
  repeat array_get_dec
  exact e
theorem f_refused {t : Tm} {q : D} (hc : cmpb q) (hq : ∃ xs, q = .tup xs) (h : sem n 16 [en t, q] s = some (.error ⟨"NoPath", ["at"], [q]⟩, s)) : sem (n + 1) 29 [en t, q] s = some (.ok (.bl true), s) := by
  obtain ⟨xs, rfl⟩ := hq
  refine eq_wp ?_
  refine wp_fnL (m := b__law_refused (sem n)) ?_
  unfold b__law_refused
  repeat array_get_dec
  refine wp_er h ?_
  repeat (first | array_get_dec | array_mem_dec | refine wo_by rfl ?_)
  refine wo_eqT hc hc ?_
  rw [eqD_self _ hc.1]
  repeat array_get_dec
  exact ⟨rfl, rfl⟩
/-- the law's own way to a part -/
theorem lt_go {p0 : D} : ∀ (p : List Nat) (t u : Tm), gt t p = some u → ∀ (c2 : Sl), (∀ c2, R (.nx [.val (en u), .val p0, c2]) s) → Wr (forGo (.one 2) (sSet (.one 0) (eOp oIx (eCallN 1 (sem (n + 2) 26) (aCons (eVar 0) aNil)) (eVar 2))) (p.map fun i : Nat => D.int (i : Int)) [.val (en t), .val p0, c2] s) R
  | [], t, u, e, c2, h => by
    cases e
    exact wr_forNil (h c2)
  | i :: p, t, u, e, c2, h => by
    unfold gt at e
    cases e1 : (ps t)[i]? with
    | none => rw [e1] at e; cases e
    | some v =>
      rw [e1] at e
      have e2 : ((ps t).map en)[i]? = some (en v) := by rw [List.getElem?_map, e1]; rfl
      have ih := lt_go (p0 := p0) p v u e
      show Wr (forGo (.one 2) _ (D.int (i : Int) :: (p.map fun i : Nat => D.int (i : Int))) [.val (en t), .val p0, c2] s) R
      repeat array_get_dec
      refine wp_eq (f_inner t) ?_
      repeat array_get_dec
      refine wo_ixLn e2 ?_
      repeat array_get_dec
      exact ih _ h
theorem f_there {t u : Tm} {p : List Nat} (h : gt t p = some u) : sem (n + 3) 28 [en t, enP p] s = some (.ok (en u), s) := by
  refine eq_wp ?_
  refine wp_fnL (m := b__law_there (sem (n + 2))) ?_
  unfold b__law_there enP
  repeat array_get_dec
  refine lt_go p t u h .no (fun c2 => ?_)
  repeat array_get_dec
  exact ⟨rfl, rfl⟩
end
end K10
set_option Elab.async false
set_option linter.all false
set_option maxRecDepth 100000
set_option maxHeartbeats 4000000
namespace K10
open PySem L2 Lay DM
local macro_rules
  | `(tactic| array_get_dec) => `(tactic| first
    | with_reducible refine Stp.go ?_
    | (with_reducible refine wo_mod ?_ ?_; focus (first | decide | omega))
    | (with_reducible refine wo_div ?_ ?_; focus (first | decide | omega))
    | with_reducible refine wo_pow19 ?_
    | (with_reducible refine wo_pow ?_ ?_; focus decide)
    | (with_reducible refine wo_mulX ?_ ?_; focus (first | (left; decide) | (right; decide) | (left; omega) | (right; omega))))
local macro_rules
  | `(tactic| array_mem_dec) => `(tactic| first
    | (with_reducible refine sp_T ?_ ?_; focus (first | rfl | decide))
    | (with_reducible refine sp_F ?_ ?_; focus (first | rfl | decide)))
theorem cm_path {l : List D} (h : ∀ x ∈ l, pl x = true ∧ dep x = 0) : cmpb (.tup l) := by
  refine ⟨pls_iff.mpr fun x hx => (h x hx).1, Nat.succ_le_succ (deps_le.mpr fun x hx => ?_)⟩
  rw [(h x hx).2]
  exact Nat.zero_le _
theorem pl_ints {p : List Nat} : ∀ x ∈ (p.map fun i : Nat => D.int (i : Int)), pl x = true ∧ dep x = 0 := fun x hx => by
  obtain ⟨i, _, rfl⟩ := List.mem_map.mp hx
  exact ⟨rfl, rfl⟩
theorem cm_enP (p : List Nat) : cmpb (enP p) := cm_path pl_ints
theorem cm_bad {p : List Nat} {d : D} {k : Nat} (h : Bad k d) : cmpb (.tup ((p.map fun i : Nat => D.int (i : Int)) ++ [d])) := cm_path fun x hx => by
  rcases List.mem_append.mp hx with h1 | h1
  · exact pl_ints x h1
  · have := List.mem_singleton.mp h1
    subst this
    rcases h with ⟨i, rfl, _⟩ | rfl <;> exact ⟨rfl, rfl⟩
theorem cm_pths (t : Tm) : cmpb (.lst (pthL t)) := by
  refine ⟨pls_iff.mpr fun x hx => ?_, Nat.succ_le_succ (deps_le.mpr fun x hx => ?_)⟩
  · obtain ⟨p, _, rfl⟩ := List.mem_map.mp hx
    exact (cm_enP p).1
  · obtain ⟨p, _, rfl⟩ := List.mem_map.mp hx
    exact Nat.le_trans (show dep (enP p) ≤ 1 from Nat.succ_le_succ (deps_le.mpr fun x hx => by rw [(pl_ints x hx).2]; exact Nat.le_refl 0)) (by decide)
section
variable {n : Nat} {s : DS} {E : Xn → DS → Prop} {P : D → DS → Prop} {R : Res → DS → Prop}
theorem f_bad {t u : Tm} {p : List Nat} {d : D} (h : gt t p = some u) (hd : Bad (ps u).length d) : sem (n + 4) 29 [en t, .tup ((p.map fun i : Nat => D.int (i : Int)) ++ [d])] s = some (.ok (.bl true), s) :=
  f_refused (cm_bad hd) ⟨_, rfl⟩ (f_part_bad h hd rfl)
/-- the loop over the paths -/
def prB (S : Tb) : DM.S := (sSeq (sSet (.one 4) (eCallN 2 (S 28) (aCons (eVar 0) (aCons (eVar 3) aNil))))
    (sSeq (sIf (tOr' (tB' (eOp oNeX (eCallN 2 (S 16) (aCons (eVar 0) (aCons (eVar 3) aNil))) (eVar 4))) (tB' (eOp oNeX (eCallK 2 2 [1, 0] (S 16) (aCons (eVar 3) (aCons (eVar 0) aNil))) (eVar 4)))) (sRet (eC (.bl false))) sNext)
    (sSeq (sSet (.one 5) (eCB bLenX (aCons (eCallN 1 (S 26) (aCons (eVar 4) aNil)) aNil)))
    (sFor (.one 6) (iD isX (eLst (aCons (eVar 5) (aCons (eOp oAddX (eVar 5) (eC (.int 1))) (aCons (eOp oSub (eC (.int 0)) (eC (.int 1))) (aCons (eC (.bl true)) aNil)))))) (sIf (tNot' (tB' (eCallN 2 (S 29) (aCons (eVar 0) (aCons (eOp oAddX (eVar 3) (eTup (aCons (eVar 6) aNil))) aNil))))) (sRet (eC (.bl false))) sNext)))))
theorem ne_self {t : Tm} (h : cmpb (en t)) {Q : D → Prop} (q : Q (.bl false)) : WO (oNeX (en t) (en t)) Q := by
  obtain ⟨xs, e⟩ : ∃ xs, en t = .tup xs := by cases t <;> exact ⟨_, rfl⟩
  have hs := eqD_self _ h.1
  rw [e] at h hs ⊢
  refine wo_neT h h ?_
  rw [hs]
  exact q
theorem pr_go {t : Tm} {due : Sl} {c2 : Sl} (ho : okT t = true) (hh : ht t ≤ 10) : ∀ (l : List (List Nat)) (c3 c4 c5 c6 : Sl), (∀ p ∈ l, p ∈ pth t) → (∀ c3 c4 c5 c6, R (.nx [.val (en t), due, c2, c3, c4, c5, c6]) s) → Wr (forGo (.one 3) (prB (sem (n + 4))) (l.map enP) [.val (en t), due, c2, c3, c4, c5, c6] s) R
  | [], c3, c4, c5, c6, hm, h => wr_forNil (h c3 c4 c5 c6)
  | p :: l, c3, c4, c5, c6, hm, h => by
    have ih := pr_go (t := t) (due := due) (c2 := c2) ho hh l
    obtain ⟨u, h1, h2, h3⟩ := gt_pth t p (hm p (by simp))
    have hp := pth_dep t p (hm p (by simp))
    have hcm : cmpb (en u) := cmE (h3 ho) (by omega)
    have hli : line = 100000 := rfl
    have hlen : ((ps u).map en).length = (ps u).length := List.length_map _
    show Wr (forGo (.one 3) (prB (sem (n + 4))) (enP p :: l.map enP) [.val (en t), due, c2, c3, c4, c5, c6] s) R
    repeat array_get_dec
    unfold prB
    repeat array_get_dec
    refine wp_eq (f_there h1) ?_
    repeat array_get_dec
    refine wp_eq (f_part_at h1) ?_
    repeat array_get_dec
    refine ne_self hcm ?_
    repeat array_get_dec
    refine ⟨rfl, ?_⟩
    refine wp_eq (f_part_at h1) ?_
    repeat array_get_dec
    refine ne_self hcm ?_
    repeat array_get_dec
    refine wp_eq (f_inner u) ?_
    repeat array_get_dec
    rw [hlen]
    unfold enP
    refine wo_catTX (by simp; omega) ?_
    repeat array_get_dec
    refine wp_eq (f_bad h1 (.inl ⟨_, rfl, .inr (Int.le_refl _)⟩)) ?_
    repeat array_get_dec
    refine sp_F rfl ?_
    repeat array_get_dec
    refine wo_catTX (by simp; omega) ?_
    repeat array_get_dec
    refine wp_eq (f_bad h1 (.inl ⟨_, rfl, .inr (by omega)⟩)) ?_
    repeat array_get_dec
    refine sp_F rfl ?_
    repeat array_get_dec
    refine wo_catTX (by simp; omega) ?_
    repeat array_get_dec
    refine wp_eq (f_bad h1 (.inl ⟨_, rfl, .inl (by decide)⟩)) ?_
    repeat array_get_dec
    refine sp_F rfl ?_
    repeat array_get_dec
    refine wo_catTX (by simp; omega) ?_
    repeat array_get_dec
    refine wp_eq (f_bad h1 (.inr rfl)) ?_
    repeat array_get_dec
    refine sp_F rfl ?_
    repeat array_get_dec
    exact ih _ _ _ _ (fun q hq => hm q (by simp [hq])) h
theorem pth_ne (t : Tm) : pth t ≠ [] := by cases t <;> simp [pth]
theorem wo_lastL {xs : List D} {x : D} {Q : D → Prop} (q : Q x) : WO (oIx (.lst (xs ++ [x])) (.int (-1))) Q := by
  refine ⟨x, ?_, q⟩
  show atI (xs ++ [x]) (-1) = some x
  have hl : (xs ++ [x]).length = xs.length + 1 := by simp
  unfold atI ixN
  rw [hl]
  have h1 : ¬ ((0 : Int) ≤ -1 ∧ (-1 : Int) < ((xs.length + 1 : Nat) : Int)) := by omega
  simp
  rw [if_pos (by omega), show (-1 + ((xs.length : Int) + 1)).toNat = xs.length by omega]
  simp
theorem f_right {t : Tm} (ho : okT t = true) (hh : ht t ≤ 9) (hn : 20 ≤ n) : sem n 30 [en t] s = some (.ok (.bl true), s) := by
  obtain ⟨n, rfl⟩ := Nat.exists_eq_add_of_le hn
  rw [show 20 + n = (n + 15 + 4) + 1 by omega]
  have hp := f_paths (s := s) t (n + 15 + 4) hh (by omega)
  have hq := f_lpaths (s := s) t (n + 15 + 4) hh (by omega)
  have hl := lineT hh
  have hli : line = 100000 := rfl
  refine eq_wp ?_
  refine wp_fnL (m := b__law_paths_right (sem _)) ?_
  unfold b__law_paths_right
  repeat array_get_dec
  refine wp_eq hq ?_
  repeat array_get_dec
  refine wp_eq hp ?_
  repeat array_get_dec
  refine sp_F rfl ?_
  repeat array_get_dec
  refine wo_neL (cm_pths t) (cm_pths t) ?_
  rw [eqD_self _ (cm_pths t).1]
  repeat array_get_dec
  refine sp_F rfl ?_
  repeat array_get_dec
  refine ⟨by unfold pthL; rw [List.length_map]; omega, ?_⟩
  repeat array_get_dec
  refine ⟨rfl, ?_⟩
  refine wp_eq hp ?_
  repeat array_get_dec
  refine wo_neL (cm_pths t) (cm_pths t) ?_
  rw [eqD_self _ (cm_pths t).1]
  repeat array_get_dec
  refine sp_F rfl ?_
  repeat array_get_dec
  refine pr_go (n := n + 15) ho (by omega) (pth t) _ _ _ _ (fun _ h => h) fun c3 c4 c5 c6 => ?_
  repeat array_get_dec
  obtain ⟨l, p, e⟩ : ∃ l p, pth t = l ++ [p] := ⟨_, _, (List.dropLast_concat_getLast (pth_ne t)).symm⟩
  have e2 : pthL t = l.map enP ++ [enP p] := by unfold pthL; rw [e]; simp
  have hpd := pth_dep t p (by rw [e]; simp)
  rw [e2]
  refine wo_lastL ?_
  unfold enP
  refine wo_catTX (by simp; omega) ?_
  repeat array_get_dec
  refine wp_eq (f_refused (n := n + 15 + 3) (cm_path fun x hx => ?_) ⟨_, rfl⟩ (f_part_bad (n := n + 15) (p := []) (d := .int 9) (u := t) rfl (.inl ⟨9, rfl, .inr ?_⟩) rfl)) ?_
  · rcases List.mem_cons.mp hx with rfl | hx
    · exact ⟨rfl, rfl⟩
    · exact pl_ints x hx
  · rcases ps_cases t with e | ⟨a, e⟩ | ⟨a, b, e⟩ | ⟨a, b, c, e⟩ <;> rw [e] <;> simp
  repeat array_get_dec
  exact ⟨rfl, rfl⟩
end
end K10
set_option Elab.async false
set_option linter.all false
set_option maxRecDepth 100000
set_option maxHeartbeats 4000000
/-! Terms and conditions drawn. -/
namespace K10
open PySem L2 Lay DM
local macro_rules
  | `(tactic| array_get_dec) => `(tactic| first
    | with_reducible refine Stp.go ?_
    | (with_reducible refine wo_mod ?_ ?_; focus (first | decide | omega))
    | (with_reducible refine wo_div ?_ ?_; focus (first | decide | omega))
    | with_reducible refine wo_pow19 ?_
    | (with_reducible refine wo_pow ?_ ?_; focus decide)
    | (with_reducible refine wo_mulX ?_ ?_; focus (first | (left; decide) | (right; decide) | (left; omega) | (right; omega))))
local macro_rules
  | `(tactic| array_mem_dec) => `(tactic| first
    | (with_reducible refine sp_T ?_ ?_; focus (first | rfl | decide))
    | (with_reducible refine sp_F ?_ ?_; focus (first | rfl | decide)))
abbrev Hd := List (Str × Kd)
def hd (p : Str × Kd) : D := .tup [.str p.1, .str p.2.s]
def dH (hs : Hd) : List D := hs.map hd
def gOf : Hd → Gk
  | [] => fun _ => none
  | (y, k) :: hs => fun x => if y = x then some k else gOf hs x
def KOk (h : Bool) (k : Kd) : Prop := h = false → k ≠ .day
structure HdOk (h : Bool) (hs : Hd) : Prop where
  nm : ∀ p ∈ hs, Nm p.1
  nd : (hs.map (·.1)).Nodup
  kd : ∀ p ∈ hs, KOk h p.2
theorem ks_inj {k j : Kd} (h : k.s = j.s) : k = j := by
  revert h
  cases k <;> cases j <;> first | exact fun _ => rfl | exact fun h => absurd h (by decide)
theorem tg_hill {h : Bool} (e : tg h = "hill") : h = true := by
  cases h with
  | true => rfl
  | false => exact absurd e (by decide)
theorem gOf_mem : ∀ {hs : Hd} {p : Str × Kd}, (hs.map (·.1)).Nodup → p ∈ hs → gOf hs p.1 = some p.2
  | (y, k) :: hs, p, nd, hp => by
    simp only [List.map_cons, List.nodup_cons] at nd
    unfold gOf
    rcases List.mem_cons.mp hp with rfl | hp
    · simp
    · have : ¬ y = p.1 := fun e => nd.1 (by rw [e]; exact List.mem_map_of_mem hp)
      simp only [if_neg this]
      exact gOf_mem nd.2 hp
def inn (hs : Hd) : Hd := hs.filter (fun p => !decide (p.1 = ("a" : Str)))
theorem gOf_inn : ∀ (hs : Hd) (o : Kd) (x : Str), gOf (inn hs ++ [(("a" : Str), o)]) x = ((gOf hs).up "a" o) x
  | [], o, x => by
    show (if ("a" : Str) = x then some o else none) = if x = "a" then some o else none
    by_cases h : x = "a"
    · subst h; rfl
    · have : ¬ ("a" : Str) = x := fun e => h e.symm
      simp [h, this]
  | (y, k) :: hs, o, x => by
    have ih := gOf_inn hs o x
    unfold Gk.up at ih ⊢
    unfold inn at ih ⊢
    by_cases hy : y = "a"
    · rw [List.filter_cons_of_neg (by simp [hy]), ih]
      split
      · rfl
      · rename_i hx
        have : ¬ y = x := fun e => hx (by rw [← e, hy])
        simp only [gOf, if_neg this]
    · rw [List.filter_cons_of_pos (by simp [hy])]
      simp only [List.cons_append, gOf]
      by_cases hx : y = x
      · subst hx
        simp [hy]
      · rw [if_neg hx, ih, if_neg hx]
theorem gOf_up (hs : Hd) (o : Kd) : gOf (inn hs ++ [(("a" : Str), o)]) = (gOf hs).up "a" o := funext (gOf_inn hs o)
theorem HdOk.inner {h : Bool} {hs : Hd} {o : Kd} (ok : HdOk h hs) (ho : KOk h o) : HdOk h (inn hs ++ [(("a" : Str), o)]) := by
  refine ⟨fun p hp => ?_, ?_, fun p hp => ?_⟩
  · rcases List.mem_append.mp hp with hp | hp
    · exact ok.nm p (List.mem_filter.mp hp).1
    · rw [List.mem_singleton.mp hp]
      exact .inl rfl
  · rw [List.map_append, List.nodup_append]
    refine ⟨ok.nd.sublist (List.filter_sublist.map _), by simp, fun x hx y hy e => ?_⟩
    simp only [List.map_cons, List.map_nil, List.mem_singleton] at hy
    obtain ⟨p, hp, rfl⟩ := List.mem_map.mp hx
    have := (List.mem_filter.mp hp).2
    simp [e, hy] at this
  · rcases List.mem_append.mp hp with hp | hp
    · exact ok.kd p (List.mem_filter.mp hp).1
    · rw [List.mem_singleton.mp hp]
      exact ho
section
variable {α : Type} {n : Nat} {s : DS} {E : Xn → DS → Prop} {P : D → DS → Prop}
theorem line_of {k : Nat} (h : k ≤ 1000) : k ≤ line := by
  have : line = 100000 := rfl
  omega
theorem w_next (hn : 1 ≤ n) (h : s.k ≤ lim) (p : ∀ (r : Int) (s' : DS), 0 ≤ r → r < 1073741824 → s'.k = s.k + 1 → P (.int r) s') : Wp (sem n 20 [.drw] s) E P := by
  obtain ⟨n, rfl⟩ := Nat.exists_eq_add_of_lt hn
  exact wp_next1 h p
theorem cmpb_strs {f : α → Str} {l : List α} (h : ∀ a ∈ l, PyData.strOk (f a) = true) : cmpb (.lst (l.map fun a => .str (f a))) := by
  refine ⟨pls_iff.mpr fun x hx => ?_, Nat.succ_le_succ (deps_le.mpr fun x hx => ?_)⟩
  · obtain ⟨a, ha, rfl⟩ := List.mem_map.mp hx
    exact h a ha
  · obtain ⟨a, ha, rfl⟩ := List.mem_map.mp hx
    exact Nat.zero_le _
theorem sp_share {x : Bool} {G A B : Prop} (b : B) (f : B → x = true → G) : (x = true → G) ∧ (x = false → ((false = true → A) ∧ (false = false → B))) := ⟨f b, fun _ => ⟨fun h => (nomatch h), fun _ => b⟩⟩
theorem sp_shareO {x : Bool} {G A B : Prop} (a : A) (f : A → x = false → G) : (x = true → ((true = true → A) ∧ (true = false → B))) ∧ (x = false → G) := ⟨fun _ => ⟨fun _ => a, fun h => (nomatch h)⟩, f a⟩
theorem w_leaf {h : Bool} {hs : Hd} {k : Kd} (ok : HdOk h hs) (hl : hs.length ≤ 100) (hk : KOk h k) (hn : 2 ≤ n) (hlim : s.k ≤ lim) (p : ∀ t s', TT h (gOf hs) (some k) t → ht t ≤ 1 → s'.k ≤ s.k + 1 → P (en t) s') : Wp (sem n 22 [.drw, .str (tg h), .lst (dH hs), .str k.s] s) E P := by
  obtain ⟨n, rfl⟩ := Nat.exists_eq_add_of_lt hn
  have fin : ∀ (t : Tm) (s' : DS), s'.k = s.k + 1 → TT h (gOf hs) (some k) t → ht t ≤ 1 → P (en t) s' := fun t s' e w q => p t s' w q (by omega)
  show Wp (fnD 8 (b__law_leaf (sem (1 + n))) [.drw, .str (tg h), .lst (dH hs), .str k.s] s) E P
  refine wp_fnL ?_
  unfold b__law_leaf
  repeat array_get_dec
  refine wp_lcM hd (fun p => decide (p.2.s = k.s)) (fun p => D.str p.1) hs (fun q hq => ?_) ?_
  · unfold hd
    repeat array_get_dec
    refine ⟨rfl, rfl, fun _ => ?_⟩
    repeat array_get_dec
    exact ⟨rfl, rfl⟩
  have hm : ∀ q ∈ hs.filter (fun p => decide (p.2.s = k.s)), q ∈ hs ∧ q.2 = k := fun q hq => ⟨(List.mem_filter.mp hq).1, ks_inj (by simpa using (List.mem_filter.mp hq).2)⟩
  have hl2 : (hs.filter (fun p => decide (p.2.s = k.s))).length ≤ 100 := Nat.le_trans (List.length_filter_le _ _) hl
  revert hm hl2
  generalize hs.filter (fun p => decide (p.2.s = k.s)) = gs
  intro hm hl2
  refine ⟨line_of (by rw [List.length_map]; omega), ?_⟩
  repeat array_get_dec
  refine w_next (by omega) hlim fun r s1 h0 h1 e1 => ?_
  repeat array_get_dec
  refine wo_neNil (cmpb_strs (f := fun p : Str × Kd => p.1) fun q hq => okNm (ok.nm q (hm q hq).1)) ?_
  repeat array_get_dec
  refine sp_share ?_ (fun rest hg => ?_)
  ·
    repeat array_get_dec
    refine sp_dec (fun _ => ?_) (fun _ => ?_)
    · repeat array_get_dec
      exact fin (.blank k) s1 e1 (.blank hk) (Nat.le_refl 1)
    repeat array_get_dec
    refine sp_dec (fun ek => ?_) (fun nk => ?_)
    · cases (ks_inj (j := .number) ek)
      repeat array_get_dec
      refine wo_ixQ (fun d => d = .int 1 ∨ d = .int (0 - 1)) (by omega) (by simp only [List.length_cons, List.length_nil]; omega) (.cons (.inl rfl) (.cons (.inr rfl) .nil)) ?_
      rintro d (rfl | rfl)
      · repeat array_get_dec
        refine ⟨fun _ => ?_, fun _ => ?_⟩
        · repeat array_get_dec
          exact fin (.num _) s1 e1 .num (Nat.le_refl 1)
        · repeat array_get_dec
          exact fin (.num _) s1 e1 .num (Nat.le_refl 1)
      · repeat array_get_dec
        refine ⟨fun _ => ?_, fun _ => ?_⟩
        · repeat array_get_dec
          exact fin (.num _) s1 e1 .num (Nat.le_refl 1)
        · repeat array_get_dec
          exact fin (.num _) s1 e1 .num (Nat.le_refl 1)
    repeat array_get_dec
    refine sp_dec (fun ek => ?_) (fun nt => ?_)
    · cases (ks_inj (j := .text) ek)
      repeat array_get_dec
      have hz : ∃ z : Str, slX (.str "b") (some (b2i (decide (tg h = "hill")))) none = some (.str z) ∧ PyData.strOk z = true ∧ (h = false → z ≠ "") := by
        cases h with
        | true => exact ⟨"", by kernel_rfl, by decide +kernel, fun h => nomatch h⟩
        | false => exact ⟨"b", by kernel_rfl, by decide +kernel, fun _ => by decide⟩
      obtain ⟨z0, e0, hz0, hz1⟩ := hz
      refine ⟨.str z0, e0, ?_⟩
      repeat array_get_dec
      refine wo_ixQ (fun d => ∃ z, d = .str z ∧ PyData.strOk z = true ∧ (h = false → z ≠ "")) (by omega) (by simp only [List.length_cons, List.length_nil]; omega) (.cons ⟨_, rfl, by decide +kernel, fun _ => by decide⟩ (.cons ⟨_, rfl, by decide +kernel, fun _ => by decide⟩ (.cons ⟨_, rfl, by decide +kernel, fun _ => by decide⟩ (.cons ⟨_, rfl, hz0, hz1⟩ .nil)))) ?_
      rintro d ⟨z, rfl, hz, hz2⟩
      repeat array_get_dec
      exact fin (.text z) s1 e1 (.text hz hz2) (Nat.le_refl 1)
    · have kd : k = .day := by
        cases k with
        | number => exact absurd rfl nk
        | text => exact absurd rfl nt
        | day => rfl
      subst kd
      have hh : h = true := by
        cases h with
        | true => rfl
        | false => exact absurd rfl (hk rfl)
      repeat array_get_dec
      refine wo_ixQ (fun d => ∃ z, d = .int z) (by omega) (by simp only [List.length_cons, List.length_nil]; omega) (.cons ⟨_, rfl⟩ (.cons ⟨_, rfl⟩ (.cons ⟨_, rfl⟩ (.cons ⟨_, rfl⟩ (.cons ⟨_, rfl⟩ .nil))))) ?_
      rintro d ⟨z, rfl⟩
      repeat array_get_dec
      exact fin (.date z _ _) s1 e1 (.date hh (by omega) (by omega) (by omega) (by omega)) (Nat.le_refl 1)
  have hg : ¬ (gs.map fun p => D.str p.1) = [] := by simpa using hg
  repeat array_get_dec
  refine sp_dec (fun _ => ?_) (fun _ => rest)
  have hne : 0 < (gs.map fun p => D.str p.1).length := List.length_pos_iff.mpr hg
  repeat array_get_dec
  refine wo_ixL (by apply Int.emod_nonneg; omega) (Int.emod_lt_of_pos _ (by omega)) fun j d _ e => ?_
  obtain ⟨q, hq, rfl⟩ := List.mem_map.mp (List.mem_of_getElem? e)
  repeat array_get_dec
  obtain ⟨hq1, rfl⟩ := hm q hq
  exact fin (.col q.1) s1 e1 (.col (gOf_mem ok.nd hq1) (ok.nm q hq1)) (Nat.le_refl 1)
end
end K10
set_option Elab.async false
set_option linter.all false
set_option maxRecDepth 100000
set_option maxHeartbeats 4000000
namespace K10
open PySem L2 Lay DM
local macro_rules
  | `(tactic| array_get_dec) => `(tactic| first
    | with_reducible refine Stp.go ?_
    | (with_reducible refine wo_mod ?_ ?_; focus (first | decide | omega))
    | (with_reducible refine wo_div ?_ ?_; focus (first | decide | omega))
    | with_reducible refine wo_pow19 ?_
    | (with_reducible refine wo_pow ?_ ?_; focus decide)
    | (with_reducible refine wo_mulX ?_ ?_; focus (first | (left; decide) | (right; decide) | (left; omega) | (right; omega))))
local macro_rules
  | `(tactic| array_mem_dec) => `(tactic| first
    | (with_reducible refine sp_T ?_ ?_; focus (first | rfl | decide))
    | (with_reducible refine sp_F ?_ ?_; focus (first | rfl | decide)))
/-- at fuel n or more, so deep at most, of at most c columns: of height a, by at most b draws -/
def TermAt (h : Bool) (z : Int) (c a b n : Nat) : Prop := ∀ (m : Nat) (hs : Hd) (k : Kd) (i : Int) (s : DS) (E : Xn → DS → Prop) (P : D → DS → Prop), n ≤ m → HdOk h hs → hs.length ≤ c → KOk h k → i ≤ z → s.k + b ≤ lim → (∀ t s', TT h (gOf hs) (some k) t → ht t ≤ a → s'.k ≤ s.k + b → P (en t) s') → Wp (sem m 23 [.drw, .str (tg h), .lst (dH hs), .str k.s, .int i] s) E P
def CondAt (h : Bool) (z : Int) (c a b n : Nat) : Prop := ∀ (m : Nat) (hs : Hd) (i : Int) (s : DS) (E : Xn → DS → Prop) (P : D → DS → Prop), n ≤ m → HdOk h hs → hs.length ≤ c → 0 ≤ i → i ≤ z → s.k + b ≤ lim → (∀ t s', TT h (gOf hs) none t → ht t ≤ a → s'.k ≤ s.k + b → P (en t) s') → Wp (sem m 24 [.drw, .str (tg h), .lst (dH hs), .int i] s) E P
theorem TermAt.mono {h : Bool} {z : Int} {c a b n c' a' b' n' : Nat} (hh : TermAt h z c a b n) (hc : c' ≤ c) (ha : a ≤ a') (hb : b ≤ b') (hn : n ≤ n') : TermAt h z c' a' b' n' := fun m hs k i s E P h1 h2 h3 h4 h5 h6 p => hh m hs k i s E P (by omega) h2 (by omega) h4 h5 (by omega) fun t s' w1 w2 w3 => p t s' w1 (by omega) (by omega)
theorem CondAt.mono {h : Bool} {z : Int} {c a b n c' a' b' n' : Nat} (hh : CondAt h z c a b n) (hc : c' ≤ c) (ha : a ≤ a') (hb : b ≤ b') (hn : n ≤ n') : CondAt h z c' a' b' n' := fun m hs i s E P h1 h2 h3 h4 h5 h6 p => hh m hs i s E P (by omega) h2 (by omega) h4 h5 (by omega) fun t s' w1 w2 w3 => p t s' w1 (by omega) (by omega)
section
variable {h : Bool} {n c a b : Nat} {z : Int}
theorem term0 (hz : z ≤ 0) (hc : c ≤ 100) : TermAt h z c 1 2 3 := by
  intro n hs k i s E P hn ok hl hk hi hlim p
  obtain ⟨n, rfl⟩ := Nat.exists_eq_add_of_lt hn
  show Wp (fnD 11 (b__law_term (sem (2 + n))) [.drw, .str (tg h), .lst (dH hs), .str k.s, .int i] s) E P
  refine wp_fnL ?_
  unfold b__law_term
  repeat array_get_dec
  refine w_next (by omega) (by omega) fun r s1 h0 h1 e1 => ?_
  repeat array_get_dec
  refine sp_T (decide_eq_true (by omega)) ?_
  repeat array_get_dec
  exact w_leaf ok (by omega) hk (by omega) (by omega) fun t s2 w1 w2 w3 => p t s2 w1 (by omega) (by omega)
theorem condN (hz : z < 0) : CondAt h z c a b n := fun m hs i s E P h1 h2 h3 h4 h5 => absurd h5 (by omega)
theorem sp_shareH {x : Bool} {G A B : Prop} (C : Prop) (n : x = false → C) (b : C → B) (f : (C → B) → x = true → G) : (x = true → G) ∧ (x = false → ((false = true → A) ∧ (false = false → B))) := ⟨f b, fun e => ⟨fun h => (nomatch h), fun _ => b (n e)⟩⟩
theorem kn : KOk h .number := fun _ e => nomatch e
theorem kt : KOk h .text := fun _ e => nomatch e
theorem ky (e : h = true) : KOk h .day := fun e' => by rw [e] at e'; cases e'
theorem termS (hT : TermAt h z (c + 1) a b n) (hC : CondAt h z (c + 1) a b n) (ha1 : 1 ≤ a) (hb : 2 ≤ b) (hc : c ≤ 99) (hn2 : 2 ≤ n) : TermAt h (z + 1) c (a + 1) (4 * b + 1) (n + 1) := by
  intro m hs k i s E P hn ok hl hk hi hlim p
  obtain ⟨m, rfl⟩ := Nat.exists_eq_add_of_lt (show 0 < m by omega)
  have hT' := fun (k : Kd) (hk : KOk h k) (s : DS) (E : Xn → DS → Prop) (P : D → DS → Prop) (hlim : s.k + b ≤ lim) (p : ∀ t s', TT h (gOf hs) (some k) t → ht t ≤ a → s'.k ≤ s.k + b → P (en t) s') => hT (0 + m) hs k (i - 1) s E P (by omega) ok (by omega) hk (by omega) hlim p
  show Wp (fnD 11 (b__law_term (sem (0 + m))) [.drw, .str (tg h), .lst (dH hs), .str k.s, .int i] s) E P
  refine wp_fnL ?_
  unfold b__law_term
  repeat array_get_dec
  refine w_next (by omega) (by omega) fun r s1 h0 h1 e1 => ?_
  repeat array_get_dec
  refine sp_shareO ?_ (fun rest gi => ?_)
  · repeat array_get_dec
    exact w_leaf ok (by omega) hk (by omega) (by omega) fun t s2 w1 w2 w3 => p t s2 w1 (by omega) (by omega)
  repeat array_get_dec
  refine sp_dec (fun _ => rest) (fun _ => ?_)
  clear rest
  have gi := of_decide_eq_false gi
  repeat array_get_dec
  refine sp_dec (fun _ => ?_) (fun g0 => ?_)
  · repeat array_get_dec
    refine hT' _ hk _ _ _ (by omega) fun t1 s2 w1 w2 w3 => ?_
    repeat array_get_dec
    refine hT' _ hk _ _ _ (by omega) fun t2 s3 v1 v2 v3 => ?_
    repeat array_get_dec
    exact p (.n2 .or_else t1 t2) s3 (.oe w1 v1) (by simp only [ht]; omega) (by omega)
  repeat array_get_dec
  refine sp_dec (fun _ => ?_) (fun g1 => ?_)
  · repeat array_get_dec
    refine hC (0 + m) hs (i - 1) _ _ _ (by omega) ok (by omega) (by omega) (by omega) (by omega) fun c s2 w1 w2 w3 => ?_
    repeat array_get_dec
    refine hT' _ hk _ _ _ (by omega) fun t2 s3 v1 v2 v3 => ?_
    repeat array_get_dec
    refine hT' _ hk _ _ _ (by omega) fun t3 s4 u1 u2 u3 => ?_
    repeat array_get_dec
    exact p (.n3 .ite c t2 t3) s4 (.ite w1 v1 u1) (by simp only [ht]; omega) (by omega)
  repeat array_get_dec
  refine sp_dec (fun _ => ?_) (fun g2 => ?_)
  · repeat array_get_dec
    refine wo_ixQ (fun d => ∃ k : Kd, d = .str k.s ∧ KOk h k) (by omega) (by simp only [List.length_cons, List.length_nil]; omega) (.cons ⟨.number, rfl, kn⟩ (.cons ⟨.text, rfl, kt⟩ .nil)) ?_
    rintro d ⟨o, rfl, ho⟩
    repeat array_get_dec
    refine wp_lcM hd (fun p => !decide (p.1 = ("a" : Str))) hd hs (fun q hq => ?_) ?_
    · unfold hd
      repeat array_get_dec
      refine ⟨rfl, rfl, fun _ => ?_⟩
      repeat array_get_dec
      exact ⟨rfl, rfl⟩
    have hl2 : (inn hs).length ≤ hs.length := List.length_filter_le _ _
    rw [show hs.filter (fun p => !decide (p.1 = ("a" : Str))) = inn hs from rfl]
    refine ⟨line_of (by rw [List.length_map]; omega), ?_⟩
    repeat array_get_dec
    refine wo_catX (line_of (by rw [List.length_map]; simp only [List.length_cons, List.length_nil]; omega)) ?_
    repeat array_get_dec
    refine hT' _ ho _ _ _ (by omega) fun t1 s2 w1 w2 w3 => ?_
    repeat array_get_dec
    rw [show ((inn hs).map hd) ++ [D.tup [.str "a", .str o.s]] = dH (inn hs ++ [(("a" : Str), o)]) from by unfold dH; rw [List.map_append]; rfl]
    refine hT (0 + m) _ k (i - 1) _ _ _ (by omega) (ok.inner ho) (by rw [List.length_append]; simp only [List.length_cons, List.length_nil]; omega) hk (by omega) (by omega) fun t2 s3 v1 v2 v3 => ?_
    repeat array_get_dec
    rw [gOf_up] at v1
    exact p (.lt "a" t1 t2) s3 (.lt (.inl rfl) w1 v1) (by simp only [ht]; omega) (by omega)
  repeat array_get_dec
  refine sp_shareH (¬ (r / 4 % 12 = 3 ∧ h = true)) (fun e z => of_decide_eq_false e z.1) (fun g3 => ?_) (fun rest g3 => ?_)
  rotate_left
  · repeat array_get_dec
    refine sp_dec (fun eh => ?_) (fun nh => rest fun z => nh (by rw [z.2]; rfl))
    have eh := tg_hill eh
    repeat array_get_dec
    refine hT' _ hk _ _ _ (by omega) fun t1 s2 w1 w2 w3 => ?_
    repeat array_get_dec
    refine hT' _ hk _ _ _ (by omega) fun t2 s3 v1 v2 v3 => ?_
    repeat array_get_dec
    exact p (.n2 .blank_if t1 t2) s3 (.bi eh w1 v1) (by simp only [ht]; omega) (by omega)
  repeat array_get_dec
  refine sp_dec (fun ek => ?_) (fun nt => ?_)
  · cases (ks_inj (j := .text) ek)
    repeat array_get_dec
    refine sp_dec (fun _ => ?_) (fun _ => ?_)
    · repeat array_get_dec
      refine hT' .text kt _ _ _ (by omega) fun t1 s2 w1 w2 w3 => ?_
      repeat array_get_dec
      refine hT' .text kt _ _ _ (by omega) fun t2 s3 v1 v2 v3 => ?_
      repeat array_get_dec
      exact p (.n2 .joined t1 t2) s3 (.n2 rfl (fun h => nomatch h) w1 v1) (by simp only [ht]; omega) (by omega)
    · repeat array_get_dec
      refine hT' .text kt _ _ _ (by omega) fun t1 s2 w1 w2 w3 => ?_
      repeat array_get_dec
      refine hT' .number kn _ _ _ (by omega) fun t2 s3 v1 v2 v3 => ?_
      repeat array_get_dec
      refine hT' .number kn _ _ _ (by omega) fun t3 s4 u1 u2 u3 => ?_
      repeat array_get_dec
      exact p (.n3 .part t1 t2 t3) s4 (.part w1 v1 u1) (by simp only [ht]; omega) (by omega)
  repeat array_get_dec
  refine sp_dec (fun ek => ?_) (fun nd => ?_)
  · cases (ks_inj (j := .day) ek)
    have hh : h = true := by
      cases h with
      | true => rfl
      | false => exact absurd rfl (hk rfl)
    repeat array_get_dec
    refine hT' .day hk _ _ _ (by omega) fun t1 s2 w1 w2 w3 => ?_
    repeat array_get_dec
    refine hT' .number kn _ _ _ (by omega) fun t2 s3 v1 v2 v3 => ?_
    repeat array_get_dec
    refine hT' .day hk _ _ _ (by omega) fun t3 s4 u1 u2 u3 => ?_
    repeat array_get_dec
    refine hT' .number kn _ _ _ (by omega) fun t4 s5 x1 x2 x3 => ?_
    repeat array_get_dec
    refine wo_ixQ (fun d => ∃ t, d = en t ∧ TT h (gOf hs) (some .day) t ∧ ht t ≤ a + 1) (by omega) (by simp only [List.length_cons, List.length_nil]; omega) (.cons ⟨.n2 .months t1 t2, rfl, .n2 rfl (fun _ => hh) w1 v1, by simp only [ht]; omega⟩ (.cons ⟨.n2 .later t3 t4, rfl, .n2 rfl (fun _ => hh) u1 x1, by simp only [ht]; omega⟩ .nil)) ?_
    rintro d ⟨t, rfl, y1, y2⟩
    repeat array_get_dec
    exact p t s5 y1 (by omega) (by omega)
  have kk : k = .number := by
    cases k with
    | number => rfl
    | text => exact absurd rfl nt
    | day => exact absurd rfl nd
  subst kk
  repeat array_get_dec
  refine sp_dec (fun _ => ?_) (fun g4 => ?_)
  · repeat array_get_dec
    refine hT' .text kt _ _ _ (by omega) fun t1 s2 w1 w2 w3 => ?_
    repeat array_get_dec
    exact p (.n1 .size t1) s2 (.n1 rfl (fun h => nomatch h) w1) (by simp only [ht]; omega) (by omega)
  repeat array_get_dec
  refine sp_share ?_ (fun rest g7 => ?_)
  rotate_left
  · have g7 := of_decide_eq_true g7
    repeat array_get_dec
    refine sp_dec (fun eh => ?_) (fun _ => rest)
    have hh := tg_hill eh
    have g3 : ¬ r / 4 % 12 = 3 := fun e => g3 ⟨e, hh⟩
    repeat array_get_dec
    refine hT' .day (ky hh) _ _ _ (by omega) fun t1 s2 w1 w2 w3 => ?_
    repeat array_get_dec
    refine hT' .day (ky hh) _ _ _ (by omega) fun t2 s3 v1 v2 v3 => ?_
    repeat array_get_dec
    refine wo_ixQ (fun d => ∃ w : W1, d = .str w.s ∧ sg1 w = some (.number, .day)) (by omega) (by simp only [List.length_cons, List.length_nil]; omega) (.cons ⟨.year, rfl, rfl⟩ (.cons ⟨.month, rfl, rfl⟩ (.cons ⟨.daily, rfl, rfl⟩ .nil))) ?_
    rintro d ⟨w, rfl, hw⟩
    repeat array_get_dec
    refine hT' .day (ky hh) _ _ _ (by omega) fun t3 s4 u1 u2 u3 => ?_
    repeat array_get_dec
    refine wo_ixQ (fun d => ∃ t, d = en t ∧ TT h (gOf hs) (some .number) t ∧ ht t ≤ a + 1) (by omega) (by simp only [List.length_cons, List.length_nil]; omega) (.cons ⟨.n2 .days t1 t2, rfl, .n2 rfl (fun _ => hh) w1 v1, by simp only [ht]; omega⟩ (.cons ⟨.n1 w t3, rfl, .n1 hw (fun _ => hh) u1, by simp only [ht]; omega⟩ .nil)) ?_
    rintro d ⟨t, rfl, y1, y2⟩
    repeat array_get_dec
    exact p t s4 y1 (by omega) (by omega)
  · repeat array_get_dec
    refine wo_ixQ (fun d => ∃ w : W2, d = .str w.s ∧ sg2 w = some (.number, .number, .number) ∧ hl2 w = false) (by omega) (by simp only [List.length_cons, List.length_nil]; omega) (.cons ⟨.plus, rfl, rfl, rfl⟩ (.cons ⟨.minus, rfl, rfl, rfl⟩ (.cons ⟨.times, rfl, rfl, rfl⟩ (.cons ⟨.over, rfl, rfl, rfl⟩ (.cons ⟨.rest, rfl, rfl, rfl⟩ .nil))))) ?_
    rintro d ⟨w, rfl, hw, hw2⟩
    repeat array_get_dec
    refine hT' .number kn _ _ _ (by omega) fun t1 s2 w1 w2 w3 => ?_
    repeat array_get_dec
    refine hT' .number kn _ _ _ (by omega) fun t2 s3 v1 v2 v3 => ?_
    repeat array_get_dec
    exact p (.n2 w t1 t2) s3 (.n2 hw (fun h => by rw [hw2] at h; cases h) w1 v1) (by simp only [ht]; omega) (by omega)
end
end K10
set_option Elab.async false
set_option linter.all false
set_option maxRecDepth 100000
set_option maxHeartbeats 4000000
namespace K10
open PySem L2 Lay DM
local macro_rules
  | `(tactic| array_get_dec) => `(tactic| first
    | with_reducible refine Stp.go ?_
    | (with_reducible refine wo_mod ?_ ?_; focus (first | decide | omega))
    | (with_reducible refine wo_div ?_ ?_; focus (first | decide | omega))
    | with_reducible refine wo_pow19 ?_
    | (with_reducible refine wo_pow ?_ ?_; focus decide)
    | (with_reducible refine wo_mulX ?_ ?_; focus (first | (left; decide) | (right; decide) | (left; omega) | (right; omega))))
local macro_rules
  | `(tactic| array_mem_dec) => `(tactic| first
    | (with_reducible refine sp_T ?_ ?_; focus (first | rfl | decide))
    | (with_reducible refine sp_F ?_ ?_; focus (first | rfl | decide)))
section
variable {h : Bool} {n c a b : Nat} {z : Int}
theorem condS (hT : TermAt h z c a b n) (hC : CondAt h z c a b n) (ha1 : 1 ≤ a) (hb : 2 ≤ b) (hn2 : 2 ≤ n) : CondAt h (z + 1) c (a + 1) (2 * b + 1) (n + 1) := by
  intro m hs i s E P hn ok hl hi0 hi hlim p
  obtain ⟨m, rfl⟩ := Nat.exists_eq_add_of_lt (show 0 < m by omega)
  show Wp (fnD 10 (b__law_condition (sem (0 + m))) [.drw, .str (tg h), .lst (dH hs), .int i] s) E P
  refine wp_fnL ?_
  unfold b__law_condition
  repeat array_get_dec
  refine w_next (by omega) (by omega) fun r s1 h0 h1 e1 => ?_
  repeat array_get_dec
  refine sp_dec (fun _ => ?_) (fun _ => ?_)
  · repeat array_get_dec
    refine wo_ixQ (fun d => ∃ w : W0, d = en (.n0 w)) (by omega) (by simp only [List.length_cons, List.length_nil]; omega) (.cons ⟨.yes, rfl⟩ (.cons ⟨.no, rfl⟩ .nil)) ?_
    rintro d ⟨w, rfl⟩
    repeat array_get_dec
    exact p (.n0 w) s1 .n0 (by simp only [ht]; omega) (by omega)
  repeat array_get_dec
  refine sp_share ?_ (fun rest gi => ?_)
  rotate_left
  · have gi := of_decide_eq_true gi
    repeat array_get_dec
    refine sp_dec (fun _ => ?_) (fun _ => rest)
    repeat array_get_dec
    refine hC (0 + m) hs (i - 1) _ _ _ (by omega) ok (by omega) (by omega) (by omega) (by omega) fun c1 s2 w1 w2 w3 => ?_
    repeat array_get_dec
    refine hC (0 + m) hs (i - 1) _ _ _ (by omega) ok (by omega) (by omega) (by omega) (by omega) fun c2 s3 v1 v2 v3 => ?_
    repeat array_get_dec
    refine wo_ixQ (fun d => ∃ c, d = en c ∧ TT h (gOf hs) none c ∧ ht c ≤ a + 1) (by omega) (by simp only [List.length_cons, List.length_nil]; omega) (.cons ⟨.n2 .and c1 c2, rfl, .and w1 v1, by simp only [ht]; omega⟩ (.cons ⟨.n2 .or c1 c2, rfl, .or w1 v1, by simp only [ht]; omega⟩ (.cons ⟨.n1 .not c1, rfl, .not w1, by simp only [ht]; omega⟩ .nil))) ?_
    rintro d ⟨t, rfl, y1, y2⟩
    repeat array_get_dec
    exact p t s3 y1 y2 (by omega)
  repeat array_get_dec
  have hk : ∃ ks : List Kd, 0 < ks.length ∧ ks.length ≤ 3 ∧ (∀ k ∈ ks, KOk h k) ∧ slX (.lst [.str "number", .str "text", .str "day"]) none (some (2 + b2i (decide (tg h = "hill")))) = some (.lst (ks.map fun k => .str k.s)) := by
    cases h with
    | true => exact ⟨[.number, .text, .day], by decide, by decide, fun k _ e => (nomatch e), by kernel_rfl⟩
    | false => exact ⟨[.number, .text], by decide, by decide, fun k hk _ e => by subst e; simp at hk, by kernel_rfl⟩
  obtain ⟨ks, hk0, hk1, hk2, ek⟩ := hk
  refine ⟨_, ek, ?_⟩
  have hlk : (ks.map fun k => D.str k.s).length = ks.length := List.length_map _
  repeat array_get_dec
  refine wo_ixL (by apply Int.emod_nonneg; omega) (Int.emod_lt_of_pos _ (by omega)) fun j d _ e => ?_
  obtain ⟨o, ho1, rfl⟩ := List.mem_map.mp (List.mem_of_getElem? e)
  have ho := hk2 o ho1
  repeat array_get_dec
  refine hT (0 + m) hs o (i - 1) _ _ _ (by omega) ok (by omega) ho (by omega) (by omega) fun t1 s2 w1 w2 w3 => ?_
  repeat array_get_dec
  refine hT (0 + m) hs o (i - 1) _ _ _ (by omega) ok (by omega) ho (by omega) (by omega) fun t2 s3 v1 v2 v3 => ?_
  repeat array_get_dec
  refine sp_dec (fun _ => ?_) (fun _ => ?_)
  · repeat array_get_dec
    exact p (.n1 .is_blank t1) s3 (.isb w1) (by simp only [ht]; omega) (by omega)
  repeat array_get_dec
  refine sp_share ?_ (fun rest gi => ?_)
  · repeat array_get_dec
    refine wo_ixQ (fun d => d = .str W2.same.s ∨ d = .str W2.less.s) (by omega) (by simp only [List.length_cons, List.length_nil]; omega) (.cons (.inl rfl) (.cons (.inr rfl) .nil)) ?_
    rintro d (rfl | rfl)
    · repeat array_get_dec
      exact p (.n2 .same t1 t2) s3 (.same w1 v1) (by simp only [ht]; omega) (by omega)
    · repeat array_get_dec
      exact p (.n2 .less t1 t2) s3 (.less w1 v1) (by simp only [ht]; omega) (by omega)
  repeat array_get_dec
  refine sp_dec (fun eo => ?_) (fun _ => rest)
  cases (ks_inj (j := .text) eo)
  repeat array_get_dec
  exact p (.n2 .begins t1 t2) s3 (.begins w1 v1) (by simp only [ht]; omega) (by omega)
theorem t_0 : TermAt h 0 100 1 2 3 := term0 (by omega) (by omega)
theorem c_0 : CondAt h 0 100 2 5 4 := condS (z := -1) (term0 (by omega) (by omega)) (condN (by omega)) (by omega) (by omega) (by omega)
theorem t_1 : TermAt h 1 99 3 21 5 := termS (c := 99) (a := 2) (b := 5) (n := 4) (t_0.mono (by omega) (by omega) (by omega) (by omega)) (c_0.mono (by omega) (by omega) (by omega) (by omega)) (by omega) (by omega) (by omega) (by omega)
theorem c_1 : CondAt h 1 99 3 21 5 := (condS (c := 99) (a := 2) (b := 5) (n := 4) (t_0.mono (by omega) (by omega) (by omega) (by omega)) (c_0.mono (by omega) (by omega) (by omega) (by omega)) (by omega) (by omega) (by omega)).mono (by omega) (by omega) (by omega) (by omega)
theorem t_2 : TermAt h 2 98 4 85 6 := termS (c := 98) (a := 3) (b := 21) (n := 5) t_1 c_1 (by omega) (by omega) (by omega) (by omega)
theorem c_2 : CondAt h 2 98 4 85 6 := (condS (c := 98) (a := 3) (b := 21) (n := 5) (t_1.mono (by omega) (by omega) (by omega) (by omega)) (c_1.mono (by omega) (by omega) (by omega) (by omega)) (by omega) (by omega) (by omega)).mono (by omega) (by omega) (by omega) (by omega)
theorem t_3 : TermAt h 3 97 5 341 7 := termS (c := 97) (a := 4) (b := 85) (n := 6) t_2 c_2 (by omega) (by omega) (by omega) (by omega)
theorem c_3 : CondAt h 3 97 5 341 7 := (condS (c := 97) (a := 4) (b := 85) (n := 6) (t_2.mono (by omega) (by omega) (by omega) (by omega)) (c_2.mono (by omega) (by omega) (by omega) (by omega)) (by omega) (by omega) (by omega)).mono (by omega) (by omega) (by omega) (by omega)
theorem t_4 : TermAt h 4 96 6 1365 8 := termS (c := 96) (a := 5) (b := 341) (n := 7) t_3 c_3 (by omega) (by omega) (by omega) (by omega)
end
end K10
set_option Elab.async false
set_option linter.all false
set_option maxRecDepth 100000
set_option maxHeartbeats 4000000
namespace K10
open PySem L2 Lay DM
local macro_rules
  | `(tactic| array_get_dec) => `(tactic| first
    | with_reducible refine Stp.go ?_
    | (with_reducible refine wo_mod ?_ ?_; focus (first | decide | omega))
    | (with_reducible refine wo_div ?_ ?_; focus (first | decide | omega))
    | with_reducible refine wo_pow19 ?_
    | (with_reducible refine wo_pow ?_ ?_; focus decide)
    | (with_reducible refine wo_mulX ?_ ?_; focus (first | (left; decide) | (right; decide) | (left; omega) | (right; omega))))
local macro_rules
  | `(tactic| array_mem_dec) => `(tactic| first
    | (with_reducible refine sp_T ?_ ?_; focus (first | rfl | decide))
    | (with_reducible refine sp_F ?_ ?_; focus (first | rfl | decide)))
section
variable {h : Bool} {n : Nat} {s : DS} {E : Xn → DS → Prop} {P : D → DS → Prop}
theorem wp_heads {ks : List Kd} (hk0 : 0 < ks.length) (hk1 : ks.length ≤ 5) (hk2 : ∀ k ∈ ks, KOk h k) (hn : 1 ≤ n) : ∀ (xs : List Str) (s : DS) (Q : List D → DS → Prop), s.k + xs.length ≤ lim → (∀ hs s', hs.map (·.1) = xs → (∀ p ∈ hs, KOk h p.2) → s'.k ≤ s.k + xs.length → Q (dH hs) s') →
    Wp (lcGo (.one 5) tYes' (eTup (aCons (eVar 5) (aCons (eOp oIx (eVar 3) (eOp oMod (eCallN 1 (sem n 20) (aCons (eVar 0) aNil)) (eCB bLenX (aCons (eVar 3) aNil)))) aNil))) [.val .drw, .val (.str (tg h)), .val (.str "abc"), .val (.lst (ks.map fun k => .str k.s)), c4, .no] (xs.map D.str) s) E Q
  | [], s, Q, hl, q => wp_lcNil (q [] s rfl (fun _ h => nomatch h) (by simp))
  | x :: xs, s, Q, hl, q => by
    have hlk : (ks.map fun k => D.str k.s).length = ks.length := List.length_map _
    simp only [List.length_cons] at hl
    show Wp (lcGo _ _ _ _ (D.str x :: xs.map D.str) s) E Q
    repeat array_get_dec
    refine w_next hn (by omega) fun r s1 h0 h1 e1 => ?_
    repeat array_get_dec
    refine wo_ixL (by apply Int.emod_nonneg; omega) (Int.emod_lt_of_pos _ (by omega)) fun j d _ e => ?_
    obtain ⟨o, ho1, rfl⟩ := List.mem_map.mp (List.mem_of_getElem? e)
    repeat array_get_dec
    refine wp_heads hk0 hk1 hk2 hn xs s1 _ (by omega) fun hs s' e2 k2 h2 => ?_
    exact q ((x, o) :: hs) s' (by simp [e2]) (fun p hp => by
      rcases List.mem_cons.mp hp with rfl | hp
      · exact hk2 o ho1
      · exact k2 p hp) (by simp; omega)
def hdB (S : Tb) : DM.S := (sSeq (sSet (.one 4) (eOp oAddX (eC (.int 1)) (eOp oMod (eCallN 1 (S 20) (aCons (eVar 0) aNil)) (eCB bLenX (aCons (eVar 2) aNil)))))
    (sRet (eLc (.one 5) (iD isX (eSl slX (eVar 2) oNone (oSome (eVar 4)))) tYes' (eTup (aCons (eVar 5) (aCons (eOp oIx (eVar 3) (eOp oMod (eCallN 1 (S 20) (aCons (eVar 0) aNil)) (eCB bLenX (aCons (eVar 3) aNil)))) aNil))))))
theorem w_hdB {ks : List Kd} (hk0 : 0 < ks.length) (hk1 : ks.length ≤ 5) (hk2 : ∀ k ∈ ks, KOk h k) (hn : 1 ≤ n) (hl : s.k + 4 ≤ lim) (p : ∀ hs s', HdOk h hs → hs.length ≤ 3 → s'.k ≤ s.k + 4 → P (.lst (dH hs)) s') : Wr (hdB (sem n) [.val .drw, .val (.str (tg h)), .val (.str "abc"), .val (.lst (ks.map fun k => .str k.s)), .no, .no] s) (retR E P) := by
  unfold hdB
  repeat array_get_dec
  refine w_next hn (by omega) fun r s1 h0 h1 e1 => ?_
  repeat array_get_dec
  refine wo_lenS (n := 3) (by decide +kernel) (by decide) ?_
  repeat array_get_dec
  have hr : r % ((3 : Nat) : Int) = 0 ∨ r % ((3 : Nat) : Int) = 1 ∨ r % ((3 : Nat) : Int) = 2 := by omega
  have go : ∃ (xs : List Str) (z : Str), slX (.str "abc") none (some (1 + r % ((3 : Nat) : Int))) = some (.str z) ∧ (z.cps.toList.map fun c => D.str ⟨#[c]⟩) = xs.map D.str ∧ xs.length ≤ 3 ∧ xs.Nodup ∧ (∀ x ∈ xs, Nm x) := by
    rcases hr with e | e | e <;> rw [e]
    · exact ⟨["a"], "a", by kernel_rfl, by kernel_rfl, by decide, by decide, fun x hx => by simp at hx; exact .inl hx⟩
    · exact ⟨["a", "b"], "ab", by kernel_rfl, by kernel_rfl, by decide, by decide, fun x hx => by simp at hx; rcases hx with rfl | rfl; exact .inl rfl; exact .inr (.inl rfl)⟩
    · exact ⟨["a", "b", "c"], "abc", by kernel_rfl, by kernel_rfl, by decide, by decide, fun x hx => by simp at hx; exact hx⟩
  obtain ⟨xs, z, g1, g2, g3, g4, g5⟩ := go
  refine ⟨_, g1, ?_⟩
  repeat array_get_dec
  rw [g2]
  refine wp_heads hk0 hk1 hk2 hn xs s1 _ (by omega) fun hs s' e2 k2 h2 => ?_
  have hle : hs.length = xs.length := by rw [← e2, List.length_map]
  refine ⟨line_of (by unfold dH; rw [List.length_map]; omega), ?_⟩
  repeat array_get_dec
  exact p hs s' ⟨fun q hq => g5 _ (by rw [← e2]; exact List.mem_map_of_mem hq), by rw [e2]; exact g4, k2⟩ (by omega) (by omega)
theorem w_heads (hn : 2 ≤ n) (hl : s.k + 4 ≤ lim) (p : ∀ hs s', HdOk h hs → hs.length ≤ 3 → s'.k ≤ s.k + 4 → P (.lst (dH hs)) s') : Wp (sem n 21 [.drw, .str (tg h), .str "abc"] s) E P := by
  obtain ⟨n, rfl⟩ := Nat.exists_eq_add_of_lt hn
  show Wp (fnD 6 (b__law_heads (sem (1 + n))) [.drw, .str (tg h), .str "abc"] s) E P
  refine wp_fnL ?_
  unfold b__law_heads
  refine wr_seq ?_
  cases h with
  | true =>
    have := w_hdB (h := true) (n := 1 + n) (s := s) (E := E) (P := P) (ks := [.number, .text, .number, .text, .day]) (by decide) (by decide) (fun k _ e => (nomatch e)) (by omega) hl p
    exact ⟨.nx _, s, by kernel_rfl, this⟩
  | false =>
    have := w_hdB (h := false) (n := 1 + n) (s := s) (E := E) (P := P) (ks := [.number, .text, .number, .text]) (by decide) (by decide) (fun k hk _ e => by subst e; simp at hk) (by omega) hl p
    exact ⟨.nx _, s, by kernel_rfl, this⟩
end
end K10
set_option Elab.async false
set_option linter.all false
set_option maxRecDepth 100000
set_option maxHeartbeats 4000000
namespace K10
open PySem L2 Lay DM
local macro_rules
  | `(tactic| array_get_dec) => `(tactic| first
    | with_reducible refine Stp.go ?_
    | (with_reducible refine wo_mod ?_ ?_; focus (first | decide | omega))
    | (with_reducible refine wo_div ?_ ?_; focus (first | decide | omega))
    | with_reducible refine wo_pow19 ?_
    | (with_reducible refine wo_pow ?_ ?_; focus decide)
    | (with_reducible refine wo_mulX ?_ ?_; focus (first | (left; decide) | (right; decide) | (left; omega) | (right; omega))))
local macro_rules
  | `(tactic| array_mem_dec) => `(tactic| first
    | (with_reducible refine sp_T ?_ ?_; focus (first | rfl | decide))
    | (with_reducible refine sp_F ?_ ?_; focus (first | rfl | decide)))
def tnB (S : Tb) : DM.S := (sSeq (sSet (.one 4) (eOp oIx (eLst (aCons (eC (.str "hill")) (aCons (eC (.str "dale")) aNil))) (eOp oMod (eCallN 1 (S 20) (aCons (eVar 2) aNil)) (eC (.int 2)))))
    (sSeq (sSet (.one 5) (eCallN 3 (S 21) (aCons (eVar 2) (aCons (eVar 4) (aCons (eC (.str "abc")) aNil)))))
    (sSeq (sSet (.one 6) (eOp oIx (eLst (aCons (eC (.str "number")) (aCons (eC (.str "text")) (aCons (eC (.str "day")) aNil)))) (eOp oMod (eCallN 1 (S 20) (aCons (eVar 2) aNil)) (eOp oAddX (eC (.int 2)) (eCB bInt (aCons (eOp oEqX (eVar 4) (eC (.str "hill"))) aNil))))))
    (sSeq (sSet (.one 7) (eCallN 5 (S 23) (aCons (eVar 2) (aCons (eVar 4) (aCons (eVar 5) (aCons (eVar 6) (aCons (eOp oAddX (eC (.int 1)) (eOp oMod (eCallN 1 (S 20) (aCons (eVar 2) aNil)) (eC (.int 4)))) aNil)))))))
    (sSeq (sSet (.one 8) (eLst (aCons (eCallN 3 (S 18) (aCons (eVar 4) (aCons (eVar 7) (aCons (eCB bDictP (aCons (eVar 5) aNil)) aNil)))) (aCons (eCallK 3 3 [2, 1, 0] (S 18) (aCons (eCB bDictP (aCons (eVar 5) aNil)) (aCons (eVar 7) (aCons (eVar 4) aNil)))) aNil))))
    (sSeq (sIf (tB' (eOp oNeX (eVar 8) (eLst (aCons (eVar 6) (aCons (eVar 6) aNil))))) (sRet (eC (.bl false))) sNext)
    (sSeq (sSet (.one 9) (eCallN 4 (S 24) (aCons (eVar 2) (aCons (eVar 4) (aCons (eVar 5) (aCons (eOp oMod (eCallN 1 (S 20) (aCons (eVar 2) aNil)) (eC (.int 4))) aNil))))))
    (sSeq (sIf (tB' (eOp oNotN (eCallN 3 (S 19) (aCons (eVar 4) (aCons (eVar 9) (aCons (eCB bDictP (aCons (eVar 5) aNil)) aNil)))) (eC .non))) (sRet (eC (.bl false))) sNext)
    (sSeq (sIf (tB' (eOp oNotN (eCallK 3 3 [2, 1, 0] (S 19) (aCons (eCB bDictP (aCons (eVar 5) aNil)) (aCons (eVar 9) (aCons (eVar 4) aNil)))) (eC .non))) (sRet (eC (.bl false))) sNext)
    (sIf (tOr' (tNot' (tB' (eCallN 1 (S 30) (aCons (eVar 7) aNil)))) (tNot' (tB' (eCallN 1 (S 30) (aCons (eVar 9) aNil))))) (sRet (eC (.bl false))) sNext))))))))))
def tnF (S : Tb) : DM.S := sFor (.one 3) (iDs isR (aCons (eC (.int 3)) aNil)) (tnB S)
theorem pairs_dH : ∀ hs : Hd, pairsD (dH hs) = some (hs.map (·.1), hs.map fun p => .str p.2.s)
  | [] => rfl
  | p :: hs => by
    show (pairsD (dH hs)).map _ = _
    rw [pairs_dH hs]
    rfl
theorem ke_dH : ∀ hs : Hd, ∀ x k, gOf hs x = some k → getD (hs.map (·.1)) (hs.map fun p => D.str p.2.s) x = some (.str k.s)
  | (y, j) :: hs, x, k, e => by
    unfold gOf at e
    simp only [List.map_cons, getD]
    split at e
    · rename_i hy
      cases e
      rw [if_pos hy]
    · rename_i hy
      rw [if_neg hy]
      exact ke_dH hs x k e
theorem cov_dH : ∀ hs : Hd, Cov (gOf hs) (hs.map (·.1))
  | (y, j) :: hs, x, k, e => by
    unfold gOf at e
    split at e
    · rename_i hy
      subst hy
      simp
    · exact List.mem_cons_of_mem _ (cov_dH hs x k e)
section
variable {h : Bool} {n : Nat} {s : DS} {R : Res → DS → Prop}
theorem wo_dict {hs : Hd} {Q : D → Prop} (ok : HdOk h hs) (q : Q (.dic (hs.map (·.1)) (hs.map fun p => .str p.2.s))) : WO (bDictP [.lst (dH hs)]) Q := by
  refine ⟨_, ?_, q⟩
  show (pairsD (dH hs)).bind _ = _
  rw [pairs_dH]
  show (if (hs.map (·.1)).Nodup then _ else _) = _
  rw [if_pos ok.nd]
theorem ke_of {hs : Hd} (hl : hs.length ≤ 3) : KE (gOf hs) (hs.map (·.1)) (hs.map fun p => D.str p.2.s) 10 := ⟨by simp, by simp; omega, ke_dH hs⟩
theorem cm_two (k : Kd) : cmpb (.lst [.str k.s, .str k.s]) := ⟨by simp [pl, pls, okKd], by simp [dep, deps]⟩
theorem w_turn {a0 a1 a3 a4 a5 a6 a7 a8 a9 : Sl} (hn : 50 ≤ n) (hl : s.k + 1800 ≤ lim) (p : ∀ b4 b5 b6 b7 b8 b9 s', s'.k ≤ s.k + 1800 → R (.nx [a0, a1, .val .drw, a3, b4, b5, b6, b7, b8, b9]) s') : Wr (tnB (sem n) [a0, a1, .val .drw, a3, a4, a5, a6, a7, a8, a9] s) R := by
  unfold tnB
  repeat array_get_dec
  refine w_next (by omega) (by omega) fun r s1 h0 h1 e1 => ?_
  repeat array_get_dec
  refine wo_ixQ (fun d => ∃ h : Bool, d = .str (tg h)) (by omega) (by simp only [List.length_cons, List.length_nil]; omega) (.cons ⟨true, rfl⟩ (.cons ⟨false, rfl⟩ .nil)) ?_
  rintro d ⟨h, rfl⟩
  repeat array_get_dec
  refine w_heads (by omega) (by omega) fun hs s2 ok hl2 e2 => ?_
  have ke := ke_of hl2
  have cv := cov_dH hs
  repeat array_get_dec
  refine w_next (by omega) (by omega) fun r2 s3 h2 h3 e3 => ?_
  repeat array_get_dec
  have hb : 0 < (2 : Int) + b2i (decide (tg h = "hill")) ∧ (2 : Int) + b2i (decide (tg h = "hill")) ≤ 3 ∧ (h = false → (2 : Int) + b2i (decide (tg h = "hill")) = 2) := by
    cases h with
    | true => exact ⟨by decide, by decide, fun e => nomatch e⟩
    | false => exact ⟨by decide, by decide, fun _ => by decide⟩
  obtain ⟨hb1, hb2, hb3⟩ := hb
  revert hb1 hb2 hb3
  generalize (2 : Int) + b2i (decide (tg h = "hill")) = w
  intro hb1 hb2 hb3
  refine wo_mod hb1 ?_
  have hm0 : 0 ≤ r2 % w := Int.emod_nonneg _ (by omega)
  have hm1 : r2 % w < w := Int.emod_lt_of_pos _ hb1
  have hk : ∃ k : Kd, KOk h k ∧ oIx (.lst [.str "number", .str "text", .str "day"]) (.int (r2 % w)) = some (.str k.s) := by
    have : r2 % w = 0 ∨ r2 % w = 1 ∨ r2 % w = 2 := by omega
    rcases this with e | e | e <;> rw [e]
    · exact ⟨.number, kn, rfl⟩
    · exact ⟨.text, kt, rfl⟩
    · refine ⟨.day, fun eh => ?_, rfl⟩
      have := hb3 eh
      omega
  obtain ⟨k, hk, ek⟩ := hk
  refine ⟨_, ek, ?_⟩
  repeat array_get_dec
  refine w_next (by omega) (by omega) fun r3 s4 h4 h5 e4 => ?_
  repeat array_get_dec
  refine t_4 n hs k _ _ _ _ (by omega) ok (by omega) hk (by omega) (by omega) fun t s5 w1 w2 w3 => ?_
  repeat array_get_dec
  refine wo_dict ok ?_
  repeat array_get_dec
  refine wp_eq (f_kind_of w1 (by omega) ke cv (by omega)) ?_
  repeat array_get_dec
  refine wo_dict ok ?_
  repeat array_get_dec
  refine ⟨rfl, ?_⟩
  refine wp_eq (f_kind_of w1 (by omega) ke cv (by omega)) ?_
  repeat array_get_dec
  refine wo_neL (cm_two k) (cm_two k) ?_
  rw [eqD_self _ (cm_two k).1]
  repeat array_get_dec
  refine sp_F rfl ?_
  repeat array_get_dec
  refine w_next (by omega) (by omega) fun r4 s6 h6 h7 e6 => ?_
  repeat array_get_dec
  refine c_3 n hs _ _ _ _ (by omega) ok (by omega) (by omega) (by omega) (by omega) fun u s7 v1 v2 v3 => ?_
  repeat array_get_dec
  refine wo_dict ok ?_
  repeat array_get_dec
  refine wp_eq (f_check_condition v1 (by omega) ke cv (by omega)) ?_
  repeat (first | array_get_dec | refine wo_by rfl ?_)
  refine wo_dict ok ?_
  repeat array_get_dec
  refine ⟨rfl, ?_⟩
  refine wp_eq (f_check_condition v1 (by omega) ke cv (by omega)) ?_
  repeat (first | array_get_dec | refine wo_by rfl ?_)
  refine wp_eq (f_right w1.ok (by omega) (by omega)) ?_
  repeat array_get_dec
  refine sp_F rfl ?_
  repeat array_get_dec
  refine wp_eq (f_right v1.ok (by omega) (by omega)) ?_
  repeat array_get_dec
  refine sp_F rfl ?_
  repeat array_get_dec
  exact p _ _ _ _ _ _ _ (by omega)
theorem w_turns {a0 a1 : Sl} (hn : 50 ≤ n) (hl : s.k + 5400 ≤ lim) (p : ∀ b3 b4 b5 b6 b7 b8 b9 s', s'.k ≤ s.k + 5400 → R (.nx [a0, a1, .val .drw, b3, b4, b5, b6, b7, b8, b9]) s') : Wr (tnF (sem n) [a0, a1, .val .drw, .no, .no, .no, .no, .no, .no, .no] s) R := by
  unfold tnF
  repeat array_get_dec
  refine w_turn hn (by omega) fun b4 b5 b6 b7 b8 b9 s1 e1 => ?_
  repeat array_get_dec
  refine w_turn hn (by omega) fun b4 b5 b6 b7 b8 b9 s2 e2 => ?_
  repeat array_get_dec
  refine w_turn hn (by omega) fun b4 b5 b6 b7 b8 b9 s3 e3 => ?_
  repeat array_get_dec
  exact p _ _ _ _ _ _ _ _ (by omega)
end
end K10
set_option Elab.async false
set_option linter.all false
set_option maxRecDepth 100000
set_option maxHeartbeats 4000000
namespace K10
open PySem PySem.Spec PyProof.Rows L2 Lay NdefX LamX GD DM
theorem ps_ex {X : Cx} {st : Stmt} {ι : Type} {t : ι → TS} (h : ∀ i, PS X st (t i)) : PS X st (fun D σ H => ∃ i, t i D σ H) := ⟨fun pins s σ H D I ⟨i, q⟩ => (h i).run pins s σ H D I q⟩
theorem len10 {α : Type} {l : List α} (h : l.length = 10) : ∃ a b c d e f g i j k, l = [a, b, c, d, e, f, g, i, j, k] := by
  match l, h with
  | [a, b, c, d, e, f, g, i, j, k], _ => exact ⟨a, b, c, d, e, f, g, i, j, k, rfl⟩
theorem slot2 {i : Nat} {x : Sl} (e : ([.no, .no, .val .drw, .no, .no, .no, .no, .no, .no, .no] : En)[i]? = some x) : x = .no ∨ (i = 2 ∧ x = .val .drw) := by
  match i, e with
  | 0, e => cases e; exact .inl rfl
  | 1, e => cases e; exact .inl rfl
  | 2, e => cases e; exact .inr ⟨rfl, rfl⟩
  | 3, e => cases e; exact .inl rfl
  | 4, e => cases e; exact .inl rfl
  | 5, e => cases e; exact .inl rfl
  | 6, e => cases e; exact .inl rfl
  | 7, e => cases e; exact .inl rfl
  | 8, e => cases e; exact .inl rfl
  | 9, e => cases e; exact .inl rfl
  | i + 10, e => simp at e
section
variable {P : Program} {w : World} {K : PySem.W.Frag} {mg : Str → Option Value} {base : Heap} (T : Tx K mg w)
theorem ok__law_next (d : Addr) : FnG P w K mg base (L2.CX P w) 1 T.f__law_next T.fd__law_next ["_law_draws_here"] (spF K (Gm T d) false 1 next) := by
  refine GD.Fun.okG T.F__law_next sc__law_next (fun vs H Q E h => ?_) (fun cdv A outer s H vs Q E hcv hg hr h => ?_)
  · obtain ⟨av, s, ds, d, s', a, r, hl, _⟩ := h
    rw [r.len, hl]
    rfl
  · obtain ⟨av, s0, ds, res, s', a, r, hl, e, q⟩ := h
    unfold next at e
    split at e
    · split at e
      · rename_i hk
        obtain ⟨rfl, rfl⟩ : Except.ok (D.int (nextF s0).1) = res ∧ (nextF s0).2 = s' := by cases e; exact ⟨rfl, rfl⟩
        have q : Done (cb K (Gm T d)) av (nextF s0).2 H (.int (nextF s0).1) Q := q
        obtain ⟨v, rfl, rv⟩ := RepAll.one (C := cb K (Gm T d)) r
        have hv := rv.drw_eq
        subst hv
        have hd : H d = some (.lst [.int s0.n, .int (s0.k : Int), .bl s0.b]) := a.wo.dr
        have hk' : s0.k ≤ 1000000 := hk
        have w0 : Wo (Gm T d) H s0 := a.wo
        clear e hk
        obtain ⟨n, k, b⟩ := s0
        have hk : k ≤ 1000000 := hk'
        clear hk'
        refine ⟨_, (pss_cons (ps_asg (pe_op op_add (pe_ix (r := rIxL K) ix_list (pv 0) pe_int (fun _ _ => rfl)) pe_int) (pg_sub (pv 0) pe_int set_list))
    (pss_cons (ps_set (i := 1) sc__law_next.nd rfl (.inl rfl) (pe_ix (r := rIxL K) ix_list (pv 0) pe_int (fun _ _ => rfl)))
    (pss_cons (ps_if (pt_val (pe_ix (r := rIxL K) ix_list (pv 0) pe_int (fun _ _ => rfl))) (pss_cons (ps_set (i := 2) sc__law_next.nd rfl (.inl rfl) (pe_op op_mod (pe_ix (r := rIxL K) ix_list (pv 0) pe_int (fun _ _ => rfl)) (pe_op op_pow pe_int pe_int)))
    (pss_cons (ps_asg (pe_op op_fdiv (pe_ix (r := rIxL K) ix_list (pv 0) pe_int (fun _ _ => rfl)) (pe_op op_pow pe_int pe_int)) (pg_sub (pv 0) pe_int set_list))
    (pss_one (ps_ret (pv 2))))) pss_nil)
    (pss_cons (ps_set (i := 2) sc__law_next.nd rfl (.inl rfl) (pe_op op_mod (pe_op op_mul (pe_op op_add (pe_op op_add (pe_op op_mod (pe_ix (r := rIxL K) ix_list (pv 0) pe_int (fun _ _ => rfl)) pe_int) (pe_op op_mul (pe_op op_mul (pv 1) (pv 1)) pe_int)) (pv 1)) pe_int) pe_int))
    (pss_cons (ps_set (i := 2) sc__law_next.nd rfl (.inl rfl) (pe_op op_mod (pe_op op_mul (pv 2) (pv 2)) pe_int))
    (pss_one (ps_ret (pe_op op_fdiv (pe_op op_mod (pe_op op_mul (pv 2) (pe_op op_add (pv 2) pe_int)) pe_int) pe_int)))))))), ?_⟩
        refine ⟨_, rfl, d, _, _, _, rfl, rfl, .inl (.inl hd), atI_nat (j := 1) rfl, _, _, rfl, rfl, _, rfl, d, _, _, 1, rfl, rfl, hd, rfl, ?_⟩
        have k1 : Go (Gm T d) H (upd H d (.lst [.int n, .int ((k : Int) + 1), .bl b])) := Go.draw (Γ := Gm T d)
        have w1 : Wo (Gm T d) (upd H d (.lst [.int n, .int ((k : Int) + 1), .bl b])) ⟨n, k + 1, b⟩ := w0.draw (s' := ⟨n, k + 1, b⟩)
        have hd1 : (upd H d (.lst [.int n, .int ((k : Int) + 1), .bl b])) d = some (.lst [.int n, .int ((k : Int) + 1), .bl b]) := upd_same
        show tSeq _ _ _ _ (upd H d (.lst [.int n, .int ((k : Int) + 1), .bl b]))
        generalize upd H d (.lst [.int n, .int ((k : Int) + 1), .bl b]) = H1 at k1 hd1 w1 ⊢
        refine ⟨_, rfl, d, _, _, _, rfl, rfl, .inl (.inl hd1), atI_nat (j := 1) rfl, ?_⟩
        refine ⟨_, rfl, d, _, _, _, rfl, rfl, .inl (.inl hd1), atI_nat (j := 2) rfl, _, rfl, ?_⟩
        cases b with
        | true =>
          refine iteT ⟨_, rfl, d, _, _, _, rfl, rfl, .inl (.inl hd1), atI_nat (j := 0) rfl, _, _, rfl, rfl, ⟨by decide, by decide, by decide⟩, _, _, rfl, rfl, (by show (0 : Int) < 10 ^ 6; decide), ?_⟩
          refine ⟨_, rfl, d, _, _, _, rfl, rfl, .inl (.inl hd1), atI_nat (j := 0) rfl, _, _, rfl, rfl, ⟨by decide, by decide, by decide⟩, _, _, rfl, rfl, ⟨by decide, by decide⟩, _, rfl, d, _, _, 0, rfl, rfl, hd1, rfl, ?_⟩
          refine ⟨_, rfl, ?_⟩
          exact q (.int _) _ (k1.trans (Go.draw (Γ := Gm T d))) (w1.draw (s' := ⟨n / 10 ^ 6, k + 1, true⟩)) (.int _)
        | false =>
          refine iteF ?_
          refine ⟨_, rfl, d, _, _, _, rfl, rfl, .inl (.inl hd1), atI_nat (j := 0) rfl, _, _, rfl, rfl, (by show (0 : Int) < 1000003; decide), _, rfl, _, rfl, _, _, rfl, rfl, .inl ⟨by omega, by omega⟩, _, _, rfl, rfl, .inr ⟨by decide, by decide⟩, _, _, rfl, rfl, _, rfl, _, _, rfl, rfl, _, _, rfl, rfl, .inr ⟨by decide, by decide⟩, _, _, rfl, rfl, (by show (0 : Int) < 2147483629; decide), ?_⟩
          refine ⟨_, rfl, _, rfl, _, _, rfl, rfl, .inl (modB _ (by decide) (by decide)), _, _, rfl, rfl, (by show (0 : Int) < 2147483587; decide), ?_⟩
          refine ⟨_, rfl, _, rfl, _, _, rfl, rfl, _, _, rfl, rfl, .inl (modB _ (by decide) (by decide)), _, _, rfl, rfl, (by show (0 : Int) < 2147483579; decide), _, _, rfl, rfl, ⟨by decide, by decide⟩, ?_⟩
          exact q (.int _) _ k1 w1 (.int _)
      · cases e
    · cases e

theorem all_ok (TB : TabB base mg (tabAt K "_law_term").1 (tabAt K "_law_term").2) (d : Addr) : ∀ n, All P w K mg base T d (sem n) (3 * n)
  | 0 => ⟨fn_none, fn_none, fn_none, fn_none, fn_none, fn_none, fn_none, fn_none, fn_none, fn_none, fn_none, fn_none, fn_none, fn_none, fn_none, fn_none, fn_none, fn_none, fn_none, fn_none, fn_none, fn_none, fn_none, fn_none, fn_none, fn_none, fn_none, fn_none, fn_none, fn_none, fn_none⟩
  | n + 1 => ⟨ok_is_leap T d (all_ok TB d n), ok_last_of T d (all_ok TB d n), ok_day_of T d (all_ok TB d n), ok_is_number T d (all_ok TB d n), ok_is_name T d (all_ok TB d n), ok_is_date T d (all_ok TB d n), ok_places_of T d (all_ok TB d n), ok_parts_of T d (all_ok TB d n), ok_wants_ask T d (all_ok TB d n), ok_has_shape T d (all_ok TB d n), ok_check_shapes T d (all_ok TB d n), ok_loose_columns T d (all_ok TB d n), ok_with_one T d (all_ok TB d n), ok_kinds_in T d (all_ok TB d n), ok_kind_in T d (all_ok TB d n), ok_paths T d (all_ok TB d n), ok_part_at T d (all_ok TB d n), ok_check T d (all_ok TB d n), ok_kind_of T d (all_ok TB d n), ok_check_condition T d (all_ok TB d n), (ok__law_next T d).mono (by omega), ok__law_heads T d (all_ok TB d n), ok__law_leaf T d (all_ok TB d n), ok__law_term T d (all_ok TB d n) TB, ok__law_condition T d (all_ok TB d n), ok__law_places T d (all_ok TB d n), ok__law_inner T d (all_ok TB d n), ok__law_paths_of T d (all_ok TB d n), ok__law_there T d (all_ok TB d n), ok__law_refused T d (all_ok TB d n), ok__law_paths_right T d (all_ok TB d n)⟩
def sp_draws : Sp := fun vs H Q _ => ∃ c : Int, vs = [.int c] ∧ ∀ d n b H', H d = none → Same H H' → H' d = some (.lst [.int n, .int 0, .bl b]) → Q (.ref d) H'
theorem G__law_draws : FnG P w K mg base (L2.CX P w) 1 T.f__law_draws T.fd__law_draws ["_law_cell_here"] sp_draws := by
  refine GD.Fun.okG T.F__law_draws sc__law_draws (fun vs H Q E h => ?_) (fun cdv A outer s H vs Q E hcv hg hr h => ?_)
  · obtain ⟨c, rfl, _⟩ := h
    rfl
  · obtain ⟨c, rfl, q⟩ := h
    refine ⟨_, (pss_one (ps_ret (pe_lst (pa_cons (pe_op op_mod (pv 0) (pe_op op_powW (pe_op op_powW (pe_op op_pow pe_int pe_int) pe_int) pe_int)) (pa_cons pe_int (pa_cons (pe_cmpR op_ge (pv 0) (pe_op op_pow pe_int pe_int) (nomark _)) pa_nil)))))), ?_⟩
    have hbig : (0 : Int) < ((10 ^ (60 : Int).toNat) ^ (60 : Int).toNat) ^ (4 : Int).toNat := by decide +kernel
    have b1 : CPowW (10 ^ (60 : Int).toNat) 60 := ⟨by decide, by decide +kernel⟩
    have b2 : CPowW ((10 ^ (60 : Int).toNat) ^ (60 : Int).toNat) 4 := ⟨by decide, by decide +kernel⟩
    refine ⟨_, rfl, _, _, rfl, rfl, ⟨by decide, by decide, by decide⟩, _, _, rfl, rfl, b1, _, _, rfl, rfl, b2, _, _, rfl, rfl, hbig, ?_⟩
    generalize ((10 ^ (60 : Int).toNat) ^ (60 : Int).toNat) ^ (4 : Int).toNat = big
    refine ⟨_, rfl, _, _, rfl, rfl, ⟨by decide, by decide, by decide⟩, _, _, rfl, rfl, (by show 3 ≤ sizeLine; decide), fun d nd => ?_⟩
    exact q d _ _ _ nd (same_upd nd) upd_same

def spLaw (K : PySem.W.Frag) : Sp := fun vs H Q _ => ∃ (a : Addr) (ns : List Int), vs = [.ref a] ∧ SqL K H a (ns.map V.int) ∧ ns.length ≤ 63 ∧ (∀ x ∈ (["_law_term"] : List Str), H (tabAt K x).2 = some (.tbl #[])) ∧ ∀ H', Q (.bl true) H'
theorem ok_law (TB : TabB base mg (tabAt K "_law_term").1 (tabAt K "_law_term").2) : FnG P w K mg base (L2.CX P w) (3 * 60 + 1) T.f_law T.fd_law ["_law_script"] (spLaw K) := by
  have G__law_draws := G__law_draws (P := P) (w := w) (base := base) T
  have G0 := fun d : Addr => all_ok (P := P) (w := w) (base := base) T TB d 60
  refine GD.Fun.okG T.F_law sc_law (fun vs H Q E h => ?_) (fun cdv A outer s H vs Q E hcv hg hr h => ?_)
  · obtain ⟨a, ns, rfl, _⟩ := h
    rfl
  · obtain ⟨a, ns, rfl, hS, hlen, hT0, q⟩ := h
    have tk : Takes (cxOf (L2.CX P w) P w K mg base ["_law_script", "_law_cell_here", "_law_draws_here", "_law_turn", "_law_a_tongue", "_law_heads_here", "_law_kind", "_law_a_term", "_law_told", "_law_ask"] "law" (defScope s_law) T.f_law cdv A outer s H E) (fun cls d _ H' => E cls d H') := takes_of rfl rfl rfl rfl
    have TT : ∀ H, (∀ x ∈ (["_law_term"] : List Str), H (tabAt K x).2 = some (.tbl #[])) → ∀ d, TabsN (Gm T d).T H := fun H h d p hp => by
      rw [List.mem_singleton.mp hp]
      exact tab0 (h _ (by simp))
    refine ⟨_, (pss_cons (ps_for (passes_of rfl) rfl (pi_list (pe_op op_cat (pe_slice sl_list (pv 0) po_none (po_some pe_int)) (pe_lst (pa_cons pe_int pa_nil)))) (pg_name (i := 1) sc_law.nd rfl (.inl rfl))
      (pss_cons (ps_set (i := 2) sc_law.nd rfl (.inl rfl) (pe_callG G__law_draws hg (hr.mono (by omega)) (by rfl) T.g__law_draws T.F__law_draws.kp T.b__law_draws passF (pa_cons (pv 1) pa_nil)))
    (pss_one (ps_ex fun d => (ps_for (passes_of rfl) rfl (pi_range1 (by rfl) T.z_range (pa_cons pe_int pa_nil)) (pg_name (i := 3) sc_law.nd rfl (by first | exact .inl rfl | exact .inr rfl)) (pss_cons (ps_set (i := 4) sc_law.nd rfl (by first | exact .inl rfl | exact .inr rfl) (pe_ix (r := rIx K) ix_seq (pe_lst (pa_cons pe_str (pa_cons pe_str pa_nil))) (pe_op op_mod (pe_callG (G0 d).G__law_next hg (hr.mono (by omega)) (by rfl) T.g__law_next T.F__law_next.kp T.b__law_next (fun σ => passAt tk σ) (pa_cons (pv 2) pa_nil)) pe_int) (fun _ _ => rfl)))
    (pss_cons (ps_set (i := 5) sc_law.nd rfl (by first | exact .inl rfl | exact .inr rfl) (pe_callG (G0 d).G__law_heads hg (hr.mono (by omega)) (by rfl) T.g__law_heads T.F__law_heads.kp T.b__law_heads (fun σ => passAt tk σ) (pa_cons (pv 2) (pa_cons (pv 4) (pa_cons pe_str pa_nil)))))
    (pss_cons (ps_set (i := 6) sc_law.nd rfl (by first | exact .inl rfl | exact .inr rfl) (pe_ix (r := rIx K) ix_seq (pe_lst (pa_cons pe_str (pa_cons pe_str (pa_cons pe_str pa_nil)))) (pe_op op_mod (pe_callG (G0 d).G__law_next hg (hr.mono (by omega)) (by rfl) T.g__law_next T.F__law_next.kp T.b__law_next (fun σ => passAt tk σ) (pa_cons (pv 2) pa_nil)) (pe_op (r := rAddX K) op_addX pe_int (pe_callTy call_int1 (by rfl) T.z_int (by decide +kernel) (pa_cons (pe_cmpR (r := rEqX K) (op_eqX hr.units) (pv 4) pe_str (nomark _)) pa_nil)))) (fun _ _ => rfl)))
    (pss_cons (ps_set (i := 7) sc_law.nd rfl (by first | exact .inl rfl | exact .inr rfl) (pe_callG (G0 d).G__law_term hg (hr.mono (by omega)) (by rfl) T.g__law_term T.F__law_term.kp T.b__law_term (fun σ => passAt tk σ) (pa_cons (pv 2) (pa_cons (pv 4) (pa_cons (pv 5) (pa_cons (pv 6) (pa_cons (pe_op (r := rAddX K) op_addX pe_int (pe_op op_mod (pe_callG (G0 d).G__law_next hg (hr.mono (by omega)) (by rfl) T.g__law_next T.F__law_next.kp T.b__law_next (fun σ => passAt tk σ) (pa_cons (pv 2) pa_nil)) pe_int)) pa_nil)))))))
    (pss_cons (ps_set (i := 8) sc_law.nd rfl (by first | exact .inl rfl | exact .inr rfl) (pe_lst (pa_cons (pe_callG (G0 d).G_kind_of hg (hr.mono (by omega)) (by rfl) T.g_kind_of T.F_kind_of.kp T.b_kind_of (fun σ => passAt tk σ) (pa_cons (pv 4) (pa_cons (pv 7) (pa_cons (pe_callTy (r := rDictP K) (call_dictP rfl) (by rfl) T.z_dict (by decide +kernel) (pa_cons (pv 5) pa_nil)) pa_nil)))) (pa_cons (pe_callKG (ks := ["kinds", "term", "tongue"]) (is := [2, 1, 0]) (G0 d).G_kind_of hg (hr.mono (by omega)) (by rfl) T.g_kind_of T.F_kind_of.kp (kbi_of (is := [2, 1, 0]) (ks := ["kinds", "term", "tongue"]) T.F_kind_of fun _ _ _ _ _ _ ws h => match ws, h with | [_, _, _], _ => rfl) (fun σ => passAt tk σ) (pk_cons (pe_callTy (r := rDictP K) (call_dictP rfl) (by rfl) T.z_dict (by decide +kernel) (pa_cons (pv 5) pa_nil)) (pk_cons (pv 7) (pk_cons (pv 4) pk_nil)))) pa_nil))))
    (pss_cons (ps_if (pt_cmpR (r := rNeX K) (op_neX hr.units) (pv 8) (pe_lst (pa_cons (pv 6) (pa_cons (pv 6) pa_nil))) (nomark _)) (pss_one (ps_ret pe_bl)) pss_nil)
    (pss_cons (ps_set (i := 9) sc_law.nd rfl (by first | exact .inl rfl | exact .inr rfl) (pe_callG (G0 d).G__law_condition hg (hr.mono (by omega)) (by rfl) T.g__law_condition T.F__law_condition.kp T.b__law_condition (fun σ => passAt tk σ) (pa_cons (pv 2) (pa_cons (pv 4) (pa_cons (pv 5) (pa_cons (pe_op op_mod (pe_callG (G0 d).G__law_next hg (hr.mono (by omega)) (by rfl) T.g__law_next T.F__law_next.kp T.b__law_next (fun σ => passAt tk σ) (pa_cons (pv 2) pa_nil)) pe_int) pa_nil))))))
    (pss_cons (ps_if (pt_cmpR op_notN (pe_callG (G0 d).G_check_condition hg (hr.mono (by omega)) (by rfl) T.g_check_condition T.F_check_condition.kp T.b_check_condition (fun σ => passAt tk σ) (pa_cons (pv 4) (pa_cons (pv 9) (pa_cons (pe_callTy (r := rDictP K) (call_dictP rfl) (by rfl) T.z_dict (by decide +kernel) (pa_cons (pv 5) pa_nil)) pa_nil)))) pe_non (nomark _)) (pss_one (ps_ret pe_bl)) pss_nil)
    (pss_cons (ps_if (pt_cmpR op_notN (pe_callKG (ks := ["kinds", "condition", "tongue"]) (is := [2, 1, 0]) (G0 d).G_check_condition hg (hr.mono (by omega)) (by rfl) T.g_check_condition T.F_check_condition.kp (kbi_of (is := [2, 1, 0]) (ks := ["kinds", "condition", "tongue"]) T.F_check_condition fun _ _ _ _ _ _ ws h => match ws, h with | [_, _, _], _ => rfl) (fun σ => passAt tk σ) (pk_cons (pe_callTy (r := rDictP K) (call_dictP rfl) (by rfl) T.z_dict (by decide +kernel) (pa_cons (pv 5) pa_nil)) (pk_cons (pv 9) (pk_cons (pv 4) pk_nil)))) pe_non (nomark _)) (pss_one (ps_ret pe_bl)) pss_nil)
    (pss_one (ps_if (PW.pt (pw_or (pt_not (pt_val (pe_callG (G0 d).G__law_paths_right hg (hr.mono (by omega)) (by rfl) T.g__law_paths_right T.F__law_paths_right.kp T.b__law_paths_right (fun σ => passAt tk σ) (pa_cons (pv 7) pa_nil)))) (pw_or1 (pt_not (pt_val (pe_callG (G0 d).G__law_paths_right hg (hr.mono (by omega)) (by rfl) T.g__law_paths_right T.F__law_paths_right.kp T.b__law_paths_right (fun σ => passAt tk σ) (pa_cons (pv 9) pa_nil))))))) (pss_one (ps_ret pe_bl)) pss_nil))))))))))))))))
    (pss_one (ps_ret pe_bl))), ?_⟩
    refine ⟨_, rfl, _, rfl, a, _, rfl, hS, fun p1 n1 => ?_⟩
    refine ⟨(by show 1 ≤ sizeLine; decide), fun p2 n2 => ?_⟩
    have n12 : p1 ≠ p2 := fun e => by
      subst e
      rw [upd_same] at n2
      cases n2
    have hl : (cutV (ns.map V.int) none (some 6)).length + 1 ≤ sizeLine := by
      have h1 := cutV_length (ns.map V.int) none (some 6)
      rw [List.length_map] at h1
      exact Nat.le_of_lt (small1000 (by omega))
    refine ⟨p1, p2, _, _, rfl, rfl, (by rw [upd_ne n12, upd_same]), upd_same, hl, fun p3 n3 => ?_⟩
    refine ⟨p3, rfl, ⟨_, .inl (.inl upd_same)⟩, for_list (K := K) (a := p3) (xs := cutV (ns.map V.int) none (some 6) ++ [V.int 0])
      (fun i σ H2 => σ.length = 10 ∧ H2 p3 = some (.lst (cutV (ns.map V.int) none (some 6) ++ [V.int 0])) ∧ ∀ d, TabsN (Gm T d).T H2)
      ⟨rfl, upd_same, fun d p hp => ?t0⟩ (fun i σ H2 _ ⟨_, h, _⟩ => .inl (.inl h)) ?_ ?_⟩
    case t0 =>
      exact (((TT _ hT0 d p hp).ext (same_upd n1)).ext (same_upd n2)).ext (same_upd n3)
    · rintro i y σ H2 hi ⟨hσ, h3, ht⟩
      obtain ⟨v0, v1, v2, v3, v4, v5, v6, v7, v8, v9, rfl⟩ := len10 hσ
      obtain ⟨c, rfl⟩ := items_int hi
      refine ⟨_, rfl, c, rfl, fun d n b H4 nd s4 hd4 => ?_⟩
      have npd : p3 ≠ d := ne_of_none h3 nd
      have h4 := s4 _ _ h3
      have w4 : Wo (Gm T d) H4 ⟨n, 0, b⟩ := ⟨hd4, fun p hp => (ht d p hp).ext s4⟩
      obtain ⟨r, s', er, hR⟩ : Wr (tnF (sem 60) [.no, .no, .val .drw, .no, .no, .no, .no, .no, .no, .no] ⟨n, 0, b⟩) fun r s' => ∃ ρ : En, r = .nx ρ ∧ ρ.length = 10 := w_turns (by decide) (by have : lim = 1000000 := rfl; show 0 + 5400 ≤ lim; omega) fun _ _ _ _ _ _ _ s' _ => ⟨_, rfl, rfl⟩
      obtain ⟨ρ, rfl, hρ⟩ := hR
      refine ⟨d, ?_⟩
      refine (show SS ⟨K, Gm T d, fun _ _ _ => .lst [], fun _ => ""⟩ (fun cls d _ H' => E cls d H') false _ (tnF (sem 60)) from (ss_for (tg := (.one 3)) (si_range (sa_cons se_int sa_nil)) (ss_seq (ss_set (tg := .one 4) (se_op os_ix (se_lst (sa_cons se_str (sa_cons se_str sa_nil))) (se_op os_mod (se_call (sa_cons se_var sa_nil)) se_int)))
    (ss_seq (ss_set (tg := .one 5) (se_call (sa_cons se_var (sa_cons se_var (sa_cons se_str sa_nil)))))
    (ss_seq (ss_set (tg := .one 6) (se_op os_ix (se_lst (sa_cons se_str (sa_cons se_str (sa_cons se_str sa_nil)))) (se_op os_mod (se_call (sa_cons se_var sa_nil)) (se_op os_addX se_int (se_cb cb_int (sa_cons (se_op os_eqX se_var se_str) sa_nil))))))
    (ss_seq (ss_set (tg := .one 7) (se_call (sa_cons se_var (sa_cons se_var (sa_cons se_var (sa_cons se_var (sa_cons (se_op os_addX se_int (se_op os_mod (se_call (sa_cons se_var sa_nil)) se_int)) sa_nil)))))))
    (ss_seq (ss_set (tg := .one 8) (se_lst (sa_cons (se_call (sa_cons se_var (sa_cons se_var (sa_cons (SF.se (sf_cb cf_dictP (sa_cons se_var sa_nil))) sa_nil)))) (sa_cons (se_callK (sa_cons (SF.se (sf_cb cf_dictP (sa_cons se_var sa_nil))) (sa_cons se_var (sa_cons se_var sa_nil)))) sa_nil))))
    (ss_seq (ss_if (st_test (se_op os_neX se_var (se_lst (sa_cons se_var (sa_cons se_var sa_nil))))) (ss_ret se_bl) ss_next)
    (ss_seq (ss_set (tg := .one 9) (se_call (sa_cons se_var (sa_cons se_var (sa_cons se_var (sa_cons (se_op os_mod (se_call (sa_cons se_var sa_nil)) se_int) sa_nil))))))
    (ss_seq (ss_if (st_test (se_op os_notN (se_call (sa_cons se_var (sa_cons se_var (sa_cons (SF.se (sf_cb cf_dictP (sa_cons se_var sa_nil))) sa_nil)))) se_non)) (ss_ret se_bl) ss_next)
    (ss_seq (ss_if (st_test (se_op os_notN (se_callK (sa_cons (SF.se (sf_cb cf_dictP (sa_cons se_var sa_nil))) (sa_cons se_var (sa_cons se_var sa_nil)))) se_non)) (ss_ret se_bl) ss_next)
    (ss_if (st_or (st_not (st_b (se_call (sa_cons se_var sa_nil)))) (st_not (st_b (se_call (sa_cons se_var sa_nil))))) (ss_ret se_bl) ss_next)))))))))))) H4 (Gm T d).ch [] _ [.no, .no, .val .drw, .no, .no, .no, .no, .no, .no, .no] ⟨n, 0, b⟩ H4 _ s' _ ?_ er ?_
      · refine ⟨.refl, rfl, w4, fun _ z => z, fun a z => w4.al z, fun p hp => (by cases hp), fun x z => w4.nc (z.elim id fun y => by cases y), ⟨fun i d' e => ?_, fun i k e => ?_⟩, fun i d' e => ?_, fun i j d' e p _ h1 => ?_⟩
        · rcases slot2 e with z | ⟨rfl, z⟩
          · cases z
          · cases z
            exact ⟨_, rfl, .drw⟩
        · rcases slot2 e with z | ⟨rfl, z⟩ <;> cases z
        · rcases slot2 e with z | ⟨rfl, z⟩ <;> cases z
        · rcases slot2 h1 with z | ⟨rfl, z⟩ <;> cases z
      · intro os' σ' H' o f
        exact ⟨o.len.trans hρ, stays w4 o.go npd h4, fun d' => o.wo.tb⟩
    · rintro σ H2 ⟨hσ, h3, ht⟩
      exact q _
end
end K10
set_option Elab.async false
set_option linter.all false
set_option maxRecDepth 100000
set_option maxHeartbeats 4000000
namespace K10
open PySem PySem.Spec PyProof.Rows L2 Lay NdefX LamX GD DM
theorem all_mk {l : PySem.W.OpenLaw} {w : World} {K : PySem.W.Frag} {h : Heap} {mg : Str → Option Value} {fa : Addr}
    {C_Day : Addr}
    {C_NoPath : Addr} {nm_NoPath q_NoPath : Str} {N_NoPath : Addr} {bs_NoPath : List Value} {sn_NoPath : List Str} {sub_NoPath : List Value} {ab_NoPath : Bool} {col_NoPath : Option Bool} {dd_NoPath : Option Addr} {k0_NoPath k1_NoPath k2_NoPath k3_NoPath k5_NoPath : Option Value}
    {C_NoDay : Addr}
    {C_NoTerm : Addr}
    {C_NoName : Addr}
    {C_NoKind : Addr}
    {f_NoPath___init__ : Addr} {od_NoPath___init__ an_NoPath___init__ : Option Addr} {sl_NoPath___init__ : Array (Option Value)} {oc_NoPath___init__ kV_NoPath___init__ dc_NoPath___init__ pm_NoPath___init__ cd_NoPath___init__ ct_NoPath___init__ : Value}
    {f_Day___init__ : Addr} {od_Day___init__ an_Day___init__ : Option Addr} {sl_Day___init__ : Array (Option Value)} {oc_Day___init__ kV_Day___init__ dc_Day___init__ pm_Day___init__ cd_Day___init__ ct_Day___init__ : Value}
    {f_is_leap : Addr} {od_is_leap an_is_leap : Option Addr} {sl_is_leap : Array (Option Value)} {oc_is_leap kV_is_leap dc_is_leap pm_is_leap cd_is_leap ct_is_leap : Value}
    {f_last_of : Addr} {od_last_of an_last_of : Option Addr} {sl_last_of : Array (Option Value)} {oc_last_of kV_last_of dc_last_of pm_last_of cd_last_of ct_last_of : Value}
    {f_day_of : Addr} {od_day_of an_day_of : Option Addr} {sl_day_of : Array (Option Value)} {oc_day_of kV_day_of dc_day_of pm_day_of cd_day_of ct_day_of : Value}
    {f_is_number : Addr} {od_is_number an_is_number : Option Addr} {sl_is_number : Array (Option Value)} {oc_is_number kV_is_number dc_is_number pm_is_number cd_is_number ct_is_number : Value}
    {f_is_name : Addr} {od_is_name an_is_name : Option Addr} {sl_is_name : Array (Option Value)} {oc_is_name kV_is_name dc_is_name pm_is_name cd_is_name ct_is_name : Value}
    {f_is_date : Addr} {od_is_date an_is_date : Option Addr} {sl_is_date : Array (Option Value)} {oc_is_date kV_is_date dc_is_date pm_is_date cd_is_date ct_is_date : Value}
    {f_places_of : Addr} {od_places_of an_places_of : Option Addr} {sl_places_of : Array (Option Value)} {oc_places_of kV_places_of dc_places_of pm_places_of cd_places_of ct_places_of : Value}
    {f_parts_of : Addr} {od_parts_of an_parts_of : Option Addr} {sl_parts_of : Array (Option Value)} {oc_parts_of kV_parts_of dc_parts_of pm_parts_of cd_parts_of ct_parts_of : Value}
    {f_wants_ask : Addr} {od_wants_ask an_wants_ask : Option Addr} {sl_wants_ask : Array (Option Value)} {oc_wants_ask kV_wants_ask dc_wants_ask pm_wants_ask cd_wants_ask ct_wants_ask : Value}
    {f_has_shape : Addr} {od_has_shape an_has_shape : Option Addr} {sl_has_shape : Array (Option Value)} {oc_has_shape kV_has_shape dc_has_shape pm_has_shape cd_has_shape ct_has_shape : Value}
    {f_check_shapes : Addr} {od_check_shapes an_check_shapes : Option Addr} {sl_check_shapes : Array (Option Value)} {oc_check_shapes kV_check_shapes dc_check_shapes pm_check_shapes cd_check_shapes ct_check_shapes : Value}
    {f_loose_columns : Addr} {od_loose_columns an_loose_columns : Option Addr} {sl_loose_columns : Array (Option Value)} {oc_loose_columns kV_loose_columns dc_loose_columns pm_loose_columns cd_loose_columns ct_loose_columns : Value}
    {f_with_one : Addr} {od_with_one an_with_one : Option Addr} {sl_with_one : Array (Option Value)} {oc_with_one kV_with_one dc_with_one pm_with_one cd_with_one ct_with_one : Value}
    {f_kinds_in : Addr} {od_kinds_in an_kinds_in : Option Addr} {sl_kinds_in : Array (Option Value)} {oc_kinds_in kV_kinds_in dc_kinds_in pm_kinds_in cd_kinds_in ct_kinds_in : Value}
    {f_kind_in : Addr} {od_kind_in an_kind_in : Option Addr} {sl_kind_in : Array (Option Value)} {oc_kind_in kV_kind_in dc_kind_in pm_kind_in cd_kind_in ct_kind_in : Value}
    {f_paths : Addr} {od_paths an_paths : Option Addr} {sl_paths : Array (Option Value)} {oc_paths kV_paths dc_paths pm_paths cd_paths ct_paths : Value}
    {f_part_at : Addr} {od_part_at an_part_at : Option Addr} {sl_part_at : Array (Option Value)} {oc_part_at kV_part_at dc_part_at pm_part_at cd_part_at ct_part_at : Value}
    {f_check : Addr} {od_check an_check : Option Addr} {sl_check : Array (Option Value)} {oc_check kV_check dc_check pm_check cd_check ct_check : Value}
    {f_kind_of : Addr} {od_kind_of an_kind_of : Option Addr} {sl_kind_of : Array (Option Value)} {oc_kind_of kV_kind_of dc_kind_of pm_kind_of cd_kind_of ct_kind_of : Value}
    {f_check_condition : Addr} {od_check_condition an_check_condition : Option Addr} {sl_check_condition : Array (Option Value)} {oc_check_condition kV_check_condition dc_check_condition pm_check_condition cd_check_condition ct_check_condition : Value}
    {f__law_draws : Addr} {od__law_draws an__law_draws : Option Addr} {sl__law_draws : Array (Option Value)} {oc__law_draws kV__law_draws dc__law_draws pm__law_draws cd__law_draws ct__law_draws : Value}
    {f__law_next : Addr} {od__law_next an__law_next : Option Addr} {sl__law_next : Array (Option Value)} {oc__law_next kV__law_next dc__law_next pm__law_next cd__law_next ct__law_next : Value}
    {f__law_heads : Addr} {od__law_heads an__law_heads : Option Addr} {sl__law_heads : Array (Option Value)} {oc__law_heads kV__law_heads dc__law_heads pm__law_heads cd__law_heads ct__law_heads : Value}
    {f__law_leaf : Addr} {od__law_leaf an__law_leaf : Option Addr} {sl__law_leaf : Array (Option Value)} {oc__law_leaf kV__law_leaf dc__law_leaf pm__law_leaf cd__law_leaf ct__law_leaf : Value}
    {f__law_term : Addr} {od__law_term an__law_term : Option Addr} {sl__law_term : Array (Option Value)} {oc__law_term kV__law_term dc__law_term pm__law_term cd__law_term ct__law_term : Value}
    {f__law_condition : Addr} {od__law_condition an__law_condition : Option Addr} {sl__law_condition : Array (Option Value)} {oc__law_condition kV__law_condition dc__law_condition pm__law_condition cd__law_condition ct__law_condition : Value}
    {f__law_places : Addr} {od__law_places an__law_places : Option Addr} {sl__law_places : Array (Option Value)} {oc__law_places kV__law_places dc__law_places pm__law_places cd__law_places ct__law_places : Value}
    {f__law_inner : Addr} {od__law_inner an__law_inner : Option Addr} {sl__law_inner : Array (Option Value)} {oc__law_inner kV__law_inner dc__law_inner pm__law_inner cd__law_inner ct__law_inner : Value}
    {f__law_paths_of : Addr} {od__law_paths_of an__law_paths_of : Option Addr} {sl__law_paths_of : Array (Option Value)} {oc__law_paths_of kV__law_paths_of dc__law_paths_of pm__law_paths_of cd__law_paths_of ct__law_paths_of : Value}
    {f__law_there : Addr} {od__law_there an__law_there : Option Addr} {sl__law_there : Array (Option Value)} {oc__law_there kV__law_there dc__law_there pm__law_there cd__law_there ct__law_there : Value}
    {f__law_refused : Addr} {od__law_refused an__law_refused : Option Addr} {sl__law_refused : Array (Option Value)} {oc__law_refused kV__law_refused dc__law_refused pm__law_refused cd__law_refused ct__law_refused : Value}
    {f__law_paths_right : Addr} {od__law_paths_right an__law_paths_right : Option Addr} {sl__law_paths_right : Array (Option Value)} {oc__law_paths_right kV__law_paths_right dc__law_paths_right pm__law_paths_right cd__law_paths_right ct__law_paths_right : Value}
    {f_law : Addr} {od_law an_law : Option Addr} {sl_law : Array (Option Value)} {oc_law kV_law dc_law pm_law cd_law ct_law : Value}
    {q_PLACES : Addr} {es_PLACES : Array DictEntry} {n_PLACES : Nat}
    {q_ASKS : Addr} {es_ASKS : Array DictEntry} {n_ASKS : Nat}
    {q_SIZES : Addr} {es_SIZES : Array DictEntry} {n_SIZES : Nat}
    {q_TOLD : Addr} {es_TOLD : Array DictEntry} {n_TOLD : Nat}
    {q_LENGTHS : Addr}
    {q_HILLS : Addr}
    {q_KINDS : Addr}
    {t_LETTERS : Tok} (X : K.In h) (G : h.Ns mainGlobals mg) (hfa : mg "law" = some (.ref fa))
    (aC_Day : PySem.W.nsIn K mainGlobals "Day" = some (some (.ref C_Day)))
    (pg_Day : PySem.W.plainGet K C_Day Str.empty = true)
    (hd_Day : PySem.W.hasDictIn K C_Day = true)
    (po_Day : PySem.W.plainOver K C_Day = true)
    (sa_Day : PySem.W.findIn K (.ref C_Day) "__setattr__" = some (some (.builtin "object.__setattr__")))
    (mk_Day : PySem.W.makesIn K C_Day = true)
    (kc_Day : PySem.W.keepIn K (.ref C_Day) = true)
    (n_Day_number : PySem.W.findIn K (.ref C_Day) "number" = some none)
    (aC_NoPath : PySem.W.nsIn K mainGlobals "NoPath" = some (some (.ref C_NoPath)))
    (xL_NoPath : K.lookup C_NoPath = some (excClassObj nm_NoPath q_NoPath C_NoPath N_NoPath bs_NoPath PySem.OexL.leTail true sn_NoPath sub_NoPath ab_NoPath col_NoPath dd_NoPath k0_NoPath k1_NoPath k2_NoPath k3_NoPath k5_NoPath "LookupError.__new__"))
    (sa_NoPath : PySem.W.findIn K (.ref C_NoPath) "__setattr__" = some (some (.builtin "object.__setattr__")))
    (ex_NoPath : PySem.W.subIn K (.ref C_NoPath) (.type "BaseException") = some true)
    (ty_NoPath : PySem.W.typeIn K (.ref C_NoPath) = some (.type "type"))
    (kC_NoPath : PySem.W.keepIn K (.ref C_NoPath) = true)
    (ga_NoPath : PySem.W.findIn K (.ref C_NoPath) "__getattribute__" = some (some (.builtin "BaseException.__getattribute__")))
    (gg_NoPath : PySem.W.findIn K (.ref C_NoPath) "__getattr__" = some none)
    (hd_NoPath : PySem.W.hasDictIn K C_NoPath = true)
    (ca_NoPath : PySem.W.findIn K (.ref C_NoPath) "__class__" = some (some (.builtin "object.__class__")))
    (sg_NoPath : PySem.W.specialIn K (.builtin "object.__class__") "__get__" = some (some (.builtin "getset_descriptor.__get__")))
    (tk_NoPath : PySem.W.takesIn K (.builtin "object.__class__") = some true)
    (mr_NoPath : PySem.W.mroIn K C_NoPath (.type "object") = some true)
    (n_NoPath_at : PySem.W.findIn K (.ref C_NoPath) "at" = some none)
    (aC_NoDay : PySem.W.nsIn K mainGlobals "NoDay" = some (some (.ref C_NoDay)))
    (aC_NoTerm : PySem.W.nsIn K mainGlobals "NoTerm" = some (some (.ref C_NoTerm)))
    (aC_NoName : PySem.W.nsIn K mainGlobals "NoName" = some (some (.ref C_NoName)))
    (aC_NoKind : PySem.W.nsIn K mainGlobals "NoKind" = some (some (.ref C_NoKind)))
    (i_NoPath : PySem.W.findIn K (.ref C_NoPath) "__init__" = some (some (.ref f_NoPath___init__)))
    (t_NoPath : PySem.W.typeIn K (.ref f_NoPath___init__) = some (.type "function"))
    (l_NoPath___init__ : K.lookup f_NoPath___init__ = some ⟨oc_NoPath___init__, od_NoPath___init__, .func (PySem.W.fnOf "__init__" "NoPath.__init__" (defArgs s_NoPath___init__) (defBody s_NoPath___init__) (defScope s_NoPath___init__) .none kV_NoPath___init__ dc_NoPath___init__ pm_NoPath___init__ an_NoPath___init__ cd_NoPath___init__ ct_NoPath___init__), sl_NoPath___init__⟩)
    (c_NoPath___init__ : PySem.W.codeIn K cd_NoPath___init__ "NoPath.__init__" = true)
    (k_NoPath___init__ : PySem.W.keepIn K (.ref f_NoPath___init__) = true)
    (a_Day___init__ : PySem.W.findIn K (.ref C_Day) "__init__" = some (some (.ref f_Day___init__)))
    (i_Day___init__ : PySem.W.isFn K (.ref f_Day___init__) = true)
    (l_Day___init__ : K.lookup f_Day___init__ = some ⟨oc_Day___init__, od_Day___init__, .func (PySem.W.fnOf "__init__" "Day.__init__" (defArgs s_Day___init__) (defBody s_Day___init__) (defScope s_Day___init__) .none kV_Day___init__ dc_Day___init__ pm_Day___init__ an_Day___init__ cd_Day___init__ ct_Day___init__), sl_Day___init__⟩)
    (c_Day___init__ : PySem.W.codeIn K cd_Day___init__ "Day.__init__" = true)
    (k_Day___init__ : PySem.W.keepIn K (.ref f_Day___init__) = true)
    (a_is_leap : PySem.W.nsIn K mainGlobals "is_leap" = some (some (.ref f_is_leap)))
    (l_is_leap : K.lookup f_is_leap = some ⟨oc_is_leap, od_is_leap, .func (PySem.W.fnOf "is_leap" "is_leap" (defArgs s_is_leap) (defBody s_is_leap) (defScope s_is_leap) .none kV_is_leap dc_is_leap pm_is_leap an_is_leap cd_is_leap ct_is_leap), sl_is_leap⟩)
    (c_is_leap : PySem.W.codeIn K cd_is_leap "is_leap" = true)
    (k_is_leap : PySem.W.keepIn K (.ref f_is_leap) = true)
    (a_last_of : PySem.W.nsIn K mainGlobals "last_of" = some (some (.ref f_last_of)))
    (l_last_of : K.lookup f_last_of = some ⟨oc_last_of, od_last_of, .func (PySem.W.fnOf "last_of" "last_of" (defArgs s_last_of) (defBody s_last_of) (defScope s_last_of) .none kV_last_of dc_last_of pm_last_of an_last_of cd_last_of ct_last_of), sl_last_of⟩)
    (c_last_of : PySem.W.codeIn K cd_last_of "last_of" = true)
    (k_last_of : PySem.W.keepIn K (.ref f_last_of) = true)
    (a_day_of : PySem.W.nsIn K mainGlobals "day_of" = some (some (.ref f_day_of)))
    (l_day_of : K.lookup f_day_of = some ⟨oc_day_of, od_day_of, .func (PySem.W.fnOf "day_of" "day_of" (defArgs s_day_of) (defBody s_day_of) (defScope s_day_of) .none kV_day_of dc_day_of pm_day_of an_day_of cd_day_of ct_day_of), sl_day_of⟩)
    (c_day_of : PySem.W.codeIn K cd_day_of "day_of" = true)
    (k_day_of : PySem.W.keepIn K (.ref f_day_of) = true)
    (a_is_number : PySem.W.nsIn K mainGlobals "is_number" = some (some (.ref f_is_number)))
    (l_is_number : K.lookup f_is_number = some ⟨oc_is_number, od_is_number, .func (PySem.W.fnOf "is_number" "is_number" (defArgs s_is_number) (defBody s_is_number) (defScope s_is_number) .none kV_is_number dc_is_number pm_is_number an_is_number cd_is_number ct_is_number), sl_is_number⟩)
    (c_is_number : PySem.W.codeIn K cd_is_number "is_number" = true)
    (k_is_number : PySem.W.keepIn K (.ref f_is_number) = true)
    (a_is_name : PySem.W.nsIn K mainGlobals "is_name" = some (some (.ref f_is_name)))
    (l_is_name : K.lookup f_is_name = some ⟨oc_is_name, od_is_name, .func (PySem.W.fnOf "is_name" "is_name" (defArgs s_is_name) (defBody s_is_name) (defScope s_is_name) .none kV_is_name dc_is_name pm_is_name an_is_name cd_is_name ct_is_name), sl_is_name⟩)
    (c_is_name : PySem.W.codeIn K cd_is_name "is_name" = true)
    (k_is_name : PySem.W.keepIn K (.ref f_is_name) = true)
    (a_is_date : PySem.W.nsIn K mainGlobals "is_date" = some (some (.ref f_is_date)))
    (l_is_date : K.lookup f_is_date = some ⟨oc_is_date, od_is_date, .func (PySem.W.fnOf "is_date" "is_date" (defArgs s_is_date) (defBody s_is_date) (defScope s_is_date) .none kV_is_date dc_is_date pm_is_date an_is_date cd_is_date ct_is_date), sl_is_date⟩)
    (c_is_date : PySem.W.codeIn K cd_is_date "is_date" = true)
    (k_is_date : PySem.W.keepIn K (.ref f_is_date) = true)
    (a_places_of : PySem.W.nsIn K mainGlobals "places_of" = some (some (.ref f_places_of)))
    (l_places_of : K.lookup f_places_of = some ⟨oc_places_of, od_places_of, .func (PySem.W.fnOf "places_of" "places_of" (defArgs s_places_of) (defBody s_places_of) (defScope s_places_of) .none kV_places_of dc_places_of pm_places_of an_places_of cd_places_of ct_places_of), sl_places_of⟩)
    (c_places_of : PySem.W.codeIn K cd_places_of "places_of" = true)
    (k_places_of : PySem.W.keepIn K (.ref f_places_of) = true)
    (a_parts_of : PySem.W.nsIn K mainGlobals "parts_of" = some (some (.ref f_parts_of)))
    (l_parts_of : K.lookup f_parts_of = some ⟨oc_parts_of, od_parts_of, .func (PySem.W.fnOf "parts_of" "parts_of" (defArgs s_parts_of) (defBody s_parts_of) (defScope s_parts_of) .none kV_parts_of dc_parts_of pm_parts_of an_parts_of cd_parts_of ct_parts_of), sl_parts_of⟩)
    (c_parts_of : PySem.W.codeIn K cd_parts_of "parts_of" = true)
    (k_parts_of : PySem.W.keepIn K (.ref f_parts_of) = true)
    (a_wants_ask : PySem.W.nsIn K mainGlobals "wants_ask" = some (some (.ref f_wants_ask)))
    (l_wants_ask : K.lookup f_wants_ask = some ⟨oc_wants_ask, od_wants_ask, .func (PySem.W.fnOf "wants_ask" "wants_ask" (defArgs s_wants_ask) (defBody s_wants_ask) (defScope s_wants_ask) .none kV_wants_ask dc_wants_ask pm_wants_ask an_wants_ask cd_wants_ask ct_wants_ask), sl_wants_ask⟩)
    (c_wants_ask : PySem.W.codeIn K cd_wants_ask "wants_ask" = true)
    (k_wants_ask : PySem.W.keepIn K (.ref f_wants_ask) = true)
    (a_has_shape : PySem.W.nsIn K mainGlobals "has_shape" = some (some (.ref f_has_shape)))
    (l_has_shape : K.lookup f_has_shape = some ⟨oc_has_shape, od_has_shape, .func (PySem.W.fnOf "has_shape" "has_shape" (defArgs s_has_shape) (defBody s_has_shape) (defScope s_has_shape) .none kV_has_shape dc_has_shape pm_has_shape an_has_shape cd_has_shape ct_has_shape), sl_has_shape⟩)
    (c_has_shape : PySem.W.codeIn K cd_has_shape "has_shape" = true)
    (k_has_shape : PySem.W.keepIn K (.ref f_has_shape) = true)
    (a_check_shapes : PySem.W.nsIn K mainGlobals "check_shapes" = some (some (.ref f_check_shapes)))
    (l_check_shapes : K.lookup f_check_shapes = some ⟨oc_check_shapes, od_check_shapes, .func (PySem.W.fnOf "check_shapes" "check_shapes" (defArgs s_check_shapes) (defBody s_check_shapes) (defScope s_check_shapes) .none kV_check_shapes dc_check_shapes pm_check_shapes an_check_shapes cd_check_shapes ct_check_shapes), sl_check_shapes⟩)
    (c_check_shapes : PySem.W.codeIn K cd_check_shapes "check_shapes" = true)
    (k_check_shapes : PySem.W.keepIn K (.ref f_check_shapes) = true)
    (a_loose_columns : PySem.W.nsIn K mainGlobals "loose_columns" = some (some (.ref f_loose_columns)))
    (l_loose_columns : K.lookup f_loose_columns = some ⟨oc_loose_columns, od_loose_columns, .func (PySem.W.fnOf "loose_columns" "loose_columns" (defArgs s_loose_columns) (defBody s_loose_columns) (defScope s_loose_columns) .none kV_loose_columns dc_loose_columns pm_loose_columns an_loose_columns cd_loose_columns ct_loose_columns), sl_loose_columns⟩)
    (c_loose_columns : PySem.W.codeIn K cd_loose_columns "loose_columns" = true)
    (k_loose_columns : PySem.W.keepIn K (.ref f_loose_columns) = true)
    (a_with_one : PySem.W.nsIn K mainGlobals "with_one" = some (some (.ref f_with_one)))
    (l_with_one : K.lookup f_with_one = some ⟨oc_with_one, od_with_one, .func (PySem.W.fnOf "with_one" "with_one" (defArgs s_with_one) (defBody s_with_one) (defScope s_with_one) .none kV_with_one dc_with_one pm_with_one an_with_one cd_with_one ct_with_one), sl_with_one⟩)
    (c_with_one : PySem.W.codeIn K cd_with_one "with_one" = true)
    (k_with_one : PySem.W.keepIn K (.ref f_with_one) = true)
    (a_kinds_in : PySem.W.nsIn K mainGlobals "kinds_in" = some (some (.ref f_kinds_in)))
    (l_kinds_in : K.lookup f_kinds_in = some ⟨oc_kinds_in, od_kinds_in, .func (PySem.W.fnOf "kinds_in" "kinds_in" (defArgs s_kinds_in) (defBody s_kinds_in) (defScope s_kinds_in) .none kV_kinds_in dc_kinds_in pm_kinds_in an_kinds_in cd_kinds_in ct_kinds_in), sl_kinds_in⟩)
    (c_kinds_in : PySem.W.codeIn K cd_kinds_in "kinds_in" = true)
    (k_kinds_in : PySem.W.keepIn K (.ref f_kinds_in) = true)
    (a_kind_in : PySem.W.nsIn K mainGlobals "kind_in" = some (some (.ref f_kind_in)))
    (l_kind_in : K.lookup f_kind_in = some ⟨oc_kind_in, od_kind_in, .func (PySem.W.fnOf "kind_in" "kind_in" (defArgs s_kind_in) (defBody s_kind_in) (defScope s_kind_in) .none kV_kind_in dc_kind_in pm_kind_in an_kind_in cd_kind_in ct_kind_in), sl_kind_in⟩)
    (c_kind_in : PySem.W.codeIn K cd_kind_in "kind_in" = true)
    (k_kind_in : PySem.W.keepIn K (.ref f_kind_in) = true)
    (a_paths : PySem.W.nsIn K mainGlobals "paths" = some (some (.ref f_paths)))
    (l_paths : K.lookup f_paths = some ⟨oc_paths, od_paths, .func (PySem.W.fnOf "paths" "paths" (defArgs s_paths) (defBody s_paths) (defScope s_paths) .none kV_paths dc_paths pm_paths an_paths cd_paths ct_paths), sl_paths⟩)
    (c_paths : PySem.W.codeIn K cd_paths "paths" = true)
    (k_paths : PySem.W.keepIn K (.ref f_paths) = true)
    (a_part_at : PySem.W.nsIn K mainGlobals "part_at" = some (some (.ref f_part_at)))
    (l_part_at : K.lookup f_part_at = some ⟨oc_part_at, od_part_at, .func (PySem.W.fnOf "part_at" "part_at" (defArgs s_part_at) (defBody s_part_at) (defScope s_part_at) .none kV_part_at dc_part_at pm_part_at an_part_at cd_part_at ct_part_at), sl_part_at⟩)
    (c_part_at : PySem.W.codeIn K cd_part_at "part_at" = true)
    (k_part_at : PySem.W.keepIn K (.ref f_part_at) = true)
    (a_check : PySem.W.nsIn K mainGlobals "check" = some (some (.ref f_check)))
    (l_check : K.lookup f_check = some ⟨oc_check, od_check, .func (PySem.W.fnOf "check" "check" (defArgs s_check) (defBody s_check) (defScope s_check) .none kV_check dc_check pm_check an_check cd_check ct_check), sl_check⟩)
    (c_check : PySem.W.codeIn K cd_check "check" = true)
    (k_check : PySem.W.keepIn K (.ref f_check) = true)
    (a_kind_of : PySem.W.nsIn K mainGlobals "kind_of" = some (some (.ref f_kind_of)))
    (l_kind_of : K.lookup f_kind_of = some ⟨oc_kind_of, od_kind_of, .func (PySem.W.fnOf "kind_of" "kind_of" (defArgs s_kind_of) (defBody s_kind_of) (defScope s_kind_of) .none kV_kind_of dc_kind_of pm_kind_of an_kind_of cd_kind_of ct_kind_of), sl_kind_of⟩)
    (c_kind_of : PySem.W.codeIn K cd_kind_of "kind_of" = true)
    (k_kind_of : PySem.W.keepIn K (.ref f_kind_of) = true)
    (a_check_condition : PySem.W.nsIn K mainGlobals "check_condition" = some (some (.ref f_check_condition)))
    (l_check_condition : K.lookup f_check_condition = some ⟨oc_check_condition, od_check_condition, .func (PySem.W.fnOf "check_condition" "check_condition" (defArgs s_check_condition) (defBody s_check_condition) (defScope s_check_condition) .none kV_check_condition dc_check_condition pm_check_condition an_check_condition cd_check_condition ct_check_condition), sl_check_condition⟩)
    (c_check_condition : PySem.W.codeIn K cd_check_condition "check_condition" = true)
    (k_check_condition : PySem.W.keepIn K (.ref f_check_condition) = true)
    (a__law_draws : PySem.W.nsIn K mainGlobals "_law_draws" = some (some (.ref f__law_draws)))
    (l__law_draws : K.lookup f__law_draws = some ⟨oc__law_draws, od__law_draws, .func (PySem.W.fnOf "_law_draws" "_law_draws" (defArgs s__law_draws) (defBody s__law_draws) (defScope s__law_draws) .none kV__law_draws dc__law_draws pm__law_draws an__law_draws cd__law_draws ct__law_draws), sl__law_draws⟩)
    (c__law_draws : PySem.W.codeIn K cd__law_draws "_law_draws" = true)
    (k__law_draws : PySem.W.keepIn K (.ref f__law_draws) = true)
    (a__law_next : PySem.W.nsIn K mainGlobals "_law_next" = some (some (.ref f__law_next)))
    (l__law_next : K.lookup f__law_next = some ⟨oc__law_next, od__law_next, .func (PySem.W.fnOf "_law_next" "_law_next" (defArgs s__law_next) (defBody s__law_next) (defScope s__law_next) .none kV__law_next dc__law_next pm__law_next an__law_next cd__law_next ct__law_next), sl__law_next⟩)
    (c__law_next : PySem.W.codeIn K cd__law_next "_law_next" = true)
    (k__law_next : PySem.W.keepIn K (.ref f__law_next) = true)
    (a__law_heads : PySem.W.nsIn K mainGlobals "_law_heads" = some (some (.ref f__law_heads)))
    (l__law_heads : K.lookup f__law_heads = some ⟨oc__law_heads, od__law_heads, .func (PySem.W.fnOf "_law_heads" "_law_heads" (defArgs s__law_heads) (defBody s__law_heads) (defScope s__law_heads) .none kV__law_heads dc__law_heads pm__law_heads an__law_heads cd__law_heads ct__law_heads), sl__law_heads⟩)
    (c__law_heads : PySem.W.codeIn K cd__law_heads "_law_heads" = true)
    (k__law_heads : PySem.W.keepIn K (.ref f__law_heads) = true)
    (a__law_leaf : PySem.W.nsIn K mainGlobals "_law_leaf" = some (some (.ref f__law_leaf)))
    (l__law_leaf : K.lookup f__law_leaf = some ⟨oc__law_leaf, od__law_leaf, .func (PySem.W.fnOf "_law_leaf" "_law_leaf" (defArgs s__law_leaf) (defBody s__law_leaf) (defScope s__law_leaf) .none kV__law_leaf dc__law_leaf pm__law_leaf an__law_leaf cd__law_leaf ct__law_leaf), sl__law_leaf⟩)
    (c__law_leaf : PySem.W.codeIn K cd__law_leaf "_law_leaf" = true)
    (k__law_leaf : PySem.W.keepIn K (.ref f__law_leaf) = true)
    (a__law_term : PySem.W.nsIn K mainGlobals "_law_term" = some (some (.ref f__law_term)))
    (l__law_term : K.lookup f__law_term = some ⟨oc__law_term, od__law_term, .func (PySem.W.fnOf "_law_term" "_law_term" (defArgs s__law_term) (defBody s__law_term) (defScope s__law_term) .none kV__law_term dc__law_term pm__law_term an__law_term cd__law_term ct__law_term), sl__law_term⟩)
    (c__law_term : PySem.W.codeIn K cd__law_term "_law_term" = true)
    (k__law_term : PySem.W.keepIn K (.ref f__law_term) = true)
    (a__law_condition : PySem.W.nsIn K mainGlobals "_law_condition" = some (some (.ref f__law_condition)))
    (l__law_condition : K.lookup f__law_condition = some ⟨oc__law_condition, od__law_condition, .func (PySem.W.fnOf "_law_condition" "_law_condition" (defArgs s__law_condition) (defBody s__law_condition) (defScope s__law_condition) .none kV__law_condition dc__law_condition pm__law_condition an__law_condition cd__law_condition ct__law_condition), sl__law_condition⟩)
    (c__law_condition : PySem.W.codeIn K cd__law_condition "_law_condition" = true)
    (k__law_condition : PySem.W.keepIn K (.ref f__law_condition) = true)
    (a__law_places : PySem.W.nsIn K mainGlobals "_law_places" = some (some (.ref f__law_places)))
    (l__law_places : K.lookup f__law_places = some ⟨oc__law_places, od__law_places, .func (PySem.W.fnOf "_law_places" "_law_places" (defArgs s__law_places) (defBody s__law_places) (defScope s__law_places) .none kV__law_places dc__law_places pm__law_places an__law_places cd__law_places ct__law_places), sl__law_places⟩)
    (c__law_places : PySem.W.codeIn K cd__law_places "_law_places" = true)
    (k__law_places : PySem.W.keepIn K (.ref f__law_places) = true)
    (a__law_inner : PySem.W.nsIn K mainGlobals "_law_inner" = some (some (.ref f__law_inner)))
    (l__law_inner : K.lookup f__law_inner = some ⟨oc__law_inner, od__law_inner, .func (PySem.W.fnOf "_law_inner" "_law_inner" (defArgs s__law_inner) (defBody s__law_inner) (defScope s__law_inner) .none kV__law_inner dc__law_inner pm__law_inner an__law_inner cd__law_inner ct__law_inner), sl__law_inner⟩)
    (c__law_inner : PySem.W.codeIn K cd__law_inner "_law_inner" = true)
    (k__law_inner : PySem.W.keepIn K (.ref f__law_inner) = true)
    (a__law_paths_of : PySem.W.nsIn K mainGlobals "_law_paths_of" = some (some (.ref f__law_paths_of)))
    (l__law_paths_of : K.lookup f__law_paths_of = some ⟨oc__law_paths_of, od__law_paths_of, .func (PySem.W.fnOf "_law_paths_of" "_law_paths_of" (defArgs s__law_paths_of) (defBody s__law_paths_of) (defScope s__law_paths_of) .none kV__law_paths_of dc__law_paths_of pm__law_paths_of an__law_paths_of cd__law_paths_of ct__law_paths_of), sl__law_paths_of⟩)
    (c__law_paths_of : PySem.W.codeIn K cd__law_paths_of "_law_paths_of" = true)
    (k__law_paths_of : PySem.W.keepIn K (.ref f__law_paths_of) = true)
    (a__law_there : PySem.W.nsIn K mainGlobals "_law_there" = some (some (.ref f__law_there)))
    (l__law_there : K.lookup f__law_there = some ⟨oc__law_there, od__law_there, .func (PySem.W.fnOf "_law_there" "_law_there" (defArgs s__law_there) (defBody s__law_there) (defScope s__law_there) .none kV__law_there dc__law_there pm__law_there an__law_there cd__law_there ct__law_there), sl__law_there⟩)
    (c__law_there : PySem.W.codeIn K cd__law_there "_law_there" = true)
    (k__law_there : PySem.W.keepIn K (.ref f__law_there) = true)
    (a__law_refused : PySem.W.nsIn K mainGlobals "_law_refused" = some (some (.ref f__law_refused)))
    (l__law_refused : K.lookup f__law_refused = some ⟨oc__law_refused, od__law_refused, .func (PySem.W.fnOf "_law_refused" "_law_refused" (defArgs s__law_refused) (defBody s__law_refused) (defScope s__law_refused) .none kV__law_refused dc__law_refused pm__law_refused an__law_refused cd__law_refused ct__law_refused), sl__law_refused⟩)
    (c__law_refused : PySem.W.codeIn K cd__law_refused "_law_refused" = true)
    (k__law_refused : PySem.W.keepIn K (.ref f__law_refused) = true)
    (a__law_paths_right : PySem.W.nsIn K mainGlobals "_law_paths_right" = some (some (.ref f__law_paths_right)))
    (l__law_paths_right : K.lookup f__law_paths_right = some ⟨oc__law_paths_right, od__law_paths_right, .func (PySem.W.fnOf "_law_paths_right" "_law_paths_right" (defArgs s__law_paths_right) (defBody s__law_paths_right) (defScope s__law_paths_right) .none kV__law_paths_right dc__law_paths_right pm__law_paths_right an__law_paths_right cd__law_paths_right ct__law_paths_right), sl__law_paths_right⟩)
    (c__law_paths_right : PySem.W.codeIn K cd__law_paths_right "_law_paths_right" = true)
    (k__law_paths_right : PySem.W.keepIn K (.ref f__law_paths_right) = true)
    (a_law : PySem.W.nsIn K mainGlobals "law" = some (some (.ref f_law)))
    (l_law : K.lookup f_law = some ⟨oc_law, od_law, .func (PySem.W.fnOf "law" "law" (defArgs s_law) (defBody s_law) (defScope s_law) .none kV_law dc_law pm_law an_law cd_law ct_law), sl_law⟩)
    (c_law : PySem.W.codeIn K cd_law "law" = true)
    (k_law : PySem.W.keepIn K (.ref f_law) = true)
    (z_int : PySem.W.nsIn K mainGlobals "int" = some none)
    (z_isinstance : PySem.W.nsIn K mainGlobals "isinstance" = some none)
    (z_bool : PySem.W.nsIn K mainGlobals "bool" = some none)
    (z_all : PySem.W.nsIn K mainGlobals "all" = some none)
    (z_str : PySem.W.nsIn K mainGlobals "str" = some none)
    (z_len : PySem.W.nsIn K mainGlobals "len" = some none)
    (z_dict : PySem.W.nsIn K mainGlobals "dict" = some none)
    (z_tuple : PySem.W.nsIn K mainGlobals "tuple" = some none)
    (z_enumerate : PySem.W.nsIn K mainGlobals "enumerate" = some none)
    (z_list : PySem.W.nsIn K mainGlobals "list" = some none)
    (z__law_some : PySem.W.nsIn K mainGlobals "_law_some" = some none)
    (z_range : PySem.W.nsIn K mainGlobals "range" = some none)
    (z_LookupError : PySem.W.nsIn K mainGlobals "LookupError" = some none)
    (e_self : PySem.W.kitOne K (.ref C_NoPath) (.ref C_NoPath) = some true)
    (e_le : PySem.W.kitOne K (.ref C_NoPath) (.type "LookupError") = some true)
    (e_any : PySem.W.exmAny K (.ref C_NoPath) [.ref C_NoPath, .ref C_NoTerm, .ref C_NoName, .ref C_NoKind] = some true)
    (a_PLACES : PySem.W.nsIn K mainGlobals "PLACES" = some (some (.ref q_PLACES)))
    (l_PLACES : K.lookup q_PLACES = some ⟨.type "dict", none, .dict es_PLACES n_PLACES, #[]⟩)
    (k_PLACES : PySem.W.KeysLit w.params es_PLACES.toList)
    (o_PLACES : (q_PLACES == sysModules) = false)
    (t_PLACES : tblB K q_PLACES tb_PLACES = true)
    (m_PLACES : missB K q_PLACES ms_PLACES = true)
    (v_PLACES : entB K es_PLACES.toList tb_PLACES = true)
    (a_ASKS : PySem.W.nsIn K mainGlobals "ASKS" = some (some (.ref q_ASKS)))
    (l_ASKS : K.lookup q_ASKS = some ⟨.type "dict", none, .dict es_ASKS n_ASKS, #[]⟩)
    (k_ASKS : PySem.W.KeysLit w.params es_ASKS.toList)
    (o_ASKS : (q_ASKS == sysModules) = false)
    (t_ASKS : tblB K q_ASKS tb_ASKS = true)
    (m_ASKS : missB K q_ASKS ms_ASKS = true)
    (v_ASKS : entB K es_ASKS.toList tb_ASKS = true)
    (a_SIZES : PySem.W.nsIn K mainGlobals "SIZES" = some (some (.ref q_SIZES)))
    (l_SIZES : K.lookup q_SIZES = some ⟨.type "dict", none, .dict es_SIZES n_SIZES, #[]⟩)
    (k_SIZES : PySem.W.KeysLit w.params es_SIZES.toList)
    (o_SIZES : (q_SIZES == sysModules) = false)
    (t_SIZES : tblB K q_SIZES tb_SIZES = true)
    (m_SIZES : missB K q_SIZES ms_SIZES = true)
    (v_SIZES : entB K es_SIZES.toList tb_SIZES = true)
    (a_TOLD : PySem.W.nsIn K mainGlobals "TOLD" = some (some (.ref q_TOLD)))
    (l_TOLD : K.lookup q_TOLD = some ⟨.type "dict", none, .dict es_TOLD n_TOLD, #[]⟩)
    (k_TOLD : PySem.W.KeysLit w.params es_TOLD.toList)
    (o_TOLD : (q_TOLD == sysModules) = false)
    (t_TOLD : tblB K q_TOLD tb_TOLD = true)
    (m_TOLD : missB K q_TOLD ms_TOLD = true)
    (a_LENGTHS : PySem.W.nsIn K mainGlobals "LENGTHS" = some (some (.ref q_LENGTHS)))
    (t_LENGTHS : wB K (.ref q_LENGTHS) wd_LENGTHS = true)
    (a_HILLS : PySem.W.nsIn K mainGlobals "HILLS" = some (some (.ref q_HILLS)))
    (t_HILLS : wB K (.ref q_HILLS) wd_HILLS = true)
    (a_KINDS : PySem.W.nsIn K mainGlobals "KINDS" = some (some (.ref q_KINDS)))
    (t_KINDS : wB K (.ref q_KINDS) wd_KINDS = true)
    (a_LETTERS : PySem.W.nsIn K mainGlobals "LETTERS" = some (some (.str "abcdefghijklmnopqrstuvwxyz" t_LETTERS)))
    (h_cd_term : cd__law_term = .ref (tabAt K "_law_term").1) :
    ∃ fd : FuncData, (∀ (s : Shared) (v : Value), BindsTo s fd ⟨[v], []⟩ [("_law_script", v)]) ∧ ∀ base : Heap, K.In base → base.Ns mainGlobals mg → (∀ y ∈ (["_law_term"] : List Str), TabB base mg (tabAt K y).1 (tabAt K y).2) → FnG l.prog w K mg base (L2.CX l.prog w) 181 fa fd ["_law_script"] (spLaw K) := by
  have e := hfa.symm.trans (PySem.W.mg_of X G a_law)
  cases e
  have F_NoPath___init__ := fun_mk (st := s_NoPath___init__) l_NoPath___init__ c_NoPath___init__ k_NoPath___init__
  have b_NoPath___init__ := F_NoPath___init__.binds (ps := ["self", "at"]) fun _ _ _ _ _ _ us hl => match us, hl with | [_, _], _ => rfl
  have F_Day___init__ := fun_mk (st := s_Day___init__) l_Day___init__ c_Day___init__ k_Day___init__
  have b_Day___init__ := F_Day___init__.binds (ps := ["self", "number"]) fun _ _ _ _ _ _ us hl => match us, hl with | [_, _], _ => rfl
  have F_is_leap := fun_mk (st := s_is_leap) l_is_leap c_is_leap k_is_leap
  have b_is_leap := F_is_leap.binds (ps := ["year"]) fun _ _ _ _ _ _ us hl => match us, hl with | [_], _ => rfl
  have F_last_of := fun_mk (st := s_last_of) l_last_of c_last_of k_last_of
  have b_last_of := F_last_of.binds (ps := ["year", "month"]) fun _ _ _ _ _ _ us hl => match us, hl with | [_, _], _ => rfl
  have F_day_of := fun_mk (st := s_day_of) l_day_of c_day_of k_day_of
  have b_day_of := F_day_of.binds (ps := ["year", "month", "day"]) fun _ _ _ _ _ _ us hl => match us, hl with | [_, _, _], _ => rfl
  have F_is_number := fun_mk (st := s_is_number) l_is_number c_is_number k_is_number
  have b_is_number := F_is_number.binds (ps := ["thing"]) fun _ _ _ _ _ _ us hl => match us, hl with | [_], _ => rfl
  have F_is_name := fun_mk (st := s_is_name) l_is_name c_is_name k_is_name
  have b_is_name := F_is_name.binds (ps := ["thing"]) fun _ _ _ _ _ _ us hl => match us, hl with | [_], _ => rfl
  have F_is_date := fun_mk (st := s_is_date) l_is_date c_is_date k_is_date
  have b_is_date := F_is_date.binds (ps := ["things"]) fun _ _ _ _ _ _ us hl => match us, hl with | [_], _ => rfl
  have F_places_of := fun_mk (st := s_places_of) l_places_of c_places_of k_places_of
  have b_places_of := F_places_of.binds (ps := ["thing"]) fun _ _ _ _ _ _ us hl => match us, hl with | [_], _ => rfl
  have F_parts_of := fun_mk (st := s_parts_of) l_parts_of c_parts_of k_parts_of
  have b_parts_of := F_parts_of.binds (ps := ["thing"]) fun _ _ _ _ _ _ us hl => match us, hl with | [_], _ => rfl
  have F_wants_ask := fun_mk (st := s_wants_ask) l_wants_ask c_wants_ask k_wants_ask
  have b_wants_ask := F_wants_ask.binds (ps := ["thing", "number"]) fun _ _ _ _ _ _ us hl => match us, hl with | [_, _], _ => rfl
  have F_has_shape := fun_mk (st := s_has_shape) l_has_shape c_has_shape k_has_shape
  have b_has_shape := F_has_shape.binds (ps := ["tongue", "thing", "ask"]) fun _ _ _ _ _ _ us hl => match us, hl with | [_, _, _], _ => rfl
  have F_check_shapes := fun_mk (st := s_check_shapes) l_check_shapes c_check_shapes k_check_shapes
  have b_check_shapes := F_check_shapes.binds (ps := ["tongue", "thing", "ask", "path"]) fun _ _ _ _ _ _ us hl => match us, hl with | [_, _, _, _], _ => rfl
  have F_loose_columns := fun_mk (st := s_loose_columns) l_loose_columns c_loose_columns k_loose_columns
  have b_loose_columns := F_loose_columns.binds (ps := ["thing", "names", "path"]) fun _ _ _ _ _ _ us hl => match us, hl with | [_, _, _], _ => rfl
  have F_with_one := fun_mk (st := s_with_one) l_with_one c_with_one k_with_one
  have b_with_one := F_with_one.binds (ps := ["table", "name", "thing"]) fun _ _ _ _ _ _ us hl => match us, hl with | [_, _, _], _ => rfl
  have F_kinds_in := fun_mk (st := s_kinds_in) l_kinds_in c_kinds_in k_kinds_in
  have b_kinds_in := F_kinds_in.binds (ps := ["thing", "kinds", "path"]) fun _ _ _ _ _ _ us hl => match us, hl with | [_, _, _], _ => rfl
  have F_kind_in := fun_mk (st := s_kind_in) l_kind_in c_kind_in k_kind_in
  have b_kind_in := F_kind_in.binds (ps := ["thing", "kinds", "path"]) fun _ _ _ _ _ _ us hl => match us, hl with | [_, _, _], _ => rfl
  have F_paths := fun_mk (st := s_paths) l_paths c_paths k_paths
  have b_paths := F_paths.binds (ps := ["term"]) fun _ _ _ _ _ _ us hl => match us, hl with | [_], _ => rfl
  have F_part_at := fun_mk (st := s_part_at) l_part_at c_part_at k_part_at
  have b_part_at := F_part_at.binds (ps := ["term", "path"]) fun _ _ _ _ _ _ us hl => match us, hl with | [_, _], _ => rfl
  have F_check := fun_mk (st := s_check) l_check c_check k_check
  have b_check := F_check.binds (ps := ["tongue", "thing", "ask", "kinds"]) fun _ _ _ _ _ _ us hl => match us, hl with | [_, _, _, _], _ => rfl
  have F_kind_of := fun_mk (st := s_kind_of) l_kind_of c_kind_of k_kind_of
  have b_kind_of := F_kind_of.binds (ps := ["tongue", "term", "kinds"]) fun _ _ _ _ _ _ us hl => match us, hl with | [_, _, _], _ => rfl
  have F_check_condition := fun_mk (st := s_check_condition) l_check_condition c_check_condition k_check_condition
  have b_check_condition := F_check_condition.binds (ps := ["tongue", "condition", "kinds"]) fun _ _ _ _ _ _ us hl => match us, hl with | [_, _, _], _ => rfl
  have F__law_draws := fun_mk (st := s__law_draws) l__law_draws c__law_draws k__law_draws
  have b__law_draws := F__law_draws.binds (ps := ["_law_cell_here"]) fun _ _ _ _ _ _ us hl => match us, hl with | [_], _ => rfl
  have F__law_next := fun_mk (st := s__law_next) l__law_next c__law_next k__law_next
  have b__law_next := F__law_next.binds (ps := ["_law_draws_here"]) fun _ _ _ _ _ _ us hl => match us, hl with | [_], _ => rfl
  have F__law_heads := fun_mk (st := s__law_heads) l__law_heads c__law_heads k__law_heads
  have b__law_heads := F__law_heads.binds (ps := ["_law_draws_here", "_law_a_tongue", "_law_letters"]) fun _ _ _ _ _ _ us hl => match us, hl with | [_, _, _], _ => rfl
  have F__law_leaf := fun_mk (st := s__law_leaf) l__law_leaf c__law_leaf k__law_leaf
  have b__law_leaf := F__law_leaf.binds (ps := ["_law_draws_here", "_law_a_tongue", "_law_heads_here", "_law_kind"]) fun _ _ _ _ _ _ us hl => match us, hl with | [_, _, _, _], _ => rfl
  have F__law_term := fun_mk (st := s__law_term) l__law_term c__law_term k__law_term
  have b__law_term := F__law_term.binds (ps := ["_law_draws_here", "_law_a_tongue", "_law_heads_here", "_law_kind", "_law_deep"]) fun _ _ _ _ _ _ us hl => match us, hl with | [_, _, _, _, _], _ => rfl
  have F__law_condition := fun_mk (st := s__law_condition) l__law_condition c__law_condition k__law_condition
  have b__law_condition := F__law_condition.binds (ps := ["_law_draws_here", "_law_a_tongue", "_law_heads_here", "_law_deep"]) fun _ _ _ _ _ _ us hl => match us, hl with | [_, _, _, _], _ => rfl
  have F__law_places := fun_mk (st := s__law_places) l__law_places c__law_places k__law_places
  have b__law_places := F__law_places.binds (ps := []) fun _ _ _ _ _ _ us hl => match us, hl with | [], _ => rfl
  have F__law_inner := fun_mk (st := s__law_inner) l__law_inner c__law_inner k__law_inner
  have b__law_inner := F__law_inner.binds (ps := ["_law_a_term"]) fun _ _ _ _ _ _ us hl => match us, hl with | [_], _ => rfl
  have F__law_paths_of := fun_mk (st := s__law_paths_of) l__law_paths_of c__law_paths_of k__law_paths_of
  have b__law_paths_of := F__law_paths_of.binds (ps := ["_law_a_term"]) fun _ _ _ _ _ _ us hl => match us, hl with | [_], _ => rfl
  have F__law_there := fun_mk (st := s__law_there) l__law_there c__law_there k__law_there
  have b__law_there := F__law_there.binds (ps := ["_law_a_term", "_law_a_path"]) fun _ _ _ _ _ _ us hl => match us, hl with | [_, _], _ => rfl
  have F__law_refused := fun_mk (st := s__law_refused) l__law_refused c__law_refused k__law_refused
  have b__law_refused := F__law_refused.binds (ps := ["_law_a_term", "_law_a_path"]) fun _ _ _ _ _ _ us hl => match us, hl with | [_, _], _ => rfl
  have F__law_paths_right := fun_mk (st := s__law_paths_right) l__law_paths_right c__law_paths_right k__law_paths_right
  have b__law_paths_right := F__law_paths_right.binds (ps := ["_law_a_term"]) fun _ _ _ _ _ _ us hl => match us, hl with | [_], _ => rfl
  have F_law := fun_mk (st := s_law) l_law c_law k_law
  have b_law := F_law.binds (ps := ["_law_script"]) fun _ _ _ _ _ _ us hl => match us, hl with | [_], _ => rfl
  exact ⟨_, fun s v => .of_eq rfl, fun base _ _ tb => ok_law (T := { C_Day := C_Day, g_Day := PySem.W.mg_of X G aC_Day, cl_Day := ⟨pg_Day, hd_Day, po_Day, sa_Day⟩, n_Day_number := n_Day_number, C_NoPath := C_NoPath, g_NoPath := PySem.W.mg_of X G aC_NoPath, O_NoPath := ⟨⟨_, _, _, _, _, _, _, _, _, _, _, _, _, _, xL_NoPath⟩, sa_NoPath, ex_NoPath, ty_NoPath, kC_NoPath⟩, X_NoPath := ⟨ga_NoPath, gg_NoPath, ex_NoPath, hd_NoPath⟩, E_NoPath := ⟨ga_NoPath, gg_NoPath, ex_NoPath, hd_NoPath, ca_NoPath, sg_NoPath, tk_NoPath, mr_NoPath⟩, n_NoPath_at := n_NoPath_at, C_NoDay := C_NoDay, g_NoDay := PySem.W.mg_of X G aC_NoDay, C_NoTerm := C_NoTerm, g_NoTerm := PySem.W.mg_of X G aC_NoTerm, C_NoName := C_NoName, g_NoName := PySem.W.mg_of X G aC_NoName, C_NoKind := C_NoKind, g_NoKind := PySem.W.mg_of X G aC_NoKind, i_NoPath := i_NoPath, t_NoPath := t_NoPath, f_NoPath___init__ := f_NoPath___init__, fd_NoPath___init__ := PySem.W.fnOf "__init__" "NoPath.__init__" (defArgs s_NoPath___init__) (defBody s_NoPath___init__) (defScope s_NoPath___init__) .none kV_NoPath___init__ dc_NoPath___init__ pm_NoPath___init__ an_NoPath___init__ cd_NoPath___init__ ct_NoPath___init__, F_NoPath___init__ := F_NoPath___init__, b_NoPath___init__ := b_NoPath___init__, f_Day___init__ := f_Day___init__, fd_Day___init__ := PySem.W.fnOf "__init__" "Day.__init__" (defArgs s_Day___init__) (defBody s_Day___init__) (defScope s_Day___init__) .none kV_Day___init__ dc_Day___init__ pm_Day___init__ an_Day___init__ cd_Day___init__ ct_Day___init__, F_Day___init__ := F_Day___init__, b_Day___init__ := b_Day___init__, M_Day := ⟨mk_Day, a_Day___init__, i_Day___init__, kc_Day⟩, f_is_leap := f_is_leap, fd_is_leap := PySem.W.fnOf "is_leap" "is_leap" (defArgs s_is_leap) (defBody s_is_leap) (defScope s_is_leap) .none kV_is_leap dc_is_leap pm_is_leap an_is_leap cd_is_leap ct_is_leap, F_is_leap := F_is_leap, b_is_leap := b_is_leap, g_is_leap := PySem.W.mg_of X G a_is_leap, f_last_of := f_last_of, fd_last_of := PySem.W.fnOf "last_of" "last_of" (defArgs s_last_of) (defBody s_last_of) (defScope s_last_of) .none kV_last_of dc_last_of pm_last_of an_last_of cd_last_of ct_last_of, F_last_of := F_last_of, b_last_of := b_last_of, g_last_of := PySem.W.mg_of X G a_last_of, f_day_of := f_day_of, fd_day_of := PySem.W.fnOf "day_of" "day_of" (defArgs s_day_of) (defBody s_day_of) (defScope s_day_of) .none kV_day_of dc_day_of pm_day_of an_day_of cd_day_of ct_day_of, F_day_of := F_day_of, b_day_of := b_day_of, g_day_of := PySem.W.mg_of X G a_day_of, f_is_number := f_is_number, fd_is_number := PySem.W.fnOf "is_number" "is_number" (defArgs s_is_number) (defBody s_is_number) (defScope s_is_number) .none kV_is_number dc_is_number pm_is_number an_is_number cd_is_number ct_is_number, F_is_number := F_is_number, b_is_number := b_is_number, g_is_number := PySem.W.mg_of X G a_is_number, f_is_name := f_is_name, fd_is_name := PySem.W.fnOf "is_name" "is_name" (defArgs s_is_name) (defBody s_is_name) (defScope s_is_name) .none kV_is_name dc_is_name pm_is_name an_is_name cd_is_name ct_is_name, F_is_name := F_is_name, b_is_name := b_is_name, g_is_name := PySem.W.mg_of X G a_is_name, f_is_date := f_is_date, fd_is_date := PySem.W.fnOf "is_date" "is_date" (defArgs s_is_date) (defBody s_is_date) (defScope s_is_date) .none kV_is_date dc_is_date pm_is_date an_is_date cd_is_date ct_is_date, F_is_date := F_is_date, b_is_date := b_is_date, g_is_date := PySem.W.mg_of X G a_is_date, f_places_of := f_places_of, fd_places_of := PySem.W.fnOf "places_of" "places_of" (defArgs s_places_of) (defBody s_places_of) (defScope s_places_of) .none kV_places_of dc_places_of pm_places_of an_places_of cd_places_of ct_places_of, F_places_of := F_places_of, b_places_of := b_places_of, g_places_of := PySem.W.mg_of X G a_places_of, f_parts_of := f_parts_of, fd_parts_of := PySem.W.fnOf "parts_of" "parts_of" (defArgs s_parts_of) (defBody s_parts_of) (defScope s_parts_of) .none kV_parts_of dc_parts_of pm_parts_of an_parts_of cd_parts_of ct_parts_of, F_parts_of := F_parts_of, b_parts_of := b_parts_of, g_parts_of := PySem.W.mg_of X G a_parts_of, f_wants_ask := f_wants_ask, fd_wants_ask := PySem.W.fnOf "wants_ask" "wants_ask" (defArgs s_wants_ask) (defBody s_wants_ask) (defScope s_wants_ask) .none kV_wants_ask dc_wants_ask pm_wants_ask an_wants_ask cd_wants_ask ct_wants_ask, F_wants_ask := F_wants_ask, b_wants_ask := b_wants_ask, g_wants_ask := PySem.W.mg_of X G a_wants_ask, f_has_shape := f_has_shape, fd_has_shape := PySem.W.fnOf "has_shape" "has_shape" (defArgs s_has_shape) (defBody s_has_shape) (defScope s_has_shape) .none kV_has_shape dc_has_shape pm_has_shape an_has_shape cd_has_shape ct_has_shape, F_has_shape := F_has_shape, b_has_shape := b_has_shape, g_has_shape := PySem.W.mg_of X G a_has_shape, f_check_shapes := f_check_shapes, fd_check_shapes := PySem.W.fnOf "check_shapes" "check_shapes" (defArgs s_check_shapes) (defBody s_check_shapes) (defScope s_check_shapes) .none kV_check_shapes dc_check_shapes pm_check_shapes an_check_shapes cd_check_shapes ct_check_shapes, F_check_shapes := F_check_shapes, b_check_shapes := b_check_shapes, g_check_shapes := PySem.W.mg_of X G a_check_shapes, f_loose_columns := f_loose_columns, fd_loose_columns := PySem.W.fnOf "loose_columns" "loose_columns" (defArgs s_loose_columns) (defBody s_loose_columns) (defScope s_loose_columns) .none kV_loose_columns dc_loose_columns pm_loose_columns an_loose_columns cd_loose_columns ct_loose_columns, F_loose_columns := F_loose_columns, b_loose_columns := b_loose_columns, g_loose_columns := PySem.W.mg_of X G a_loose_columns, f_with_one := f_with_one, fd_with_one := PySem.W.fnOf "with_one" "with_one" (defArgs s_with_one) (defBody s_with_one) (defScope s_with_one) .none kV_with_one dc_with_one pm_with_one an_with_one cd_with_one ct_with_one, F_with_one := F_with_one, b_with_one := b_with_one, g_with_one := PySem.W.mg_of X G a_with_one, f_kinds_in := f_kinds_in, fd_kinds_in := PySem.W.fnOf "kinds_in" "kinds_in" (defArgs s_kinds_in) (defBody s_kinds_in) (defScope s_kinds_in) .none kV_kinds_in dc_kinds_in pm_kinds_in an_kinds_in cd_kinds_in ct_kinds_in, F_kinds_in := F_kinds_in, b_kinds_in := b_kinds_in, g_kinds_in := PySem.W.mg_of X G a_kinds_in, f_kind_in := f_kind_in, fd_kind_in := PySem.W.fnOf "kind_in" "kind_in" (defArgs s_kind_in) (defBody s_kind_in) (defScope s_kind_in) .none kV_kind_in dc_kind_in pm_kind_in an_kind_in cd_kind_in ct_kind_in, F_kind_in := F_kind_in, b_kind_in := b_kind_in, g_kind_in := PySem.W.mg_of X G a_kind_in, f_paths := f_paths, fd_paths := PySem.W.fnOf "paths" "paths" (defArgs s_paths) (defBody s_paths) (defScope s_paths) .none kV_paths dc_paths pm_paths an_paths cd_paths ct_paths, F_paths := F_paths, b_paths := b_paths, g_paths := PySem.W.mg_of X G a_paths, f_part_at := f_part_at, fd_part_at := PySem.W.fnOf "part_at" "part_at" (defArgs s_part_at) (defBody s_part_at) (defScope s_part_at) .none kV_part_at dc_part_at pm_part_at an_part_at cd_part_at ct_part_at, F_part_at := F_part_at, b_part_at := b_part_at, g_part_at := PySem.W.mg_of X G a_part_at, f_check := f_check, fd_check := PySem.W.fnOf "check" "check" (defArgs s_check) (defBody s_check) (defScope s_check) .none kV_check dc_check pm_check an_check cd_check ct_check, F_check := F_check, b_check := b_check, g_check := PySem.W.mg_of X G a_check, f_kind_of := f_kind_of, fd_kind_of := PySem.W.fnOf "kind_of" "kind_of" (defArgs s_kind_of) (defBody s_kind_of) (defScope s_kind_of) .none kV_kind_of dc_kind_of pm_kind_of an_kind_of cd_kind_of ct_kind_of, F_kind_of := F_kind_of, b_kind_of := b_kind_of, g_kind_of := PySem.W.mg_of X G a_kind_of, f_check_condition := f_check_condition, fd_check_condition := PySem.W.fnOf "check_condition" "check_condition" (defArgs s_check_condition) (defBody s_check_condition) (defScope s_check_condition) .none kV_check_condition dc_check_condition pm_check_condition an_check_condition cd_check_condition ct_check_condition, F_check_condition := F_check_condition, b_check_condition := b_check_condition, g_check_condition := PySem.W.mg_of X G a_check_condition, f__law_draws := f__law_draws, fd__law_draws := PySem.W.fnOf "_law_draws" "_law_draws" (defArgs s__law_draws) (defBody s__law_draws) (defScope s__law_draws) .none kV__law_draws dc__law_draws pm__law_draws an__law_draws cd__law_draws ct__law_draws, F__law_draws := F__law_draws, b__law_draws := b__law_draws, g__law_draws := PySem.W.mg_of X G a__law_draws, f__law_next := f__law_next, fd__law_next := PySem.W.fnOf "_law_next" "_law_next" (defArgs s__law_next) (defBody s__law_next) (defScope s__law_next) .none kV__law_next dc__law_next pm__law_next an__law_next cd__law_next ct__law_next, F__law_next := F__law_next, b__law_next := b__law_next, g__law_next := PySem.W.mg_of X G a__law_next, f__law_heads := f__law_heads, fd__law_heads := PySem.W.fnOf "_law_heads" "_law_heads" (defArgs s__law_heads) (defBody s__law_heads) (defScope s__law_heads) .none kV__law_heads dc__law_heads pm__law_heads an__law_heads cd__law_heads ct__law_heads, F__law_heads := F__law_heads, b__law_heads := b__law_heads, g__law_heads := PySem.W.mg_of X G a__law_heads, f__law_leaf := f__law_leaf, fd__law_leaf := PySem.W.fnOf "_law_leaf" "_law_leaf" (defArgs s__law_leaf) (defBody s__law_leaf) (defScope s__law_leaf) .none kV__law_leaf dc__law_leaf pm__law_leaf an__law_leaf cd__law_leaf ct__law_leaf, F__law_leaf := F__law_leaf, b__law_leaf := b__law_leaf, g__law_leaf := PySem.W.mg_of X G a__law_leaf, f__law_term := f__law_term, fd__law_term := PySem.W.fnOf "_law_term" "_law_term" (defArgs s__law_term) (defBody s__law_term) (defScope s__law_term) .none kV__law_term dc__law_term pm__law_term an__law_term cd__law_term ct__law_term, F__law_term := F__law_term, b__law_term := b__law_term, g__law_term := PySem.W.mg_of X G a__law_term, f__law_condition := f__law_condition, fd__law_condition := PySem.W.fnOf "_law_condition" "_law_condition" (defArgs s__law_condition) (defBody s__law_condition) (defScope s__law_condition) .none kV__law_condition dc__law_condition pm__law_condition an__law_condition cd__law_condition ct__law_condition, F__law_condition := F__law_condition, b__law_condition := b__law_condition, g__law_condition := PySem.W.mg_of X G a__law_condition, f__law_places := f__law_places, fd__law_places := PySem.W.fnOf "_law_places" "_law_places" (defArgs s__law_places) (defBody s__law_places) (defScope s__law_places) .none kV__law_places dc__law_places pm__law_places an__law_places cd__law_places ct__law_places, F__law_places := F__law_places, b__law_places := b__law_places, g__law_places := PySem.W.mg_of X G a__law_places, f__law_inner := f__law_inner, fd__law_inner := PySem.W.fnOf "_law_inner" "_law_inner" (defArgs s__law_inner) (defBody s__law_inner) (defScope s__law_inner) .none kV__law_inner dc__law_inner pm__law_inner an__law_inner cd__law_inner ct__law_inner, F__law_inner := F__law_inner, b__law_inner := b__law_inner, g__law_inner := PySem.W.mg_of X G a__law_inner, f__law_paths_of := f__law_paths_of, fd__law_paths_of := PySem.W.fnOf "_law_paths_of" "_law_paths_of" (defArgs s__law_paths_of) (defBody s__law_paths_of) (defScope s__law_paths_of) .none kV__law_paths_of dc__law_paths_of pm__law_paths_of an__law_paths_of cd__law_paths_of ct__law_paths_of, F__law_paths_of := F__law_paths_of, b__law_paths_of := b__law_paths_of, g__law_paths_of := PySem.W.mg_of X G a__law_paths_of, f__law_there := f__law_there, fd__law_there := PySem.W.fnOf "_law_there" "_law_there" (defArgs s__law_there) (defBody s__law_there) (defScope s__law_there) .none kV__law_there dc__law_there pm__law_there an__law_there cd__law_there ct__law_there, F__law_there := F__law_there, b__law_there := b__law_there, g__law_there := PySem.W.mg_of X G a__law_there, f__law_refused := f__law_refused, fd__law_refused := PySem.W.fnOf "_law_refused" "_law_refused" (defArgs s__law_refused) (defBody s__law_refused) (defScope s__law_refused) .none kV__law_refused dc__law_refused pm__law_refused an__law_refused cd__law_refused ct__law_refused, F__law_refused := F__law_refused, b__law_refused := b__law_refused, g__law_refused := PySem.W.mg_of X G a__law_refused, f__law_paths_right := f__law_paths_right, fd__law_paths_right := PySem.W.fnOf "_law_paths_right" "_law_paths_right" (defArgs s__law_paths_right) (defBody s__law_paths_right) (defScope s__law_paths_right) .none kV__law_paths_right dc__law_paths_right pm__law_paths_right an__law_paths_right cd__law_paths_right ct__law_paths_right, F__law_paths_right := F__law_paths_right, b__law_paths_right := b__law_paths_right, g__law_paths_right := PySem.W.mg_of X G a__law_paths_right, f_law := fa, fd_law := PySem.W.fnOf "law" "law" (defArgs s_law) (defBody s_law) (defScope s_law) .none kV_law dc_law pm_law an_law cd_law ct_law, F_law := F_law, b_law := b_law, g_law := PySem.W.mg_of X G a_law, z_int := PySem.W.mg_none_of X G z_int, z_isinstance := PySem.W.mg_none_of X G z_isinstance, z_bool := PySem.W.mg_none_of X G z_bool, z_all := PySem.W.mg_none_of X G z_all, z_str := PySem.W.mg_none_of X G z_str, z_len := PySem.W.mg_none_of X G z_len, z_dict := PySem.W.mg_none_of X G z_dict, z_tuple := PySem.W.mg_none_of X G z_tuple, z_enumerate := PySem.W.mg_none_of X G z_enumerate, z_list := PySem.W.mg_none_of X G z_list, z__law_some := PySem.W.mg_none_of X G z__law_some, z_range := PySem.W.mg_none_of X G z_range, z_LookupError := PySem.W.mg_none_of X G z_LookupError, e_self := e_self, e_le := e_le, e_any := e_any, a_PLACES := q_PLACES, g_PLACES := PySem.W.mg_of X G a_PLACES, W_PLACES := wdict_of l_PLACES k_PLACES o_PLACES t_PLACES m_PLACES, V_PLACES := ⟨⟨_, _, l_PLACES, k_PLACES, v_PLACES⟩, o_PLACES, by decide +kernel, by decide⟩, a_ASKS := q_ASKS, g_ASKS := PySem.W.mg_of X G a_ASKS, W_ASKS := wdict_of l_ASKS k_ASKS o_ASKS t_ASKS m_ASKS, V_ASKS := ⟨⟨_, _, l_ASKS, k_ASKS, v_ASKS⟩, o_ASKS, by decide +kernel, by decide⟩, a_SIZES := q_SIZES, g_SIZES := PySem.W.mg_of X G a_SIZES, W_SIZES := wdict_of l_SIZES k_SIZES o_SIZES t_SIZES m_SIZES, V_SIZES := ⟨⟨_, _, l_SIZES, k_SIZES, v_SIZES⟩, o_SIZES, by decide +kernel, by decide⟩, a_TOLD := q_TOLD, g_TOLD := PySem.W.mg_of X G a_TOLD, W_TOLD := wdict_of l_TOLD k_TOLD o_TOLD t_TOLD m_TOLD, a_LENGTHS := q_LENGTHS, g_LENGTHS := PySem.W.mg_of X G a_LENGTHS, w_LENGTHS := t_LENGTHS, a_HILLS := q_HILLS, g_HILLS := PySem.W.mg_of X G a_HILLS, w_HILLS := t_HILLS, a_KINDS := q_KINDS, g_KINDS := PySem.W.mg_of X G a_KINDS, w_KINDS := t_KINDS, t_LETTERS := t_LETTERS, g_LETTERS := PySem.W.mg_of X G a_LETTERS, cd_term := h_cd_term }) (tb "_law_term" (by simp))⟩
end K10
open PySem PySem.W PyProof.Rows
set_option maxHeartbeats 0 in
theorem PySem.Challenge.cw_askford_k10_parts_and_kinds_holds : PySem.Challenge.rw_askford_k10_parts_and_kinds.Holds := by
  w_on; o_law; k_head; (case hw => w_witness2)
  k_fill
  refine DM.walk_ofTG (l := PySem.Challenge.rw_askford_k10_parts_and_kinds) (n := 63) (k := 181) (x := "_law_script") (xs := (["_law_term"] : List Str)) (sp := fun w => K10.spLaw _) rfl (by decide) rfl ⟨rfl, by decide, by decide⟩ (fun w h Y => PySem.W.km_in_of Y) ?hrec ?htab ?hno ?F (fun _ _ a ns hl hT hS => ⟨a, ns, rfl, hS, hl, hT, fun _ => rfl⟩)
  case hrec =>
    intro y hy
    simp only [List.mem_cons, List.not_mem_nil, or_false] at hy
    subst hy; kernel_rfl
  case htab =>
    intro w y hy
    simp only [List.mem_cons, List.not_mem_nil, or_false] at hy
    subst hy; kernel_rfl
  case hno =>
    intro w y hy
    simp only [List.mem_cons, List.not_mem_nil, or_false] at hy
    subst hy; kernel_rfl
  case F =>
    intro w mg fa h KX G hmg
    refine' K10.all_mk KX G hmg ?aC_Day ?pg_Day ?hd_Day ?po_Day ?sa_Day ?mk_Day ?kc_Day ?n_Day_number ?aC_NoPath ?xL_NoPath ?sa_NoPath ?ex_NoPath ?ty_NoPath ?kC_NoPath ?ga_NoPath ?gg_NoPath ?hd_NoPath ?ca_NoPath ?sg_NoPath ?tk_NoPath ?mr_NoPath ?n_NoPath_at ?aC_NoDay ?aC_NoTerm ?aC_NoName ?aC_NoKind ?i_NoPath ?t_NoPath ?l_NoPath___init__ ?c_NoPath___init__ ?k_NoPath___init__ ?a_Day___init__ ?i_Day___init__ ?l_Day___init__ ?c_Day___init__ ?k_Day___init__ ?a_is_leap ?l_is_leap ?c_is_leap ?k_is_leap ?a_last_of ?l_last_of ?c_last_of ?k_last_of ?a_day_of ?l_day_of ?c_day_of ?k_day_of ?a_is_number ?l_is_number ?c_is_number ?k_is_number ?a_is_name ?l_is_name ?c_is_name ?k_is_name ?a_is_date ?l_is_date ?c_is_date ?k_is_date ?a_places_of ?l_places_of ?c_places_of ?k_places_of ?a_parts_of ?l_parts_of ?c_parts_of ?k_parts_of ?a_wants_ask ?l_wants_ask ?c_wants_ask ?k_wants_ask ?a_has_shape ?l_has_shape ?c_has_shape ?k_has_shape ?a_check_shapes ?l_check_shapes ?c_check_shapes ?k_check_shapes ?a_loose_columns ?l_loose_columns ?c_loose_columns ?k_loose_columns ?a_with_one ?l_with_one ?c_with_one ?k_with_one ?a_kinds_in ?l_kinds_in ?c_kinds_in ?k_kinds_in ?a_kind_in ?l_kind_in ?c_kind_in ?k_kind_in ?a_paths ?l_paths ?c_paths ?k_paths ?a_part_at ?l_part_at ?c_part_at ?k_part_at ?a_check ?l_check ?c_check ?k_check ?a_kind_of ?l_kind_of ?c_kind_of ?k_kind_of ?a_check_condition ?l_check_condition ?c_check_condition ?k_check_condition ?a__law_draws ?l__law_draws ?c__law_draws ?k__law_draws ?a__law_next ?l__law_next ?c__law_next ?k__law_next ?a__law_heads ?l__law_heads ?c__law_heads ?k__law_heads ?a__law_leaf ?l__law_leaf ?c__law_leaf ?k__law_leaf ?a__law_term ?l__law_term ?c__law_term ?k__law_term ?a__law_condition ?l__law_condition ?c__law_condition ?k__law_condition ?a__law_places ?l__law_places ?c__law_places ?k__law_places ?a__law_inner ?l__law_inner ?c__law_inner ?k__law_inner ?a__law_paths_of ?l__law_paths_of ?c__law_paths_of ?k__law_paths_of ?a__law_there ?l__law_there ?c__law_there ?k__law_there ?a__law_refused ?l__law_refused ?c__law_refused ?k__law_refused ?a__law_paths_right ?l__law_paths_right ?c__law_paths_right ?k__law_paths_right ?a_law ?l_law ?c_law ?k_law ?z_int ?z_isinstance ?z_bool ?z_all ?z_str ?z_len ?z_dict ?z_tuple ?z_enumerate ?z_list ?z__law_some ?z_range ?z_LookupError ?e_self ?e_le ?e_any ?a_PLACES ?l_PLACES ?k_PLACES ?o_PLACES ?t_PLACES ?m_PLACES ?v_PLACES ?a_ASKS ?l_ASKS ?k_ASKS ?o_ASKS ?t_ASKS ?m_ASKS ?v_ASKS ?a_SIZES ?l_SIZES ?k_SIZES ?o_SIZES ?t_SIZES ?m_SIZES ?v_SIZES ?a_TOLD ?l_TOLD ?k_TOLD ?o_TOLD ?t_TOLD ?m_TOLD ?a_LENGTHS ?t_LENGTHS ?a_HILLS ?t_HILLS ?a_KINDS ?t_KINDS ?a_LETTERS ?h_cd_term
    (case aC_Day => k_is)
    (case pg_Day => k_is)
    (case hd_Day => k_is)
    (case po_Day => k_is)
    (case sa_Day => k_is)
    (case mk_Day => k_is)
    (case kc_Day => k_is)
    (case n_Day_number => k_is)
    (case aC_NoPath => k_is)
    (case xL_NoPath => k_is)
    (case sa_NoPath => k_is)
    (case ex_NoPath => k_is)
    (case ty_NoPath => k_is)
    (case kC_NoPath => k_is)
    (case ga_NoPath => k_is)
    (case gg_NoPath => k_is)
    (case hd_NoPath => k_is)
    (case ca_NoPath => k_is)
    (case sg_NoPath => k_is)
    (case tk_NoPath => k_is)
    (case mr_NoPath => k_is)
    (case n_NoPath_at => k_is)
    (case aC_NoDay => k_is)
    (case aC_NoTerm => k_is)
    (case aC_NoName => k_is)
    (case aC_NoKind => k_is)
    (case i_NoPath => k_is)
    (case t_NoPath => k_is)
    (case l_NoPath___init__ => k_is)
    (case c_NoPath___init__ => k_is)
    (case k_NoPath___init__ => k_is)
    (case a_Day___init__ => k_is)
    (case i_Day___init__ => k_is)
    (case l_Day___init__ => k_is)
    (case c_Day___init__ => k_is)
    (case k_Day___init__ => k_is)
    (case a_is_leap => k_is)
    (case l_is_leap => k_is)
    (case c_is_leap => k_is)
    (case k_is_leap => k_is)
    (case a_last_of => k_is)
    (case l_last_of => k_is)
    (case c_last_of => k_is)
    (case k_last_of => k_is)
    (case a_day_of => k_is)
    (case l_day_of => k_is)
    (case c_day_of => k_is)
    (case k_day_of => k_is)
    (case a_is_number => k_is)
    (case l_is_number => k_is)
    (case c_is_number => k_is)
    (case k_is_number => k_is)
    (case a_is_name => k_is)
    (case l_is_name => k_is)
    (case c_is_name => k_is)
    (case k_is_name => k_is)
    (case a_is_date => k_is)
    (case l_is_date => k_is)
    (case c_is_date => k_is)
    (case k_is_date => k_is)
    (case a_places_of => k_is)
    (case l_places_of => k_is)
    (case c_places_of => k_is)
    (case k_places_of => k_is)
    (case a_parts_of => k_is)
    (case l_parts_of => k_is)
    (case c_parts_of => k_is)
    (case k_parts_of => k_is)
    (case a_wants_ask => k_is)
    (case l_wants_ask => k_is)
    (case c_wants_ask => k_is)
    (case k_wants_ask => k_is)
    (case a_has_shape => k_is)
    (case l_has_shape => k_is)
    (case c_has_shape => k_is)
    (case k_has_shape => k_is)
    (case a_check_shapes => k_is)
    (case l_check_shapes => k_is)
    (case c_check_shapes => k_is)
    (case k_check_shapes => k_is)
    (case a_loose_columns => k_is)
    (case l_loose_columns => k_is)
    (case c_loose_columns => k_is)
    (case k_loose_columns => k_is)
    (case a_with_one => k_is)
    (case l_with_one => k_is)
    (case c_with_one => k_is)
    (case k_with_one => k_is)
    (case a_kinds_in => k_is)
    (case l_kinds_in => k_is)
    (case c_kinds_in => k_is)
    (case k_kinds_in => k_is)
    (case a_kind_in => k_is)
    (case l_kind_in => k_is)
    (case c_kind_in => k_is)
    (case k_kind_in => k_is)
    (case a_paths => k_is)
    (case l_paths => k_is)
    (case c_paths => k_is)
    (case k_paths => k_is)
    (case a_part_at => k_is)
    (case l_part_at => k_is)
    (case c_part_at => k_is)
    (case k_part_at => k_is)
    (case a_check => k_is)
    (case l_check => k_is)
    (case c_check => k_is)
    (case k_check => k_is)
    (case a_kind_of => k_is)
    (case l_kind_of => k_is)
    (case c_kind_of => k_is)
    (case k_kind_of => k_is)
    (case a_check_condition => k_is)
    (case l_check_condition => k_is)
    (case c_check_condition => k_is)
    (case k_check_condition => k_is)
    (case a__law_draws => k_is)
    (case l__law_draws => k_is)
    (case c__law_draws => k_is)
    (case k__law_draws => k_is)
    (case a__law_next => k_is)
    (case l__law_next => k_is)
    (case c__law_next => k_is)
    (case k__law_next => k_is)
    (case a__law_heads => k_is)
    (case l__law_heads => k_is)
    (case c__law_heads => k_is)
    (case k__law_heads => k_is)
    (case a__law_leaf => k_is)
    (case l__law_leaf => k_is)
    (case c__law_leaf => k_is)
    (case k__law_leaf => k_is)
    (case a__law_term => k_is)
    (case l__law_term => k_is)
    (case c__law_term => k_is)
    (case k__law_term => k_is)
    (case a__law_condition => k_is)
    (case l__law_condition => k_is)
    (case c__law_condition => k_is)
    (case k__law_condition => k_is)
    (case a__law_places => k_is)
    (case l__law_places => k_is)
    (case c__law_places => k_is)
    (case k__law_places => k_is)
    (case a__law_inner => k_is)
    (case l__law_inner => k_is)
    (case c__law_inner => k_is)
    (case k__law_inner => k_is)
    (case a__law_paths_of => k_is)
    (case l__law_paths_of => k_is)
    (case c__law_paths_of => k_is)
    (case k__law_paths_of => k_is)
    (case a__law_there => k_is)
    (case l__law_there => k_is)
    (case c__law_there => k_is)
    (case k__law_there => k_is)
    (case a__law_refused => k_is)
    (case l__law_refused => k_is)
    (case c__law_refused => k_is)
    (case k__law_refused => k_is)
    (case a__law_paths_right => k_is)
    (case l__law_paths_right => k_is)
    (case c__law_paths_right => k_is)
    (case k__law_paths_right => k_is)
    (case a_law => k_is)
    (case l_law => k_is)
    (case c_law => k_is)
    (case k_law => k_is)
    (case z_int => k_is)
    (case z_isinstance => k_is)
    (case z_bool => k_is)
    (case z_all => k_is)
    (case z_str => k_is)
    (case z_len => k_is)
    (case z_dict => k_is)
    (case z_tuple => k_is)
    (case z_enumerate => k_is)
    (case z_list => k_is)
    (case z__law_some => k_is)
    (case z_range => k_is)
    (case z_LookupError => k_is)
    (case e_self => kit_is)
    (case e_le => kit_is)
    (case e_any => kernel_rfl)
    (case a_PLACES => k_is)
    (case l_PLACES => k_is)
    (case k_PLACES => k_keys)
    (case o_PLACES => kernel_rfl)
    (case t_PLACES => kernel_rfl)
    (case m_PLACES => kernel_rfl)
    (case v_PLACES => kernel_rfl)
    (case a_ASKS => k_is)
    (case l_ASKS => k_is)
    (case k_ASKS => k_keys)
    (case o_ASKS => kernel_rfl)
    (case t_ASKS => kernel_rfl)
    (case m_ASKS => kernel_rfl)
    (case v_ASKS => kernel_rfl)
    (case a_SIZES => k_is)
    (case l_SIZES => k_is)
    (case k_SIZES => k_keys)
    (case o_SIZES => kernel_rfl)
    (case t_SIZES => kernel_rfl)
    (case m_SIZES => kernel_rfl)
    (case v_SIZES => kernel_rfl)
    (case a_TOLD => k_is)
    (case l_TOLD => k_is)
    (case k_TOLD => k_keys)
    (case o_TOLD => kernel_rfl)
    (case t_TOLD => kernel_rfl)
    (case m_TOLD => kernel_rfl)
    (case a_LENGTHS => k_is)
    (case t_LENGTHS => kernel_rfl)
    (case a_HILLS => k_is)
    (case t_HILLS => kernel_rfl)
    (case a_KINDS => k_is)
    (case t_KINDS => kernel_rfl)
    (case a_LETTERS => k_is)
    (case h_cd_term => kernel_rfl)
