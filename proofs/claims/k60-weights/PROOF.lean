import PyProof.Rows.All
import Wide.All
import OpenK.AllK
import Wide.FinOn
import HandS.ForMost
import HandS.MakeKwOnly
import HandS.IsInst
import HandS.OwnEq
import HandS.Wide
import HandS.Walk
import HandS.NoneIn
import HandS.Deep
import HandS.TupMul
import HandS.TupAny
import HandS.Style
import HandS.RaiseOp
import HandS.WrittenGet
import HandS.Words
import HandS.List
import PyProof.ReprRoads
import HandS.FStrTup
import PySem.Challenge.RW_askford_k60_weights
set_option Elab.async false
set_option linter.all false
set_option maxRecDepth 100000
set_option maxHeartbeats 2000000
namespace Lay
open PySem PySem.Spec PyProof.Rows L2
/-! ### == and != by an own __eq__, of anything on the right -/
section
variable {prog : Program} {w : World} {A : Around} {E : Value → Shared → Prop} {s : Shared} {K : PySem.W.Frag} {x C f : Addr} {ox : Obj} {od : Option Obj} {b tb : Value}
theorem objNe_entry (hu : A.units < cLine) (X : K.In s.heap) (I : PySem.W.InstAt s.heap x ox C od) (hs : PySem.W.findIn K (.ref C) "__eq__" = some (some (.ref f))) (hf : PySem.W.isFn K (.ref f) = true) {Q : Fin → Shared → Prop}
    (hcall : wpAny (model prog w) A (call (.ref f) [.ref x, b]) (fun v s' => ∃ r, v = .bool r ∧ Q (.done (.ret (.bool (!r)))) s') E s) :
    wpAny (model prog w) A (Builtin.«object.__ne__» ⟨[.ref x, b], []⟩) Q E s := by
  unfold Builtin.«object.__ne__»
  repeat (first
    | with_reducible refine wpAny_cRoomFor hu ?_
    | (refine wpAny_bind (m := callSpecialIfBound? (.ref x) (Str.ofString "__eq__") [b])
        (PySem.W.ifBound_K X I hs hf (wpAny_mono hcall (fun r s' hr => by
          obtain ⟨b, rfl, hq⟩ := hr
          repeat (first | exact hq | exact wpAny_pure hq | exact wpAny_truthy_bool hq | (refine wpAny_bind (m := truthy (.bool _)) (wpAny_truthy_bool ?_)) | wp_step)) fun _ _ e => e)))
    | wp_step)
theorem ifBound_objNe {M : Model} {args : List Value} {Q : Option Value → Shared → Prop} (X : K.In s.heap) (I : PySem.W.InstAt s.heap x ox C od) (hs : PySem.W.findIn K (.ref C) "__ne__" = some (some (.builtin "object.__ne__")))
    (h : wpAny M A (call (.builtin "object.__ne__") (.ref x :: args)) (fun v => Q (some v)) E s) : wpAny M A (callSpecialIfBound? (.ref x) "__ne__" args) Q E s := by
  simp only [callSpecialIfBound?, bindSpecialIfBound?]
  refine wpAny_holding (wpAny_bind (wpAny_bind (wpAny_bind (I.type.here ((PySem.W.looks_findIn X hs).here ?_)))))
  refine wpAny_bind (wpAny_askSetting (wpAny_ite ?_))
  have fin : wpAny M A (call (.builtin "object.__ne__") ([.ref x] ++ args) >>= fun v => pure (some v)) Q E s := wpAny_bind (wpAny_mono h (fun v s' h' => wpAny_pure h') fun _ _ h' => h')
  split
  · exact wpAny_bind (wpAny_of_eq (F.cmp_object.ne.bind _) (wpAny_pure (by exact fin)))
  · exact wpAny_tryCatch (wpAny_bind (wpAny_of_eq (F.cmp_object.ne.bind _) (wpAny_pure (by exact fin))))
theorem call_objNe {Q : Value → Shared → Prop} (hu : A.units + 1 < cLine) (X : K.In s.heap) (I : PySem.W.InstAt s.heap x ox C od) (hm : PySem.W.mroIn K C (.type "object") = some true)
    (hs : PySem.W.findIn K (.ref C) "__eq__" = some (some (.ref f))) (hf : PySem.W.isFn K (.ref f) = true)
    (hcall : wpAny (model prog w) A.in1 (call (.ref f) [.ref x, b]) (fun v s' => ∃ r, v = .bool r ∧ Q (.bool (!r)) s') E s) :
    wpAny (model prog w) A (call (.builtin "object.__ne__") [.ref x, b]) Q E s :=
  wpAny_call (codeAny_call_builtin F.cmp_object.ne.plain F.cmpEntry_ne (PySem.W.check_slot F.cmpKind_ne F.cmpSplit_ne (I.type.andThen (PySem.W.looks_mroIn X hm)) (F.cmpArgs_ne _ _)
    (objNe_entry (A := A.in1) hu X I hs hf hcall)))
theorem ne_own {Q : Value → Shared → Prop} (hu : A.units + 1 < cLine) (X : K.In s.heap) (I : PySem.W.InstAt s.heap x ox C od) (hb : PySem.W.Looks (model prog w) s.heap (typeOf b) tb) (hn : PySem.W.notFirst K C tb = true)
    (hm : PySem.W.mroIn K C (.type "object") = some true) (hN : PySem.W.findIn K (.ref C) "__ne__" = some (some (.builtin "object.__ne__")))
    (hs : PySem.W.findIn K (.ref C) "__eq__" = some (some (.ref f))) (hf : PySem.W.isFn K (.ref f) = true)
    (hcall : wpAny (model prog w) A.in1 (call (.ref f) [.ref x, b]) (fun v s' => ∃ r, v = .bool r ∧ Q (.bool (!r)) s') E s) :
    wpAny (model prog w) A (richCompare .NotEq (.ref x) b) Q E s := by
  have one : wpAny (model prog w) A (tryCompare (.ref x) "__ne__" b) (fun r s' => ∃ v, r = some v ∧ Q v s') E s := by
    unfold tryCompare
    refine wpAny_bind (ifBound_objNe X I hN (call_objNe hu X I hm hs hf (wpAny_mono hcall (fun v s' hv => ?_) fun _ _ e => e)))
    obtain ⟨r, rfl, q⟩ := hv
    exact ⟨r, rfl, wpAny_pure ⟨_, rfl, q⟩⟩
  unfold richCompare
  simp only [oneThing_ref]
  refine wpAny_holding (wpAny_bind (wpAny_cRoomFor (Nat.lt_of_succ_lt hu) ?_))
  rw [cmpInfo_NotEq]
  dsimp only
  refine wpAny_bind (I.type.here (wpAny_bind (hb.here ?_)))
  split
  · rename_i q
    have e : PySem.W.subIn K tb (.ref C) = some false := by
      rcases Bool.or_eq_true_iff.mp hn with e | e
      · rw [beq_iff_eq.mp e] at q; simp at q
      · exact beq_iff_eq.mp e
    refine wpAny_bind ((PySem.W.looks_subIn X e).here ?_)
    simp only [Bool.false_eq_true, if_false]
    refine wpAny_bind (wpAny_mono one (fun r s' z => ?_) fun _ _ e => e)
    obtain ⟨v, rfl, hq⟩ := z
    exact wpAny_pure hq
  · refine wpAny_bind (wpAny_pure ?_)
    simp only [Bool.false_eq_true, if_false]
    refine wpAny_bind (wpAny_mono one (fun r s' z => ?_) fun _ _ e => e)
    obtain ⟨v, rfl, hq⟩ := z
    exact wpAny_pure hq
end
/-- what an own == asks and tells: x an instance of C, y of a type that does not go first, then the promise of __eq__ -/
def rOwn (K : PySem.W.Frag) (C : Addr) (sp : Sp) (E : XK) (g : Bool → Bool) : R2 := fun x y H Q => ∃ a dx fs t, x = .ref a ∧ H a = some (.ins C dx fs) ∧ TyX K H y t ∧ PySem.W.notFirst K C t = true ∧ sp [x, y] H (fun v H' => ∃ b, v = .bl b ∧ Q (.bl (g b)) H') E
section
variable {X : Cx} {CX : CXT} {n : Nat} {C f : Addr} {fd : FuncData} {ps : List Str} {sp : Sp} {E : XK}
theorem run_own (F : FnOk X.prog X.w X.K X.mg X.base CX n f fd ps sp) (hb : Binds X.K fd ps []) (hx : Passes CX X E) {A : Around} (hr : Room n A) (hfr : A.frames = X.A.frames) {pins : List (Addr × Obj)} {σ : L2.St} {H : Hp} {s : Shared} {x y : V} {u v : Value} {R : V → Hp → Prop}
    (I : Inv X pins σ H s) (rx : RelV x u) (ry : RelV y v) (hsp : sp [x, y] H R E) : wpAny (model X.prog X.w) A (call (.ref f) [u, v]) (EP X pins σ R) X.xe s := by
  have e0 : Env0 X.prog X.w X.K X.mg X.base A X.stack s H := by
    have e := I.env0
    exact ⟨by rw [hfr]; exact e.frames, e.mod, e.bs, e.bsz, e.funs, e.frf, e.hok, e.bare⟩
  have hl := F.len _ _ _ _ hsp
  have r2 : Vals [x, y] [u, v] := .cons rx (.cons ry .nil)
  refine wpAny_call (codeAny_mono (F.run A X.stack s H ⟨[u, v], []⟩ [u, v] [x, y] _ E hr e0 (by
    have := hb s [u, v] I.kIn (by simpa using hl)
    simpa using this) r2 hsp) fun r s' hq => ?_)
  cases r with
  | error e => exact hx pins σ H s e s' I hq
  | ok fl =>
    cases fl with
    | ret w => exact I.after hq
    | next => exact False.elim hq
    | brk => exact False.elim hq
    | cont => exact False.elim hq
theorem op_ownEq (F : FnOk X.prog X.w X.K X.mg X.base CX n f fd ps sp) (hs : PySem.W.findIn X.K (.ref C) "__eq__" = some (some (.ref f))) (hf : PySem.W.isFn X.K (.ref f) = true) (hb : Binds X.K fd ps []) (hx : Passes CX X E) (hr : Room n X.A) :
    OpR X (compareOp .Eq) (rOwn X.K C sp E id) := by
  intro pins s σ H x y v u Q I rx ry hq
  obtain ⟨a, dx, fs, t, rfl, ha, ty, hn, hsp⟩ := hq
  cases rx
  obtain ⟨mA, J, _⟩ := ins_get I.hok ha
  obtain ⟨od, J, _⟩ := J.look
  obtain ⟨m, hF⟩ := I.fr
  obtain ⟨P, Z, p, _⟩ := kit_of I ry ty
  show wpAny (model X.prog X.w) X.A (richCompare .Eq (.ref a) u) (EP X pins σ Q) X.xe s
  refine PySem.W.cmp_K (op := .Eq) (tb := t) hr.units0 hF I.ok.mod.kin J (Z.ty _ _ I.kIn p) hn hs hf ?_
  refine wpAny_mono (run_own (x := V.ref a) (u := Value.ref a) F hb hx hr rfl I rfl ry hsp) (fun r s' z => ?_) fun _ _ e => e
  obtain ⟨z1, H', I', rz, b, rfl, q⟩ := z
  cases rz
  exact ⟨.bl b, H', I', rfl, q⟩
theorem op_ownNe (F : FnOk X.prog X.w X.K X.mg X.base CX n f fd ps sp) (hs : PySem.W.findIn X.K (.ref C) "__eq__" = some (some (.ref f))) (hf : PySem.W.isFn X.K (.ref f) = true) (hN : PySem.W.findIn X.K (.ref C) "__ne__" = some (some (.builtin "object.__ne__")))
    (hm : PySem.W.mroIn X.K C (.type "object") = some true) (hb : Binds X.K fd ps []) (hx : Passes CX X E) (hr : Room (n + 1) X.A) :
    OpR X (compareOp .NotEq) (rOwn X.K C sp E not) := by
  intro pins s σ H x y v u Q I rx ry hq
  obtain ⟨a, dx, fs, t, rfl, ha, ty, hn, hsp⟩ := hq
  cases rx
  obtain ⟨mA, J, _⟩ := ins_get I.hok ha
  obtain ⟨od, J, _⟩ := J.look
  obtain ⟨P, Z, p, _⟩ := kit_of I ry ty
  show wpAny (model X.prog X.w) X.A (richCompare .NotEq (.ref a) u) (EP X pins σ Q) X.xe s
  refine ne_own (hu_of hr) I.kIn J (Z.ty _ _ I.kIn p) hn hm hN hs hf ?_
  refine wpAny_mono (run_own (x := V.ref a) (u := Value.ref a) F hb hx hr.in1 rfl I rfl ry hsp) (fun r s' z => ?_) fun _ _ e => e
  obtain ⟨z1, H', I', rz, b, rfl, q⟩ := z
  cases rz
  exact ⟨b, rfl, .bl (!b), H', I', rfl, q⟩
end
/-! ### powers of great numbers -/
section
variable {X : Cx}
def CPowW (i j : Int) : Prop := 0 ≤ j ∧ (Builtin.Int.intBits i : Int) * j ≤ 2 ^ 27
theorem op_powW : OpR X (binaryOp .Pow) (rI CPowW fun i j => .int (i ^ j.toNat)) := opI fun _ _ _ _ _ _ _ hc q => pow_int hc.1 hc.2 q
end
/-! ### f(k = v, ..) -/
section
variable {X : Cx} {CX : CXT} {k n : Nat} {f : Addr} {fd : FuncData} {ps ks : List Str} {sp : Sp} {E : XK} {x : Str} {p pos : Pos} {kws : List Keyword} {tk : TA} {g : List Value → List Value → List Value} {gV : List V → List V → List V}
theorem pe_callK0 (F : FnOk X.prog X.w X.K X.mg X.base CX k f fd ps sp) (hr : Room k X.A) (hg : Gl X x) (hm : X.mg x = some (.ref f)) (hk : PySem.W.keepIn X.K (.ref f) = true) (hb : KBn X.K fd ps 0 ks g gV) (hx : Passes CX X E) (hkw : PK X kws tk)
    (hall : (backToKw pos (keywordEach kws X.env)).all (·.1.isSome) = true := by rfl) (hks : (backToKw pos (keywordEach kws X.env)).filterMap (·.1) = ks := by rfl) (hdb : (x == ("__debug__" : Str)) = false := by decide)
    (hpl : ((backTo pos (starEach [] X.env)).any (·.1) || (backToKw pos (keywordEach kws X.env)).any (·.1.isNone)) = false := by rfl) :
    PE X (.Call (.Name x p) [] kws pos) (tCallN 0 ks.length sp gV E tNil tk) := by
  refine ⟨fun pins s σ H Q I h => ?_⟩
  refine wpAny_Call_Name_kw (ld_glob I hg hm ?_ hdb)
  refine PySem.W.callWith_KW0 (h₀ := X.base) I.ok.mod.kin hk hall ?_ hpl
  refine thn (hkw.run pos pins s σ H _ I h) fun ws s2 ⟨zs, H2, I2, rz, l1, l2, q2⟩ => ⟨I2.kIn, ?_⟩
  rw [hks]
  exact run_fnN (us := []) (vs := []) F hr hb hx I2 .nil rz rfl l2 q2
end
section
variable {K : PySem.W.Frag}
/-- how a call by names binds (no defaults): g puts the values in the parameters' order -/
theorem Fun_kbn {x qual : Str} {st : Stmt} {f : Addr} {fd : FuncData} {ps : List Str} (F : Fun K x qual st f fd) (n : Nat) (ks : List Str) (g : {α : Type} → List α → List α → List α)
    (hrel : ∀ {vs zs : List V} {us ws : List Value}, Vals vs us → Vals zs ws → Vals (g vs zs) (g us ws))
    (h : ∀ (kV doc pm : Value) (an : Option Addr) (cdv ct : Value) (us ws : List Value), us.length = n → ws.length = ks.length → bindArgs (PySem.W.fnOf x qual (defArgs st) (defBody st) (defScope st) .none kV doc pm an cdv ct) ⟨us, ks.zip ws⟩ = pure (ps.zip (g us ws))) :
    KBn K fd ps n ks (fun us ws => g us ws) (fun vs zs => g vs zs) := by
  obtain ⟨oc, od, kV, doc, pm, an, cdv, ct, osl, rfl, lk, hcd⟩ := F.ex
  exact ⟨fun s us ws _ l1 l2 => .of_eq (h kV doc pm an cdv ct us ws l1 l2), fun r1 r2 => hrel r1 r2⟩
end
end Lay
set_option Elab.async false
set_option linter.all false
set_option maxRecDepth 100000
set_option maxHeartbeats 2000000
/-! A layer of data: what a def does, told by a plain function over data (D) and a state of draws (DS). -/
namespace DL
open PySem L2
/-! ### data, draws, slots -/
inductive D where
  | non
  | bl (b : Bool)
  | int (i : Int)
  | str (x : Str)
  | lst (xs : List D)
  | tup (xs : List D)
  | dic (ks : List Str) (xs : List D)
  | drw
structure DS where
  n : Int
  k : Nat
  b : Bool
abbrev M (α : Type) := DS → Option (α × DS)
inductive Sl where
  | no
  | val (d : D)
  | own (d : D)
abbrev En := List Sl
abbrev Av := Addr → Prop
/-! ### heaps -/
def Kp (av : Av) (H H' : Hp) : Prop := ∀ a o, ¬ av a → H a = some o → H' a = some o
def Lv (H H' : Hp) : Prop := ∀ a, H a ≠ none → H' a ≠ none
theorem Kp.refl {av : Av} {H : Hp} : Kp av H H := fun _ _ _ h => h
theorem Kp.trans {av : Av} {H H1 H2 : Hp} (a : Kp av H H1) (b : Kp av H1 H2) : Kp av H H2 := fun x o n h => b x o n (a x o n h)
theorem Kp.mono {av av2 : Av} {H H' : Hp} (k : Kp av H H') (h : ∀ a, av a → av2 a) : Kp av2 H H' := fun a o n e => k a o (fun z => n (h a z)) e
theorem same_upd {H : Hp} {p : Addr} {o : HO} (h : H p = none) : Same H (upd H p o) := fun b x e => by
  rw [upd_ne (ne_of_none e h)]
  exact e
theorem Kp.of {av : Av} {H H' : Hp} (s : Same H H') : Kp av H H' := fun a o _ h => s a o h
theorem Kp.new {av : Av} {H : Hp} {p : Addr} {o : HO} (h : H p = none) : Kp av H (upd H p o) := .of (same_upd h)
theorem Kp.upd {av : Av} {H : Hp} {p : Addr} {o : HO} (h : av p) : Kp av H (upd H p o) := fun a u n e => by
  rw [upd_ne (fun z => n (by rw [z]; exact h))]
  exact e
theorem Lv.refl {H : Hp} : Lv H H := fun _ h => h
theorem Lv.trans {H H1 H2 : Hp} (a : Lv H H1) (b : Lv H1 H2) : Lv H H2 := fun x h => b x (a x h)
theorem Lv.upd {H : Hp} {p : Addr} {o : HO} : Lv H (upd H p o) := fun a h => by
  by_cases e : a = p
  · subst e
    rw [upd_same]
    simp
  · rw [upd_ne e]
    exact h
/-- as it was but for dr; dr still there -/
structure Go (dr : Addr) (H H' : Hp) : Prop where
  kp : Kp (· = dr) H H'
  lv : Lv H H'
theorem Go.refl {dr : Addr} {H : Hp} : Go dr H H := ⟨.refl, .refl⟩
theorem Go.trans {dr : Addr} {H H1 H2 : Hp} (a : Go dr H H1) (b : Go dr H1 H2) : Go dr H H2 := ⟨a.kp.trans b.kp, a.lv.trans b.lv⟩
theorem Go.new {dr : Addr} {H : Hp} {p : Addr} {o : HO} (h : H p = none) : Go dr H (upd H p o) := ⟨.new h, .upd⟩
def Dr (H : Hp) (dr : Addr) (s : DS) : Prop := H dr = some (.lst [.int s.n, .int (s.k : Int), .bl s.b])
theorem Dr.new {H : Hp} {dr p : Addr} {s : DS} {o : HO} (h : Dr H dr s) (n : H p = none) : Dr (upd H p o) dr s := same_upd n _ _ h
theorem Dr.ne {H : Hp} {dr p : Addr} {s : DS} (h : Dr H dr s) (n : H p = none) : p ≠ dr := fun e => by
  unfold Dr at h
  rw [← e, n] at h
  cases h
/-! ### what represents what -/
def WrT (K : PySem.W.Frag) (a : Addr) (xs : List V) : Prop := ∃ (o : Obj) (its : Array Value) (n : Nat), K.lookup a = some o ∧ o.cls = .type "tuple" ∧ o.data = .seq its n ∧ its.size ≤ sizeLine ∧ Vals xs its.toList
def TupAt (K : PySem.W.Frag) (H : Hp) (av : Av) (a : Addr) (xs : List V) : Prop := (¬ av a ∧ H a = some (.tup xs)) ∨ WrT K a xs
def zipK (ks : List Str) (vs : List V) : List (Key × V) := List.zipWith (fun k v => (Sum.inr k, v)) ks vs
mutual
inductive Rep (K : PySem.W.Frag) (H : Hp) (av : Av) (dr : Addr) : V → D → Prop
  | non : Rep K H av dr .non .non
  | bl (b : Bool) : Rep K H av dr (.bl b) (.bl b)
  | int (i : Int) : Rep K H av dr (.int i) (.int i)
  | str (x : Str) : Rep K H av dr (.str x) (.str x)
  | lst {a : Addr} {vs : List V} {ds : List D} : ¬ av a → H a = some (.lst vs) → RepAll K H av dr vs ds → Rep K H av dr (.ref a) (.lst ds)
  | tup {a : Addr} {vs : List V} {ds : List D} : TupAt K H av a vs → RepAll K H av dr vs ds → Rep K H av dr (.ref a) (.tup ds)
  | dic {a : Addr} {ks : List Str} {vs : List V} {ds : List D} : ¬ av a → H a = some (.dK (zipK ks vs)) → ks.length = ds.length → RepAll K H av dr vs ds → Rep K H av dr (.ref a) (.dic ks ds)
  | drw : Rep K H av dr (.ref dr) .drw
inductive RepAll (K : PySem.W.Frag) (H : Hp) (av : Av) (dr : Addr) : List V → List D → Prop
  | nil : RepAll K H av dr [] []
  | cons {v : V} {vs : List V} {d : D} {ds : List D} : Rep K H av dr v d → RepAll K H av dr vs ds → RepAll K H av dr (v :: vs) (d :: ds)
end
section
variable {K : PySem.W.Frag} {H H' : Hp} {av av2 : Av} {dr : Addr}
theorem TupAt.sq {a : Addr} {xs : List V} (h : TupAt K H av a xs) : SqT K H a xs := by
  rcases h with ⟨_, h⟩ | h
  · exact .inl (.inl h)
  · exact .inr h
theorem TupAt.kp {a : Addr} {xs : List V} (k : Kp av H H') (h : TupAt K H av a xs) : TupAt K H' av a xs := by
  rcases h with ⟨n, h⟩ | h
  · exact .inl ⟨n, k _ _ n h⟩
  · exact .inr h
theorem TupAt.wd {a : Addr} {xs : List V} (f : ∀ a, av2 a → av a ∨ H a = none) (h : TupAt K H av a xs) : TupAt K H av2 a xs := by
  rcases h with ⟨n, h⟩ | h
  · refine .inl ⟨fun z => ?_, h⟩
    rcases f a z with z | z
    · exact n z
    · rw [z] at h
      cases h
  · exact .inr h
mutual
theorem Rep.kp' (k : Kp av H H') : ∀ (d : D) (v : V), Rep K H av dr v d → Rep K H' av dr v d
  | .non, _, h => by cases h; exact .non
  | .bl b, _, h => by cases h; exact .bl b
  | .int i, _, h => by cases h; exact .int i
  | .str x, _, h => by cases h; exact .str x
  | .drw, _, h => by cases h; exact .drw
  | .lst ds, _, h => by
    cases h with
    | lst n s r => exact .lst n (k _ _ n s) (RepAll.kp' k ds _ r)
  | .tup ds, _, h => by
    cases h with
    | tup t r => exact .tup (t.kp k) (RepAll.kp' k ds _ r)
  | .dic ks ds, _, h => by
    cases h with
    | dic n s l r => exact .dic n (k _ _ n s) l (RepAll.kp' k ds _ r)
theorem RepAll.kp' (k : Kp av H H') : ∀ (ds : List D) (vs : List V), RepAll K H av dr vs ds → RepAll K H' av dr vs ds
  | [], _, h => by cases h; exact .nil
  | d :: ds, _, h => by
    cases h with
    | cons a r => exact .cons (Rep.kp' k d _ a) (RepAll.kp' k ds _ r)
end
theorem Rep.kp {v : V} {d : D} (h : Rep K H av dr v d) (k : Kp av H H') : Rep K H' av dr v d := Rep.kp' k d v h
theorem RepAll.kp {vs : List V} {ds : List D} (h : RepAll K H av dr vs ds) (k : Kp av H H') : RepAll K H' av dr vs ds := RepAll.kp' k ds vs h
mutual
theorem Rep.wd' (f : ∀ a, av2 a → av a ∨ H a = none) : ∀ (d : D) (v : V), Rep K H av dr v d → Rep K H av2 dr v d
  | .non, _, h => by cases h; exact .non
  | .bl b, _, h => by cases h; exact .bl b
  | .int i, _, h => by cases h; exact .int i
  | .str x, _, h => by cases h; exact .str x
  | .drw, _, h => by cases h; exact .drw
  | .lst ds, _, h => by
    cases h with
    | lst n s r =>
      refine .lst (fun z => ?_) s (RepAll.wd' f ds _ r)
      rcases f _ z with z | z
      · exact n z
      · rw [z] at s
        cases s
  | .tup ds, _, h => by
    cases h with
    | tup t r => exact .tup (t.wd f) (RepAll.wd' f ds _ r)
  | .dic ks ds, _, h => by
    cases h with
    | dic n s l r =>
      refine .dic (fun z => ?_) s l (RepAll.wd' f ds _ r)
      rcases f _ z with z | z
      · exact n z
      · rw [z] at s
        cases s
theorem RepAll.wd' (f : ∀ a, av2 a → av a ∨ H a = none) : ∀ (ds : List D) (vs : List V), RepAll K H av dr vs ds → RepAll K H av2 dr vs ds
  | [], _, h => by cases h; exact .nil
  | d :: ds, _, h => by
    cases h with
    | cons a r => exact .cons (Rep.wd' f d _ a) (RepAll.wd' f ds _ r)
end
theorem Rep.wd {v : V} {d : D} (h : Rep K H av dr v d) (f : ∀ a, av2 a → av a ∨ H a = none) : Rep K H av2 dr v d := Rep.wd' f d v h
theorem RepAll.wd {vs : List V} {ds : List D} (h : RepAll K H av dr vs ds) (f : ∀ a, av2 a → av a ∨ H a = none) : RepAll K H av2 dr vs ds := RepAll.wd' f ds vs h
theorem RepAll.len : ∀ {vs : List V} {ds : List D}, RepAll K H av dr vs ds → vs.length = ds.length
  | _, [], h => by cases h; rfl
  | _, d :: ds, h => by
    cases h with
    | cons a r => simp [RepAll.len r]
theorem RepAll.get : ∀ {vs : List V} {ds : List D} {i : Nat} {d : D}, RepAll K H av dr vs ds → ds[i]? = some d → ∃ v, vs[i]? = some v ∧ Rep K H av dr v d
  | _, [], i, d, h, e => by simp at e
  | _, d0 :: ds, 0, d, h, e => by
    cases h with
    | cons a r =>
      simp at e
      subst e
      exact ⟨_, rfl, a⟩
  | _, d0 :: ds, i + 1, d, h, e => by
    cases h with
    | cons a r =>
      simp at e
      obtain ⟨v, h1, h2⟩ := RepAll.get r e
      exact ⟨v, by simpa using h1, h2⟩
theorem RepAll.getV : ∀ {vs : List V} {ds : List D} {i : Nat} {v : V}, RepAll K H av dr vs ds → vs[i]? = some v → ∃ d, ds[i]? = some d ∧ Rep K H av dr v d
  | _, [], i, v, h, e => by cases h; simp at e
  | _, d0 :: ds, 0, v, h, e => by
    cases h with
    | cons a r =>
      simp at e
      subst e
      exact ⟨_, rfl, a⟩
  | _, d0 :: ds, i + 1, v, h, e => by
    cases h with
    | cons a r =>
      simp at e
      obtain ⟨d, h1, h2⟩ := RepAll.getV r e
      exact ⟨d, by simpa using h1, h2⟩
theorem RepAll.append : ∀ {vs ws : List V} {ds es : List D}, RepAll K H av dr vs ds → RepAll K H av dr ws es → RepAll K H av dr (vs ++ ws) (ds ++ es)
  | _, _, [], _, h, h2 => by cases h; exact h2
  | _, _, d :: ds, _, h, h2 => by
    cases h with
    | cons a r => exact .cons a (RepAll.append r h2)
theorem RepAll.snoc {vs : List V} {v : V} {ds : List D} {d : D} (h : RepAll K H av dr vs ds) (r : Rep K H av dr v d) : RepAll K H av dr (vs ++ [v]) (ds ++ [d]) := h.append (.cons r .nil)
theorem RepAll.drop : ∀ {vs : List V} {ds : List D} (n : Nat), RepAll K H av dr vs ds → RepAll K H av dr (vs.drop n) (ds.drop n)
  | _, _, 0, h => h
  | _, [], n + 1, h => by cases h; exact .nil
  | _, d :: ds, n + 1, h => by
    cases h with
    | cons a r => exact RepAll.drop n r
theorem RepAll.take : ∀ {vs : List V} {ds : List D} (n : Nat), RepAll K H av dr vs ds → RepAll K H av dr (vs.take n) (ds.take n)
  | _, _, 0, h => by simp; exact .nil
  | _, [], n + 1, h => by cases h; exact .nil
  | _, d :: ds, n + 1, h => by
    cases h with
    | cons a r => exact .cons a (RepAll.take n r)
theorem RepAll.set : ∀ {vs : List V} {ds : List D} {v : V} {d : D} (n : Nat), RepAll K H av dr vs ds → Rep K H av dr v d → RepAll K H av dr (vs.set n v) (ds.set n d)
  | _, [], _, _, n, h, _ => by cases h; exact .nil
  | _, d :: ds, _, _, 0, h, r0 => by
    cases h with
    | cons a r => exact .cons r0 r
  | _, d :: ds, _, _, n + 1, h, r0 => by
    cases h with
    | cons a r => exact .cons a (RepAll.set n r r0)
theorem Rep.int_eq {v : V} {i : Int} (h : Rep K H av dr v (.int i)) : v = .int i := by cases h; rfl
theorem Rep.str_eq {v : V} {x : Str} (h : Rep K H av dr v (.str x)) : v = .str x := by cases h; rfl
theorem Rep.bl_eq {v : V} {b : Bool} (h : Rep K H av dr v (.bl b)) : v = .bl b := by cases h; rfl
theorem Rep.non_eq {v : V} (h : Rep K H av dr v .non) : v = .non := by cases h; rfl
theorem Rep.drw_eq {v : V} (h : Rep K H av dr v .drw) : v = .ref dr := by cases h; rfl
theorem Rep.lst_at {v : V} {ds : List D} (h : Rep K H av dr v (.lst ds)) : ∃ a vs, v = .ref a ∧ ¬ av a ∧ H a = some (.lst vs) ∧ RepAll K H av dr vs ds := by
  cases h with
  | lst n s r => exact ⟨_, _, rfl, n, s, r⟩
theorem Rep.tup_at {v : V} {ds : List D} (h : Rep K H av dr v (.tup ds)) : ∃ a vs, v = .ref a ∧ TupAt K H av a vs ∧ RepAll K H av dr vs ds := by
  cases h with
  | tup t r => exact ⟨_, _, rfl, t, r⟩
theorem Rep.dic_at {v : V} {ks : List Str} {ds : List D} (h : Rep K H av dr v (.dic ks ds)) : ∃ a vs, v = .ref a ∧ ¬ av a ∧ H a = some (.dK (zipK ks vs)) ∧ ks.length = ds.length ∧ RepAll K H av dr vs ds := by
  cases h with
  | dic n s l r => exact ⟨_, _, rfl, n, s, l, r⟩
end
/-! ### plain data of D -/
mutual
def toP : D → Option PyData
  | .non => some .none
  | .bl b => some (.bool b)
  | .int i => some (.int i)
  | .str x => some (.str x)
  | .lst xs => (toPs xs).map .list
  | .tup xs => (toPs xs).map .tuple
  | .dic _ _ => none
  | .drw => none
def toPs : List D → Option (List PyData)
  | [] => some []
  | x :: xs => (toP x).bind fun a => (toPs xs).map fun r => a :: r
end
section
variable {K : PySem.W.Frag} {H : Hp} {av : Av} {dr : Addr}
mutual
theorem Rep.dp' : ∀ (d : D) (v : V) (p : PyData), Rep K H av dr v d → toP d = some p → Dp K H v p
  | .non, _, p, h, e => by cases h; simp [toP] at e; subst e; exact .non
  | .bl b, _, p, h, e => by cases h; simp [toP] at e; subst e; exact .bl b
  | .int b, _, p, h, e => by cases h; simp [toP] at e; subst e; exact .int b
  | .str b, _, p, h, e => by cases h; simp [toP] at e; subst e; exact .str b
  | .dic _ _, _, p, h, e => by simp [toP] at e
  | .drw, _, p, h, e => by simp [toP] at e
  | .lst ds, _, p, h, e => by
    cases h with
    | lst n s r =>
      simp only [toP, Option.map_eq_some_iff] at e
      obtain ⟨ps, e, rfl⟩ := e
      exact .lst (.inl (.inl s)) (RepAll.dp' ds _ ps r e)
  | .tup ds, _, p, h, e => by
    cases h with
    | tup t r =>
      simp only [toP, Option.map_eq_some_iff] at e
      obtain ⟨ps, e, rfl⟩ := e
      exact .tup t.sq (RepAll.dp' ds _ ps r e)
theorem RepAll.dp' : ∀ (ds : List D) (vs : List V) (ps : List PyData), RepAll K H av dr vs ds → toPs ds = some ps → DpAll K H vs ps
  | [], _, ps, h, e => by cases h; simp [toPs] at e; subst e; exact .nil
  | d :: ds, _, ps, h, e => by
    cases h with
    | cons a r =>
      simp only [toPs, Option.bind_eq_some_iff, Option.map_eq_some_iff] at e
      obtain ⟨p, e1, qs, e2, rfl⟩ := e
      exact .cons (Rep.dp' d _ p a e1) (RepAll.dp' ds _ qs r e2)
end
theorem Rep.dp {v : V} {d : D} {p : PyData} (h : Rep K H av dr v d) (e : toP d = some p) : Dp K H v p := Rep.dp' d v p h e
end
end DL
set_option Elab.async false
set_option linter.all false
set_option maxRecDepth 100000
set_option maxHeartbeats 2000000
namespace DL
open PySem L2
/-! ### where one stands -/
structure OkE (K : PySem.W.Frag) (av : Av) (dr : Addr) (σ : L2.St) (ρ : En) (s : DS) (H : Hp) : Prop where
  len : σ.length = ρ.length
  drw : Dr H dr s
  ad : av dr
  al : ∀ a, av a → H a ≠ none
  val : ∀ (i : Nat) (d : D), ρ[i]? = some (Sl.val d) → ∃ v, σ[i]? = some (some v) ∧ Rep K H av dr v d
theorem Kp.dr {av : Av} {dr : Addr} {H H' : Hp} (h : Kp (· = dr) H H') (ad : av dr) : Kp av H H' := h.mono fun a e => by rw [e]; exact ad
theorem OkE.step {K : PySem.W.Frag} {av : Av} {dr : Addr} {σ : L2.St} {ρ : En} {s s' : DS} {H H' : Hp} (o : OkE K av dr σ ρ s H) (g : Go dr H H') (d : Dr H' dr s') : OkE K av dr σ ρ s' H' :=
  ⟨o.len, d, o.ad, fun a z => g.lv a (o.al a z), fun i x e => let ⟨v, h1, h2⟩ := o.val i x e; ⟨v, h1, h2.kp (g.kp.dr o.ad)⟩⟩
/-! ### what a reading computes -/
def SE (K : PySem.W.Frag) (t : TE) (m : En → M D) : Prop := ∀ av dr σ ρ s H d s' (Q : VK), OkE K av dr σ ρ s H → m ρ s = some (d, s') → (∀ v H', Go dr H H' → Dr H' dr s' → Rep K H' av dr v d → Q v H') → t σ H Q
def SA (K : PySem.W.Frag) (t : TA) (m : En → M (List D)) : Prop := ∀ av dr σ ρ s H ds s' (Q : List V → Hp → Prop), OkE K av dr σ ρ s H → m ρ s = some (ds, s') → (∀ vs H', Go dr H H' → Dr H' dr s' → RepAll K H' av dr vs ds → Q vs H') → t σ H Q
def ST (K : PySem.W.Frag) (t : TT) (m : En → M Bool) : Prop := ∀ av dr σ ρ s H b s' (Q : Bool → Hp → Prop), OkE K av dr σ ρ s H → m ρ s = some (b, s') → (∀ H', Go dr H H' → Dr H' dr s' → Q b H') → t σ H Q
def SO (K : PySem.W.Frag) (t : TO) (m : En → M (Option Int)) : Prop := ∀ av dr σ ρ s H b s' (Q : Option Int → Hp → Prop), OkE K av dr σ ρ s H → m ρ s = some (b, s') → (∀ H', Go dr H H' → Dr H' dr s' → Q b H') → t σ H Q
/-! ### the plain functions -/
def eVar (i : Nat) : En → M D := fun ρ s => match ρ[i]? with
  | some (Sl.val d) => some (d, s)
  | _ => none
def eC (d : D) : En → M D := fun _ s => some (d, s)
def eOp (f : D → D → Option D) (a b : En → M D) : En → M D := fun ρ s => (a ρ s).bind fun x => (b ρ x.2).bind fun y => (f x.1 y.1).map fun z => (z, y.2)
def eUn (f : D → Option D) (a : En → M D) : En → M D := fun ρ s => (a ρ s).bind fun x => (f x.1).map fun z => (z, x.2)
def aNil : En → M (List D) := fun _ s => some ([], s)
def aCons (a : En → M D) (b : En → M (List D)) : En → M (List D) := fun ρ s => (a ρ s).bind fun x => (b ρ x.2).map fun y => (x.1 :: y.1, y.2)
def line : Nat := 100000
def eTup (a : En → M (List D)) : En → M D := fun ρ s => (a ρ s).bind fun x => if x.1.length ≤ line then some (.tup x.1, x.2) else none
def eLst (a : En → M (List D)) : En → M D := fun ρ s => (a ρ s).bind fun x => if x.1.length ≤ line then some (.lst x.1, x.2) else none
def eCB (f : List D → Option D) (a : En → M (List D)) : En → M D := fun ρ s => (a ρ s).bind fun x => (f x.1).map fun z => (z, x.2)
def eIf (c : En → M Bool) (a b : En → M D) : En → M D := fun ρ s => (c ρ s).bind fun x => if x.1 = true then a ρ x.2 else b ρ x.2
def eCall (F : List D → M D) (a : En → M (List D)) : En → M D := fun ρ s => (a ρ s).bind fun x => F x.1 x.2
def tB' (a : En → M D) : En → M Bool := fun ρ s => (a ρ s).bind fun x => match x.1 with
  | .bl b => some (b, x.2)
  | _ => none
def tAnd' (a b : En → M Bool) : En → M Bool := fun ρ s => (a ρ s).bind fun x => if x.1 = true then b ρ x.2 else some (false, x.2)
def tOr' (a b : En → M Bool) : En → M Bool := fun ρ s => (a ρ s).bind fun x => if x.1 = true then some (true, x.2) else b ρ x.2
def tNot' (a : En → M Bool) : En → M Bool := fun ρ s => (a ρ s).map fun x => (!x.1, x.2)
def tYes' : En → M Bool := fun _ s => some (true, s)
def eAnd (a b : En → M D) : En → M D := fun ρ s => (a ρ s).bind fun x => match x.1 with
  | .bl true => b ρ x.2
  | .bl false => some (.bl false, x.2)
  | _ => none
def eOr (a b : En → M D) : En → M D := fun ρ s => (a ρ s).bind fun x => match x.1 with
  | .bl true => some (.bl true, x.2)
  | .bl false => b ρ x.2
  | _ => none
def oNone : En → M (Option Int) := fun _ s => some (none, s)
def oSome (a : En → M D) : En → M (Option Int) := fun ρ s => (a ρ s).bind fun x => match x.1 with
  | .int i => some (some i, x.2)
  | _ => none
def eSl (f : D → Option Int → Option Int → Option D) (a : En → M D) (l u : En → M (Option Int)) : En → M D := fun ρ s => (a ρ s).bind fun x => (l ρ x.2).bind fun y => (u ρ y.2).bind fun z => (f x.1 y.1 z.1).map fun w => (w, z.2)
/-! ### the rules by values -/
/-- what an operation needs of its surroundings -/
structure At (K : PySem.W.Frag) (av : Av) (dr : Addr) (s : DS) (H : Hp) : Prop where
  drw : Dr H dr s
  ad : av dr
  al : ∀ a, av a → H a ≠ none
theorem OkE.at_ {K : PySem.W.Frag} {av : Av} {dr : Addr} {σ : L2.St} {ρ : En} {s : DS} {H : Hp} (o : OkE K av dr σ ρ s H) : At K av dr s H := ⟨o.drw, o.ad, o.al⟩
theorem At.fresh {K : PySem.W.Frag} {av : Av} {dr p : Addr} {s : DS} {H : Hp} (o : At K av dr s H) (h : H p = none) : ¬ av p := fun z => o.al p z h
def Done (K : PySem.W.Frag) (av : Av) (dr : Addr) (s : DS) (H : Hp) (d : D) (Q : VK) : Prop := ∀ v H', Go dr H H' → Dr H' dr s → Rep K H' av dr v d → Q v H'
theorem Done.pure {K : PySem.W.Frag} {av : Av} {dr : Addr} {s : DS} {H : Hp} {d : D} {Q : VK} {v : V} (h : Done K av dr s H d Q) (a : At K av dr s H) (r : Rep K H av dr v d) : Q v H := h v H .refl a.drw r
def OpS (K : PySem.W.Frag) (r : R2) (f : D → D → Option D) : Prop := ∀ av dr s H x y a b c Q, At K av dr s H → Rep K H av dr x a → Rep K H av dr y b → f a b = some c → Done K av dr s H c Q → r x y H Q
def CbS (K : PySem.W.Frag) (r : List V → Hp → VK → Prop) (f : List D → Option D) : Prop := ∀ av dr s H vs ds c Q, At K av dr s H → RepAll K H av dr vs ds → f ds = some c → Done K av dr s H c Q → r vs H Q
def SlS (K : PySem.W.Frag) (r : V → Option Int → Option Int → Hp → VK → Prop) (f : D → Option Int → Option Int → Option D) : Prop := ∀ av dr s H x a l u c Q, At K av dr s H → Rep K H av dr x a → f a l u = some c → Done K av dr s H c Q → r x l u H Q
section
variable {K : PySem.W.Frag} {ta tb te : TE} {ma mb me : En → M D} {t u : TT} {mt mu : En → M Bool} {ts : TA} {ms : En → M (List D)}
theorem bindE {α β : Type} {x : Option α} {f : α → Option β} {z : β} (h : x.bind f = some z) : ∃ y, x = some y ∧ f y = some z := Option.bind_eq_some_iff.mp h
theorem mapE {α β : Type} {x : Option α} {f : α → β} {z : β} (h : x.map f = some z) : ∃ y, x = some y ∧ f y = z := Option.map_eq_some_iff.mp h
theorem se_var {i : Nat} : SE K (tVar i) (eVar i) := by
  intro av dr σ ρ s H d s' Q o e q
  unfold eVar at e
  split at e
  · rename_i d' hd
    cases e
    obtain ⟨v, h1, h2⟩ := o.val i _ hd
    exact ⟨v, h1, q v H .refl o.drw h2⟩
  · cases e
theorem se_int {i : Int} : SE K (tC (.int i)) (eC (.int i)) := fun av dr σ ρ s H d s' Q o e q => by
  cases e
  exact q _ H .refl o.drw (.int i)
theorem se_str {i : Str} : SE K (tC (.str i)) (eC (.str i)) := fun av dr σ ρ s H d s' Q o e q => by
  cases e
  exact q _ H .refl o.drw (.str i)
theorem se_bl {i : Bool} : SE K (tC (.bl i)) (eC (.bl i)) := fun av dr σ ρ s H d s' Q o e q => by
  cases e
  exact q _ H .refl o.drw (.bl i)
theorem se_non : SE K (tC .non) (eC .non) := fun av dr σ ρ s H d s' Q o e q => by
  cases e
  exact q _ H .refl o.drw .non
theorem se_op {r : R2} {f : D → D → Option D} (hr : OpS K r f) (ha : SE K ta ma) (hb : SE K tb mb) : SE K (tOp r ta tb) (eOp f ma mb) := by
  intro av dr σ ρ s H d s' Q o e q
  obtain ⟨⟨x, s1⟩, e1, e⟩ := bindE e
  obtain ⟨⟨y, s2⟩, e2, e⟩ := bindE e
  obtain ⟨z, e3, e4⟩ := mapE e
  cases e4
  refine ha av dr σ ρ s H x s1 _ o e1 fun v H1 g1 d1 r1 => ?_
  have o1 := o.step g1 d1
  refine hb av dr σ ρ s1 H1 y s2 _ o1 e2 fun w H2 g2 d2 r2 => ?_
  exact hr av dr s2 H2 v w x y _ Q (o1.step g2 d2).at_ (r1.kp (g2.kp.dr o.ad)) r2 e3 fun v' H' g' d' r' => q v' H' ((g1.trans g2).trans g') d' r'
theorem se_un {r : V → Hp → VK → Prop} {f : D → Option D} (hr : ∀ av dr s H x a c Q, At K av dr s H → Rep K H av dr x a → f a = some c → Done K av dr s H c Q → r x H Q) (ha : SE K ta ma) : SE K (tUn r ta) (eUn f ma) := by
  intro av dr σ ρ s H d s' Q o e q
  obtain ⟨⟨x, s1⟩, e1, e⟩ := bindE e
  obtain ⟨z, e3, e4⟩ := mapE e
  cases e4
  refine ha av dr σ ρ s H x s1 _ o e1 fun v H1 g1 d1 r1 => ?_
  exact hr av dr s1 H1 v x _ Q (o.step g1 d1).at_ r1 e3 fun v' H' g' d' r' => q v' H' (g1.trans g') d' r'
theorem sa_nil : SA K tNil aNil := fun av dr σ ρ s H d s' Q o e q => by
  cases e
  exact q _ H .refl o.drw .nil
theorem sa_cons (ha : SE K ta ma) (hs : SA K ts ms) : SA K (tCons ta ts) (aCons ma ms) := by
  intro av dr σ ρ s H d s' Q o e q
  obtain ⟨⟨x, s1⟩, e1, e⟩ := bindE e
  obtain ⟨⟨y, s2⟩, e2, e3⟩ := mapE e
  cases e3
  refine ha av dr σ ρ s H x s1 _ o e1 fun v H1 g1 d1 r1 => ?_
  have o1 := o.step g1 d1
  exact hs av dr σ ρ s1 H1 y s2 _ o1 e2 fun w H2 g2 d2 r2 => q _ H2 (g1.trans g2) d2 (.cons (r1.kp (g2.kp.dr o.ad)) r2)
theorem line_le {n : Nat} (h : n ≤ line) : n ≤ sizeLine := Nat.le_trans h (by decide)
theorem line_lt {n : Nat} (h : n ≤ line) : n < sizeLine := Nat.lt_of_le_of_lt h (by decide)
theorem Rep.newT {H : Hp} {av : Av} {dr p : Addr} {s : DS} {vs : List V} {ds : List D} (a : At K av dr s H) (h : H p = none) (r : RepAll K H av dr vs ds) : Rep K (upd H p (.tup vs)) av dr (.ref p) (.tup ds) := .tup (.inl ⟨a.fresh h, upd_same⟩) (r.kp (.new h))
theorem Rep.newL {H : Hp} {av : Av} {dr p : Addr} {s : DS} {vs : List V} {ds : List D} (a : At K av dr s H) (h : H p = none) (r : RepAll K H av dr vs ds) : Rep K (upd H p (.lst vs)) av dr (.ref p) (.lst ds) := .lst (a.fresh h) upd_same (r.kp (.new h))
theorem Done.newT {av : Av} {dr p : Addr} {s : DS} {H : Hp} {vs : List V} {ds : List D} {Q : VK} (q : Done K av dr s H (.tup ds) Q) (a : At K av dr s H) (h : H p = none) (r : RepAll K H av dr vs ds) : Q (.ref p) (upd H p (.tup vs)) := q _ _ (.new h) (a.drw.new h) (.newT a h r)
theorem Done.newL {av : Av} {dr p : Addr} {s : DS} {H : Hp} {vs : List V} {ds : List D} {Q : VK} (q : Done K av dr s H (.lst ds) Q) (a : At K av dr s H) (h : H p = none) (r : RepAll K H av dr vs ds) : Q (.ref p) (upd H p (.lst vs)) := q _ _ (.new h) (a.drw.new h) (.newL a h r)
theorem se_tup (hs : SA K ts ms) : SE K (tTup ts) (eTup ms) := by
  intro av dr σ ρ s H d s' Q o e q
  obtain ⟨⟨x, s1⟩, e1, e⟩ := bindE e
  split at e
  · rename_i hl
    cases e
    refine hs av dr σ ρ s H x _ _ o e1 fun vs H1 g1 d1 r1 => ⟨line_le (by rw [r1.len]; exact hl), fun p hp => ?_⟩
    exact Done.newT (K := K) (av := av) (dr := dr) (s := s1) (fun v H' g d r => q v H' (g1.trans g) d r) (o.step g1 d1).at_ hp r1
  · cases e
theorem se_lst (hs : SA K ts ms) : SE K (tLst ts) (eLst ms) := by
  intro av dr σ ρ s H d s' Q o e q
  obtain ⟨⟨x, s1⟩, e1, e⟩ := bindE e
  split at e
  · rename_i hl
    cases e
    refine hs av dr σ ρ s H x _ _ o e1 fun vs H1 g1 d1 r1 => ⟨line_le (by rw [r1.len]; exact hl), fun p hp => ?_⟩
    exact Done.newL (K := K) (av := av) (dr := dr) (s := s1) (fun v H' g d r => q v H' (g1.trans g) d r) (o.step g1 d1).at_ hp r1
  · cases e
theorem se_cb {r : List V → Hp → VK → Prop} {f : List D → Option D} (hr : CbS K r f) (hs : SA K ts ms) : SE K (tCB r ts) (eCB f ms) := by
  intro av dr σ ρ s H d s' Q o e q
  obtain ⟨⟨x, s1⟩, e1, e⟩ := bindE e
  obtain ⟨z, e2, e3⟩ := mapE e
  cases e3
  refine hs av dr σ ρ s H x s1 _ o e1 fun vs H1 g1 d1 r1 => ?_
  exact hr av dr s1 H1 vs x _ Q (o.step g1 d1).at_ r1 e2 fun v' H' g' d' r' => q v' H' (g1.trans g') d' r'
theorem se_if (hc : ST K t mt) (ha : SE K ta ma) (hb : SE K tb mb) : SE K (tIf t ta tb) (eIf mt ma mb) := by
  intro av dr σ ρ s H d s' Q o e q
  obtain ⟨⟨b, s1⟩, e1, e⟩ := bindE e
  refine hc av dr σ ρ s H b s1 _ o e1 fun H1 g1 d1 => ?_
  have o1 := o.step g1 d1
  cases b with
  | true =>
    rw [if_pos rfl] at e ⊢
    exact ha av dr σ ρ s1 H1 d s' Q o1 e fun v H' g r => q v H' (g1.trans g) r
  | false =>
    rw [if_neg (by simp)] at e ⊢
    exact hb av dr σ ρ s1 H1 d s' Q o1 e fun v H' g r => q v H' (g1.trans g) r
theorem st_b (ha : SE K ta ma) : ST K (tB ta) (tB' ma) := by
  intro av dr σ ρ s H b s' Q o e q
  obtain ⟨⟨x, s1⟩, e1, e⟩ := bindE e
  refine ha av dr σ ρ s H x s1 _ o e1 fun v H1 g1 d1 r1 => ?_
  cases x <;> simp at e
  obtain ⟨rfl, rfl⟩ := e
  exact ⟨_, r1.bl_eq, q H1 g1 d1⟩
theorem st_test (ha : SE K ta ma) : ST K (tTest ta) (tB' ma) := st_b ha
theorem st_and (h1 : ST K t mt) (h2 : ST K u mu) : ST K (tAnd t u) (tAnd' mt mu) := by
  intro av dr σ ρ s H b s' Q o e q
  obtain ⟨⟨c, s1⟩, e1, e⟩ := bindE e
  refine h1 av dr σ ρ s H c s1 _ o e1 fun H1 g1 d1 => ?_
  cases c with
  | true =>
    rw [if_pos rfl] at e ⊢
    exact h2 av dr σ ρ s1 H1 b s' Q (o.step g1 d1) e fun H' g r => q H' (g1.trans g) r
  | false =>
    rw [if_neg (by simp)] at e ⊢
    cases e
    exact q H1 g1 d1
theorem st_or (h1 : ST K t mt) (h2 : ST K u mu) : ST K (tOr t u) (tOr' mt mu) := by
  intro av dr σ ρ s H b s' Q o e q
  obtain ⟨⟨c, s1⟩, e1, e⟩ := bindE e
  refine h1 av dr σ ρ s H c s1 _ o e1 fun H1 g1 d1 => ?_
  cases c with
  | true =>
    rw [if_pos rfl] at e ⊢
    cases e
    exact q H1 g1 d1
  | false =>
    rw [if_neg (by simp)] at e ⊢
    exact h2 av dr σ ρ s1 H1 b s' Q (o.step g1 d1) e fun H' g r => q H' (g1.trans g) r
theorem st_not (h1 : ST K t mt) : ST K (tNot t) (tNot' mt) := by
  intro av dr σ ρ s H b s' Q o e q
  obtain ⟨⟨c, s1⟩, e1, e⟩ := mapE e
  cases e
  exact h1 av dr σ ρ s H c _ _ o e1 fun H1 g1 d1 => q H1 g1 d1
theorem st_yes : ST K tYes tYes' := fun av dr σ ρ s H b s' Q o e q => by
  cases e
  exact q H .refl o.drw
theorem se_and (ha : SE K ta ma) (hb : SE K tb mb) : SE K (tAndV ta tb) (eAnd ma mb) := by
  intro av dr σ ρ s H d s' Q o e q
  obtain ⟨⟨x, s1⟩, e1, e⟩ := bindE e
  refine ha av dr σ ρ s H x s1 _ o e1 fun v H1 g1 d1 r1 => ?_
  have o1 := o.step g1 d1
  cases x with
  | bl c =>
    cases c with
    | true => exact ⟨true, r1.bl_eq, iteT (hb av dr σ ρ s1 H1 d s' Q o1 e fun v H' g r => q v H' (g1.trans g) r)⟩
    | false =>
      cases e
      exact ⟨false, r1.bl_eq, iteF (q _ H1 g1 d1 (.bl false))⟩
  | _ => cases e
theorem se_or (ha : SE K ta ma) (hb : SE K tb mb) : SE K (tOrV ta tb) (eOr ma mb) := by
  intro av dr σ ρ s H d s' Q o e q
  obtain ⟨⟨x, s1⟩, e1, e⟩ := bindE e
  refine ha av dr σ ρ s H x s1 _ o e1 fun v H1 g1 d1 r1 => ?_
  have o1 := o.step g1 d1
  cases x with
  | bl c =>
    cases c with
    | false => exact ⟨false, r1.bl_eq, iteF (hb av dr σ ρ s1 H1 d s' Q o1 e fun v H' g r => q v H' (g1.trans g) r)⟩
    | true =>
      cases e
      exact ⟨true, r1.bl_eq, iteT (q _ H1 g1 d1 (.bl true))⟩
  | _ => cases e
theorem so_none : SO K tNoPart oNone := fun av dr σ ρ s H b s' Q o e q => by
  cases e
  exact q H .refl o.drw
theorem so_some (ha : SE K ta ma) : SO K (tPart ta) (oSome ma) := by
  intro av dr σ ρ s H b s' Q o e q
  obtain ⟨⟨x, s1⟩, e1, e⟩ := bindE e
  refine ha av dr σ ρ s H x s1 _ o e1 fun v H1 g1 d1 r1 => ?_
  cases x <;> simp at e
  obtain ⟨rfl, rfl⟩ := e
  exact ⟨_, r1.int_eq, q H1 g1 d1⟩
theorem se_sl {r : V → Option Int → Option Int → Hp → VK → Prop} {f : D → Option Int → Option Int → Option D} {tl tu : TO} {ml mu : En → M (Option Int)} (hr : SlS K r f) (ha : SE K ta ma) (hl : SO K tl ml) (hu : SO K tu mu) : SE K (tSl r ta tl tu) (eSl f ma ml mu) := by
  intro av dr σ ρ s H d s' Q o e q
  obtain ⟨⟨x, s1⟩, e1, e⟩ := bindE e
  obtain ⟨⟨l, s2⟩, e2, e⟩ := bindE e
  obtain ⟨⟨u, s3⟩, e3, e⟩ := bindE e
  obtain ⟨z, e4, e5⟩ := mapE e
  cases e5
  refine ha av dr σ ρ s H x s1 _ o e1 fun v H1 g1 d1 r1 => ?_
  have o1 := o.step g1 d1
  refine hl av dr σ ρ s1 H1 l s2 _ o1 e2 fun H2 g2 d2 => ?_
  have o2 := o1.step g2 d2
  refine hu av dr σ ρ s2 H2 u s3 _ o2 e3 fun H3 g3 d3 => ?_
  exact hr av dr s3 H3 v x l u _ Q (o2.step g3 d3).at_ ((r1.kp (g2.kp.dr o.ad)).kp (g3.kp.dr o.ad)) e4 fun v' H' g' d' r' => q v' H' (((g1.trans g2).trans g3).trans g') d' r'
/-! ### calls of defs -/
/-- the promise of a def that computes F -/
def spF (K : PySem.W.Frag) (n : Nat) (F : List D → M D) : Sp := fun vs H Q _ => ∃ av dr s ds d s', At K av dr s H ∧ RepAll K H av dr vs ds ∧ ds.length = n ∧ F ds s = some (d, s') ∧ ∀ v H', Go dr H H' → Dr H' dr s' → Rep K H' av dr v d → Q v H'
def eCallN (n : Nat) (F : List D → M D) (a : En → M (List D)) : En → M D := fun ρ s => (a ρ s).bind fun x => if x.1.length = n then F x.1 x.2 else none
theorem se_call {n : Nat} {F : List D → M D} {E : XK} (hs : SA K ts ms) : SE K (tCall (spF K n F) [] E ts) (eCallN n F ms) := by
  intro av dr σ ρ s H d s' Q o e q
  obtain ⟨⟨x, s1⟩, e1, e⟩ := bindE e
  split at e
  · rename_i hl
    refine hs av dr σ ρ s H x s1 _ o e1 fun vs H1 g1 d1 r1 => ?_
    exact ⟨av, dr, s1, x, d, s', (o.step g1 d1).at_, by rw [List.append_nil]; exact r1, hl, e, fun v H' g d r => q v H' (g1.trans g) d r⟩
  · cases e
end
end DL
set_option Elab.async false
set_option linter.all false
set_option maxRecDepth 100000
set_option maxHeartbeats 2000000
namespace DL
open PySem L2
/-! ### operations on intsD, texts, lists -/
def oI (c : Int → Int → Bool) (g : Int → Int → D) : D → D → Option D
  | .int i, .int j => if c i j then some (g i j) else none
  | _, _ => none
def oI0 (g : Int → Int → D) : D → D → Option D
  | .int i, .int j => some (g i j)
  | _, _ => none
def oNeg : D → Option D
  | .int i => some (.int (-i))
  | _ => none
def oAddS : D → D → Option D
  | .str x, .str y => if x.length + y.length ≤ line then some (.str (x ++ y)) else none
  | _, _ => none
def oCat : D → D → Option D
  | .lst x, .lst y => if x.length + y.length ≤ line then some (.lst (x ++ y)) else none
  | _, _ => none
def oCatT : D → D → Option D
  | .tup x, .tup y => if x.length + y.length ≤ line then some (.tup (x ++ y)) else none
  | _, _ => none
def eqF : D → D → Option Bool
  | .int i, .int j => some (decide (i = j))
  | .str i, .str j => some (decide (i = j))
  | .bl i, .bl j => some (decide (i = j))
  | .non, .non => some true
  | .non, .int _ => some false
  | .non, .str _ => some false
  | .int _, .non => some false
  | .str _, .non => some false
  | .int _, .str _ => some false
  | .str _, .int _ => some false
  | _, _ => none
def oEq (a b : D) : Option D := (eqF a b).map .bl
def oNe (a b : D) : Option D := (eqF a b).map fun k => .bl (!k)
def oIx : D → D → Option D
  | .lst xs, .int i => atI xs i
  | .tup xs, .int i => atI xs i
  | _, _ => none
def oEqD (a b : D) : Option D := (toP a).bind fun p => (toP b).bind fun q => if SeqAt.shaped p && SeqAt.shaped q then some (.bl (PyData.eqv p q)) else none
def oNeD (a b : D) : Option D := (toP a).bind fun p => (toP b).bind fun q => if SeqAt.shaped p && SeqAt.shaped q then some (.bl (!PyData.eqv p q)) else none
def oInD : D → D → Option D
  | a, .lst xs => (toP a).bind fun p => (toPs xs).bind fun qs => if SeqAt.shaped p && SeqAt.shaped (.list qs) then some (.bl (qs.any fun z => PyData.eqv z p)) else none
  | _, _ => none
def flatD : D → Bool
  | .non => true
  | .bl _ => true
  | .int _ => true
  | .str _ => true
  | _ => false
def eqFl : D → D → Bool
  | .non, .non => true
  | .bl a, .bl b => a == b
  | .bl a, .int b => (if a then 1 else 0) == b
  | .int a, .bl b => a == (if b then 1 else 0)
  | .int a, .int b => a == b
  | .str a, .str b => a == b
  | _, _ => false
def oIn : D → D → Option D
  | a, .lst xs => if flatD a && xs.all flatD then some (.bl (xs.any fun y => eqFl y a)) else none
  | a, .tup xs => if flatD a && xs.all flatD then some (.bl (xs.any fun y => eqFl y a)) else none
  | _, _ => none
def bLen : List D → Option D
  | [.lst xs] => some (.int xs.length)
  | [.tup xs] => some (.int xs.length)
  | _ => none
def bInt : List D → Option D
  | [.int i] => some (.int i)
  | [.bl b] => some (.int (if b then 1 else 0))
  | _ => none
def bStr : List D → Option D
  | [.int i] => if i.natAbs.log2 < 1920 then some (.str (toString i)) else none
  | _ => none
def intsD : List D → Option (List Int)
  | [] => some []
  | .int i :: xs => (intsD xs).map fun r => i :: r
  | _ => none
def bSum : List D → Option D
  | [.lst xs] => (intsD xs).map fun ns => .int ns.sum
  | _ => none
def bTuple : List D → Option D
  | [.lst xs] => some (.tup xs)
  | [.tup xs] => some (.tup xs)
  | _ => none
def cutD (xs : List D) (lo hi : Option Int) : List D := (xs.drop (HT.sIx xs.length 0 lo)).take (HT.sIx xs.length xs.length hi - HT.sIx xs.length 0 lo)
def slL : D → Option Int → Option Int → Option D
  | .lst xs, lo, hi => some (.lst (cutD xs lo hi))
  | _, _, _ => none
def slT : D → Option Int → Option Int → Option D
  | .tup xs, lo, hi => some (.tup (cutD xs lo hi))
  | _, _, _ => none
def slS : D → Option Int → Option Int → Option D
  | .str z, lo, hi => if z.length ≤ line then some (.str (cutS z lo hi)) else none
  | _, _, _ => none
section
variable {K : PySem.W.Frag}
theorem os_I {c : Int → Int → Bool} {C : Int → Int → Prop} {g : Int → Int → Int} (h : ∀ i j, c i j = true → C i j) : OpS K (rI C fun i j => .int (g i j)) (oI c fun i j => .int (g i j)) := by
  intro av dr s H x y a b z Q o ra rb e q
  cases a <;> cases b <;> simp [oI] at e
  obtain ⟨e1, rfl⟩ := e
  exact ⟨_, _, ra.int_eq, rb.int_eq, h _ _ e1, q.pure o (.int _)⟩
theorem os_I0 {g : Int → Int → Int} : OpS K (rI0 fun i j => .int (g i j)) (oI0 fun i j => .int (g i j)) := by
  intro av dr s H x y a b z Q o ra rb e q
  cases a <;> cases b <;> simp [oI0] at e
  subst e
  exact ⟨_, _, ra.int_eq, rb.int_eq, q.pure o (.int _)⟩
theorem os_B0 {g : Int → Int → Bool} : OpS K (rI0 fun i j => .bl (g i j)) (oI0 fun i j => .bl (g i j)) := by
  intro av dr s H x y a b z Q o ra rb e q
  cases a <;> cases b <;> simp [oI0] at e
  subst e
  exact ⟨_, _, ra.int_eq, rb.int_eq, q.pure o (.bl _)⟩
theorem os_add : OpS K (rI0 fun i j => .int (i + j)) (oI0 fun i j => .int (i + j)) := os_I0
theorem os_sub : OpS K (rI0 fun i j => .int (i - j)) (oI0 fun i j => .int (i - j)) := os_I0
def cMul (i j : Int) : Bool := (decide (-(2 ^ 64) < i) && decide (i < 2 ^ 64)) || (decide (-(2 ^ 64) < j) && decide (j < 2 ^ 64))
def cDiv (i j : Int) : Bool := decide (0 < j) && decide (j < 1073741824)
def cMod (i j : Int) : Bool := decide (0 < j)
def cPow (i j : Int) : Bool := decide (0 ≤ j) && decide (j ≤ 1000000) && decide (i.natAbs < 2 ^ 64)
theorem os_mul : OpS K (rI CMul fun i j => .int (i * j)) (oI cMul fun i j => .int (i * j)) := os_I fun i j h => by
  simp only [cMul, Bool.or_eq_true, Bool.and_eq_true, decide_eq_true_eq] at h
  exact h
theorem os_fdiv : OpS K (rI CDiv fun i j => .int (i / j)) (oI cDiv fun i j => .int (i / j)) := os_I fun i j h => by
  simp only [cDiv, Bool.and_eq_true, decide_eq_true_eq] at h
  exact h
theorem os_mod : OpS K (rI (fun _ j => 0 < j) fun i j => .int (i % j)) (oI cMod fun i j => .int (i % j)) := os_I fun i j h => by
  simpa [cMod] using h
theorem os_pow : OpS K (rI CPow fun i j => .int (i ^ j.toNat)) (oI cPow fun i j => .int (i ^ j.toNat)) := os_I fun i j h => by
  simp only [cPow, Bool.and_eq_true, decide_eq_true_eq] at h
  exact ⟨h.1.1, h.1.2, h.2⟩
theorem un_negS : ∀ av dr s H x a c Q, At K av dr s H → Rep K H av dr x a → oNeg a = some c → Done K av dr s H c Q → rU (fun i => .int (-i)) x H Q := by
  intro av dr s H x a c Q o r e q
  cases a <;> simp [oNeg] at e
  subst e
  exact ⟨_, r.int_eq, q.pure o (.int _)⟩
theorem os_addS : OpS K (fun x y H Q => ∃ i j, x = .str i ∧ y = .str j ∧ i.length + j.length ≤ sizeLine ∧ Q (.str (i ++ j)) H) oAddS := by
  intro av dr s H x y a b z Q o ra rb e q
  cases a <;> cases b <;> simp [oAddS] at e
  obtain ⟨e1, rfl⟩ := e
  exact ⟨_, _, ra.str_eq, rb.str_eq, line_le e1, q.pure o (.str _)⟩
theorem os_cat : OpS K rCat oCat := by
  intro av dr s H x y a b z Q o ra rb e q
  cases a <;> cases b <;> simp [oCat] at e
  obtain ⟨e1, rfl⟩ := e
  obtain ⟨p, vs, rfl, n, h1, r1⟩ := ra.lst_at
  obtain ⟨p2, ws, rfl, n2, h2, r2⟩ := rb.lst_at
  exact ⟨p, p2, vs, ws, rfl, rfl, h1, h2, line_le (by rw [r1.len, r2.len]; exact e1), fun l hl => q.newL o hl (r1.append r2)⟩
theorem os_catT : OpS K (rCatA K) oCatT := by
  intro av dr s H x y a b z Q o ra rb e q
  cases a <;> cases b <;> simp [oCatT] at e
  obtain ⟨e1, rfl⟩ := e
  obtain ⟨p, vs, rfl, h1, r1⟩ := ra.tup_at
  obtain ⟨p2, ws, rfl, h2, r2⟩ := rb.tup_at
  refine ⟨p, p2, vs, ws, rfl, rfl, h1.sq, h2.sq, line_le (by rw [r1.len, r2.len]; exact e1), fun z => ?_, fun _ z => ?_, fun _ _ l hl => q.newT o hl (r1.append r2)⟩
  · subst z
    cases r1
    exact q.pure o rb
  · subst z
    cases r2
    rw [List.append_nil] at q
    exact q.pure o ra
theorem os_eq : OpS K rEq oEq := by
  intro av dr s H x y a b z Q o ra rb e q
  unfold oEq at e
  obtain ⟨k, e1, rfl⟩ := mapE e
  cases a <;> cases b <;> simp [eqF] at e1 <;> first | (have h1 := ra.int_eq) | (have h1 := ra.str_eq) | (have h1 := ra.bl_eq) | (have h1 := ra.non_eq)
  all_goals first | (have h2 := rb.int_eq) | (have h2 := rb.str_eq) | (have h2 := rb.bl_eq) | (have h2 := rb.non_eq)
  all_goals
    subst h1 h2
    refine ⟨rfl, ?_⟩
    have q' := q.pure o (.bl _)
    subst e1
    simpa using q'
theorem os_ne : OpS K rNe oNe := by
  intro av dr s H x y a b z Q o ra rb e q
  unfold oNe at e
  obtain ⟨k, e1, rfl⟩ := mapE e
  cases a <;> cases b <;> simp [eqF] at e1 <;> first | (have h1 := ra.int_eq) | (have h1 := ra.str_eq) | (have h1 := ra.bl_eq) | (have h1 := ra.non_eq)
  all_goals first | (have h2 := rb.int_eq) | (have h2 := rb.str_eq) | (have h2 := rb.bl_eq) | (have h2 := rb.non_eq)
  all_goals
    subst h1 h2
    refine ⟨rfl, ?_⟩
    have q' := q.pure o (.bl _)
    subst e1
    simpa using q'
theorem atI_rep {av : Av} {dr : Addr} {H : Hp} {vs : List V} {ds : List D} {i : Int} {d : D} (r : RepAll K H av dr vs ds) (e : atI ds i = some d) : ∃ v, atI vs i = some v ∧ Rep K H av dr v d := by
  unfold atI at e ⊢
  obtain ⟨j, e1, e2⟩ := bindE e
  obtain ⟨v, h1, h2⟩ := r.get e2
  exact ⟨v, by rw [r.len, e1]; exact h1, h2⟩
theorem os_ix : OpS K (rIx K) oIx := by
  intro av dr s H x y a b z Q o ra rb e q
  cases a <;> cases b <;> simp [oIx] at e
  · obtain ⟨p, vs, rfl, n, h1, r1⟩ := ra.lst_at
    obtain ⟨v, h2, h3⟩ := atI_rep r1 e
    exact .inl ⟨p, vs, _, v, rfl, rb.int_eq, SqL.of h1, h2, q.pure o h3⟩
  · obtain ⟨p, vs, rfl, h1, r1⟩ := ra.tup_at
    obtain ⟨v, h2, h3⟩ := atI_rep r1 e
    exact .inr (.inl ⟨p, vs, _, v, rfl, rb.int_eq, h1.sq, h2, q.pure o h3⟩)
theorem os_eqD : OpS K (rEqD K) oEqD := by
  intro av dr s H x y a b z Q o ra rb e q
  obtain ⟨p, e1, e⟩ := bindE e
  obtain ⟨p2, e2, e⟩ := bindE e
  split at e
  · rename_i hs
    simp at hs
    cases e
    exact ⟨p, p2, ra.dp e1, rb.dp e2, hs.1, hs.2, q.pure o (.bl _)⟩
  · cases e
theorem os_neD : OpS K (rNeD K) oNeD := by
  intro av dr s H x y a b z Q o ra rb e q
  obtain ⟨p, e1, e⟩ := bindE e
  obtain ⟨p2, e2, e⟩ := bindE e
  split at e
  · rename_i hs
    simp at hs
    cases e
    exact ⟨p, p2, ra.dp e1, rb.dp e2, hs.1, hs.2, q.pure o (.bl _)⟩
  · cases e
theorem os_inD : OpS K (rInD K) oInD := by
  intro av dr s H x y a b z Q o ra rb e q
  cases b <;> try (exact nomatch (show (none : Option D) = some z from e))
  obtain ⟨p, e1, e⟩ := bindE e
  obtain ⟨qs, e2, e⟩ := bindE e
  split at e
  · rename_i hs
    simp at hs
    cases e
    exact ⟨p, qs, ra.dp e1, rb.dp (by simp [toP, e2]), hs.1, hs.2, q.pure o (.bl _)⟩
  · cases e
theorem flat_of {av : Av} {dr : Addr} {H : Hp} {v : V} {d : D} (r : Rep K H av dr v d) (h : flatD d = true) : flatV v = true := by
  cases r <;> first | rfl | (exact absurd h (by simp [flatD]))
theorem eqFl_of {av : Av} {dr : Addr} {H : Hp} {v w : V} {d e : D} (r : Rep K H av dr v d) (r2 : Rep K H av dr w e) (h : flatD d = true) (h2 : flatD e = true) : eqV v w = eqFl d e := by
  cases r <;> cases r2 <;> first | rfl | (exact absurd h (by simp [flatD])) | (exact absurd h2 (by simp [flatD]))
theorem flats_of {av : Av} {dr : Addr} {H : Hp} : ∀ {vs : List V} {ds : List D}, RepAll K H av dr vs ds → ds.all flatD = true → vs.all flatV = true
  | _, [], r, h => by cases r; rfl
  | _, d :: ds, r, h => by
    cases r with
    | cons a r =>
      rw [List.all_cons, Bool.and_eq_true] at h ⊢
      exact ⟨flat_of a h.1, flats_of r h.2⟩
theorem inV_of {av : Av} {dr : Addr} {H : Hp} {w : V} {e : D} (r2 : Rep K H av dr w e) (h2 : flatD e = true) : ∀ {vs : List V} {ds : List D}, RepAll K H av dr vs ds → ds.all flatD = true → inV w vs = ds.any fun y => eqFl y e
  | _, [], r, h => by cases r; rfl
  | _, d :: ds, r, h => by
    cases r with
    | cons a r =>
      rw [List.all_cons, Bool.and_eq_true] at h
      have ih := inV_of r2 h2 r h.2
      unfold inV at ih ⊢
      rw [List.any_cons, List.any_cons, ih, eqFl_of a r2 h.1 h2]
theorem os_in : OpS K (rIn K false) oIn := by
  intro av dr s H x y a b z Q o ra rb e q
  cases b <;> try (exact nomatch (show (none : Option D) = some z from e))
  · simp only [oIn] at e
    split at e
    · rename_i hs
      simp only [Bool.and_eq_true] at hs
      cases e
      obtain ⟨p, vs, rfl, n, h1, r1⟩ := rb.lst_at
      refine ⟨p, vs, rfl, .inl (SqL.of h1), flat_of ra hs.1, flats_of r1 hs.2, ?_⟩
      have q' := q.pure o (.bl _)
      rw [if_neg (by simp), inV_of ra hs.1 r1 hs.2]
      exact q'
    · cases e
  · simp only [oIn] at e
    split at e
    · rename_i hs
      simp only [Bool.and_eq_true] at hs
      cases e
      obtain ⟨p, vs, rfl, h1, r1⟩ := rb.tup_at
      refine ⟨p, vs, rfl, .inr h1.sq, flat_of ra hs.1, flats_of r1 hs.2, ?_⟩
      have q' := q.pure o (.bl _)
      rw [if_neg (by simp), inV_of ra hs.1 r1 hs.2]
      exact q'
    · cases e
theorem cutV_rep {av : Av} {dr : Addr} {H : Hp} {vs : List V} {ds : List D} {lo hi : Option Int} (r : RepAll K H av dr vs ds) : RepAll K H av dr (cutV vs lo hi) (cutD ds lo hi) := by
  unfold cutV cutD
  rw [r.len]
  exact (r.drop _).take _
theorem ss_L : SlS K (rSlL K) slL := by
  intro av dr s H x a l u c Q o r e q
  cases a <;> simp [slL] at e
  subst e
  obtain ⟨p, vs, rfl, n, h1, r1⟩ := r.lst_at
  exact ⟨p, vs, rfl, SqL.of h1, fun t ht => q.newL o ht (cutV_rep r1)⟩
theorem ss_T : SlS K (rSlA K) slT := by
  intro av dr s H x a l u c Q o r e q
  cases a <;> simp [slT] at e
  subst e
  obtain ⟨p, vs, rfl, h1, r1⟩ := r.tup_at
  refine ⟨p, vs, rfl, h1.sq, fun z => ?_, fun _ t ht => q.newT o ht (cutV_rep r1)⟩
  refine q.pure o ?_
  rename_i xs
  have e : cutD xs l u = xs := by
    unfold cutD
    rw [← r1.len, z.1, z.2]
    simp [r1.len]
  rw [e]
  exact r
theorem ss_S : SlS K rSlS slS := by
  intro av dr s H x a l u c Q o r e q
  cases a <;> simp [slS] at e
  obtain ⟨e1, rfl⟩ := e
  exact ⟨_, r.str_eq, line_le e1, q.pure o (.str _)⟩
/-! ### built-ins -/
theorem RepAll.one {av : Av} {dr : Addr} {H : Hp} {vs : List V} {d : D} (r : RepAll K H av dr vs [d]) : ∃ v, vs = [v] ∧ Rep K H av dr v d := by
  cases r with
  | cons a r =>
    cases r
    exact ⟨_, rfl, a⟩
theorem cb_len : CbS K (fun xs H Q => ∃ p ys, xs = [.ref p] ∧ (SqL K H p ys ∨ SqT K H p ys) ∧ Q (.int ys.length) H) bLen := by
  intro av dr s H vs ds c Q o r e q
  unfold bLen at e
  split at e
  · cases e
    obtain ⟨v, rfl, r1⟩ := r.one
    obtain ⟨p, ys, rfl, n, h1, r2⟩ := r1.lst_at
    refine ⟨p, ys, rfl, .inl (SqL.of h1), ?_⟩
    rw [r2.len]
    exact q.pure o (.int _)
  · cases e
    obtain ⟨v, rfl, r1⟩ := r.one
    obtain ⟨p, ys, rfl, h1, r2⟩ := r1.tup_at
    refine ⟨p, ys, rfl, .inr h1.sq, ?_⟩
    rw [r2.len]
    exact q.pure o (.int _)
  · cases e
theorem cb_int : CbS K (fun xs H Q => (∃ i, xs = [.int i] ∧ Q (.int i) H) ∨ ∃ k, xs = [.bl k] ∧ Q (.int (if k then 1 else 0)) H) bInt := by
  intro av dr s H vs ds c Q o r e q
  unfold bInt at e
  split at e
  · cases e
    obtain ⟨v, rfl, r1⟩ := r.one
    exact .inl ⟨_, by rw [r1.int_eq], q.pure o (.int _)⟩
  · cases e
    obtain ⟨v, rfl, r1⟩ := r.one
    exact .inr ⟨_, by rw [r1.bl_eq], q.pure o (.int _)⟩
  · cases e
theorem cb_str : CbS K (fun xs H Q => ∃ i, xs = [.int i] ∧ i.natAbs.log2 < 1920 ∧ Q (.str (toString i)) H) bStr := by
  intro av dr s H vs ds c Q o r e q
  unfold bStr at e
  split at e
  · split at e
    · rename_i hz
      cases e
      obtain ⟨v, rfl, r1⟩ := r.one
      exact ⟨_, by rw [r1.int_eq], hz, q.pure o (.str _)⟩
    · cases e
  · cases e
theorem intsD_rep {av : Av} {dr : Addr} {H : Hp} : ∀ {vs : List V} {ds : List D} {ns : List Int}, RepAll K H av dr vs ds → intsD ds = some ns → vs = ns.map V.int
  | _, [], _, r, e => by cases r; simp [intsD] at e; subst e; rfl
  | _, d :: ds, _, r, e => by
    cases r with
    | cons a r =>
      cases d <;> simp [intsD] at e
      obtain ⟨t, e1, rfl⟩ := e
      rw [List.map_cons, a.int_eq, intsD_rep r e1]
theorem cb_sum : CbS K (rSum K) bSum := by
  intro av dr s H vs ds c Q o r e q
  unfold bSum at e
  split at e
  · obtain ⟨ns, e1, rfl⟩ := mapE e
    obtain ⟨v, rfl, r1⟩ := r.one
    obtain ⟨p, ys, rfl, n, h1, r2⟩ := r1.lst_at
    have := intsD_rep r2 e1
    subst this
    exact ⟨p, ns, rfl, SqL.of h1, q.pure o (.int _)⟩
  · cases e
theorem cb_tuple : CbS K (fun xs H Q => ∃ p ys, xs = [.ref p] ∧ ((SqL K H p ys ∧ ∀ l, H l = none → Q (.ref l) (upd H l (.tup ys))) ∨ (SqT K H p ys ∧ Q (.ref p) H))) bTuple := by
  intro av dr s H vs ds c Q o r e q
  unfold bTuple at e
  split at e
  · cases e
    obtain ⟨v, rfl, r1⟩ := r.one
    obtain ⟨p, ys, rfl, n, h1, r2⟩ := r1.lst_at
    exact ⟨p, ys, rfl, .inl ⟨SqL.of h1, fun l hl => q.newT o hl r2⟩⟩
  · cases e
    obtain ⟨v, rfl, r1⟩ := r.one
    obtain ⟨p, ys, rfl, h1, r2⟩ := r1.tup_at
    exact ⟨p, ys, rfl, .inr ⟨h1.sq, q.pure o r1⟩⟩
  · cases e
/-! ### isinstance -/
def tyD : D → Option String
  | .non => some "NoneType"
  | .bl _ => some "bool"
  | .int _ => some "int"
  | .str _ => some "str"
  | .lst _ => some "list"
  | .tup _ => some "tuple"
  | .dic _ _ => some "dict"
  | .drw => some "list"
theorem ty_of {av : Av} {dr : Addr} {s : DS} {H : Hp} {v : V} {d : D} {t : String} (o : At K av dr s H) (r : Rep K H av dr v d) (e : tyD d = some t) : TyX K H v (.type t) := by
  cases r with
  | non => cases e; exact .base .non
  | bl b => cases e; exact .base (.bl b)
  | int b => cases e; exact .base (.int b)
  | str b => cases e; exact .base (.str b)
  | lst n h r => cases e; exact .base (.lst h)
  | tup t r =>
    cases e
    rcases t with ⟨_, h⟩ | ⟨ob, its, n, h1, h2, h3, h4, h5⟩
    · exact .base (.tup h)
    · exact .kTuple h1 h2
  | dic n h l r => cases e; exact .base (.dK h)
  | drw => cases e; exact .base (.lst o.drw)
def isF (T : String) (d : D) : Option D := (tyD d).bind fun t => (kitB t T).map .bl
theorem se_isi {T : String} {ta : TE} {ma : En → M D} (ha : SE K ta ma) : SE K (tCB (rIsi K) (tCons ta (tCons (tC (.ty T)) tNil))) (eUn (isF T) ma) := by
  intro av dr σ ρ s H d s' Q o e q
  obtain ⟨⟨x, s1⟩, e1, e⟩ := bindE e
  obtain ⟨z, e3, e4⟩ := mapE e
  cases e4
  obtain ⟨t, e5, e6⟩ := bindE e3
  obtain ⟨k, e7, rfl⟩ := mapE e6
  refine ha av dr σ ρ s H x s1 _ o e1 fun v H1 g1 d1 r1 => ?_
  exact ⟨v, .ty T, .type t, .type T, k, rfl, .ty T, ty_of (o.step g1 d1).at_ r1 e5, kit_ty e7, q _ H1 g1 d1 (.bl k)⟩
end
end DL
set_option Elab.async false
set_option linter.all false
set_option maxRecDepth 100000
set_option maxHeartbeats 2000000
namespace DL
open PySem L2
/-! ### what is walked -/
structure Far (av : Av) (H : Hp) (av2 : Av) (H2 : Hp) : Prop where
  nw : ∀ a, av2 a → av a ∨ H a = none
  sub : ∀ a, av a → av2 a
  kp : Kp av2 H H2
  al : ∀ a, av2 a → H2 a ≠ none
def ItOk (K : PySem.W.Frag) (av : Av) (dr : Addr) (J : It) (H : Hp) (ds : List D) : Prop := ∃ G Y, Walk J ds.length G Y ∧ ∀ av2 H2, Far av H av2 H2 → G H2 ∧
  ∀ i x H3, i < ds.length → Y i H2 x H3 → (H3 = H2 ∨ ∃ T o, H2 T = none ∧ H3 = upd H2 T o) ∧ ∃ d, ds[i]? = some d ∧ Rep K H3 av2 dr x d
def SI (K : PySem.W.Frag) (wi : TI) (m : En → M (List D)) : Prop := ∀ av dr σ ρ s H ds s' (R : It → Hp → Prop), OkE K av dr σ ρ s H → m ρ s = some (ds, s') → (∀ J H', Go dr H H' → Dr H' dr s' → ItOk K av dr J H' ds → R J H') → wi σ H R
def iL (a : En → M D) : En → M (List D) := fun ρ s => (a ρ s).bind fun x => match x.1 with
  | .lst xs => some (xs, x.2)
  | _ => none
def iT (a : En → M D) : En → M (List D) := fun ρ s => (a ρ s).bind fun x => match x.1 with
  | .tup xs => some (xs, x.2)
  | _ => none
def iS (a : En → M D) : En → M (List D) := fun ρ s => (a ρ s).bind fun x => match x.1 with
  | .str z => some (z.cps.toList.map fun c => .str ⟨#[c]⟩, x.2)
  | _ => none
def iR (a : En → M (List D)) : En → M (List D) := fun ρ s => (a ρ s).bind fun x => match x.1 with
  | [.int j] => if decide (-(2 ^ 62) ≤ j) && decide (j < 2 ^ 62) then some ((List.range j.toNat).map fun (i : Nat) => .int (0 + i), x.2) else none
  | _ => none
def enumD (n : Nat) : List D → List D
  | [] => []
  | d :: ds => .tup [.int (n : Int), d] :: enumD (n + 1) ds
def iE (a : En → M (List D)) : En → M (List D) := fun ρ s => (a ρ s).bind fun x => match x.1 with
  | [.lst xs] => some (enumD 0 xs, x.2)
  | _ => none
theorem enumD_len : ∀ (ds : List D) (n : Nat), (enumD n ds).length = ds.length
  | [], _ => rfl
  | d :: ds, n => by simp [enumD, enumD_len ds]
theorem enumD_get : ∀ (ds : List D) (n i : Nat) (d : D), ds[i]? = some d → (enumD n ds)[i]? = some (.tup [.int ((n + i : Nat) : Int), d])
  | [], _, _, _, e => by simp at e
  | d0 :: ds, n, 0, d, e => by simp at e; subst e; simp [enumD]
  | d0 :: ds, n, i + 1, d, e => by
    simp at e
    have := enumD_get ds (n + 1) i d e
    simp only [enumD, List.getElem?_cons_succ, this]
    congr 4
    omega
section
variable {K : PySem.W.Frag} {te : TE} {me : En → M D} {ta : TA} {ms : En → M (List D)}
theorem si_list (he : SE K te me) : SI K (iList K te) (iL me) := by
  intro av dr σ ρ s H ds s' R o e q
  obtain ⟨⟨x, s1⟩, e1, e⟩ := bindE e
  cases x <;> simp at e
  obtain ⟨rfl, rfl⟩ := e
  refine he av dr σ ρ s H _ _ _ o e1 fun v H1 g1 d1 r1 => ?_
  obtain ⟨a, vs, rfl, n, h1, r2⟩ := r1.lst_at
  refine ⟨a, rfl, ⟨vs, SqL.of h1⟩, q _ H1 g1 d1 ⟨_, _, by rw [← r2.len]; exact walk_list (xs := vs), fun av2 H2 f => ?_⟩⟩
  have h2 : H2 a = some (.lst vs) := f.kp a _ (fun z => by rcases f.nw a z with z | z; exact n z; rw [z] at h1; cases h1) h1
  refine ⟨SqL.of h2, fun i y H3 hi hy => ?_⟩
  obtain ⟨rfl, hy⟩ := hy
  obtain ⟨d, e1, e2⟩ := r2.getV hy
  exact ⟨.inl rfl, d, e1, (e2.wd f.nw).kp f.kp⟩
theorem si_tup (he : SE K te me) : SI K (iTup K te) (iT me) := by
  intro av dr σ ρ s H ds s' R o e q
  obtain ⟨⟨x, s1⟩, e1, e⟩ := bindE e
  cases x <;> simp at e
  obtain ⟨rfl, rfl⟩ := e
  refine he av dr σ ρ s H _ _ _ o e1 fun v H1 g1 d1 r1 => ?_
  obtain ⟨a, vs, rfl, h1, r2⟩ := r1.tup_at
  refine ⟨a, rfl, ⟨vs, h1.sq⟩, q _ H1 g1 d1 ⟨_, _, by rw [← r2.len]; exact walk_tup (xs := vs), fun av2 H2 f => ?_⟩⟩
  refine ⟨((h1.wd f.nw).kp f.kp).sq, fun i y H3 hi hy => ?_⟩
  obtain ⟨rfl, hy⟩ := hy
  obtain ⟨d, e1, e2⟩ := r2.getV hy
  exact ⟨.inl rfl, d, e1, (e2.wd f.nw).kp f.kp⟩
theorem si_str (he : SE K te me) : SI K (iStr te) (iS me) := by
  intro av dr σ ρ s H ds s' R o e q
  obtain ⟨⟨x, s1⟩, e1, e⟩ := bindE e
  cases x <;> simp at e
  rename_i z
  obtain ⟨rfl, rfl⟩ := e
  refine he av dr σ ρ s H _ _ _ o e1 fun v H1 g1 d1 r1 => ?_
  refine ⟨z, r1.str_eq, q _ H1 g1 d1 ⟨_, _, by simpa using walk_str (z := z), fun av2 H2 f => ⟨trivial, fun i y H3 hi hy => ?_⟩⟩⟩
  obtain ⟨rfl, c, hc, rfl⟩ := hy
  exact ⟨.inl rfl, .str ⟨#[c]⟩, by simp [hc], .str _⟩
theorem si_range (he : SA K ta ms) : SI K (iRng1 ta) (iR ms) := by
  intro av dr σ ρ s H ds s' R o e q
  obtain ⟨⟨x, s1⟩, e1, e⟩ := bindE e
  dsimp only at e
  split at e
  · split at e
    · rename_i j hj
      simp only [Bool.and_eq_true, decide_eq_true_eq] at hj
      cases e
      refine he av dr σ ρ s H _ _ _ o e1 fun vs H1 g1 d1 r1 => ?_
      obtain ⟨v, rfl, r2⟩ := r1.one
      refine ⟨j, by rw [r2.int_eq], hj.1, hj.2, q _ H1 g1 d1 ⟨_, _, by rw [List.length_map, List.length_range]; exact walk_range (lo := 0) (n := j.toNat), fun av2 H2 f => ⟨trivial, fun i y H3 hi hy => ?_⟩⟩⟩
      obtain ⟨rfl, rfl⟩ := hy
      rw [List.length_map, List.length_range] at hi
      exact ⟨.inl rfl, .int (0 + i), by rw [List.getElem?_map, List.getElem?_range hi]; rfl, .int _⟩
    · cases e
  · cases e
theorem si_enum (he : SA K ta ms) : SI K (iEnum K ta) (iE ms) := by
  intro av dr σ ρ s H ds s' R o e q
  obtain ⟨⟨x, s1⟩, e1, e⟩ := bindE e
  dsimp only at e
  split at e
  · rename_i xs
    cases e
    refine he av dr σ ρ s H _ _ _ o e1 fun vs H1 g1 d1 r1 => ?_
    obtain ⟨v, rfl, r2⟩ := r1.one
    obtain ⟨a, vs, rfl, n, h1, r2⟩ := r2.lst_at
    refine ⟨a, vs, rfl, SqL.of h1, q _ H1 g1 d1 ⟨_, _, by rw [enumD_len, ← r2.len]; exact walk_enum (xs := vs), fun av2 H2 f => ?_⟩⟩
    have h2 : H2 a = some (.lst vs) := f.kp a _ (fun z => by rcases f.nw a z with z | z; exact n z; rw [z] at h1; cases h1) h1
    refine ⟨SqL.of h2, fun i y H3 hi hy => ?_⟩
    obtain ⟨T, u, w, rfl, hT, rfl, hu, hw⟩ := hy
    cases hu
    obtain ⟨d, e1, e2⟩ := r2.getV hw
    have e3 := (e2.wd f.nw).kp f.kp
    refine ⟨.inr ⟨T, _, hT, rfl⟩, .tup [.int ((i : Nat) : Int), d], ?_, .tup (.inl ⟨fun z => f.al T z hT, upd_same⟩) (.cons (.int _) (.cons (e3.kp (.new hT)) .nil))⟩
    rw [enumD_get xs 0 i d e1]
    simp
  · cases e
/-! ### targets -/
inductive Tgt where
  | one (i : Nat)
  | many (is : List Nat)
  | unl (is : List Nat)
def Tgt.slots : Tgt → List Nat
  | .one i => [i]
  | .many is => is
  | .unl is => is
def setM {α : Type} : List Nat → List α → List α → List α
  | i :: is, d :: ds, ρ => setM is ds (ρ.set i d)
  | _, _, ρ => ρ
def vals (ds : List D) : En := ds.map Sl.val
def Tgt.set (t : Tgt) (ρ : En) (d : D) : Option En := match t with
  | .one i => some (ρ.set i (.val d))
  | .many is => match d with
    | .tup ds => if ds.length = is.length then some (setM is (vals ds) ρ) else none
    | _ => none
  | .unl is => match d with
    | .lst ds => if ds.length = is.length then some (setM is (vals ds) ρ) else none
    | _ => none
def gsOf : List Nat → TGs
  | [] => gNil
  | i :: is => gCons (gName i) (gsOf is)
def gOf (K : PySem.W.Frag) : Tgt → TG
  | .one i => gName i
  | .many is => gTup K is.length (gsOf is)
  | .unl is => gUnl K is.length (gsOf is)
theorem gsOf_run : ∀ {is : List Nat} {vs : List V} {σ : L2.St} {H : Hp} {Q : L2.St → Hp → Prop}, vs.length = is.length → Q (setM is (vs.map some) σ) H → gsOf is vs σ H Q
  | [], [], σ, H, Q, _, q => ⟨rfl, q⟩
  | [], _ :: _, σ, H, Q, h, q => by simp at h
  | i :: is, [], σ, H, Q, h, q => by simp at h
  | i :: is, v :: vs, σ, H, Q, h, q => ⟨v, vs, rfl, gsOf_run (by simpa using h) q⟩
theorem setM_len {α : Type} : ∀ (is : List Nat) (ds ρ : List α), (setM is ds ρ).length = ρ.length
  | [], _, ρ => by simp [setM]
  | i :: is, [], ρ => by simp [setM]
  | i :: is, d :: ds, ρ => by simp [setM, setM_len is]
/-- slots of some values, told by data -/
def SlotsOk (K : PySem.W.Frag) (H : Hp) (av : Av) (dr : Addr) (σ : L2.St) (ρ : En) : Prop := ∀ (i : Nat) (d : D), ρ[i]? = some (Sl.val d) → ∃ v, σ[i]? = some (some v) ∧ Rep K H av dr v d
theorem SlotsOk.set {H : Hp} {av : Av} {dr : Addr} {σ : L2.St} {ρ : En} {v : V} {d : D} (hl : σ.length = ρ.length) (h : SlotsOk K H av dr σ ρ) (r : Rep K H av dr v d) (i : Nat) : SlotsOk K H av dr (σ.set i (some v)) (ρ.set i (.val d)) := by
  intro j e hj
  by_cases hji : i = j
  · subst hji
    by_cases hi : i < ρ.length
    · rw [List.getElem?_set_self hi] at hj
      cases hj
      exact ⟨v, by rw [List.getElem?_set_self (by rw [hl]; exact hi)], r⟩
    · rw [List.getElem?_eq_none (by simpa using hi)] at hj
      cases hj
  · rw [List.getElem?_set_ne hji] at hj ⊢
    exact h j e hj
theorem SlotsOk.setM {H : Hp} {av : Av} {dr : Addr} : ∀ {is : List Nat} {vs : List V} {ds : List D} {σ : L2.St} {ρ : En}, σ.length = ρ.length → SlotsOk K H av dr σ ρ → RepAll K H av dr vs ds → SlotsOk K H av dr (DL.setM is (vs.map some) σ) (DL.setM is (vals ds) ρ)
  | [], vs, ds, σ, ρ, hl, h, r => by simpa [DL.setM] using h
  | i :: is, _, [], σ, ρ, hl, h, r => by cases r; simpa [DL.setM, vals] using h
  | i :: is, _, d :: ds, σ, ρ, hl, h, r => by
    cases r with
    | cons a r => exact SlotsOk.setM (is := is) (by simp [hl]) (h.set hl a i) r
/-- one target: the slots behind it -/
theorem gOf_run {tg : Tgt} {H : Hp} {av : Av} {dr : Addr} {v : V} {d : D} {σ : L2.St} {ρ ρ' : En} {Q : L2.St → Hp → Prop} (r : Rep K H av dr v d) (hl : σ.length = ρ.length) (h : SlotsOk K H av dr σ ρ) (e : tg.set ρ d = some ρ')
    (q : ∀ vs ds, vs.length = tg.slots.length → RepAll K H av dr vs ds → ρ' = DL.setM tg.slots (vals ds) ρ → σ.length = ρ'.length → SlotsOk K H av dr (DL.setM tg.slots (vs.map some) σ) ρ' → Q (DL.setM tg.slots (vs.map some) σ) H) : gOf K tg v σ H Q := by
  cases tg with
  | one i =>
    cases e
    exact q [v] [d] rfl (.cons r .nil) rfl (by simp [hl]) (h.set hl r i)
  | many is =>
    cases d <;> simp [Tgt.set] at e
    rename_i ds
    obtain ⟨e1, rfl⟩ := e
    obtain ⟨a, vs, rfl, h1, r1⟩ := r.tup_at
    have hvl : vs.length = is.length := by rw [r1.len, e1]
    exact ⟨a, vs, rfl, h1.sq, hvl, gsOf_run hvl (q vs ds hvl r1 rfl (by rw [setM_len, hl]) (h.setM hl r1))⟩
  | unl is =>
    cases d <;> simp [Tgt.set] at e
    rename_i ds
    obtain ⟨e1, rfl⟩ := e
    obtain ⟨a, vs, rfl, n, h1, r1⟩ := r.lst_at
    have hvl : vs.length = is.length := by rw [r1.len, e1]
    exact ⟨a, vs, rfl, SqL.of h1, hvl, gsOf_run hvl (q vs ds hvl r1 rfl (by rw [setM_len, hl]) (h.setM hl r1))⟩
/-! ### slots wiped -/
theorem wipe_get (σ : L2.St) : ∀ (vs : List Nat) (i : Nat), (wipe σ vs)[i]? = if i ∈ vs then (if i < σ.length then some none else none) else σ[i]?
  | [], i => by simp [wipe]
  | v :: vs, i => by
    unfold wipe
    by_cases h : v = i
    · subst h
      rw [if_pos (by simp)]
      by_cases hv : v < σ.length
      · rw [List.getElem?_set_self (by rw [wipe_length]; exact hv), if_pos hv]
      · rw [List.getElem?_eq_none (by simp only [List.length_set, wipe_length]; omega), if_neg hv]
    · rw [List.getElem?_set_ne h, wipe_get σ vs i]
      have h' : ¬ i = v := fun e => h e.symm
      simp [h']
theorem setM_get {α : Type} : ∀ (is : List Nat) (ds ρ : List α) (i : Nat), i ∉ is → (setM is ds ρ)[i]? = ρ[i]?
  | [], _, ρ, i, _ => by simp [setM]
  | j :: is, [], ρ, i, _ => by simp [setM]
  | j :: is, d :: ds, ρ, i, h => by
    simp only [List.mem_cons, not_or] at h
    unfold setM
    rw [setM_get is ds _ i h.2, List.getElem?_set_ne (fun e => h.1 e.symm)]
theorem wipe_setM (σ : L2.St) (is : List Nat) (vs : List (Option V)) : wipe (setM is vs (wipe σ is)) is = wipe σ is := by
  apply List.ext_getElem?
  intro i
  rw [wipe_get, wipe_get]
  by_cases h : i ∈ is
  · rw [if_pos h, if_pos h, setM_len, wipe_length]
  · rw [if_neg h, if_neg h, setM_get is vs _ i h, wipe_get, if_neg h]
/-! ### comprehensions -/
def wipeE (ρ : En) : List Nat → En
  | [] => ρ
  | v :: vs => (wipeE ρ vs).set v .no
theorem wipeE_len (ρ : En) : ∀ vs : List Nat, (wipeE ρ vs).length = ρ.length
  | [] => rfl
  | v :: vs => by unfold wipeE; rw [List.length_set, wipeE_len ρ vs]
theorem wipeE_get (σ : En) : ∀ (vs : List Nat) (i : Nat), (wipeE σ vs)[i]? = if i ∈ vs then (if i < σ.length then some .no else none) else σ[i]?
  | [], i => by simp [wipeE]
  | v :: vs, i => by
    unfold wipeE
    by_cases h : v = i
    · subst h
      rw [if_pos (by simp)]
      by_cases hv : v < σ.length
      · rw [List.getElem?_set_self (by rw [wipeE_len]; exact hv), if_pos hv]
      · rw [List.getElem?_eq_none (by simp only [List.length_set, wipeE_len]; omega), if_neg hv]
    · rw [List.getElem?_set_ne h, wipeE_get σ vs i]
      have h' : ¬ i = v := fun e => h e.symm
      simp [h']
theorem SlotsOk.wipe {H : Hp} {av : Av} {dr : Addr} {σ : L2.St} {ρ : En} (h : SlotsOk K H av dr σ ρ) (is : List Nat) : SlotsOk K H av dr (L2.wipe σ is) (wipeE ρ is) := by
  intro i d e
  rw [wipeE_get] at e
  by_cases hm : i ∈ is
  · rw [if_pos hm] at e
    split at e <;> cases e
  · rw [if_neg hm] at e
    rw [wipe_get, if_neg hm]
    exact h i d e
theorem SlotsOk.kp {H H' : Hp} {av : Av} {dr : Addr} {σ : L2.St} {ρ : En} (h : SlotsOk K H av dr σ ρ) (k : Kp av H H') : SlotsOk K H' av dr σ ρ := fun i d e => let ⟨v, h1, h2⟩ := h i d e; ⟨v, h1, h2.kp k⟩
theorem SlotsOk.wd {H : Hp} {av av2 : Av} {dr : Addr} {σ : L2.St} {ρ : En} (h : SlotsOk K H av dr σ ρ) (f : ∀ a, av2 a → av a ∨ H a = none) : SlotsOk K H av2 dr σ ρ := fun i d e => let ⟨v, h1, h2⟩ := h i d e; ⟨v, h1, h2.wd f⟩
def lcGo (tg : Tgt) (tt : En → M Bool) (te : En → M D) (ρ : En) : List D → M (List D)
  | [], s => some ([], s)
  | d :: ds, s => (tg.set ρ d).bind fun ρ1 => (tt ρ1 s).bind fun b => if b.1 = true then (te ρ1 b.2).bind fun y => (lcGo tg tt te ρ ds y.2).map fun r => (y.1 :: r.1, r.2) else lcGo tg tt te ρ ds b.2
def eLc (tg : Tgt) (mi : En → M (List D)) (tt : En → M Bool) (te : En → M D) : En → M D := fun ρ s => (mi ρ s).bind fun x => (lcGo tg tt te (wipeE ρ tg.slots) x.1 x.2).bind fun y => if y.1.length ≤ line then some (.lst y.1, y.2) else none
theorem se_lc {tg : Tgt} {wi : TI} {mi : En → M (List D)} {tt : TT} {mt : En → M Bool} (hi : SI K wi mi) (ht : ST K tt mt) (he : SE K te me) : SE K (tLc wi (gOf K tg) tt te tg.slots) (eLc tg mi mt me) := by
  intro av dr σ ρ s H d s' Q o e q
  obtain ⟨⟨ds, s1⟩, e1, e⟩ := bindE e
  obtain ⟨⟨res, s2⟩, e2, e⟩ := bindE e
  dsimp only at e2 e
  split at e
  · rename_i hl
    obtain ⟨rfl, rfl⟩ : D.lst res = d ∧ s2 = s' := by cases e; exact ⟨rfl, rfl⟩
    refine hi av dr σ ρ s H ds s1 _ o e1 fun J H1 g1 d1 it => fun A hA => ?_
    have o1 := o.step g1 d1
    obtain ⟨G, Y, w, it⟩ := it
    have nA : ¬ av A := fun z => o1.al A z hA
    have nd : A ≠ dr := fun z => nA (by rw [z]; exact o.ad)
    let av2 : Av := fun a => av a ∨ a = A
    have sub : ∀ a, av a → av2 a := fun a z => .inl z
    have nw : ∀ a, av2 a → av a ∨ H1 a = none := fun a z => by
      rcases z with z | z
      · exact .inl z
      · rw [z]; exact .inr hA
    have far : ∀ Hc, Kp (fun a => a = dr ∨ a = A) H1 Hc → Lv H1 Hc → Hc A ≠ none → Far av H1 av2 Hc := fun Hc k l hc =>
      ⟨nw, sub, k.mono fun a z => by rcases z with z | z; exact .inl (by rw [z]; exact o.ad); exact .inr z, fun a z => by
        rcases z with z | z
        · exact l a (o1.al a z)
        · rw [z]; exact hc⟩
    refine lc_it w (Pv := fun i Hc => ∃ acc ds0 si r, Kp (fun a => a = dr ∨ a = A) H1 Hc ∧ Lv H1 Hc ∧ Dr Hc dr si ∧ Hc A = some (.lst acc) ∧ RepAll K Hc av2 dr acc ds0 ∧ lcGo tg mt me (wipeE ρ tg.slots) (ds.drop i) si = some (r, s2) ∧ ds0 ++ r = res) ?_ ?_ ?_ ?_
    · exact ⟨[], [], s1, res, .new hA, .upd, d1.new hA, upd_same, .nil, e2, rfl⟩
    · rintro i Hc _ ⟨acc, ds0, si, r, k, l, _, hc, _⟩
      exact (it av2 Hc (far Hc k l (by rw [hc]; simp))).1
    · rintro i x Hc H' hi' ⟨acc, ds0, si, r, k, l, dd, hc, ra, eg, er⟩ y
      have f := far Hc k l (by rw [hc]; simp)
      obtain ⟨hH, d0, hd0, rx⟩ := (it av2 Hc f).2 i x H' hi' y
      have hdrop : ds.drop i = d0 :: ds.drop (i + 1) := by
        rw [List.drop_eq_getElem_cons hi']
        rw [List.getElem?_eq_getElem hi'] at hd0
        cases hd0
        rfl
      rw [hdrop] at eg
      unfold lcGo at eg
      obtain ⟨ρ1, et, eg⟩ := bindE eg
      obtain ⟨⟨b, s3⟩, eb, eg⟩ := bindE eg
      have step : Go dr Hc H' := by
        rcases hH with rfl | ⟨T, ob, hT, rfl⟩
        · exact .refl
        · exact .new hT
      have dd' : Dr H' dr si := by
        rcases hH with rfl | ⟨T, ob, hT, rfl⟩
        · exact dd
        · exact dd.new hT
      have k' : Kp (fun a => a = dr ∨ a = A) H1 H' := k.trans (step.kp.mono fun a z => .inl z)
      have l' : Lv H1 H' := l.trans step.lv
      have hc' : H' A = some (.lst acc) := step.kp A _ nd hc
      have f' := far H' k' l' (by rw [hc']; simp)
      have hs0 : SlotsOk K H' av2 dr (L2.wipe σ tg.slots) (wipeE ρ tg.slots) := ((SlotsOk.wipe o1.val tg.slots).wd nw).kp f'.kp
      refine gOf_run rx (by rw [wipe_length, wipeE_len, o.len]) hs0 et fun vs dsv hvl rvs hρ hlen hs => ⟨wipe_setM σ tg.slots _, ?_⟩
      have ok : OkE K av2 dr (DL.setM tg.slots (vs.map some) (L2.wipe σ tg.slots)) ρ1 si H' := ⟨by rw [setM_len]; exact hlen, dd', .inl o.ad, f'.al, hs⟩
      refine ht av2 dr _ ρ1 si H' b s3 _ ok eb fun H3 g3 d3 => ?_
      have ok3 := ok.step g3 d3
      have hc3 : H3 A = some (.lst acc) := g3.kp A _ nd hc'
      have ra3 : RepAll K H3 av2 dr acc ds0 := (ra.kp (step.kp.mono fun a z => .inl (by rw [z]; exact o.ad))).kp (g3.kp.mono fun a z => .inl (by rw [z]; exact o.ad))
      have k3 : Kp (fun a => a = dr ∨ a = A) H1 H3 := k'.trans (g3.kp.mono fun a z => .inl z)
      cases b with
      | false =>
        rw [if_neg (by simp)] at eg ⊢
        exact ⟨acc, ds0, s3, r, k3, l'.trans g3.lv, d3, hc3, ra3, eg, er⟩
      | true =>
        rw [if_pos rfl] at eg ⊢
        obtain ⟨⟨yv, s4⟩, ey, eg⟩ := bindE eg
        obtain ⟨⟨r', s5⟩, e5, e6⟩ := mapE eg
        obtain ⟨rfl, rfl⟩ : yv :: r' = r ∧ s5 = s2 := by cases e6; exact ⟨rfl, rfl⟩
        refine he av2 dr _ ρ1 s3 H3 yv s4 _ ok3 ey fun v H4 g4 d4 r4 => ?_
        have hc4 : H4 A = some (.lst acc) := g4.kp A _ nd hc3
        have ra4 : RepAll K H4 av2 dr acc ds0 := ra3.kp (g4.kp.mono fun a z => .inl (by rw [z]; exact o.ad))
        have hlen4 : acc.length ≤ line := by
          rw [ra4.len]
          rw [← er, List.length_append] at hl
          omega
        have ku : Kp av2 H4 (upd H4 A (.lst (acc ++ [v]))) := .upd (.inr rfl)
        refine ⟨acc, hc4, line_lt hlen4, acc ++ [v], ds0 ++ [yv], s4, r', (k3.trans (g4.kp.mono fun a z => .inl z)).trans (.upd (.inr rfl)), ((l'.trans g3.lv).trans g4.lv).trans .upd, ?_, upd_same, (ra4.snoc r4).kp ku, e5, ?_⟩
        · show upd H4 A _ dr = _
          rw [upd_ne (fun z => nd z.symm)]
          exact d4
        · rw [← er]
          simp
    · rintro Hc ⟨acc, ds0, si, r, k, l, dd, hc, ra, eg, er⟩
      rw [List.drop_length] at eg
      cases eg
      rw [List.append_nil] at er
      subst er
      refine q (.ref A) Hc ⟨fun a ob n h => k a ob (fun z => ?_) (g1.kp a ob n h), g1.lv.trans l⟩ dd (.lst nA hc (ra.wd fun a z => .inl (sub a z)))
      rcases z with z | z
      · exact n z
      · rw [z] at h
        have := g1.kp A ob nd h
        rw [hA] at this
        cases this
  · cases e
end
end DL
set_option Elab.async false
set_option linter.all false
set_option maxRecDepth 100000
set_option maxHeartbeats 2000000
namespace DL
open PySem L2
/-! ### statements -/
def avO (ae : Av) (os : List Addr) : Av := fun a => ae a ∨ a ∈ os
def OwnAt (K : PySem.W.Frag) (H : Hp) (av : Av) (dr p : Addr) : D → Prop
  | .lst ds => ∃ vs, H p = some (.lst vs) ∧ RepAll K H av dr vs ds
  | .dic ks ds => ∃ vs, H p = some (.dK (zipK ks vs)) ∧ ks.length = ds.length ∧ RepAll K H av dr vs ds
  | _ => False
theorem OwnAt.move {K : PySem.W.Frag} {H H' : Hp} {av av2 : Av} {dr p : Addr} {d : D} (h : OwnAt K H av dr p d) (e : ∀ o, H p = some o → H' p = some o) (f : ∀ vs ds, RepAll K H av dr vs ds → RepAll K H' av2 dr vs ds) : OwnAt K H' av2 dr p d := by
  cases d <;> first | exact h.elim | skip
  · obtain ⟨vs, h1, h2⟩ := h
    exact ⟨vs, e _ h1, f _ _ h2⟩
  · obtain ⟨vs, h1, h2, h3⟩ := h
    exact ⟨vs, e _ h1, h2, f _ _ h3⟩
theorem OwnAt.rep {K : PySem.W.Frag} {H : Hp} {av : Av} {dr p : Addr} {d : D} (h : OwnAt K H av dr p d) (n : ¬ av p) : Rep K H av dr (.ref p) d := by
  cases d <;> first | exact h.elim | skip
  · obtain ⟨vs, h1, h2⟩ := h
    exact .lst n h1 h2
  · obtain ⟨vs, h1, h2, h3⟩ := h
    exact .dic n h1 h2 h3
theorem OwnAt.some {K : PySem.W.Frag} {H : Hp} {av : Av} {dr p : Addr} {d : D} (h : OwnAt K H av dr p d) : H p ≠ none := by
  cases d <;> first | exact h.elim | skip
  · obtain ⟨vs, h1, h2⟩ := h
    rw [h1]; simp
  · obtain ⟨vs, h1, h2, h3⟩ := h
    rw [h1]; simp
structure Ok (K : PySem.W.Frag) (E0 : Hp) (ae : Av) (dr : Addr) (os : List Addr) (σ : L2.St) (ρ : En) (s : DS) (H : Hp) : Prop where
  go : Go dr E0 H
  len : σ.length = ρ.length
  drw : Dr H dr s
  ad : ae dr
  al : ∀ a, ae a → E0 a ≠ none
  ow : ∀ p ∈ os, E0 p = none ∧ H p ≠ none
  val : SlotsOk K H (avO ae os) dr σ ρ
  own : ∀ (i : Nat) (d : D), ρ[i]? = some (Sl.own d) → ∃ p, σ[i]? = some (some (.ref p)) ∧ p ∈ os ∧ OwnAt K H (avO ae os) dr p d
  dis : ∀ (i j : Nat) (d e : D) (p : Addr), i ≠ j → ρ[i]? = some (Sl.own d) → ρ[j]? = some (Sl.own e) → σ[i]? = some (some (.ref p)) → σ[j]? ≠ some (some (.ref p))
structure Fr (ae : Av) (os : List Addr) (H : Hp) (os' : List Addr) (H' : Hp) : Prop where
  kp : Kp (avO ae os) H H'
  nw : ∀ p ∈ os', p ∈ os ∨ H p = none
  lv : Lv H H'
theorem Fr.refl {ae : Av} {os : List Addr} {H : Hp} : Fr ae os H os H := ⟨.refl, fun _ h => .inl h, .refl⟩
theorem Fr.trans {ae : Av} {os os1 os2 : List Addr} {H H1 H2 : Hp} (a : Fr ae os H os1 H1) (b : Fr ae os1 H1 os2 H2) : Fr ae os H os2 H2 := by
  refine ⟨fun x o n h => b.kp x o (fun z => ?_) (a.kp x o n h), fun p hp => ?_, a.lv.trans b.lv⟩
  · rcases z with z | z
    · exact n (.inl z)
    · rcases a.nw x z with z | z
      · exact n (.inr z)
      · rw [z] at h; cases h
  · rcases b.nw p hp with z | z
    · exact a.nw p z
    · exact .inr (by
        cases e : H p with
        | none => rfl
        | some o => exact absurd z (a.lv p (by rw [e]; simp)))
section
variable {K : PySem.W.Frag} {E0 : Hp} {ae : Av} {dr : Addr} {os : List Addr} {σ : L2.St} {ρ : En} {s s' : DS} {H H' : Hp}
theorem Go.fr (g : Go dr H H') (ad : ae dr) : Fr ae os H os H' := ⟨g.kp.mono fun a z => .inl (by rw [z]; exact ad), fun _ h => .inl h, g.lv⟩
theorem Ok.toE (o : Ok K E0 ae dr os σ ρ s H) : OkE K (avO ae os) dr σ ρ s H :=
  ⟨o.len, o.drw, .inl o.ad, fun a z => by rcases z with z | z; exact o.go.lv a (o.al a z); exact (o.ow a z).2, o.val⟩
theorem Ok.nodr (o : Ok K E0 ae dr os σ ρ s H) {p : Addr} (h : p ∈ os) : p ≠ dr := fun e => o.al dr o.ad (by rw [← e]; exact (o.ow p h).1)
theorem Ok.noae (o : Ok K E0 ae dr os σ ρ s H) {p : Addr} (h : p ∈ os) : ¬ ae p := fun e => o.al p e (o.ow p h).1
theorem Ok.step (o : Ok K E0 ae dr os σ ρ s H) (g : Go dr H H') (d : Dr H' dr s') : Ok K E0 ae dr os σ ρ s' H' :=
  have k : Kp (avO ae os) H H' := g.kp.mono fun a z => .inl (by rw [z]; exact o.ad)
  ⟨o.go.trans g, o.len, d, o.ad, o.al, fun p h => ⟨(o.ow p h).1, g.lv p (o.ow p h).2⟩, o.val.kp k, fun i x e => by
    obtain ⟨p, h1, h2, h3⟩ := o.own i x e
    exact ⟨p, h1, h2, h3.move (fun ob z => g.kp p ob (o.nodr h2) z) fun vs ds r => r.kp k⟩, o.dis⟩
/-- a slot set to a value -/
theorem Ok.setV {v : V} {d : D} (o : Ok K E0 ae dr os σ ρ s H) (r : Rep K H (avO ae os) dr v d) (i : Nat) : Ok K E0 ae dr os (σ.set i (some v)) (ρ.set i (.val d)) s H := by
  have gt : ∀ (j : Nat) (e : D), (ρ.set i (Sl.val d))[j]? = some (Sl.own e) → i ≠ j ∧ ρ[j]? = some (Sl.own e) := fun j e hj => by
    by_cases hji : i = j
    · subst hji
      by_cases hi : i < ρ.length
      · rw [List.getElem?_set_self hi] at hj
        cases hj
      · rw [List.getElem?_eq_none (by simpa using hi)] at hj
        cases hj
    · rw [List.getElem?_set_ne hji] at hj
      exact ⟨hji, hj⟩
  refine ⟨o.go, by simp [o.len], o.drw, o.ad, o.al, o.ow, o.val.set o.len r i, fun j e hj => ?_, fun j l e f p hn h1 h2 h3 => ?_⟩
  · obtain ⟨n, hj⟩ := gt j e hj
    obtain ⟨p, h1, h2, h3⟩ := o.own j e hj
    exact ⟨p, by rw [List.getElem?_set_ne n]; exact h1, h2, h3⟩
  · obtain ⟨n1, h1⟩ := gt j e h1
    obtain ⟨n2, h2⟩ := gt l f h2
    rw [List.getElem?_set_ne n1] at h3
    rw [List.getElem?_set_ne n2]
    exact o.dis j l e f p hn h1 h2 h3
theorem Ok.setMV : ∀ {is : List Nat} {vs : List V} {ds : List D} {σ : L2.St} {ρ : En}, Ok K E0 ae dr os σ ρ s H → RepAll K H (avO ae os) dr vs ds → Ok K E0 ae dr os (DL.setM is (vs.map some) σ) (DL.setM is (vals ds) ρ) s H
  | [], vs, ds, σ, ρ, o, r => by simpa [DL.setM] using o
  | i :: is, _, [], σ, ρ, o, r => by cases r; simpa [DL.setM, vals] using o
  | i :: is, _, d :: ds, σ, ρ, o, r => by
    cases r with
    | cons a r => exact Ok.setMV (is := is) (o.setV a i) r
/-- one target -/
theorem Ok.tgt {tg : Tgt} {v : V} {d : D} {ρ' : En} {Q : L2.St → Hp → Prop} (o : Ok K E0 ae dr os σ ρ s H) (r : Rep K H (avO ae os) dr v d) (e : tg.set ρ d = some ρ') (q : ∀ σ', Ok K E0 ae dr os σ' ρ' s H → Q σ' H) : gOf K tg v σ H Q :=
  gOf_run r o.len o.val e fun vs ds hl ra hρ _ _ => q _ (by rw [hρ]; exact o.setMV ra)
/-- a new object of one's own -/
theorem Ok.setO {p : Addr} {ob : HO} {d : D} (o : Ok K E0 ae dr os σ ρ s H) (hp : H p = none) (ho : OwnAt K (upd H p ob) (avO ae (p :: os)) dr p d) (i : Nat) : Ok K E0 ae dr (p :: os) (σ.set i (some (.ref p))) (ρ.set i (.own d)) s (upd H p ob) := by
  have e0 : E0 p = none := by
    cases e : E0 p with
    | none => rfl
    | some ob' => exact absurd hp (o.go.lv p (by rw [e]; simp))
  have nw : ∀ a, avO ae (p :: os) a → avO ae os a ∨ H a = none := fun a z => by
    rcases z with z | z
    · exact .inl (.inl z)
    · rcases List.mem_cons.mp z with z | z
      · rw [z]; exact .inr hp
      · exact .inl (.inr z)
  have ne : ∀ {q : Addr}, H q ≠ none → q ≠ p := fun hq e => hq (by rw [e]; exact hp)
  have gt : ∀ (j : Nat) (e : D), i ≠ j → (ρ.set i (Sl.own d))[j]? = some (Sl.own e) → ρ[j]? = some (Sl.own e) := fun j e hji hj => by
    rw [List.getElem?_set_ne hji] at hj
    exact hj
  refine ⟨o.go.trans (.new hp), by simp [o.len], o.drw.new hp, o.ad, o.al, fun q hq => ?_, ?_, fun j e hj => ?_, fun j l e f q hn h1 h2 h3 => ?_⟩
  · rcases List.mem_cons.mp hq with rfl | hq
    · exact ⟨e0, by rw [upd_same]; simp⟩
    · exact ⟨(o.ow q hq).1, Lv.upd q (o.ow q hq).2⟩
  · intro j e hj
    by_cases hji : i = j
    · subst hji
      by_cases hi : i < ρ.length
      · rw [List.getElem?_set_self hi] at hj
        cases hj
      · rw [List.getElem?_eq_none (by simpa using hi)] at hj
        cases hj
    · rw [List.getElem?_set_ne hji] at hj ⊢
      obtain ⟨v, h1, h2⟩ := o.val j e hj
      exact ⟨v, h1, (h2.wd nw).kp (.new hp)⟩
  · by_cases hji : i = j
    · subst hji
      by_cases hi : i < ρ.length
      · rw [List.getElem?_set_self hi] at hj
        cases hj
        exact ⟨p, by rw [List.getElem?_set_self (by rw [o.len]; exact hi)], List.mem_cons_self, ho⟩
      · rw [List.getElem?_eq_none (by simpa using hi)] at hj
        cases hj
    · rw [List.getElem?_set_ne hji] at hj ⊢
      obtain ⟨q, h1, h2, h3⟩ := o.own j e hj
      exact ⟨q, h1, List.mem_cons_of_mem _ h2, h3.move (fun ob z => by rw [upd_ne (ne h3.some)]; exact z) fun vs ds r => (r.wd nw).kp (.new hp)⟩
  · by_cases hj : i = j
    · subst hj
      have h2' := gt l f hn h2
      obtain ⟨q', h4, h5, h6⟩ := o.own l f h2'
      rw [List.getElem?_set_ne hn, h4]
      intro e
      cases e
      by_cases hi : i < ρ.length
      · rw [List.getElem?_set_self (by rw [o.len]; exact hi)] at h3
        cases h3
        exact h6.some hp
      · rw [List.getElem?_eq_none (by simpa using hi)] at h1
        cases h1
    · have h1' := gt j e hj h1
      by_cases hl : i = l
      · subst hl
        rw [List.getElem?_set_ne hj] at h3
        obtain ⟨q', h4, h5, h6⟩ := o.own j e h1'
        rw [h3] at h4
        cases h4
        by_cases hi : i < ρ.length
        · rw [List.getElem?_set_self (by rw [o.len]; exact hi)]
          intro e
          cases e
          exact h6.some hp
        · rw [List.getElem?_eq_none (by simpa using hi)] at h2
          cases h2
      · rw [List.getElem?_set_ne hj] at h3
        rw [List.getElem?_set_ne hl]
        exact o.dis j l e f q hn h1' (gt l f hl h2) h3
/-- an own object changed -/
theorem Ok.chg {p : Addr} {ob : HO} {d d' : D} {i : Nat} (o : Ok K E0 ae dr os σ ρ s H) (hi : ρ[i]? = some (Sl.own d)) (hσ : σ[i]? = some (some (.ref p))) (ho : OwnAt K (upd H p ob) (avO ae os) dr p d') : Ok K E0 ae dr os σ (ρ.set i (.own d')) s (upd H p ob) := by
  obtain ⟨p', h1, h2, h3⟩ := o.own i d hi
  rw [hσ] at h1
  cases h1
  have nd := o.nodr h2
  have k : Kp (avO ae os) H (upd H p ob) := .upd (.inr h2)
  have hlt : i < ρ.length := by
    by_cases h : i < ρ.length
    · exact h
    · rw [List.getElem?_eq_none (by simpa using h)] at hi
      cases hi
  refine ⟨⟨fun a u n e => ?_, o.go.lv.trans .upd⟩, by simp [o.len], ?_, o.ad, o.al, fun q hq => ⟨(o.ow q hq).1, Lv.upd q (o.ow q hq).2⟩, fun j e hj => ?_, fun j e hj => ?_, fun j l e f q hn g1 g2 g3 => ?_⟩
  · rw [upd_ne (fun z => by rw [z, (o.ow p h2).1] at e; cases e)]
    exact o.go.kp a u n e
  · show upd H p ob dr = _
    rw [upd_ne (fun z => nd z.symm)]
    exact o.drw
  · by_cases hji : i = j
    · subst hji
      rw [List.getElem?_set_self hlt] at hj
      cases hj
    · rw [List.getElem?_set_ne hji] at hj
      obtain ⟨v, g1, g2⟩ := o.val j e hj
      exact ⟨v, g1, g2.kp k⟩
  · by_cases hji : i = j
    · subst hji
      rw [List.getElem?_set_self hlt] at hj
      cases hj
      exact ⟨p, hσ, h2, ho⟩
    · rw [List.getElem?_set_ne hji] at hj
      obtain ⟨q, g1, g2, g3⟩ := o.own j e hj
      have hq : q ≠ p := fun z => o.dis i j d e p hji hi hj hσ (by rw [← z]; exact g1)
      exact ⟨q, g1, g2, g3.move (fun u z => by rw [upd_ne hq]; exact z) fun vs ds r => r.kp k⟩
  · have back : ∀ (m : Nat) (x : D), (ρ.set i (Sl.own d'))[m]? = some (Sl.own x) → ∃ y, ρ[m]? = some (Sl.own y) := fun m x hm => by
      by_cases hmi : i = m
      · subst hmi
        exact ⟨d, hi⟩
      · rw [List.getElem?_set_ne hmi] at hm
        exact ⟨x, hm⟩
    obtain ⟨e', g1⟩ := back j e g1
    obtain ⟨f', g2⟩ := back l f g2
    exact o.dis j l e' f' q hn g1 g2 g3
/-- no longer one's own -/
theorem Ok.share {d : D} {i : Nat} (o : Ok K E0 ae dr os σ ρ s H) (hi : ρ[i]? = some (Sl.own d)) : ∃ os', Ok K E0 ae dr os' σ (ρ.set i (.val d)) s H ∧ Fr ae os H os' H := by
  obtain ⟨p, h1, h2, h3⟩ := o.own i d hi
  have hlt : i < ρ.length := by
    by_cases h : i < ρ.length
    · exact h
    · rw [List.getElem?_eq_none (by simpa using h)] at hi
      cases hi
  have hm : ∀ q, q ∈ os.filter (fun q => decide (q ≠ p)) ↔ q ∈ os ∧ q ≠ p := fun q => by simp
  have nw : ∀ a, avO ae (os.filter fun q => decide (q ≠ p)) a → avO ae os a ∨ H a = none := fun a z => by
    rcases z with z | z
    · exact .inl (.inl z)
    · exact .inl (.inr ((hm a).mp z).1)
  refine ⟨os.filter fun q => decide (q ≠ p), ⟨o.go, by simp [o.len], o.drw, o.ad, o.al, fun q hq => o.ow q ((hm q).mp hq).1, fun j e hj => ?_, fun j e hj => ?_, fun j l e f q hn g1 g2 g3 => ?_⟩, ⟨.refl, fun q hq => .inl ((hm q).mp hq).1, .refl⟩⟩
  · by_cases hji : i = j
    · subst hji
      rw [List.getElem?_set_self hlt] at hj
      cases hj
      refine ⟨.ref p, h1, OwnAt.rep (h3.move (fun _ z => z) fun vs ds r => r.wd nw) fun z => ?_⟩
      rcases z with z | z
      · exact o.noae h2 z
      · exact ((hm p).mp z).2 rfl
    · rw [List.getElem?_set_ne hji] at hj
      obtain ⟨v, g1, g2⟩ := o.val j e hj
      exact ⟨v, g1, g2.wd nw⟩
  · by_cases hji : i = j
    · subst hji
      rw [List.getElem?_set_self hlt] at hj
      cases hj
    · rw [List.getElem?_set_ne hji] at hj
      obtain ⟨q, g1, g2, g3⟩ := o.own j e hj
      have hq : q ≠ p := fun z => o.dis i j d e p hji hi hj h1 (by rw [← z]; exact g1)
      exact ⟨q, g1, (hm q).mpr ⟨g2, hq⟩, g3.move (fun _ z => z) fun vs ds r => r.wd nw⟩
  · have back : ∀ (m : Nat) (x : D), (ρ.set i (Sl.val d))[m]? = some (Sl.own x) → ρ[m]? = some (Sl.own x) := fun m x hm => by
      by_cases hmi : i = m
      · subst hmi
        rw [List.getElem?_set_self hlt] at hm
        cases hm
      · rw [List.getElem?_set_ne hmi] at hm
        exact hm
    exact o.dis j l e f q hn (back j e g1) (back l f g2) g3
end
end DL
set_option Elab.async false
set_option linter.all false
set_option maxRecDepth 100000
set_option maxHeartbeats 2000000
namespace DL
open PySem L2
inductive Res where
  | nx (ρ : En)
  | rt (d : D)
  | bk (ρ : En)
  | ct (ρ : En)
def Post (K : PySem.W.Frag) (E0 : Hp) (ae : Av) (dr : Addr) (De : Ends) (os : List Addr) (H : Hp) (r : Res) (s' : DS) : Prop := match r with
  | .nx ρ' => ∀ os' σ' H', Ok K E0 ae dr os' σ' ρ' s' H' → Fr ae os H os' H' → De.nx σ' H'
  | .rt d => ∀ v H', Go dr E0 H' → Dr H' dr s' → Rep K H' ae dr v d → De.rt v H'
  | .bk ρ' => ∀ os' σ' H', Ok K E0 ae dr os' σ' ρ' s' H' → Fr ae os H os' H' → De.bk σ' H'
  | .ct ρ' => ∀ os' σ' H', Ok K E0 ae dr os' σ' ρ' s' H' → Fr ae os H os' H' → De.ct σ' H'
theorem Post.fr {K : PySem.W.Frag} {E0 : Hp} {ae : Av} {dr : Addr} {De : Ends} {os os1 : List Addr} {H H1 : Hp} {r : Res} {s' : DS} (p : Post K E0 ae dr De os H r s') (f : Fr ae os H os1 H1) : Post K E0 ae dr De os1 H1 r s' := by
  cases r with
  | nx ρ' => exact fun os' σ' H' o g => p os' σ' H' o (f.trans g)
  | rt d => exact p
  | bk ρ' => exact fun os' σ' H' o g => p os' σ' H' o (f.trans g)
  | ct ρ' => exact fun os' σ' H' o g => p os' σ' H' o (f.trans g)
def SS (K : PySem.W.Frag) (t : TS) (m : En → M Res) : Prop := ∀ E0 ae dr os σ ρ s H r s' De, Ok K E0 ae dr os σ ρ s H → m ρ s = some (r, s') → Post K E0 ae dr De os H r s' → t De σ H
def sSet (tg : Tgt) (e : En → M D) : En → M Res := fun ρ s => (e ρ s).bind fun x => (tg.set ρ x.1).map fun ρ' => (.nx ρ', x.2)
def sSeq (a b : En → M Res) : En → M Res := fun ρ s => (a ρ s).bind fun x => match x.1 with
  | .nx ρ' => b ρ' x.2
  | r => some (r, x.2)
def sIf (c : En → M Bool) (a b : En → M Res) : En → M Res := fun ρ s => (c ρ s).bind fun x => if x.1 = true then a ρ x.2 else b ρ x.2
def sRet (e : En → M D) : En → M Res := fun ρ s => (e ρ s).map fun x => (.rt x.1, x.2)
def sNext : En → M Res := fun ρ s => some (.nx ρ, s)
def sDrop (e : En → M D) : En → M Res := fun ρ s => (e ρ s).map fun x => (.nx ρ, x.2)
def sOwnL (i : Nat) (a : En → M (List D)) : En → M Res := fun ρ s => (a ρ s).bind fun x => if x.1.length ≤ line then some (.nx (ρ.set i (.own (.lst x.1))), x.2) else none
def sOwnD (i : Nat) : En → M Res := fun ρ s => some (.nx (ρ.set i (.own (.dic [] []))), s)
def shr (i : Nat) (ρ : En) : En := match ρ[i]? with
  | some (Sl.own d) => ρ.set i (.val d)
  | _ => ρ
def sShare (i : Nat) (m : En → M Res) : En → M Res := fun ρ s => m (shr i ρ) s
def sAppend (i : Nat) (e : En → M D) : En → M Res := fun ρ s => match ρ[i]? with
  | some (Sl.own (.lst ds)) => (e ρ s).bind fun x => if ds.length < line then some (.nx (ρ.set i (.own (.lst (ds ++ [x.1])))), x.2) else none
  | _ => none
def sExt (i : Nat) (e : En → M D) : En → M Res := fun ρ s => match ρ[i]? with
  | some (Sl.own (.lst ds)) => (e ρ s).bind fun x => match x.1 with
    | .lst es => if ds.length + es.length ≤ line then some (.nx (ρ.set i (.own (.lst (ds ++ es)))), x.2) else none
    | _ => none
  | _ => none
/-- a dict of texts, one more or another -/
def putD (ks : List Str) (ds : List D) (x : Str) (d : D) : List Str × List D := if ks.any (fun k => decide (k = x)) then (ks, List.zipWith (fun k v => if k = x then d else v) ks ds) else (ks ++ [x], ds ++ [d])
def sPut (i : Nat) (k v : En → M D) : En → M Res := fun ρ s => (v ρ s).bind fun x => match ρ[i]? with
  | some (Sl.own (.dic ks ds)) => (k ρ x.2).bind fun y => match y.1 with
    | .str z => if ks.length < line then some (.nx (ρ.set i (.own (.dic (putD ks ds z x.1).1 (putD ks ds z x.1).2))), y.2) else none
    | _ => none
  | _ => none
def forGo (tg : Tgt) (b : En → M Res) : List D → En → M Res
  | [], ρ, s => some (.nx ρ, s)
  | d :: ds, ρ, s => (tg.set ρ d).bind fun ρ1 => (b ρ1 s).bind fun x => match x.1 with
    | .nx ρ' => forGo tg b ds ρ' x.2
    | .ct ρ' => forGo tg b ds ρ' x.2
    | .bk ρ' => some (.nx ρ', x.2)
    | .rt d => some (.rt d, x.2)
def sFor (tg : Tgt) (mi : En → M (List D)) (b : En → M Res) : En → M Res := fun ρ s => (mi ρ s).bind fun x => forGo tg b x.1 ρ x.2
section
variable {K : PySem.W.Frag} {te : TE} {me : En → M D} {t u : TS} {m n : En → M Res} {c : TT} {mc : En → M Bool} {ta : TA} {ms : En → M (List D)}
theorem ss_set {tg : Tgt} (he : SE K te me) : SS K (tAsg te (gOf K tg)) (sSet tg me) := by
  intro E0 ae dr os σ ρ s H r s' De o e p
  obtain ⟨⟨x, s1⟩, e1, e⟩ := bindE e
  obtain ⟨ρ', e2, e3⟩ := mapE e
  obtain ⟨rfl, rfl⟩ : Res.nx ρ' = r ∧ s1 = s' := by cases e3; exact ⟨rfl, rfl⟩
  refine he _ dr σ ρ s H x s1 _ o.toE e1 fun v H1 g1 d1 r1 => ?_
  exact (o.step g1 d1).tgt r1 e2 fun σ' o' => p os σ' H1 o' (g1.fr o.ad)
theorem ss_seq (h1 : SS K t m) (h2 : SS K u n) : SS K (tSeq t u) (sSeq m n) := by
  intro E0 ae dr os σ ρ s H r s' De o e p
  obtain ⟨⟨x, s1⟩, e1, e⟩ := bindE e
  refine h1 E0 ae dr os σ ρ s H x s1 _ o e1 ?_
  cases x with
  | nx ρ' => exact fun os' σ' H' o' f => h2 E0 ae dr os' σ' ρ' s1 H' r s' De o' e (p.fr f)
  | rt d => cases e; exact p
  | bk d => cases e; exact p
  | ct d => cases e; exact p
theorem ss_if (hc : ST K c mc) (h1 : SS K t m) (h2 : SS K u n) : SS K (tIfS c t u) (sIf mc m n) := by
  intro E0 ae dr os σ ρ s H r s' De o e p
  obtain ⟨⟨b, s1⟩, e1, e⟩ := bindE e
  refine hc _ dr σ ρ s H b s1 _ o.toE e1 fun H1 g1 d1 => ?_
  have o1 := o.step g1 d1
  cases b with
  | true =>
    rw [if_pos rfl] at e ⊢
    exact h1 E0 ae dr os σ ρ s1 H1 r s' De o1 e (p.fr (g1.fr o.ad))
  | false =>
    rw [if_neg (by simp)] at e ⊢
    exact h2 E0 ae dr os σ ρ s1 H1 r s' De o1 e (p.fr (g1.fr o.ad))
theorem ss_ret (he : SE K te me) : SS K (tRet te) (sRet me) := by
  intro E0 ae dr os σ ρ s H r s' De o e p
  obtain ⟨⟨x, s1⟩, e1, e3⟩ := mapE e
  obtain ⟨rfl, rfl⟩ : Res.rt x = r ∧ s1 = s' := by cases e3; exact ⟨rfl, rfl⟩
  exact he _ dr σ ρ s H x s1 _ o.toE e1 fun v H1 g1 d1 r1 => p v H1 (o.go.trans g1) d1 (r1.wd fun a z => .inl (.inl z))
theorem ss_next : SS K tNext sNext := by
  intro E0 ae dr os σ ρ s H r s' De o e p
  cases e
  exact p os σ H o .refl
theorem ss_drop (he : SE K te me) : SS K (tDrop te) (sDrop me) := by
  intro E0 ae dr os σ ρ s H r s' De o e p
  obtain ⟨⟨x, s1⟩, e1, e3⟩ := mapE e
  obtain ⟨rfl, rfl⟩ : Res.nx ρ = r ∧ s1 = s' := by cases e3; exact ⟨rfl, rfl⟩
  exact he _ dr σ ρ s H x s1 _ o.toE e1 fun v H1 g1 d1 r1 => p os σ H1 (o.step g1 d1) (g1.fr o.ad)
theorem ss_ownL {i : Nat} (ha : SA K ta ms) : SS K (tAsg (tLst ta) (gName i)) (sOwnL i ms) := by
  intro E0 ae dr os σ ρ s H r s' De o e p
  obtain ⟨⟨x, s1⟩, e1, e⟩ := bindE e
  split at e
  · rename_i hl
    cases e
    refine ha _ dr σ ρ s H x _ _ o.toE e1 fun vs H1 g1 d1 r1 => ⟨line_le (by rw [r1.len]; exact hl), fun q hq => ?_⟩
    have o1 := o.step g1 d1
    refine p (q :: os) _ _ (o1.setO (d := .lst x) hq ⟨vs, upd_same, (r1.wd fun a z => ?_).kp (.new hq)⟩ i) ((g1.fr o.ad).trans ⟨.new hq, fun a z => ?_, .upd⟩)
    · rcases z with z | z
      · exact .inl (.inl z)
      · rcases List.mem_cons.mp z with z | z
        · rw [z]; exact .inr hq
        · exact .inl (.inr z)
    · rcases List.mem_cons.mp z with z | z
      · rw [z]; exact .inr hq
      · exact .inl z
  · cases e
theorem ss_ownD {i : Nat} : SS K (tAsg tDNewK (gName i)) (sOwnD i) := by
  intro E0 ae dr os σ ρ s H r s' De o e p
  cases e
  refine fun q hq => p (q :: os) _ _ (o.setO (d := .dic [] []) hq ⟨[], upd_same, rfl, .nil⟩ i) ⟨.new hq, fun a z => ?_, .upd⟩
  rcases List.mem_cons.mp z with z | z
  · rw [z]; exact .inr hq
  · exact .inl z
theorem ss_share {i : Nat} (h : SS K t m) : SS K t (sShare i m) := by
  intro E0 ae dr os σ ρ s H r s' De o e p
  unfold sShare shr at e
  split at e
  · rename_i d hd
    obtain ⟨os', o', f⟩ := o.share hd
    exact h E0 ae dr os' σ _ s H r s' De o' e (p.fr f)
  · exact h E0 ae dr os σ ρ s H r s' De o e p
theorem ss_append {i : Nat} (he : SE K te me) : SS K (tDrop (tBM K "list" rAppend (tVar i) (tCons te tNil))) (sAppend i me) := by
  intro E0 ae dr os σ ρ s H r s' De o e p
  unfold sAppend at e
  split at e
  · rename_i ds hd
    obtain ⟨⟨x, s1⟩, e1, e⟩ := bindE e
    split at e
    · rename_i hl
      cases e
      obtain ⟨q, h1, h2, vs, h3, h4⟩ := o.own i _ hd
      refine ⟨.ref q, h1, .inl ⟨rfl, vs, SqL.of h3⟩, ?_⟩
      refine he _ dr σ ρ s H x _ _ o.toE e1 fun v H1 g1 d1 r1 => ?_
      have o1 := o.step g1 d1
      obtain ⟨q', h1', h2', vs', h3', h4'⟩ := o1.own i _ hd
      rw [h1] at h1'
      cases h1'
      exact ⟨q, vs', v, rfl, rfl, h3', line_lt (by rw [h4'.len]; omega), p os σ _ (o1.chg hd h1 ⟨_, upd_same, (h4'.snoc r1).kp (.upd (.inr h2))⟩) ((g1.fr o.ad).trans ⟨.upd (.inr h2), fun _ z => .inl z, .upd⟩)⟩
    · cases e
  · cases e
theorem ss_ext {i : Nat} (he : SE K te me) : SS K (tAug i te rExt2) (sExt i me) := by
  intro E0 ae dr os σ ρ s H r s' De o e p
  unfold sExt at e
  split at e
  · rename_i ds hd
    obtain ⟨⟨x, s1⟩, e1, e⟩ := bindE e
    cases x <;> try (exact nomatch (show (none : Option (Res × DS)) = some (r, s') from e))
    dsimp only at e
    split at e
    · rename_i es hl
      cases e
      obtain ⟨q, h1, h2, vs, h3, h4⟩ := o.own i _ hd
      refine ⟨.ref q, h1, ?_⟩
      refine he _ dr σ ρ s H _ _ _ o.toE e1 fun v H1 g1 d1 r1 => ?_
      have o1 := o.step g1 d1
      obtain ⟨q', h1', h2', vs', h3', h4'⟩ := o1.own i _ hd
      rw [h1] at h1'
      cases h1'
      obtain ⟨b, ws, rfl, nb, hb, rb⟩ := r1.lst_at
      have hset : σ.set i (some (.ref q)) = σ := by
        apply List.ext_getElem?
        intro j
        by_cases hj : i = j
        · subst hj
          have hlt : i < σ.length := by
            by_cases h : i < σ.length
            · exact h
            · rw [List.getElem?_eq_none (by simpa using h)] at h1
              cases h1
          rw [List.getElem?_set_self hlt, h1]
        · rw [List.getElem?_set_ne hj]
      refine ⟨q, b, vs', ws, rfl, rfl, h3', hb, line_le (by rw [h4'.len, rb.len]; exact hl), ?_⟩
      show De.nx (σ.set i (some (.ref q))) _
      rw [hset]
      exact p os σ _ (o1.chg hd h1 ⟨_, upd_same, (h4'.append rb).kp (.upd (.inr h2))⟩) ((g1.fr o.ad).trans ⟨.upd (.inr h2), fun _ z => .inl z, .upd⟩)
    · cases e
  · cases e
theorem zipK_any {z : Str} : ∀ {ks : List Str} {vs : List V}, ks.length = vs.length → (zipK ks vs).any (fun kv => decide (kv.1 = Sum.inr z)) = ks.any fun k => decide (k = z)
  | [], [], _ => rfl
  | [], _ :: _, h => by simp at h
  | _ :: _, [], h => by simp at h
  | k :: ks, v :: vs, h => by
    have ih := zipK_any (z := z) (ks := ks) (vs := vs) (by simpa using h)
    unfold zipK at ih ⊢
    rw [List.zipWith_cons_cons, List.any_cons, List.any_cons, ih]
    simp
theorem zipK_put {H : Hp} {av : Av} {dr : Addr} {v : V} {d : D} {z : Str} (rv : Rep K H av dr v d) : ∀ {ks : List Str} {vs : List V} {ds : List D}, ks.length = ds.length → RepAll K H av dr vs ds →
    ∃ ws, (zipK ks vs).map (fun kv => if kv.1 = Sum.inr z then (kv.1, v) else kv) = zipK ks ws ∧ RepAll K H av dr ws (List.zipWith (fun k x => if k = z then d else x) ks ds)
  | [], _, _, _, _ => ⟨[], rfl, .nil⟩
  | k :: ks, _, [], h, _ => by simp at h
  | k :: ks, _, x :: ds, h, r => by
    cases r with
    | @cons u us _ _ a r =>
      obtain ⟨ws, h1, h2⟩ := zipK_put (z := z) rv (ks := ks) (by simpa using h) r
      by_cases hk : k = z
      · refine ⟨v :: ws, ?_, ?_⟩
        · unfold zipK at h1 ⊢
          rw [List.zipWith_cons_cons, List.map_cons, h1, List.zipWith_cons_cons]
          simp [hk]
        · rw [List.zipWith_cons_cons, if_pos hk]
          exact .cons rv h2
      · refine ⟨u :: ws, ?_, ?_⟩
        · unfold zipK at h1 ⊢
          rw [List.zipWith_cons_cons, List.map_cons, h1, List.zipWith_cons_cons]
          simp [hk]
        · rw [List.zipWith_cons_cons, if_neg hk]
          exact .cons a h2
theorem putK_zip {H : Hp} {av : Av} {dr : Addr} {v : V} {d : D} {z : Str} {ks : List Str} {vs : List V} {ds : List D} (hl : ks.length = ds.length) (r : RepAll K H av dr vs ds) (rv : Rep K H av dr v d) :
    ∃ ws, putK (zipK ks vs) (Sum.inr z) v = zipK (putD ks ds z d).1 ws ∧ RepAll K H av dr ws (putD ks ds z d).2 ∧ (putD ks ds z d).1.length = (putD ks ds z d).2.length := by
  unfold putK putD
  rw [zipK_any (by rw [hl, r.len])]
  by_cases h : (ks.any fun k => decide (k = z)) = true
  · rw [if_pos h, if_pos h]
    obtain ⟨ws, h1, h2⟩ := zipK_put (z := z) rv hl r
    exact ⟨ws, h1, h2, by simp [hl]⟩
  · rw [if_neg h, if_neg h]
    refine ⟨vs ++ [v], ?_, r.snoc rv, by simp [hl]⟩
    unfold zipK
    rw [List.zipWith_append (by rw [hl, r.len])]
    rfl
theorem ss_put {i : Nat} {tk tv : TE} {mk mv : En → M D} (hk : SE K tk mk) (hv : SE K tv mv) : SS K (sDPut (tVar i) tk tv) (sPut i mk mv) := by
  intro E0 ae dr os σ ρ s H r s' De o e p
  obtain ⟨⟨x, s1⟩, e1, e⟩ := bindE e
  dsimp only at e
  split at e
  · rename_i ks ds hd
    obtain ⟨⟨y, s2⟩, e2, e⟩ := bindE e
    cases y <;> try (exact nomatch (show (none : Option (Res × DS)) = some (r, s') from e))
    dsimp only at e
    split at e
    · rename_i z hl
      cases e
      refine hv _ dr σ ρ s H x s1 _ o.toE e1 fun v H1 g1 d1 r1 => ?_
      have o1 := o.step g1 d1
      obtain ⟨q, h1, h2, vs, h3, h4⟩ := o.own i _ hd
      refine ⟨.ref q, h1, ?_⟩
      refine hk _ dr σ ρ s1 H1 _ _ _ o1.toE e2 fun w H2 g2 d2 r2 => ?_
      have o2 := o1.step g2 d2
      obtain ⟨q', h1', h2', vs', h3', h4', h5'⟩ := o2.own i _ hd
      rw [h1] at h1'
      cases h1'
      have r1' := r1.kp (g2.kp.mono fun a z => .inl (by rw [z]; exact o.ad))
      obtain ⟨ws, hw1, hw2, hw3⟩ := putK_zip (z := z) h4' h5' r1'
      have hzl : (zipK ks vs').length < sizeLine := by
        unfold zipK
        rw [List.length_zipWith]
        exact line_lt (by omega)
      refine ⟨q, _, rfl, .inl ⟨zipK ks vs', .inr z, h3', r2.str_eq, hzl, rfl⟩, ?_⟩
      rw [hw1]
      exact p os σ _ (o2.chg hd h1 ⟨ws, upd_same, hw3, hw2.kp (.upd (.inr h2))⟩) (((g1.fr o.ad).trans (g2.fr o.ad)).trans ⟨.upd (.inr h2), fun _ z => .inl z, .upd⟩)
    · cases e
  · cases e
theorem ss_for {tg : Tgt} {wi : TI} {mi : En → M (List D)} (hi : SI K wi mi) (hb : SS K t m) : SS K (tFor wi (gOf K tg) t) (sFor tg mi m) := by
  intro E0 ae dr os σ ρ s H r s' De o e p
  obtain ⟨⟨ds, s1⟩, e1, e⟩ := bindE e
  dsimp only at e
  refine hi _ dr σ ρ s H ds s1 _ o.toE e1 fun J H1 g1 d1 it => ?_
  have o1 := o.step g1 d1
  have p1 := p.fr (g1.fr (os := os) o.ad)
  obtain ⟨G, Y, w, it⟩ := it
  have far : ∀ {osc : List Addr} {σc : L2.St} {ρc : En} {sc : DS} {Hc : Hp}, Ok K E0 ae dr osc σc ρc sc Hc → Fr ae os H1 osc Hc → Far (avO ae os) H1 (fun a => avO ae os a ∨ avO ae osc a) Hc := fun oc fc =>
    ⟨fun a z => by
      rcases z with z | z | z
      · exact .inl z
      · exact .inl (.inl z)
      · rcases fc.nw a z with z | z
        · exact .inl (.inr z)
        · exact .inr z, fun a z => .inl z, fc.kp.mono fun a z => .inl z, fun a z => by
      rcases z with z | z
      · exact fc.lv a (o1.toE.al a z)
      · exact oc.toE.al a z⟩
  refine for_it w (Pv := fun i σc Hc => ∃ osc ρc sc, Ok K E0 ae dr osc σc ρc sc Hc ∧ Fr ae os H1 osc Hc ∧ forGo tg m (ds.drop i) ρc sc = some (r, s')) ⟨os, ρ, s1, o1, .refl, e⟩ ?_ ?_ ?_
  · rintro i σc Hc _ ⟨osc, ρc, sc, oc, fc, _⟩
    exact (it _ Hc (far oc fc)).1
  · rintro i x σc Hc H' hi' ⟨osc, ρc, sc, oc, fc, eg⟩ y
    obtain ⟨hH, d0, hd0, rx⟩ := (it _ Hc (far oc fc)).2 i x H' hi' y
    have rx' : Rep K H' (avO ae osc) dr x d0 := rx.wd fun a z => .inl (.inr z)
    have hdrop : ds.drop i = d0 :: ds.drop (i + 1) := by
      rw [List.drop_eq_getElem_cons hi']
      rw [List.getElem?_eq_getElem hi'] at hd0
      cases hd0
      rfl
    rw [hdrop] at eg
    unfold forGo at eg
    obtain ⟨ρ1, et, eg⟩ := bindE eg
    obtain ⟨⟨b, s3⟩, eb, eg⟩ := bindE eg
    have step : Go dr Hc H' ∧ Dr H' dr sc := by
      rcases hH with rfl | ⟨T, ob, hT, rfl⟩
      · exact ⟨.refl, oc.drw⟩
      · exact ⟨.new hT, oc.drw.new hT⟩
    have fc' : Fr ae os H1 osc H' := fc.trans (step.1.fr o.ad)
    refine (oc.step step.1 step.2).tgt rx' et fun σ' o' => ?_
    refine hb E0 ae dr osc σ' ρ1 sc H' b s3 _ o' eb ?_
    cases b with
    | nx ρ' => exact fun os2 σ2 H2 o2 f2 => ⟨os2, ρ', s3, o2, fc'.trans f2, eg⟩
    | ct ρ' => exact fun os2 σ2 H2 o2 f2 => ⟨os2, ρ', s3, o2, fc'.trans f2, eg⟩
    | bk ρ' =>
      cases eg
      exact fun os2 σ2 H2 o2 f2 => p1 os2 σ2 H2 o2 (fc'.trans f2)
    | rt d =>
      cases eg
      exact p1
  · rintro σc Hc ⟨osc, ρc, sc, oc, fc, eg⟩
    rw [List.drop_length] at eg
    cases eg
    exact p1 osc σc Hc oc fc
end
end DL
set_option Elab.async false
set_option linter.all false
set_option maxRecDepth 100000
set_option maxHeartbeats 2000000
namespace DL
open PySem PySem.Spec PyProof.Rows L2
/-! ### rules that the hand layer lacks -/
section
variable {X : Cx}
/-- x in a dict of the module -/
def rInK (K : PySem.W.Frag) (w : World) : R2 := fun x y H Q => ∃ p z, x = .str z ∧ y = .ref p ∧ (((∃ v, KDct K w p z v) ∧ (p == sysModules) = false ∧ Q (.bl true) H) ∨ (KMiss K w p z ∧ Q (.bl false) H))
theorem op_inK : OpR X (compareOp .In) (rInK X.K X.w) := by
  intro pins s σ H x y v u Q I rx ry h
  obtain ⟨p, z, rfl, rfl, h⟩ := h
  obtain ⟨t, rfl⟩ := rx
  obtain rfl : u = Value.ref p := ry
  rcases h with ⟨⟨r, es, n, u0, hl, hk, e, ru⟩, low, q⟩ | ⟨⟨es, n, hl, hk, low, e⟩, q⟩
  · have hm := PySem.W.mapOf_K (prog := X.prog) (w := X.w) I.kIn hl hk
    refine wpAny_in_of (strKind_is X.prog X.w z t) low hm ?_
    rw [PySem.W.find_K hl e]
    exact ⟨.bl true, H, I.tok _, rfl, q⟩
  · have hm := PySem.W.mapOf_K (prog := X.prog) (w := X.w) I.kIn hl hk
    refine wpAny_in_of (strKind_is X.prog X.w z t) low hm ?_
    rw [PySem.W.find_K hl e]
    exact ⟨.bl false, H, I.tok _, rfl, q⟩
/-- d.get(k, e), d a dict of the module -/
def tKGet2 (K : PySem.W.Frag) (w : World) (td ty tx : TE) : TE := fun σ H Q => td σ H fun x H1 => ty σ H1 fun y H2 => tx σ H2 fun d H3 => ∃ p z, x = .ref p ∧ y = .str z ∧ (p == sysModules) = false ∧
  ((∃ v, KDct K w p z v ∧ Q v H3) ∨ (KMiss K w p z ∧ Q d H3))
theorem pe_kget2 {o e f : Expr} {ty tx : TE} {apos cpos : Pos} {p : Addr} {es : Array DictEntry} {n : Nat} (hl : X.K.lookup p = some ⟨.type "dict", none, .dict es n, #[]⟩) (hk : PySem.W.KeysLit X.w.params es.toList)
    (ho : PE X o (tC (.ref p))) (he : PE X e ty) (hf : PE X f tx) (m : M2 X o "get" apos e f cpos) : PE X (.Call (.Attribute o "get" apos) [e, f] [] cpos) (tKGet2 X.K X.w (tC (.ref p)) ty tx) := by
  refine ⟨fun pins s σ H Q I h => ?_⟩
  refine wpAny_Call_method m.base m.few m.line PySem.F.plainAttrs_dict PySem.F.slot_dict_get PySem.F.type_dict_get (thn (ho.run pins s σ H (fun x H1 => x = .ref p ∧ H1 = H) I ⟨rfl, rfl⟩) fun u s1 ⟨x, H1, I1, rx, ex, eh⟩ => ?_)
  subst ex eh
  obtain rfl : u = Value.ref p := rx
  have hm := PySem.W.mapOf_K (prog := X.prog) (w := X.w) I1.kIn hl hk
  refine ⟨hm.typeIs, fun b q => ?_, ?_⟩
  · cases q
    exact ⟨_, I1.kIn _ _ hl, rfl⟩
  rw [m.trees]
  refine Calls.callWith_builtin rfl (Calls.evalArgs_plain (Calls.spliced_cons (thn (he.run pins s1 σ _ _ I1 h) fun iv s2 ⟨y, H2, I2, ry, q2⟩ =>
    Calls.spliced_cons (thn (hf.run pins s2 σ H2 _ I2 q2) fun fv s3 ⟨z, H3, I3, rz, q3⟩ => Calls.spliced_nil ?_))))
  obtain ⟨p', z', ep, rfl, low, q3⟩ := q3
  cases ep
  obtain ⟨t, rfl⟩ := ry
  have hm3 := PySem.W.mapOf_K (prog := X.prog) (w := X.w) I3.kIn hl hk
  rcases q3 with ⟨v, ⟨es', n', u0, hl', hk', e', ru⟩, q⟩ | ⟨⟨es', n', hl', hk', _, e'⟩, q⟩
  · refine call_meetsIn PySem.F.slot_dict_get hm3.typeIs PySem.F.entry_dict_get (PySem.F.args_dict_get_3 _ _ _) (meets_dict_get_default (strKind X.prog X.w) p (strKind_is X.prog X.w z' t) low fv) ⟨_, hm3, ?_⟩
    rw [PySem.W.find_K hl e']
    exact ⟨v, H3, I3.tok _, ru, q⟩
  · refine call_meetsIn PySem.F.slot_dict_get hm3.typeIs PySem.F.entry_dict_get (PySem.F.args_dict_get_3 _ _ _) (meets_dict_get_default (strKind X.prog X.w) p (strKind_is X.prog X.w z' t) low fv) ⟨_, hm3, ?_⟩
    rw [PySem.W.find_K hl e']
    exact ⟨z, H3, I3.tok _, rz, q⟩
/-- what is called is told by an expression: one of two defs -/
def tCallX (tf : TE) (f1 f2 : Addr) (sp1 sp2 : Sp) (t : TA) : TE := fun σ H Q => tf σ H fun v H0 => (v = .ref f1 ∧ t σ H0 fun vs H1 => sp1 vs H1 Q E0) ∨ (v = .ref f2 ∧ t σ H0 fun vs H1 => sp2 vs H1 Q E0)
theorem pe_callX {fe e : Expr} {es : List Expr} {pos : Pos} {tf : TE} {t : TA} {k : Nat} {f1 f2 : Addr} {fd1 fd2 : FuncData} {ps1 ps2 : List Str} {sp1 sp2 : Sp} (F1 : FnOk X.prog X.w X.K X.mg X.base CX0 k f1 fd1 ps1 sp1) (F2 : FnOk X.prog X.w X.K X.mg X.base CX0 k f2 fd2 ps2 sp2) (hr : Room k X.A)
    (hk1 : PySem.W.keepIn X.K (.ref f1) = true) (hk2 : PySem.W.keepIn X.K (.ref f2) = true) (hb1 : Binds X.K fd1 ps1 []) (hb2 : Binds X.K fd2 ps2 []) (hf : PE X fe tf) (ha : PA X (e :: es) t)
    (hc : eval (.Call fe (e :: es) [] pos) X.env = (do callWith pos (← eval fe X.env) [] (backTo pos (starEach (e :: es) X.env)) (backToKw pos (keywordEach [] X.env))) := by rfl)
    (he : starEach (e :: es) X.env = (false, eval e X.env) :: starEach es X.env := by rfl) (hpl : (backTo pos (starEach es X.env)).any (·.1) = false := by rfl) : PE X (.Call fe (e :: es) [] pos) (tCallX tf f1 f2 sp1 sp2 t) := by
  refine ⟨fun pins s σ H Q I h => ?_⟩
  rw [hc]
  refine wpAny_bind (thn (hf.run pins s σ H _ I h) fun u s1 ⟨v, H0, I1, r1, q⟩ => ?_)
  rcases q with ⟨rfl, q⟩ | ⟨rfl, q⟩
  · obtain rfl : u = Value.ref f1 := r1
    refine PySem.W.callWith_K (h₀ := X.base) I.ok.mod.kin hk1 (thn (ha.run pos pins s1 σ _ _ I1 q) fun us s2 ⟨vs, H2, I2, r, q⟩ => ⟨I2.kIn, ?_⟩) he hpl
    exact run_fn F1 hr hb1 .nil pass0 I2 r (by rw [List.append_nil]; exact q)
  · obtain rfl : u = Value.ref f2 := r1
    refine PySem.W.callWith_K (h₀ := X.base) I.ok.mod.kin hk2 (thn (ha.run pos pins s1 σ _ _ I1 q) fun us s2 ⟨vs, H2, I2, r, q⟩ => ⟨I2.kIn, ?_⟩) he hpl
    exact run_fn F2 hr hb2 .nil pass0 I2 r (by rw [List.append_nil]; exact q)
end
end DL
set_option Elab.async false
set_option linter.all false
set_option maxRecDepth 100000
set_option maxHeartbeats 2000000
namespace DL
open PySem PySem.Spec PyProof.Rows L2
theorem tuple_mul1 (l : Addr) (items : Array Value) (n : Nat) (dd : Option Addr) (sl : Array (Option Value)) (u : Tok) (c1 : items.isEmpty = false) :
    Meets (Builtin.«tuple.__mul__» ⟨[.ref l, .int 1 u], []⟩) (fun _ R s => s.heap.get? l = some { cls := .type "tuple", dict := dd, data := .seq items n, slots := sl } ∧ R (.ok (.ret (Value.ref l))) s) :=
  .of_wp fun prog w A R s h => by
    obtain ⟨hp, g, d, tk, os⟩ := s
    obtain ⟨hl, h⟩ := h
    have f1 := AutoSeq1.idx_int
    wp_walk using wpAny_loadPart' hl
    exact ⟨_, rfl, h⟩
theorem tuple_mul0 (l : Addr) (items : Array Value) (n : Nat) (dd : Option Addr) (sl : Array (Option Value)) (u : Tok) (c1 : items.isEmpty = false) :
    Meets (Builtin.«tuple.__mul__» ⟨[.ref l, .int 0 u], []⟩) (fun _ R s => s.heap.get? l = some { cls := .type "tuple", dict := dd, data := .seq items n, slots := sl } ∧
      R (.ok (.ret (Value.ref s.heap.objs.size))) { s with heap := s.heap.push { cls := Value.type "tuple", data := Data.seq #[] }, toks := s.toks }) :=
  .of_wp fun prog w A R s h => by
    obtain ⟨hp, g, d, tk, os⟩ := s
    obtain ⟨hl, h⟩ := h
    have f1 := AutoSeq1.idx_int
    wp_walk using wpAny_loadPart' hl
    exact ⟨_, rfl, h⟩
/-- t * k for k nought or one -/
def rRep01 (K : PySem.W.Frag) : R2 := fun x y H Q => ∃ l k xs, x = .ref l ∧ y = .int k ∧ SqT K H l xs ∧ xs ≠ [] ∧ ((k = 1 ∧ Q (.ref l) H) ∨ (k = 0 ∧ ∀ p, H p = none → Q (.ref p) (upd H p (.tup []))))
theorem op_rep01 {X : Cx} : OpR X (binaryOp .Mult) (rRep01 X.K) := by
  intro pins s σ H x y v u Q I rx ry h
  obtain ⟨l, k, xs, rfl, rfl, hT, hne, h⟩ := h
  cases rx
  obtain ⟨t, rfl⟩ := ry
  obtain ⟨its, r, ⟨⟨cls, dd, data, sl⟩, ho, hc, n, hd⟩, hs⟩ := I.tuple hT
  simp only at hc hd
  subst hc hd
  have hle : its.length = xs.length := r.length.symm
  have hn : its ≠ [] := fun e => hne (by
    rw [e] at hle
    exact List.eq_nil_of_length_eq_zero hle.symm)
  have hi : its.toArray.isEmpty = false := by
    cases its with
    | nil => exact absurd rfl hn
    | cons a b => rfl
  rcases h with ⟨rfl, q⟩ | ⟨rfl, q⟩
  · refine wpAny_binaryOp_repeat_ref (T := "tuple") (U := "int") (by decide) ⟨_, ho, rfl⟩ (fun s' => typeIs_int s' 1 t) noFill_tuple_mul F.fills_int_mul F.slot_int_rmul repeat_tuple F.slot_int_index.lookup
      (call_meets F.slot_int_rmul (typeIs_int s 1 t) F.entry_int_rmul (F.args_int_rmul_2 _ _) (int_rmul_tuple 1 t l its.toArray n dd sl)
        ⟨ho, rfl, ⟨_, ho, rfl⟩, call_meets F.slot_tuple_mul ⟨_, ho, rfl⟩ F.entry_tuple_mul (F.args_tuple_mul_2 _ _) (tuple_mul1 l its.toArray n dd sl t hi) ⟨ho, ?_⟩⟩)
    exact ⟨.ref l, H, I, rfl, q⟩
  · refine wpAny_binaryOp_repeat_ref (T := "tuple") (U := "int") (by decide) ⟨_, ho, rfl⟩ (fun s' => typeIs_int s' 0 t) noFill_tuple_mul F.fills_int_mul F.slot_int_rmul repeat_tuple F.slot_int_index.lookup
      (call_meets F.slot_int_rmul (typeIs_int s 0 t) F.entry_int_rmul (F.args_int_rmul_2 _ _) (int_rmul_tuple 0 t l its.toArray n dd sl)
        ⟨ho, rfl, ⟨_, ho, rfl⟩, call_meets F.slot_tuple_mul ⟨_, ho, rfl⟩ F.entry_tuple_mul (F.args_tuple_mul_2 _ _) (tuple_mul0 l its.toArray n dd sl t hi) ⟨ho, ?_⟩⟩)
    refine ⟨.ref s.heap.objs.size, _, I.laid (t' := s.toks) (o := .tup []) (fun b ob q => Heap.get?_push_of_some _ q) (Nat.le_refl _) ?_, rfl, q _ (I.hok.fresh (Nat.le_refl _))⟩
    exact ⟨by decide, [], .nil, IsTup.new _ _⟩
/-! ### further rules of the data layer -/
def oRep : D → D → Option D
  | .tup [], _ => none
  | .tup (x :: xs), .int k => if k = 1 then some (.tup (x :: xs)) else if k = 0 then some (.tup []) else none
  | _, _ => none
/-- what stands in a dict of texts -/
def getD : List Str → List D → Str → Option D
  | k :: ks, d :: ds, x => if k = x then some d else getD ks ds x
  | _, _, _ => none
def oGet : D → D → Option D
  | .dic ks ds, .str z => getD ks ds z
  | _, _ => none
/-- what is drawn so far -/
def eDr1 (i : Nat) : En → M D := fun ρ s => match ρ[i]? with
  | some (Sl.val .drw) => some (.int (s.k : Int), s)
  | _ => none
/-- one of two defs -/
def ePick (n1 n2 : Nat) (F1 F2 : List D → M D) (mi : En → M D) (a : En → M (List D)) : En → M D := fun ρ s => (mi ρ s).bind fun i => (a ρ i.2).bind fun x => match i.1 with
  | .int 0 => if x.1.length = n1 then F1 x.1 x.2 else none
  | .int 1 => if x.1.length = n2 then F2 x.1 x.2 else none
  | _ => none
section
variable {K : PySem.W.Frag} {td ty tx ta te ti : TE} {md mk mx ma me mi : En → M D} {ts : TA} {ms : En → M (List D)}
theorem os_rep : OpS K (rRep01 K) oRep := by
  intro av dr s H x y a b z Q o ra rb e q
  unfold oRep at e
  split at e
  · cases e
  · obtain ⟨p, vs, rfl, h1, r1⟩ := ra.tup_at
    refine ⟨p, _, vs, rfl, rb.int_eq, h1.sq, (fun z => by rw [z] at r1; cases r1), ?_⟩
    split at e
    · rename_i hk
      cases e
      exact .inl ⟨hk, q.pure o ra⟩
    · split at e
      · rename_i hk
        cases e
        exact .inr ⟨hk, fun l hl => q.newT o hl .nil⟩
      · cases e
  · cases e
theorem getD_rep {H : Hp} {av : Av} {dr : Addr} {z : Str} {d : D} : ∀ {ks : List Str} {vs : List V} {ds : List D}, RepAll K H av dr vs ds → getD ks ds z = some d → ∃ v, valV (zipK ks vs) (Sum.inr z) = some v ∧ Rep K H av dr v d
  | [], _, _, _, e => by simp [getD] at e
  | k :: ks, _, [], _, e => by simp [getD] at e
  | k :: ks, _, x :: ds, r, e => by
    cases r with
    | @cons u us _ _ a r =>
      unfold getD at e
      by_cases hk : k = z
      · rw [if_pos hk] at e
        cases e
        exact ⟨u, by unfold zipK valV; rw [List.zipWith_cons_cons, List.find?_cons]; simp [hk], a⟩
      · rw [if_neg hk] at e
        obtain ⟨v, h1, h2⟩ := getD_rep r e
        refine ⟨v, ?_, h2⟩
        unfold zipK valV at h1 ⊢
        rw [List.zipWith_cons_cons, List.find?_cons]
        simp only [Sum.inr.injEq, hk, decide_false]
        exact h1
theorem se_dget (ha : SE K td md) (hb : SE K ty mk) : SE K (tDGet td ty) (eOp oGet md mk) := by
  intro av dr σ ρ s H d s' Q o e q
  obtain ⟨⟨x, s1⟩, e1, e⟩ := bindE e
  obtain ⟨⟨y, s2⟩, e2, e⟩ := bindE e
  obtain ⟨z, e3, e4⟩ := mapE e
  cases e4
  refine ha av dr σ ρ s H x s1 _ o e1 fun v H1 g1 d1 r1 => ?_
  have o1 := o.step g1 d1
  refine hb av dr σ ρ s1 H1 y s2 _ o1 e2 fun w H2 g2 d2 r2 => ?_
  have r1' := r1.kp (g2.kp.dr o.ad)
  cases x <;> cases y <;> simp only [oGet] at e3 <;> try (cases e3)
  obtain ⟨p, vs, rfl, n, h1, hl, r3⟩ := r1'.dic_at
  obtain ⟨u, h4, h5⟩ := getD_rep r3 e3
  exact ⟨p, u, rfl, .inl ⟨_, Sum.inr _, .inl h1, r2.str_eq, h4.symm⟩, q u H2 (g1.trans g2) d2 h5⟩
theorem se_dr1 {i : Nat} : SE K (tOp (rIx K) (tVar i) (tC (.int 1))) (eDr1 i) := by
  intro av dr σ ρ s H d s' Q o e q
  unfold eDr1 at e
  split at e
  · rename_i hd
    cases e
    obtain ⟨v, h1, h2⟩ := o.val i _ hd
    have h3 := h2.drw_eq
    subst h3
    exact ⟨_, h1, .inl ⟨dr, _, 1, _, rfl, rfl, SqL.of o.drw, atI_nat (j := 1) rfl, q _ H .refl o.drw (.int _)⟩⟩
  · cases e
theorem se_pick {n1 n2 : Nat} {F1 F2 : List D → M D} {f1 f2 : Addr} (hi : SE K ti mi) (ha : SA K ts ms) : SE K (tCallX (tOp (rIxL K) (tLst (tCons (tC (.ref f1)) (tCons (tC (.ref f2)) tNil))) ti) f1 f2 (spF K n1 F1) (spF K n2 F2) ts) (ePick n1 n2 F1 F2 mi ms) := by
  intro av dr σ ρ s H d s' Q o e q
  obtain ⟨⟨x, s1⟩, e1, e⟩ := bindE e
  obtain ⟨⟨y, s2⟩, e2, e⟩ := bindE e
  refine ⟨(by show 2 ≤ sizeLine; decide), fun p hp => ?_⟩
  have o0 := o.step (Go.new (dr := dr) (o := .lst [.ref f1, .ref f2]) hp) (o.drw.new hp)
  refine hi av dr σ ρ s _ x s1 _ o0 e1 fun v H1 g1 d1 r1 => ?_
  have o1 := o0.step g1 d1
  have hp1 : H1 p = some (.lst [.ref f1, .ref f2]) := g1.kp p _ (fun z => o0.at_.drw |> fun h => by
    have := o.at_.fresh hp
    exact this (by rw [z]; exact o.ad)) upd_same
  dsimp only at e
  split at e
  · split at e
    · rename_i hl
      refine ⟨p, _, 0, .ref f1, rfl, r1.int_eq, SqL.of hp1, atI_nat (j := 0) rfl, .inl ⟨rfl, ?_⟩⟩
      refine ha av dr σ ρ s1 H1 y s2 _ o1 e2 fun vs H2 g2 d2 r2 => ?_
      exact ⟨av, dr, s2, y, d, s', (o1.step g2 d2).at_, r2, hl, e, fun v H' g d r => q v H' (((Go.new hp).trans g1).trans (g2.trans g)) d r⟩
    · cases e
  · split at e
    · rename_i hl
      refine ⟨p, _, 1, .ref f2, rfl, r1.int_eq, SqL.of hp1, atI_nat (j := 1) rfl, .inr ⟨rfl, ?_⟩⟩
      refine ha av dr σ ρ s1 H1 y s2 _ o1 e2 fun vs H2 g2 d2 r2 => ?_
      exact ⟨av, dr, s2, y, d, s', (o1.step g2 d2).at_, r2, hl, e, fun v H' g d r => q v H' (((Go.new hp).trans g1).trans (g2.trans g)) d r⟩
    · cases e
  · cases e
/-! ### dicts of the module: texts to tuples of ints -/
structure WDict (K : PySem.W.Frag) (w : World) (a : Addr) (tbl : List (Str × List Int)) (miss : List Str) : Prop where
  low : (a == sysModules) = false
  hit : ∀ z ns, tbl.lookup z = some ns → ∃ q, KDct K w a z (.ref q) ∧ WrT K q (ns.map V.int)
  mis : ∀ z, z ∈ miss → KMiss K w a z
def intsT (ns : List Int) : D := .tup (ns.map D.int)
def wIx (tbl : List (Str × List Int)) : D → Option D
  | .str z => (tbl.lookup z).map intsT
  | _ => none
def wIn (tbl : List (Str × List Int)) (miss : List Str) : D → Option D
  | .str z => if (tbl.lookup z).isSome then some (.bl true) else if z ∈ miss then some (.bl false) else none
  | _ => none
theorem RepAll.ofInts {H : Hp} {av : Av} {dr : Addr} : ∀ (ns : List Int), RepAll K H av dr (ns.map V.int) (ns.map D.int)
  | [] => .nil
  | n :: ns => .cons (.int n) (RepAll.ofInts ns)
theorem se_wix {w : World} {a : Addr} {tbl : List (Str × List Int)} {miss : List Str} (W : WDict K w a tbl miss) (he : SE K te me) : SE K (tOp (rIxD K w) (tC (.ref a)) te) (eUn (wIx tbl) me) := by
  intro av dr σ ρ s H d s' Q o e q
  obtain ⟨⟨x, s1⟩, e1, e⟩ := bindE e
  obtain ⟨z, e3, e4⟩ := mapE e
  cases e4
  refine he av dr σ ρ s H x s1 _ o e1 fun v H1 g1 d1 r1 => ?_
  cases x <;> simp only [wIx] at e3 <;> try (cases e3)
  obtain ⟨ns, e5, rfl⟩ := mapE e3
  obtain ⟨p, h1, h2⟩ := W.hit _ _ e5
  exact ⟨a, _, .ref p, rfl, r1.str_eq, h1, q _ H1 g1 d1 (.tup (.inr h2) (.ofInts ns))⟩
theorem se_win {w : World} {a : Addr} {tbl : List (Str × List Int)} {miss : List Str} (W : WDict K w a tbl miss) (he : SE K te me) : SE K (tOp (rInK K w) te (tC (.ref a))) (eUn (wIn tbl miss) me) := by
  intro av dr σ ρ s H d s' Q o e q
  obtain ⟨⟨x, s1⟩, e1, e⟩ := bindE e
  obtain ⟨z, e3, e4⟩ := mapE e
  cases e4
  refine he av dr σ ρ s H x s1 _ o e1 fun v H1 g1 d1 r1 => ?_
  cases x <;> simp only [wIn] at e3 <;> try (cases e3)
  split at e3
  · rename_i hs
    cases e3
    obtain ⟨ns, hs⟩ := Option.isSome_iff_exists.mp hs
    obtain ⟨p, h1, h2⟩ := W.hit _ _ hs
    exact ⟨a, _, r1.str_eq, rfl, .inl ⟨⟨_, h1⟩, W.low, q _ H1 g1 d1 (.bl true)⟩⟩
  · split at e3
    · rename_i hm
      cases e3
      exact ⟨a, _, r1.str_eq, rfl, .inr ⟨W.mis _ hm, q _ H1 g1 d1 (.bl false)⟩⟩
    · cases e3
/-- d.get(k, ()) -/
def wGet (tbl : List (Str × List Int)) (miss : List Str) : D → Option D
  | .str z => match tbl.lookup z with
    | some ns => some (intsT ns)
    | none => if z ∈ miss then some (.tup []) else none
  | _ => none
theorem se_wget {w : World} {a : Addr} {tbl : List (Str × List Int)} {miss : List Str} (W : WDict K w a tbl miss) (he : SE K te me) : SE K (tKGet2 K w (tC (.ref a)) te (tTup tNil)) (eUn (wGet tbl miss) me) := by
  intro av dr σ ρ s H d s' Q o e q
  obtain ⟨⟨x, s1⟩, e1, e⟩ := bindE e
  obtain ⟨z, e3, e4⟩ := mapE e
  cases e4
  refine he av dr σ ρ s H x s1 _ o e1 fun v H1 g1 d1 r1 => ⟨by decide, fun p hp => ?_⟩
  have o1 := (o.step g1 d1).at_
  cases x <;> simp only [wGet] at e3 <;> try (cases e3)
  split at e3
  · rename_i ns hs
    cases e3
    obtain ⟨l, h1, h2⟩ := W.hit _ _ hs
    exact ⟨a, _, rfl, r1.str_eq, W.low, .inl ⟨.ref l, h1, q _ _ (g1.trans (.new hp)) (d1.new hp) (.tup (.inr h2) (.ofInts ns))⟩⟩
  · split at e3
    · rename_i hm
      cases e3
      exact ⟨a, _, rfl, r1.str_eq, W.low, .inr ⟨W.mis _ hm, q _ _ (g1.trans (.new hp)) (d1.new hp) (.newT o1 hp .nil)⟩⟩
    · cases e3
end
end DL
set_option Elab.async false
set_option linter.all false
set_option maxRecDepth 100000
set_option maxHeartbeats 2000000
namespace DL
open PySem PySem.Spec PyProof.Rows L2
/-! ### defs -/
def env0 (n : Nat) (ds : List D) : En := vals ds ++ List.replicate (n - ds.length) .no
def fnD (n : Nat) (b : En → M Res) : List D → M D := fun ds s => (b (env0 n ds) s).bind fun x => match x.1 with
  | .rt d => some (d, x.2)
  | .nx _ => some (.non, x.2)
  | _ => none
section
variable {P : Program} {w : World} {K : PySem.W.Frag} {mg : Str → Option Value} {base : Heap}
theorem SlotsOk.start {H : Hp} {av : Av} {dr : Addr} {vs : List V} {ds : List D} (r : RepAll K H av dr vs ds) (n : Nat) : SlotsOk K H av dr (vs.map some ++ List.replicate (n - vs.length) none) (env0 n ds) := by
  intro i d e
  unfold env0 vals at e
  by_cases hi : i < ds.length
  · rw [List.getElem?_append_left (by simpa using hi), List.getElem?_map] at e
    obtain ⟨d', e1, e2⟩ := mapE e
    cases e2
    obtain ⟨v, h1, h2⟩ := r.get e1
    refine ⟨v, ?_, h2⟩
    rw [List.getElem?_append_left (by rw [List.length_map, r.len]; exact hi), List.getElem?_map, h1]
    rfl
  · rw [List.getElem?_append_right (by simp; omega), List.getElem?_replicate] at e
    split at e <;> cases e
theorem noOwn {n : Nat} {ds : List D} {i : Nat} {d : D} (e : (env0 n ds)[i]? = some (Sl.own d)) : False := by
  unfold env0 vals at e
  by_cases hi : i < ds.length
  · rw [List.getElem?_append_left (by simpa using hi), List.getElem?_map] at e
    obtain ⟨d', e1, e2⟩ := mapE e
    cases e2
  · rw [List.getElem?_append_right (by simp; omega), List.getElem?_replicate] at e
    split at e <;> cases e
theorem fn_ok {x qual : Str} {st : Stmt} {f : Addr} {fd : FuncData} {N ps : List Str} {k : Nat} {body : En → M Res} (F : Fun K x qual st f fd) (S : FnScope N ps (defScope st))
    (hb : ∀ (cdv : Value) (A : Around) (outer : List Env) (s : Shared) (H : Hp) (E : XK), Room k (A.deeper (envOfC qual (defScope st) s.heap.objs.size f cdv)) → ∃ t, PSs (cxOf CX0 P w K mg base N qual (defScope st) f cdv A outer s H E).nox (defBody st) t ∧ SS K t body) :
    FnOk P w K mg base CX0 (k + 1) f fd ps (spF K ps.length (fnD N.length body)) := by
  refine F.ok S (fun vs H Q E h => ?_) fun cdv A outer s H vs Q E hr h => ?_
  · obtain ⟨av, dr, s, ds, d, s', a, r, hl, _⟩ := h
    rw [r.len, hl]
  · obtain ⟨av, dr, s0, ds, d, s', a, r, hl, e, q⟩ := h
    obtain ⟨t, h1, h2⟩ := hb cdv A outer s H E hr
    refine ⟨t, h1, ?_⟩
    obtain ⟨⟨res, s1⟩, e1, e⟩ := bindE e
    have hst : start N vs = vs.map some ++ List.replicate (N.length - vs.length) none := rfl
    rw [hst]
    have ok : Ok K H av dr [] (vs.map some ++ List.replicate (N.length - vs.length) none) (env0 N.length ds) s0 H := by
      refine ⟨.refl, ?_, a.drw, a.ad, a.al, fun p hp => (by cases hp), ?_, fun i d e => (noOwn e).elim, fun i j d e p _ h1 => (noOwn h1).elim⟩
      · unfold env0 vals
        rw [List.length_append, List.length_append, List.length_map, List.length_map, List.length_replicate, List.length_replicate, r.len]
      · exact (SlotsOk.start r N.length).wd fun a z => by
          rcases z with z | z
          · exact .inl z
          · cases z
    refine h2 H av dr [] _ _ s0 H res s1 _ ok e1 ?_
    cases res with
    | rt d' =>
      cases e
      exact fun v H' g dd rr => q v H' g dd rr
    | nx ρ' =>
      cases e
      exact fun os' σ' H' o f => q .non H' o.go o.drw .non
    | bk ρ' => cases e
    | ct ρ' => cases e
theorem fn_none {f : Addr} {fd : FuncData} {ps : List Str} {k n : Nat} : FnOk P w K mg base CX0 k f fd ps (spF K n fun _ _ => none) :=
  ⟨fun vs H Q E h => by
    obtain ⟨av, dr, s, ds, d, s', a, r, hl, e, _⟩ := h
    exact (nomatch e), fun A outer s H args us vs Q E _ _ _ _ h => by
    obtain ⟨av, dr, s, ds, d, s', a, r, hl, e, _⟩ := h
    exact (nomatch e)⟩
end
/-! ### a draw -/
def nextF (s : DS) : Int × DS :=
  if s.b then (s.n % 10 ^ 6, ⟨s.n / 10 ^ 6, s.k + 1, s.b⟩)
  else
    let k : Int := (s.k : Int) + 1
    let a := (s.n % 1000003 + k * k * 7919 + k) * 48271 % 2147483629
    let b := a * a % 2147483587
    (b * (b + 2) % 2147483579 / 7, ⟨s.n, s.k + 1, s.b⟩)
def lim : Nat := 1000000
def next : List D → M D
  | [.drw], s => if s.k ≤ lim then some (.int (nextF s).1, (nextF s).2) else none
  | _, _ => none
theorem nextF_k (s : DS) : (nextF s).2.k = s.k + 1 := by
  unfold nextF
  split <;> rfl
theorem nextF_lo (s : DS) : 0 ≤ (nextF s).1 := by
  unfold nextF
  split
  · show 0 ≤ s.n % 10 ^ 6
    omega
  · dsimp only
    generalize (_ : Int) * (_ + 2) = z
    omega
theorem nextF_hi (s : DS) : (nextF s).1 < 1073741824 := by
  unfold nextF
  split
  · show s.n % 10 ^ 6 < _
    omega
  · dsimp only
    generalize (_ : Int) * (_ + 2) = z
    omega
theorem fn_okN {P : Program} {w : World} {K : PySem.W.Frag} {mg : Str → Option Value} {base : Heap} {x qual : Str} {st : Stmt} {f : Addr} {fd : FuncData} {N ps : List Str} {k n a : Nat} {body : En → M Res} (F : Fun K x qual st f fd) (S : FnScope N ps (defScope st)) (hn : N.length = n) (ha : ps.length = a)
    (hb : ∀ (cdv : Value) (A : Around) (outer : List Env) (s : Shared) (H : Hp) (E : XK), Room k (A.deeper (envOfC qual (defScope st) s.heap.objs.size f cdv)) → ∃ t, PSs (cxOf CX0 P w K mg base N qual (defScope st) f cdv A outer s H E).nox (defBody st) t ∧ SS K t body) :
    FnOk P w K mg base CX0 (k + 1) f fd ps (spF K a (fnD n body)) := by
  subst hn ha
  exact fn_ok F S hb
theorem hu65 {k : Nat} {A : Around} (r : Room k A) : A.units + 65 < cLine := by
  have := r.un
  omega
abbrev rLenK (K : PySem.W.Frag) : List V → Hp → VK → Prop := fun xs H Q => ∃ p ys, xs = [.ref p] ∧ (SqL K H p ys ∨ SqT K H p ys) ∧ Q (.int ys.length) H
abbrev rTupK (K : PySem.W.Frag) : List V → Hp → VK → Prop := fun xs H Q => ∃ p ys, xs = [.ref p] ∧ ((SqL K H p ys ∧ ∀ l, H l = none → Q (.ref l) (upd H l (.tup ys))) ∨ (SqT K H p ys ∧ Q (.ref p) H))
abbrev oAdd : D → D → Option D := oI0 fun i j => .int (i + j)
abbrev oSub : D → D → Option D := oI0 fun i j => .int (i - j)
abbrev oMul : D → D → Option D := oI cMul fun i j => .int (i * j)
abbrev oDiv : D → D → Option D := oI cDiv fun i j => .int (i / j)
abbrev oMod : D → D → Option D := oI cMod fun i j => .int (i % j)
abbrev oPow : D → D → Option D := oI cPow fun i j => .int (i ^ j.toNat)
abbrev oLt : D → D → Option D := oI0 fun i j => .bl (decide (i < j))
abbrev oLe : D → D → Option D := oI0 fun i j => .bl (decide (i ≤ j))
abbrev oGt : D → D → Option D := oI0 fun i j => .bl (decide (j < i))
abbrev oGe : D → D → Option D := oI0 fun i j => .bl (decide (j ≤ i))
end DL
set_option Elab.async false
set_option linter.all false
set_option maxRecDepth 100000
set_option maxHeartbeats 2000000
/-! What the plain functions tell: rules for Wp (a result is told, and P holds of it). -/
namespace DL
open PySem L2
def Wp {α : Type} (x : Option (α × DS)) (P : α → DS → Prop) : Prop := ∃ a s, x = some (a, s) ∧ P a s
def WO {α : Type} (x : Option α) (P : α → Prop) : Prop := ∃ a, x = some a ∧ P a
section
variable {α β : Type}
theorem wp_some {a : α} {s : DS} {P : α → DS → Prop} (h : P a s) : Wp (some (a, s)) P := ⟨a, s, rfl, h⟩
theorem wp_bind {x : Option (α × DS)} {f : α × DS → Option (β × DS)} {Q : β → DS → Prop} (h : Wp x fun a s => Wp (f (a, s)) Q) : Wp (x.bind f) Q := by
  obtain ⟨a, s, e, b, s', e', q⟩ := h
  exact ⟨b, s', by rw [e]; exact e', q⟩
theorem wp_mapO {x : Option (α × DS)} {f : α × DS → β × DS} {Q : β → DS → Prop} (h : Wp x fun a s => Q (f (a, s)).1 (f (a, s)).2) : Wp (x.map f) Q := by
  obtain ⟨a, s, e, q⟩ := h
  exact ⟨_, _, by rw [e]; rfl, q⟩
theorem Wp.mono {x : Option (α × DS)} {P Q : α → DS → Prop} (h : Wp x P) (f : ∀ a s, P a s → Q a s) : Wp x Q := let ⟨a, s, e, p⟩ := h; ⟨a, s, e, f a s p⟩
theorem wo_some {a : α} {P : α → Prop} (h : P a) : WO (some a) P := ⟨a, rfl, h⟩
end
section
variable {ρ : En} {s : DS} {P : D → DS → Prop} {a b e mi : En → M D} {ms : En → M (List D)} {c mt mu : En → M Bool} {f : D → D → Option D} {R : Res → DS → Prop}
theorem wp_var {i : Nat} {d : D} (h : ρ[i]? = some (Sl.val d)) (p : P d s) : Wp (eVar i ρ s) P := ⟨d, s, by unfold eVar; rw [h], p⟩
theorem wp_c {d : D} (p : P d s) : Wp (eC d ρ s) P := ⟨d, s, rfl, p⟩
theorem wp_op (h : Wp (a ρ s) fun x s1 => Wp (b ρ s1) fun y s2 => WO (f x y) fun z => P z s2) : Wp (eOp f a b ρ s) P := by
  obtain ⟨x, s1, e1, y, s2, e2, z, e3, p⟩ := h
  exact ⟨z, s2, by unfold eOp; rw [e1]; dsimp only [Option.bind]; rw [e2]; dsimp only; rw [e3]; rfl, p⟩
theorem wp_un {f : D → Option D} (h : Wp (a ρ s) fun x s1 => WO (f x) fun z => P z s1) : Wp (eUn f a ρ s) P := by
  obtain ⟨x, s1, e1, z, e3, p⟩ := h
  exact ⟨z, s1, by unfold eUn; rw [e1]; dsimp only [Option.bind]; rw [e3]; rfl, p⟩
theorem wp_anil {Q : List D → DS → Prop} (h : Q [] s) : Wp (aNil ρ s) Q := ⟨[], s, rfl, h⟩
theorem wp_acons {Q : List D → DS → Prop} (h : Wp (a ρ s) fun x s1 => Wp (ms ρ s1) fun xs s2 => Q (x :: xs) s2) : Wp (aCons a ms ρ s) Q := by
  obtain ⟨x, s1, e1, xs, s2, e2, p⟩ := h
  exact ⟨_, s2, by unfold aCons; rw [e1]; dsimp only [Option.bind]; rw [e2]; rfl, p⟩
theorem wp_tup (h : Wp (ms ρ s) fun xs s1 => xs.length ≤ line ∧ P (.tup xs) s1) : Wp (eTup ms ρ s) P := by
  obtain ⟨xs, s1, e1, hl, p⟩ := h
  exact ⟨_, s1, by unfold eTup; rw [e1]; dsimp only [Option.bind]; rw [if_pos hl], p⟩
theorem wp_lst (h : Wp (ms ρ s) fun xs s1 => xs.length ≤ line ∧ P (.lst xs) s1) : Wp (eLst ms ρ s) P := by
  obtain ⟨xs, s1, e1, hl, p⟩ := h
  exact ⟨_, s1, by unfold eLst; rw [e1]; dsimp only [Option.bind]; rw [if_pos hl], p⟩
theorem wp_cb {f : List D → Option D} (h : Wp (ms ρ s) fun xs s1 => WO (f xs) fun z => P z s1) : Wp (eCB f ms ρ s) P := by
  obtain ⟨xs, s1, e1, z, e3, p⟩ := h
  exact ⟨z, s1, by unfold eCB; rw [e1]; dsimp only [Option.bind]; rw [e3]; rfl, p⟩
theorem wp_eif (h : Wp (c ρ s) fun x s1 => (x = true → Wp (a ρ s1) P) ∧ (x = false → Wp (b ρ s1) P)) : Wp (eIf c a b ρ s) P := by
  obtain ⟨x, s1, e1, h1, h2⟩ := h
  unfold eIf
  rw [e1]
  dsimp only [Option.bind]
  cases x with
  | true => rw [if_pos rfl]; exact h1 rfl
  | false => rw [if_neg (by simp)]; exact h2 rfl
theorem wp_call {n : Nat} {F : List D → M D} (h : Wp (ms ρ s) fun xs s1 => xs.length = n ∧ Wp (F xs s1) P) : Wp (eCallN n F ms ρ s) P := by
  obtain ⟨xs, s1, e1, hl, z, s2, e2, p⟩ := h
  exact ⟨z, s2, by unfold eCallN; rw [e1]; dsimp only [Option.bind]; rw [if_pos hl]; exact e2, p⟩
theorem wp_tB {Q : Bool → DS → Prop} (h : Wp (a ρ s) fun x s1 => ∃ k, x = .bl k ∧ Q k s1) : Wp (tB' a ρ s) Q := by
  obtain ⟨x, s1, e1, k, rfl, q⟩ := h
  exact ⟨k, s1, by unfold tB'; rw [e1]; rfl, q⟩
theorem wp_tAnd {Q : Bool → DS → Prop} (h : Wp (mt ρ s) fun x s1 => (x = true → Wp (mu ρ s1) Q) ∧ (x = false → Q false s1)) : Wp (tAnd' mt mu ρ s) Q := by
  obtain ⟨x, s1, e1, h1, h2⟩ := h
  unfold tAnd'
  rw [e1]
  dsimp only [Option.bind]
  cases x with
  | true => rw [if_pos rfl]; exact h1 rfl
  | false => rw [if_neg (by simp)]; exact wp_some (h2 rfl)
theorem wp_tOr {Q : Bool → DS → Prop} (h : Wp (mt ρ s) fun x s1 => (x = true → Q true s1) ∧ (x = false → Wp (mu ρ s1) Q)) : Wp (tOr' mt mu ρ s) Q := by
  obtain ⟨x, s1, e1, h1, h2⟩ := h
  unfold tOr'
  rw [e1]
  dsimp only [Option.bind]
  cases x with
  | true => rw [if_pos rfl]; exact wp_some (h1 rfl)
  | false => rw [if_neg (by simp)]; exact h2 rfl
theorem wp_tNot {Q : Bool → DS → Prop} (h : Wp (mt ρ s) fun x s1 => Q (!x) s1) : Wp (tNot' mt ρ s) Q := wp_mapO h
theorem wp_tYes {Q : Bool → DS → Prop} (h : Q true s) : Wp (tYes' ρ s) Q := ⟨true, s, rfl, h⟩
theorem wp_eAnd (h : Wp (a ρ s) fun x s1 => ∃ k, x = .bl k ∧ (k = true → Wp (b ρ s1) P) ∧ (k = false → P (.bl false) s1)) : Wp (eAnd a b ρ s) P := by
  obtain ⟨x, s1, e1, k, rfl, h1, h2⟩ := h
  unfold eAnd
  rw [e1]
  cases k with
  | true => exact h1 rfl
  | false => exact wp_some (h2 rfl)
theorem wp_eOr (h : Wp (a ρ s) fun x s1 => ∃ k, x = .bl k ∧ (k = true → P (.bl true) s1) ∧ (k = false → Wp (b ρ s1) P)) : Wp (eOr a b ρ s) P := by
  obtain ⟨x, s1, e1, k, rfl, h1, h2⟩ := h
  unfold eOr
  rw [e1]
  cases k with
  | true => exact wp_some (h1 rfl)
  | false => exact h2 rfl
theorem wp_oNone {Q : Option Int → DS → Prop} (h : Q none s) : Wp (oNone ρ s) Q := ⟨none, s, rfl, h⟩
theorem wp_oSome {Q : Option Int → DS → Prop} (h : Wp (a ρ s) fun x s1 => ∃ i, x = .int i ∧ Q (some i) s1) : Wp (oSome a ρ s) Q := by
  obtain ⟨x, s1, e1, i, rfl, q⟩ := h
  exact ⟨some i, s1, by unfold oSome; rw [e1]; rfl, q⟩
theorem wp_sl {g : D → Option Int → Option Int → Option D} {l u : En → M (Option Int)} (h : Wp (a ρ s) fun x s1 => Wp (l ρ s1) fun y s2 => Wp (u ρ s2) fun z s3 => WO (g x y z) fun w => P w s3) : Wp (eSl g a l u ρ s) P := by
  obtain ⟨x, s1, e1, y, s2, e2, z, s3, e3, w, e4, p⟩ := h
  exact ⟨w, s3, by unfold eSl; rw [e1]; dsimp only [Option.bind]; rw [e2]; dsimp only; rw [e3]; dsimp only; rw [e4]; rfl, p⟩
/-! ### what is walked -/
theorem wp_iL {Q : List D → DS → Prop} (h : Wp (a ρ s) fun x s1 => ∃ xs, x = .lst xs ∧ Q xs s1) : Wp (iL a ρ s) Q := by
  obtain ⟨x, s1, e1, xs, rfl, q⟩ := h
  exact ⟨xs, s1, by unfold iL; rw [e1]; rfl, q⟩
theorem wp_iT {Q : List D → DS → Prop} (h : Wp (a ρ s) fun x s1 => ∃ xs, x = .tup xs ∧ Q xs s1) : Wp (iT a ρ s) Q := by
  obtain ⟨x, s1, e1, xs, rfl, q⟩ := h
  exact ⟨xs, s1, by unfold iT; rw [e1]; rfl, q⟩
theorem wp_iS {Q : List D → DS → Prop} (h : Wp (a ρ s) fun x s1 => ∃ z : Str, x = .str z ∧ Q (z.cps.toList.map fun c => .str ⟨#[c]⟩) s1) : Wp (iS a ρ s) Q := by
  obtain ⟨x, s1, e1, z, rfl, q⟩ := h
  exact ⟨_, s1, by unfold iS; rw [e1]; rfl, q⟩
theorem wp_iR {Q : List D → DS → Prop} (h : Wp (ms ρ s) fun xs s1 => ∃ j : Int, xs = [.int j] ∧ -(2 ^ 62) ≤ j ∧ j < 2 ^ 62 ∧ Q ((List.range j.toNat).map fun (i : Nat) => .int (0 + i)) s1) : Wp (iR ms ρ s) Q := by
  obtain ⟨x, s1, e1, j, rfl, h1, h2, q⟩ := h
  refine ⟨_, s1, ?_, q⟩
  unfold iR
  rw [e1]
  dsimp only [Option.bind]
  rw [if_pos (by simp only [Bool.and_eq_true, decide_eq_true_eq]; exact ⟨h1, h2⟩)]
theorem wp_iE {Q : List D → DS → Prop} (h : Wp (ms ρ s) fun xs s1 => ∃ ys, xs = [.lst ys] ∧ Q (enumD 0 ys) s1) : Wp (iE ms ρ s) Q := by
  obtain ⟨x, s1, e1, ys, rfl, q⟩ := h
  exact ⟨_, s1, by unfold iE; rw [e1]; rfl, q⟩
theorem wp_lc {tg : Tgt} {is : En → M (List D)} (h : Wp (is ρ s) fun xs s1 => Wp (lcGo tg mt e (wipeE ρ tg.slots) xs s1) fun ys s2 => ys.length ≤ line ∧ P (.lst ys) s2) : Wp (eLc tg is mt e ρ s) P := by
  obtain ⟨xs, s1, e1, ys, s2, e2, hl, p⟩ := h
  exact ⟨_, s2, by unfold eLc; rw [e1]; dsimp only [Option.bind]; rw [e2]; dsimp only; rw [if_pos hl], p⟩
theorem wp_lcNil {tg : Tgt} {Q : List D → DS → Prop} (h : Q [] s) : Wp (lcGo tg mt e ρ [] s) Q := ⟨[], s, rfl, h⟩
theorem wp_lcCons {tg : Tgt} {d : D} {ds : List D} {Q : List D → DS → Prop} (h : WO (tg.set ρ d) fun ρ1 => Wp (mt ρ1 s) fun k s1 => (k = true → Wp (e ρ1 s1) fun y s2 => Wp (lcGo tg mt e ρ ds s2) fun ys s3 => Q (y :: ys) s3) ∧ (k = false → Wp (lcGo tg mt e ρ ds s1) Q)) : Wp (lcGo tg mt e ρ (d :: ds) s) Q := by
  obtain ⟨ρ1, e0, k, s1, e1, h1, h2⟩ := h
  unfold lcGo
  rw [e0]
  dsimp only [Option.bind]
  rw [e1]
  dsimp only
  cases k with
  | true =>
    rw [if_pos rfl]
    obtain ⟨y, s2, e2, ys, s3, e3, q⟩ := h1 rfl
    exact ⟨_, s3, by rw [e2]; dsimp only; rw [e3]; rfl, q⟩
  | false => rw [if_neg (by simp)]; exact h2 rfl
/-- a comprehension, turn by turn: Iv of what is made, what is left, the state -/
theorem wp_lcBy {tg : Tgt} (Iv : List D → List D → DS → Prop) {Q : List D → DS → Prop} (hs : ∀ (ys : List D) d ds s, Iv ys (d :: ds) s → WO (tg.set ρ d) fun ρ1 => Wp (mt ρ1 s) fun k s1 => (k = true → Wp (e ρ1 s1) fun y s2 => Iv (ys ++ [y]) ds s2) ∧ (k = false → Iv ys ds s1)) (hd : ∀ ys s, Iv ys [] s → Q ys s) :
    ∀ (ds ys : List D) (s : DS), Iv ys ds s → Wp (lcGo tg mt e ρ ds s) fun zs s' => Q (ys ++ zs) s'
  | [], ys, s, h => wp_lcNil (by rw [List.append_nil]; exact hd ys s h)
  | d :: ds, ys, s, h => by
    refine wp_lcCons ?_
    obtain ⟨ρ1, e0, h1⟩ := hs ys d ds s h
    refine ⟨ρ1, e0, h1.mono fun k s1 h2 => ⟨fun hk => (h2.1 hk).mono fun y s2 h3 => ?_, fun hk => wp_lcBy Iv hs hd ds ys s1 (h2.2 hk)⟩⟩
    have := wp_lcBy Iv hs hd ds (ys ++ [y]) s2 h3
    exact this.mono fun zs s' q => by simpa using q
/-! ### statements -/
theorem wp_set {tg : Tgt} (h : Wp (e ρ s) fun d s1 => WO (tg.set ρ d) fun ρ' => R (.nx ρ') s1) : Wp (sSet tg e ρ s) R := by
  obtain ⟨d, s1, e1, ρ', e2, q⟩ := h
  exact ⟨_, s1, by unfold sSet; rw [e1]; dsimp only [Option.bind]; rw [e2]; rfl, q⟩
def thenR (R : Res → DS → Prop) (b : En → M Res) : Res → DS → Prop
  | .nx ρ', s1 => Wp (b ρ' s1) R
  | r, s1 => R r s1
theorem wp_seq {m n : En → M Res} (h : Wp (m ρ s) (thenR R n)) : Wp (sSeq m n ρ s) R := by
  obtain ⟨r, s1, e1, h⟩ := h
  unfold sSeq
  rw [e1]
  cases r with
  | nx ρ' => exact h
  | rt d => exact wp_some h
  | bk d => exact wp_some h
  | ct d => exact wp_some h
theorem wp_sif {m n : En → M Res} (h : Wp (c ρ s) fun x s1 => (x = true → Wp (m ρ s1) R) ∧ (x = false → Wp (n ρ s1) R)) : Wp (sIf c m n ρ s) R := by
  obtain ⟨x, s1, e1, h1, h2⟩ := h
  unfold sIf
  rw [e1]
  dsimp only [Option.bind]
  cases x with
  | true => rw [if_pos rfl]; exact h1 rfl
  | false => rw [if_neg (by simp)]; exact h2 rfl
theorem wp_ret (h : Wp (e ρ s) fun d s1 => R (.rt d) s1) : Wp (sRet e ρ s) R := wp_mapO h
theorem wp_next (h : R (.nx ρ) s) : Wp (sNext ρ s) R := wp_some h
def retR (P : D → DS → Prop) : Res → DS → Prop
  | .rt d, s => P d s
  | .nx _, s => P .non s
  | _, _ => False
theorem wp_fn {n : Nat} {m : En → M Res} {ds : List D} (h : Wp (m (env0 n ds) s) (retR P)) : Wp (fnD n m ds s) P := by
  obtain ⟨r, s1, e1, h⟩ := h
  unfold fnD
  rw [e1]
  cases r with
  | rt d => exact wp_some h
  | nx d => exact wp_some h
  | bk d => exact h.elim
  | ct d => exact h.elim
theorem wp_next1 (h : s.k ≤ lim) (p : ∀ r s', 0 ≤ r → r < 1073741824 → s'.k = s.k + 1 → P (.int r) s') : Wp (next [.drw] s) P :=
  ⟨_, _, by show (if s.k ≤ lim then _ else _) = _; rw [if_pos h], p _ _ (nextF_lo s) (nextF_hi s) (nextF_k s)⟩
end
end DL
set_option Elab.async false
set_option linter.all false
set_option maxRecDepth 100000
set_option maxHeartbeats 2000000
/-! Rules for Wp made for going along by rote. -/
namespace DL
open PySem L2
section
variable {ρ : En} {s : DS} {P : D → DS → Prop} {a b e mi : En → M D} {ms : En → M (List D)} {c mt mu : En → M Bool} {f : D → D → Option D} {R : Res → DS → Prop} {m n : En → M Res}
theorem wq_set {i : Nat} (h : Wp (e ρ s) fun d s1 => Wp (n (ρ.set i (.val d)) s1) R) : Wp (sSeq (sSet (.one i) e) n ρ s) R :=
  wp_seq (wp_set (h.mono fun d s1 h => ⟨_, rfl, h⟩))
theorem wq_unl {is : List Nat} (h : Wp (e ρ s) fun d s1 => ∃ ds, d = .lst ds ∧ ds.length = is.length ∧ Wp (n (setM is (vals ds) ρ) s1) R) : Wp (sSeq (sSet (.unl is) e) n ρ s) R :=
  wp_seq (wp_set (h.mono fun d s1 ⟨ds, e, hl, h⟩ => ⟨_, by subst e; show (if ds.length = is.length then _ else _) = _; rw [if_pos hl], h⟩))
theorem wq_many {is : List Nat} (h : Wp (e ρ s) fun d s1 => ∃ ds, d = .tup ds ∧ ds.length = is.length ∧ Wp (n (setM is (vals ds) ρ) s1) R) : Wp (sSeq (sSet (.many is) e) n ρ s) R :=
  wp_seq (wp_set (h.mono fun d s1 ⟨ds, e, hl, h⟩ => ⟨_, by subst e; show (if ds.length = is.length then _ else _) = _; rw [if_pos hl], h⟩))
theorem wq_if {m1 m2 : En → M Res} (h : Wp (c ρ s) fun x s1 => (x = true → Wp (sSeq m1 n ρ s1) R) ∧ (x = false → Wp (sSeq m2 n ρ s1) R)) : Wp (sSeq (sIf c m1 m2) n ρ s) R := by
  obtain ⟨x, s1, e1, h1, h2⟩ := h
  have e : sSeq (sIf c m1 m2) n ρ s = if x = true then sSeq m1 n ρ s1 else sSeq m2 n ρ s1 := by
    unfold sSeq sIf
    rw [e1]
    cases x <;> rfl
  rw [e]
  cases x with
  | true => rw [if_pos rfl]; exact h1 rfl
  | false => rw [if_neg (by simp)]; exact h2 rfl
theorem wq_ret (h : Wp (e ρ s) fun d s1 => R (.rt d) s1) : Wp (sSeq (sRet e) n ρ s) R :=
  wp_seq (wp_ret (h.mono fun d s1 h => h))
theorem wq_next (h : Wp (n ρ s) R) : Wp (sSeq sNext n ρ s) R := wp_seq (wp_next h)
theorem seq_assoc {m1 m2 : En → M Res} : sSeq (sSeq m1 m2) n ρ s = sSeq m1 (sSeq m2 n) ρ s := by
  unfold sSeq
  cases h : m1 ρ s with
  | none => rfl
  | some x =>
    obtain ⟨x, s1⟩ := x
    cases x <;> rfl
theorem wq_assoc {m1 m2 : En → M Res} (h : Wp (sSeq m1 (sSeq m2 n) ρ s) R) : Wp (sSeq (sSeq m1 m2) n ρ s) R := by rw [seq_assoc]; exact h
theorem wq_ownL {i : Nat} (h : Wp (ms ρ s) fun xs s1 => xs.length ≤ line ∧ Wp (n (ρ.set i (.own (.lst xs))) s1) R) : Wp (sSeq (sOwnL i ms) n ρ s) R := by
  obtain ⟨xs, s1, e1, hl, h⟩ := h
  exact wp_seq ⟨.nx _, s1, by unfold sOwnL; rw [e1]; dsimp only [Option.bind]; rw [if_pos hl], h⟩
theorem wq_ownD {i : Nat} (h : Wp (n (ρ.set i (.own (.dic [] []))) s) R) : Wp (sSeq (sOwnD i) n ρ s) R := wp_seq ⟨_, s, rfl, h⟩
theorem wq_ext {i : Nat} {ds : List D} (hi : ρ[i]? = some (Sl.own (.lst ds))) (h : Wp (e ρ s) fun x s1 => ∃ es, x = .lst es ∧ ds.length + es.length ≤ line ∧ Wp (n (ρ.set i (.own (.lst (ds ++ es)))) s1) R) : Wp (sSeq (sExt i e) n ρ s) R := by
  obtain ⟨x, s1, e1, es, rfl, hl, h⟩ := h
  exact wp_seq ⟨.nx _, s1, by unfold sExt; rw [hi]; dsimp only; rw [e1]; dsimp only [Option.bind]; rw [if_pos hl], h⟩
theorem wp_ext {i : Nat} {ds : List D} (hi : ρ[i]? = some (Sl.own (.lst ds))) (h : Wp (e ρ s) fun x s1 => ∃ es, x = .lst es ∧ ds.length + es.length ≤ line ∧ R (.nx (ρ.set i (.own (.lst (ds ++ es))))) s1) : Wp (sExt i e ρ s) R := by
  obtain ⟨x, s1, e1, es, rfl, hl, h⟩ := h
  exact ⟨_, s1, by unfold sExt; rw [hi]; dsimp only; rw [e1]; dsimp only [Option.bind]; rw [if_pos hl], h⟩
theorem wp_put {i : Nat} {k v : En → M D} {ks : List Str} {ds : List D} (hi : ρ[i]? = some (Sl.own (.dic ks ds))) (hl : ks.length < line) (h : Wp (v ρ s) fun x s1 => Wp (k ρ s1) fun y s2 => ∃ z, y = .str z ∧ R (.nx (ρ.set i (.own (.dic (putD ks ds z x).1 (putD ks ds z x).2)))) s2) : Wp (sPut i k v ρ s) R := by
  obtain ⟨x, s1, e1, y, s2, e2, z, rfl, h⟩ := h
  exact ⟨_, s2, by unfold sPut; rw [e1]; dsimp only [Option.bind]; rw [hi]; dsimp only; rw [e2]; dsimp only; rw [if_pos hl], h⟩
theorem wp_share {i : Nat} {d : D} (hi : ρ[i]? = some (Sl.own d)) (h : Wp (m (ρ.set i (.val d)) s) R) : Wp (sShare i m ρ s) R := by
  unfold sShare shr
  rw [hi]
  exact h
theorem wp_append {i : Nat} {ds : List D} (hi : ρ[i]? = some (Sl.own (.lst ds))) (h : Wp (e ρ s) fun x s1 => ds.length < line ∧ R (.nx (ρ.set i (.own (.lst (ds ++ [x]))))) s1) : Wp (sAppend i e ρ s) R := by
  obtain ⟨x, s1, e1, hl, h⟩ := h
  exact ⟨_, s1, by unfold sAppend; rw [hi]; dsimp only; rw [e1]; dsimp only [Option.bind]; rw [if_pos hl], h⟩
/-! loops -/
theorem wq_for {tg : Tgt} {is : En → M (List D)} (h : Wp (is ρ s) fun xs s1 => Wp (forGo tg m xs ρ s1) (thenR R n)) : Wp (sSeq (sFor tg is m) n ρ s) R := by
  obtain ⟨xs, s1, e1, h⟩ := h
  refine wp_seq ?_
  unfold sFor
  rw [e1]
  exact h
theorem wp_forNil {tg : Tgt} (h : R (.nx ρ) s) : Wp (forGo tg m [] ρ s) R := wp_some h
def goR (tg : Tgt) (m : En → M Res) (ds : List D) (R : Res → DS → Prop) : Res → DS → Prop
  | .nx ρ', s1 => Wp (forGo tg m ds ρ' s1) R
  | .ct ρ', s1 => Wp (forGo tg m ds ρ' s1) R
  | .bk ρ', s1 => R (.nx ρ') s1
  | .rt d, s1 => R (.rt d) s1
theorem wp_forCons {tg : Tgt} {d : D} {ds : List D} (h : WO (tg.set ρ d) fun ρ1 => Wp (m ρ1 s) (goR tg m ds R)) : Wp (forGo tg m (d :: ds) ρ s) R := by
  obtain ⟨ρ1, e0, r, s1, e1, h⟩ := h
  unfold forGo
  rw [e0]
  dsimp only [Option.bind]
  rw [e1]
  cases r with
  | nx ρ' => exact h
  | ct ρ' => exact h
  | bk ρ' => exact wp_some h
  | rt d => exact wp_some h
/-! ### operations -/
variable {Q : D → Prop}
theorem wo_add {i j : Int} (h : Q (.int (i + j))) : WO (oAdd (.int i) (.int j)) Q := ⟨_, rfl, h⟩
theorem wo_sub {i j : Int} (h : Q (.int (i - j))) : WO (oSub (.int i) (.int j)) Q := ⟨_, rfl, h⟩
theorem wo_neg {i : Int} (h : Q (.int (-i))) : WO (oNeg (.int i)) Q := ⟨_, rfl, h⟩
theorem wo_mod {i j : Int} (hj : 0 < j) (h : Q (.int (i % j))) : WO (oMod (.int i) (.int j)) Q := ⟨_, by show (if cMod i j = true then _ else _) = _; rw [if_pos (by simpa [cMod] using hj)], h⟩
theorem wo_div {i j : Int} (hj : 0 < j ∧ j < 1073741824) (h : Q (.int (i / j))) : WO (oDiv (.int i) (.int j)) Q := ⟨_, by show (if cDiv i j = true then _ else _) = _; rw [if_pos (by simpa [cDiv] using hj)], h⟩
theorem wo_mul {i j : Int} (hj : (-(2 ^ 64) < i ∧ i < 2 ^ 64) ∨ (-(2 ^ 64) < j ∧ j < 2 ^ 64)) (h : Q (.int (i * j))) : WO (oMul (.int i) (.int j)) Q := ⟨_, by show (if cMul i j = true then _ else _) = _; rw [if_pos (by simpa only [cMul, Bool.or_eq_true, Bool.and_eq_true, decide_eq_true_eq] using hj)], h⟩
theorem wo_pow {i j : Int} (hj : 0 ≤ j ∧ j ≤ 1000000 ∧ i.natAbs < 2 ^ 64) (h : Q (.int (i ^ j.toNat))) : WO (oPow (.int i) (.int j)) Q := ⟨_, by show (if cPow i j = true then _ else _) = _; rw [if_pos (by simpa only [cPow, Bool.and_eq_true, decide_eq_true_eq, and_assoc] using hj)], h⟩
theorem wo_pow19 (h : Q (.int 10000000000000000000)) : WO (oPow (.int 10) (.int 19)) Q := ⟨_, congrArg (fun z => some (D.int z)) (by decide +kernel : (10 : Int) ^ Int.toNat 19 = 10000000000000000000), h⟩
theorem wo_slS {z : Str} {lo hi : Option Int} (hl : z.length ≤ line) (h : Q (.str (cutS z lo hi))) : WO (slS (.str z) lo hi) Q := ⟨_, by show (if _ then _ else _) = _; rw [if_pos hl], h⟩
theorem wo_lt {i j : Int} (h : Q (.bl (decide (i < j)))) : WO (oLt (.int i) (.int j)) Q := ⟨_, rfl, h⟩
theorem wo_le {i j : Int} (h : Q (.bl (decide (i ≤ j)))) : WO (oLe (.int i) (.int j)) Q := ⟨_, rfl, h⟩
theorem wo_gt {i j : Int} (h : Q (.bl (decide (j < i)))) : WO (oGt (.int i) (.int j)) Q := ⟨_, rfl, h⟩
theorem wo_ge {i j : Int} (h : Q (.bl (decide (j ≤ i)))) : WO (oGe (.int i) (.int j)) Q := ⟨_, rfl, h⟩
theorem wo_eqI {i j : Int} (h : Q (.bl (decide (i = j)))) : WO (oEq (.int i) (.int j)) Q := ⟨_, rfl, h⟩
theorem wo_eqS {i j : Str} (h : Q (.bl (decide (i = j)))) : WO (oEq (.str i) (.str j)) Q := ⟨_, rfl, h⟩
theorem wo_neS {i j : Str} (h : Q (.bl (!decide (i = j)))) : WO (oNe (.str i) (.str j)) Q := ⟨_, rfl, h⟩
theorem wo_neI {i j : Int} (h : Q (.bl (!decide (i = j)))) : WO (oNe (.int i) (.int j)) Q := ⟨_, rfl, h⟩
theorem wo_intB {k : Bool} (h : Q (.int (if k then 1 else 0))) : WO (bInt [.bl k]) Q := ⟨_, rfl, h⟩
theorem wo_lenL {xs : List D} (h : Q (.int xs.length)) : WO (bLen [.lst xs]) Q := ⟨_, rfl, h⟩
theorem wo_lenT {xs : List D} (h : Q (.int xs.length)) : WO (bLen [.tup xs]) Q := ⟨_, rfl, h⟩
theorem wo_cat {xs ys : List D} (hl : xs.length + ys.length ≤ line) (h : Q (.lst (xs ++ ys))) : WO (oCat (.lst xs) (.lst ys)) Q := ⟨_, by show (if _ then _ else _) = _; rw [if_pos hl], h⟩
theorem wo_catT {xs ys : List D} (hl : xs.length + ys.length ≤ line) (h : Q (.tup (xs ++ ys))) : WO (oCatT (.tup xs) (.tup ys)) Q := ⟨_, by show (if _ then _ else _) = _; rw [if_pos hl], h⟩
theorem atI_some {α : Type} {xs : List α} {i : Int} (h0 : 0 ≤ i) (h1 : i < xs.length) : ∃ (j : Nat) (d : α), i = j ∧ xs[j]? = some d ∧ atI xs i = some d := by
  obtain ⟨j, rfl⟩ := Int.eq_ofNat_of_zero_le h0
  have hj : j < xs.length := by omega
  exact ⟨j, xs[j], rfl, List.getElem?_eq_getElem hj, atI_nat (List.getElem?_eq_getElem hj)⟩
/-- an item at a place that isn't known: each one -/
theorem wo_ixL {xs : List D} {i : Int} (h0 : 0 ≤ i) (h1 : i < xs.length) (h : ∀ (j : Nat) d, i = j → xs[j]? = some d → Q d) : WO (oIx (.lst xs) (.int i)) Q := by
  obtain ⟨j, d, e1, e2, e3⟩ := atI_some h0 h1
  exact ⟨d, e3, h j d e1 e2⟩
theorem wo_ixT {xs : List D} {i : Int} (h0 : 0 ≤ i) (h1 : i < xs.length) (h : ∀ (j : Nat) d, i = j → xs[j]? = some d → Q d) : WO (oIx (.tup xs) (.int i)) Q := by
  obtain ⟨j, d, e1, e2, e3⟩ := atI_some h0 h1
  exact ⟨d, e3, h j d e1 e2⟩
theorem wo_ixLn {xs : List D} {j : Nat} {d : D} (e : xs[j]? = some d) (h : Q d) : WO (oIx (.lst xs) (.int (j : Nat))) Q := ⟨d, atI_nat e, h⟩
theorem wo_ixTn {xs : List D} {j : Nat} {d : D} (e : xs[j]? = some d) (h : Q d) : WO (oIx (.tup xs) (.int (j : Nat))) Q := ⟨d, atI_nat e, h⟩
/-- all items of a written list -/
inductive AllOf (Q : D → Prop) : List D → Prop
  | nil : AllOf Q []
  | cons {d : D} {ds : List D} : Q d → AllOf Q ds → AllOf Q (d :: ds)
theorem allIx {xs : List D} {i : Int} {Q : D → Prop} (h : AllOf Q xs) : ∀ (j : Nat) d, i = j → xs[j]? = some d → Q d := by
  intro j d hi e
  clear hi
  induction h generalizing j with
  | nil => simp at e
  | cons h1 _ ih =>
    cases j with
    | zero => simp at e; subst e; exact h1
    | succ j => simp at e; exact ih j e
end
section
variable {ρ : En} {s : DS} {A B : Prop} {Q : Bool → DS → Prop} {mt mu : En → M Bool} {QD : D → Prop}
theorem wp_tAndB (h : Wp (mt ρ s) fun x s1 => Wp (mu ρ s1) fun y s2 => s2 = s1 ∧ Q (x && y) s1) : Wp (tAnd' mt mu ρ s) Q := by
  obtain ⟨x, s1, e1, y, s2, e2, rfl, q⟩ := h
  unfold tAnd'
  rw [e1]
  dsimp only [Option.bind]
  cases x with
  | true => rw [if_pos rfl]; exact ⟨y, s2, e2, q⟩
  | false => rw [if_neg (by simp)]; exact wp_some q
theorem wp_tOrB (h : Wp (mt ρ s) fun x s1 => Wp (mu ρ s1) fun y s2 => s2 = s1 ∧ Q (x || y) s1) : Wp (tOr' mt mu ρ s) Q := by
  obtain ⟨x, s1, e1, y, s2, e2, rfl, q⟩ := h
  unfold tOr'
  rw [e1]
  dsimp only [Option.bind]
  cases x with
  | true => rw [if_pos rfl]; exact wp_some q
  | false => rw [if_neg (by simp)]; exact ⟨y, s2, e2, q⟩
theorem sp_bl {k : Bool} {Q : Bool → Prop} (h : Q k) : ∃ j, D.bl k = D.bl j ∧ Q j := ⟨k, rfl, h⟩
theorem sp_int {k : Int} {Q : Int → Prop} (h : Q k) : ∃ j, D.int k = D.int j ∧ Q j := ⟨k, rfl, h⟩
theorem sp_lst {k : List D} {Q : List D → Prop} (h : Q k) : ∃ j, D.lst k = D.lst j ∧ Q j := ⟨k, rfl, h⟩
theorem sp_tup {k : List D} {Q : List D → Prop} (h : Q k) : ∃ j, D.tup k = D.tup j ∧ Q j := ⟨k, rfl, h⟩
theorem sp_str {k : Str} {Q : Str → Prop} (h : Q k) : ∃ j, D.str k = D.str j ∧ Q j := ⟨k, rfl, h⟩
theorem sp_line {xs : List D} {n : Nat} (h : Nat.ble xs.length n = true) (a : A) : xs.length ≤ n ∧ A := ⟨Nat.le_of_ble_eq_true h, a⟩
theorem sp_len {xs : List D} {n : Nat} (h : xs.length = n) (a : A) : xs.length = n ∧ A := ⟨h, a⟩
theorem sp_same {s : DS} (a : A) : s = s ∧ A := ⟨rfl, a⟩
theorem sp_true (a : A) : (true = true → A) ∧ (true = false → B) := ⟨fun _ => a, fun h => (nomatch h)⟩
theorem sp_false (a : B) : (false = true → A) ∧ (false = false → B) := ⟨fun h => (nomatch h), fun _ => a⟩
theorem sp_dec {p : Prop} [Decidable p] (a : p → A) (b : ¬ p → B) : (decide p = true → A) ∧ (decide p = false → B) := ⟨fun h => a (of_decide_eq_true h), fun h => b (of_decide_eq_false h)⟩
theorem sp_ndec {p : Prop} [Decidable p] (a : ¬ p → A) (b : p → B) : ((!decide p) = true → A) ∧ ((!decide p) = false → B) := ⟨fun h => a (by simpa using h), fun h => b (by simpa using h)⟩
theorem sp_not {k : Bool} (h : (k = true → B) ∧ (k = false → A)) : ((!k) = true → A) ∧ ((!k) = false → B) := by cases k <;> simp_all
theorem sp_and {j k : Bool} (a : j = true → k = true → A) (b : (j = true → k = true → False) → B) : ((j && k) = true → A) ∧ ((j && k) = false → B) := by cases j <;> cases k <;> simp_all
theorem sp_or {j k : Bool} (a : (j = false → k = false → False) → A) (b : j = false → k = false → B) : ((j || k) = true → A) ∧ ((j || k) = false → B) := by cases j <;> cases k <;> simp_all
theorem wo_intC {k : Bool} (h : (k = true → QD (.int 1)) ∧ (k = false → QD (.int 0))) : WO (bInt [.bl k]) QD := by
  cases k with
  | true => exact ⟨_, rfl, h.1 rfl⟩
  | false => exact ⟨_, rfl, h.2 rfl⟩
end
section
variable {ρ : En} {mt : En → M Bool} {e a : En → M D} {ms : En → M (List D)}
/-- a comprehension: I of the turns done and the state, G of what is walked, F of what is made -/
theorem wp_lcInv {tg : Tgt} (I : Nat → DS → Prop) (G F : D → Prop) (h : ∀ i d s, G d → I i s → WO (tg.set ρ d) fun ρ1 => Wp (mt ρ1 s) fun k s1 => (k = true → Wp (e ρ1 s1) fun y s2 => I (i + 1) s2 ∧ F y) ∧ (k = false → I (i + 1) s1)) :
    ∀ (ds : List D) (i : Nat) (s : DS), (∀ d ∈ ds, G d) → I i s → Wp (lcGo tg mt e ρ ds s) fun ys s' => I (i + ds.length) s' ∧ (∀ y ∈ ys, F y) ∧ ys.length ≤ ds.length
  | [], i, s, _, hi => wp_lcNil ⟨hi, by simp, by simp⟩
  | d :: ds, i, s, hg, hi => by
    refine wp_lcCons ?_
    obtain ⟨ρ1, e0, h1⟩ := h i d s (hg d (by simp)) hi
    have hc : i + (d :: ds).length = i + 1 + ds.length := by simp; omega
    rw [hc]
    refine ⟨ρ1, e0, h1.mono fun k s1 h2 => ⟨fun hk => (h2.1 hk).mono fun y s2 h3 => ?_, fun hk => ?_⟩⟩
    · refine (wp_lcInv I G F h ds (i + 1) s2 (fun x hx => hg x (by simp [hx])) h3.1).mono fun ys s3 ⟨q1, q2, q3⟩ => ⟨q1, fun y' hy => ?_, by simp; omega⟩
      rcases List.mem_cons.mp hy with rfl | hy
      · exact h3.2
      · exact q2 y' hy
    · exact (wp_lcInv I G F h ds (i + 1) s1 (fun x hx => hg x (by simp [hx])) (h2.2 hk)).mono fun ys s3 ⟨q1, q2, q3⟩ => ⟨q1, q2, by simp; omega⟩
/-- the same, I of how many are left -/
theorem wp_lcRem {tg : Tgt} (I : Nat → DS → Prop) (G F : D → Prop) (h : ∀ i d s, G d → I (i + 1) s → WO (tg.set ρ d) fun ρ1 => Wp (mt ρ1 s) fun k s1 => (k = true → Wp (e ρ1 s1) fun y s2 => I i s2 ∧ F y) ∧ (k = false → I i s1)) :
    ∀ (ds : List D) (s : DS), (∀ d ∈ ds, G d) → I ds.length s → Wp (lcGo tg mt e ρ ds s) fun ys s' => I 0 s' ∧ (∀ y ∈ ys, F y) ∧ ys.length ≤ ds.length
  | [], s, _, hi => wp_lcNil ⟨hi, by simp, by simp⟩
  | d :: ds, s, hg, hi => by
    refine wp_lcCons ?_
    obtain ⟨ρ1, e0, h1⟩ := h ds.length d s (hg d (by simp)) hi
    refine ⟨ρ1, e0, h1.mono fun k s1 h2 => ⟨fun hk => (h2.1 hk).mono fun y s2 h3 => ?_, fun hk => ?_⟩⟩
    · refine (wp_lcRem I G F h ds s2 (fun x hx => hg x (by simp [hx])) h3.1).mono fun ys s3 ⟨q1, q2, q3⟩ => ⟨q1, fun y' hy => ?_, by simp; omega⟩
      rcases List.mem_cons.mp hy with rfl | hy
      · exact h3.2
      · exact q2 y' hy
    · exact (wp_lcRem I G F h ds s1 (fun x hx => hg x (by simp [hx])) (h2.2 hk)).mono fun ys s3 ⟨q1, q2, q3⟩ => ⟨q1, q2, by simp; omega⟩
/-- a comprehension that draws nothing, told by a function -/
theorem wp_lcFM' {tg : Tgt} {s : DS} (f : D → Option D) : ∀ (ds : List D), (∀ d ∈ ds, WO (tg.set ρ d) fun ρ1 => Wp (mt ρ1 s) fun k s1 => s1 = s ∧ (k = true → Wp (e ρ1 s) fun y s2 => s2 = s ∧ f d = some y) ∧ (k = false → f d = none)) → Wp (lcGo tg mt e ρ ds s) fun ys s' => s' = s ∧ ys = ds.filterMap f
  | [], _ => wp_lcNil ⟨rfl, rfl⟩
  | d :: ds, h => by
    refine wp_lcCons ?_
    obtain ⟨ρ1, e0, h1⟩ := h d (by simp)
    refine ⟨ρ1, e0, h1.mono fun k s1 h2 => ?_⟩
    obtain ⟨rfl, h3, h4⟩ := h2
    refine ⟨fun hk => (h3 hk).mono fun y s2 h5 => ?_, fun hk => ?_⟩
    · obtain ⟨rfl, h5⟩ := h5
      exact (wp_lcFM' f ds fun x hx => h x (by simp [hx])).mono fun ys s3 ⟨q1, q2⟩ => ⟨q1, by rw [q2, List.filterMap_cons, h5]⟩
    · exact (wp_lcFM' f ds fun x hx => h x (by simp [hx])).mono fun ys s3 ⟨q1, q2⟩ => ⟨q1, by rw [q2, List.filterMap_cons, h4 hk]⟩
theorem wp_lcFM {tg : Tgt} {s : DS} {ds : List D} {Q : List D → DS → Prop} (f : D → Option D) (h : ∀ d ∈ ds, WO (tg.set ρ d) fun ρ1 => Wp (mt ρ1 s) fun k s1 => s1 = s ∧ (k = true → Wp (e ρ1 s) fun y s2 => s2 = s ∧ f d = some y) ∧ (k = false → f d = none)) (q : Q (ds.filterMap f) s) : Wp (lcGo tg mt e ρ ds s) Q :=
  (wp_lcFM' f ds h).mono fun ys s' ⟨e1, e2⟩ => by rw [e1, e2]; exact q
theorem wp_iRn {s : DS} {Q : List D → DS → Prop} (n : Nat) (hn : n ≤ 1000000) (h : Wp (ms ρ s) fun xs s1 => xs = [.int (n : Nat)] ∧ Q ((List.range n).map fun (i : Nat) => .int (0 + i)) s1) : Wp (iR ms ρ s) Q :=
  wp_iR (h.mono fun xs s1 ⟨e, q⟩ => ⟨n, e, by omega, by omega, by simpa using q⟩)
theorem wp_iR2 {s : DS} {Q : List D → DS → Prop} (h : Wp (ms ρ s) fun xs s1 => xs = [.int 2] ∧ Q [.int 0, .int 1] s1) : Wp (iR ms ρ s) Q :=
  wp_iRn 2 (by omega) h
theorem wp_iR3 {s : DS} {Q : List D → DS → Prop} (h : Wp (ms ρ s) fun xs s1 => xs = [.int 3] ∧ Q [.int 0, .int 1, .int 2] s1) : Wp (iR ms ρ s) Q :=
  wp_iRn 3 (by omega) h
theorem sp_eq {A : Prop} {xs ys : List D} (e : xs = ys) (a : A) : xs = ys ∧ A := ⟨e, a⟩
theorem wo_one {i : Nat} {ρ : En} {d : D} {Q : En → Prop} (h : Q (ρ.set i (.val d))) : WO ((Tgt.one i).set ρ d) Q := ⟨_, rfl, h⟩
theorem wo_many {is : List Nat} {ρ : En} {ds : List D} {Q : En → Prop} (hl : ds.length = is.length) (h : Q (setM is (vals ds) ρ)) : WO ((Tgt.many is).set ρ (.tup ds)) Q := ⟨_, by show (if ds.length = is.length then _ else _) = _; rw [if_pos hl], h⟩
/-- fewer draws than so many -/
theorem le_line {n m : Nat} (h : n ≤ m) (h2 : m ≤ line) : n ≤ line := Nat.le_trans h h2
end
end DL
set_option Elab.async false
set_option linter.all false
set_option maxRecDepth 100000
set_option maxHeartbeats 2000000
/-! Plain data: what may be compared and shown. -/
namespace DL
open PySem L2
mutual
def pl : D → Bool
  | .non => true
  | .bl _ => true
  | .int _ => true
  | .str x => PyData.strOk x
  | .lst xs => pls xs
  | .tup xs => pls xs
  | .dic _ _ => false
  | .drw => false
def pls : List D → Bool
  | [] => true
  | x :: xs => pl x && pls xs
end
mutual
def dep : D → Nat
  | .lst xs => deps xs + 1
  | .tup xs => deps xs + 1
  | _ => 0
def deps : List D → Nat
  | [] => 0
  | x :: xs => max (dep x) (deps xs)
end
mutual
def eqD : D → D → Bool
  | .non, .non => true
  | .bl a, .bl b => a == b
  | .bl a, .int j => (if a then 1 else 0) == j
  | .int i, .bl b => i == (if b then 1 else 0)
  | .int i, .int j => i == j
  | .str x, .str y => x == y
  | .lst xs, .lst ys => eqDs xs ys
  | .tup xs, .tup ys => eqDs xs ys
  | _, _ => false
def eqDs : List D → List D → Bool
  | [], [] => true
  | x :: xs, y :: ys => eqD x y && eqDs xs ys
  | _, _ => false
end
theorem pls_iff : ∀ {xs : List D}, pls xs = true ↔ ∀ x ∈ xs, pl x = true
  | [] => by simp [pls]
  | x :: xs => by simp [pls, pls_iff (xs := xs)]
theorem deps_le {n : Nat} : ∀ {xs : List D}, deps xs ≤ n ↔ ∀ x ∈ xs, dep x ≤ n
  | [] => by simp [deps]
  | x :: xs => by simp [deps, Nat.max_le, deps_le (xs := xs)]
mutual
theorem toP_pl : ∀ (d : D), pl d = true → ∃ p, toP d = some p ∧ p.canLay0 = true ∧ p.depth = dep d
  | .non, _ => ⟨.none, rfl, rfl, rfl⟩
  | .bl b, _ => ⟨.bool b, rfl, rfl, rfl⟩
  | .int b, _ => ⟨.int b, rfl, rfl, rfl⟩
  | .str x, h => ⟨.str x, rfl, h, rfl⟩
  | .dic _ _, h => by simp [pl] at h
  | .drw, h => by simp [pl] at h
  | .lst xs, h => by
    obtain ⟨ps, e1, e2, e3⟩ := toPs_pl xs (by simpa [pl] using h)
    exact ⟨.list ps, by simp [toP, e1], by simpa [PyData.canLay0] using e2, by simp [PyData.depth, dep, e3]⟩
  | .tup xs, h => by
    obtain ⟨ps, e1, e2, e3⟩ := toPs_pl xs (by simpa [pl] using h)
    exact ⟨.tuple ps, by simp [toP, e1], by simpa [PyData.canLay0] using e2, by simp [PyData.depth, dep, e3]⟩
theorem toPs_pl : ∀ (xs : List D), pls xs = true → ∃ ps, toPs xs = some ps ∧ PyData.canLayAll0 ps = true ∧ PyData.depthAll ps = deps xs
  | [], _ => ⟨[], rfl, rfl, rfl⟩
  | x :: xs, h => by
    simp only [pls, Bool.and_eq_true] at h
    obtain ⟨p, e1, e2, e3⟩ := toP_pl x h.1
    obtain ⟨ps, f1, f2, f3⟩ := toPs_pl xs h.2
    exact ⟨p :: ps, by simp [toPs, e1, f1], by simp [PyData.canLayAll0, e2, f2], by simp [PyData.depthAll, deps, e3, f3]⟩
end
mutual
theorem eqv_eqD : ∀ (d e : D) (p q : PyData), toP d = some p → toP e = some q → PyData.eqv p q = eqD d e
  | .non, e, p, q, h, h2 => by
    cases e <;> simp [toP] at h h2 <;> first | (obtain ⟨w, hw, hh⟩ := h2; subst hh; subst h; simp [PyData.eqv, eqD]) | (subst h2; subst h; simp [PyData.eqv, eqD])
  | .bl b, e, p, q, h, h2 => by
    cases e <;> simp [toP] at h h2 <;> first | (obtain ⟨w, hw, hh⟩ := h2; subst hh; subst h; simp [PyData.eqv, eqD]) | (subst h2; subst h; simp [PyData.eqv, eqD])
  | .int b, e, p, q, h, h2 => by
    cases e <;> simp [toP] at h h2 <;> first | (obtain ⟨w, hw, hh⟩ := h2; subst hh; subst h; simp [PyData.eqv, eqD]) | (subst h2; subst h; simp [PyData.eqv, eqD])
  | .str b, e, p, q, h, h2 => by
    cases e <;> simp [toP] at h h2 <;> first | (obtain ⟨w, hw, hh⟩ := h2; subst hh; subst h; simp [PyData.eqv, eqD]) | (subst h2; subst h; simp [PyData.eqv, eqD])
  | .dic _ _, e, p, q, h, h2 => by simp [toP] at h
  | .drw, e, p, q, h, h2 => by simp [toP] at h
  | .lst xs, e, p, q, h, h2 => by
    cases e <;> simp [toP] at h h2 <;> obtain ⟨ps, h, rfl⟩ := h
    case lst ys =>
      obtain ⟨qs, h2, rfl⟩ := h2
      simp only [PyData.eqv, eqD]
      exact eqvs_eqD xs ys ps qs h h2
    case tup ys =>
      obtain ⟨qs, h2, rfl⟩ := h2
      simp [PyData.eqv, eqD]
    all_goals subst h2; simp [PyData.eqv, eqD]
  | .tup xs, e, p, q, h, h2 => by
    cases e <;> simp [toP] at h h2 <;> obtain ⟨ps, h, rfl⟩ := h
    case tup ys =>
      obtain ⟨qs, h2, rfl⟩ := h2
      simp only [PyData.eqv, eqD]
      exact eqvs_eqD xs ys ps qs h h2
    case lst ys =>
      obtain ⟨qs, h2, rfl⟩ := h2
      simp [PyData.eqv, eqD]
    all_goals subst h2; simp [PyData.eqv, eqD]
theorem eqvs_eqD : ∀ (d e : List D) (p q : List PyData), toPs d = some p → toPs e = some q → PyData.eqvAll p q = eqDs d e
  | [], [], p, q, h, h2 => by
    simp [toPs] at h h2
    subst h h2
    simp [PyData.eqvAll, eqDs]
  | [], y :: ys, p, q, h, h2 => by
    simp only [toPs, Option.bind_eq_some_iff, Option.map_eq_some_iff] at h2
    obtain ⟨q1, _, qs, _, rfl⟩ := h2
    simp [toPs] at h
    subst h
    simp [PyData.eqvAll, eqDs]
  | x :: xs, [], p, q, h, h2 => by
    simp only [toPs, Option.bind_eq_some_iff, Option.map_eq_some_iff] at h
    obtain ⟨q1, _, qs, _, rfl⟩ := h
    simp [toPs] at h2
    subst h2
    simp [PyData.eqvAll, eqDs]
  | x :: xs, y :: ys, p, q, h, h2 => by
    simp only [toPs, Option.bind_eq_some_iff, Option.map_eq_some_iff] at h h2
    obtain ⟨q1, h1, qs, h3, rfl⟩ := h
    obtain ⟨r1, h4, rs, h5, rfl⟩ := h2
    simp [PyData.eqvAll, eqDs, eqv_eqD x y q1 r1 h1 h4, eqvs_eqD xs ys qs rs h3 h5]
end
/-- comparable -/
def cmpb (d : D) : Prop := pl d = true ∧ dep d ≤ 60
theorem cmpb.toP {d : D} (h : cmpb d) : ∃ p, toP d = some p ∧ SeqAt.shaped p = true := by
  obtain ⟨p, e1, e2, e3⟩ := toP_pl d h.1
  exact ⟨p, e1, by have := h.2; simp [SeqAt.shaped, e2, e3]; omega⟩
section
variable {Q : D → Prop} {a b : D}
theorem wo_eqD (ha : cmpb a) (hb : cmpb b) (h : Q (.bl (eqD a b))) : WO (oEqD a b) Q := by
  obtain ⟨p, e1, e2⟩ := ha.toP
  obtain ⟨q, f1, f2⟩ := hb.toP
  exact ⟨_, by simp [oEqD, e1, f1, e2, f2, eqv_eqD a b p q e1 f1], h⟩
theorem wo_neD (ha : cmpb a) (hb : cmpb b) (h : Q (.bl (!eqD a b))) : WO (oNeD a b) Q := by
  obtain ⟨p, e1, e2⟩ := ha.toP
  obtain ⟨q, f1, f2⟩ := hb.toP
  exact ⟨_, by simp [oNeD, e1, f1, e2, f2, eqv_eqD a b p q e1 f1], h⟩
theorem any_eqD {p : PyData} (e : toP a = some p) : ∀ {xs : List D} {qs : List PyData}, toPs xs = some qs → (qs.any fun z => PyData.eqv z p) = xs.any fun z => eqD z a
  | [], qs, h => by simp [toPs] at h; subst h; rfl
  | x :: xs, qs, h => by
    simp only [toPs, Option.bind_eq_some_iff, Option.map_eq_some_iff] at h
    obtain ⟨q1, h1, qs, h3, rfl⟩ := h
    rw [List.any_cons, List.any_cons, any_eqD e h3, eqv_eqD x a q1 p h1 e]
theorem wo_inD {xs : List D} (ha : cmpb a) (hb : cmpb (.lst xs)) (h : Q (.bl (xs.any fun z => eqD z a))) : WO (oInD a (.lst xs)) Q := by
  obtain ⟨p, e1, e2⟩ := ha.toP
  obtain ⟨q, f1, f2⟩ := hb.toP
  simp only [toP, Option.map_eq_some_iff] at f1
  obtain ⟨qs, f1, rfl⟩ := f1
  exact ⟨_, by simp [oInD, e1, f1, e2, f2, any_eqD e1 f1], h⟩
end
theorem cmpb_str {z : Str} (h : PyData.strOk z = true) : cmpb (.str z) := ⟨h, by simp [dep]⟩
theorem cmpb_nil : cmpb (.lst []) := ⟨rfl, by decide⟩
theorem cmpb_nilT : cmpb (.tup []) := ⟨rfl, by decide⟩
theorem eqD_nil {xs : List D} : eqD (.lst xs) (.lst []) = decide (xs = []) := by cases xs <;> simp [eqD, eqDs]
theorem eqD_nilT {xs : List D} : eqD (.tup xs) (.tup []) = decide (xs = []) := by cases xs <;> simp [eqD, eqDs]
/-! ### what is written of it -/
mutual
def shw : D → Str
  | .non => "None"
  | .bl b => if b then "True" else "False"
  | .int i => toString i
  | .str x => reprText x
  | .lst xs => listText (shws xs)
  | .tup xs => tupleText (shws xs)
  | _ => ""
def shws : List D → List Str
  | [] => []
  | x :: xs => shw x :: shws xs
end
mutual
theorem shown_shw : ∀ (d : D) (p : PyData), toP d = some p → p.shown = shw d
  | .non, p, h => by simp [toP] at h; subst h; rfl
  | .bl b, p, h => by simp [toP] at h; subst h; rfl
  | .int b, p, h => by simp [toP] at h; subst h; rfl
  | .str b, p, h => by simp [toP] at h; subst h; rfl
  | .dic _ _, p, h => by simp [toP] at h
  | .drw, p, h => by simp [toP] at h
  | .lst xs, p, h => by
    simp only [toP, Option.map_eq_some_iff] at h
    obtain ⟨ps, h, rfl⟩ := h
    simp only [PyData.shown, shw, showns_shw xs ps h]
  | .tup xs, p, h => by
    simp only [toP, Option.map_eq_some_iff] at h
    obtain ⟨ps, h, rfl⟩ := h
    simp only [PyData.shown, shw, showns_shw xs ps h]
theorem showns_shw : ∀ (d : List D) (p : List PyData), toPs d = some p → PyData.shownAll p = shws d
  | [], p, h => by simp [toPs] at h; subst h; rfl
  | x :: xs, p, h => by
    simp only [toPs, Option.bind_eq_some_iff, Option.map_eq_some_iff] at h
    obtain ⟨q1, h1, qs, h3, rfl⟩ := h
    simp only [PyData.shownAll, shws, shown_shw x q1 h1, showns_shw xs qs h3]
end
end DL
set_option Elab.async false
set_option linter.all false
set_option maxRecDepth 100000
set_option maxHeartbeats 2000000
namespace DL
open PySem L2
/-! ### slots as written lists -/
class SetL (ρ : En) (i : Nat) (x : Sl) (ρ' : outParam En) : Prop where
  eq : ρ.set i x = ρ'
instance {y x : Sl} {ρ : En} : SetL (y :: ρ) 0 x (x :: ρ) := ⟨rfl⟩
instance {y x : Sl} {ρ ρ' : En} {i : Nat} [h : SetL ρ i x ρ'] : SetL (y :: ρ) (i + 1) x (y :: ρ') := ⟨by rw [List.set_cons_succ, h.eq]⟩
class Lk (ρ : En) (i : Nat) (x : outParam Sl) : Prop where
  eq : ρ[i]? = some x
instance {y : Sl} {ρ : En} : Lk (y :: ρ) 0 y := ⟨rfl⟩
instance {y x : Sl} {ρ : En} {i : Nat} [h : Lk ρ i x] : Lk (y :: ρ) (i + 1) x := ⟨by rw [List.getElem?_cons_succ, h.eq]⟩
class Wl (ρ : En) (is : List Nat) (ρ' : outParam En) : Prop where
  eq : wipeE ρ is = ρ'
instance {ρ : En} : Wl ρ [] ρ := ⟨rfl⟩
instance {ρ ρ1 ρ' : En} {i : Nat} {is : List Nat} [h : Wl ρ is ρ1] [h2 : SetL ρ1 i .no ρ'] : Wl ρ (i :: is) ρ' := ⟨by unfold wipeE; rw [h.eq, h2.eq]⟩
class Ev0 (n : Nat) (ds : List D) (ρ : outParam En) : Prop where
  eq : vals ds ++ List.replicate (n - ds.length) Sl.no = ρ
instance : Ev0 0 [] [] := ⟨rfl⟩
instance {n : Nat} {ρ : En} [h : Ev0 n [] ρ] : Ev0 (n + 1) [] (.no :: ρ) := ⟨by have := h.eq; simp [vals] at this ⊢; rw [List.replicate_succ, this]⟩
instance {n : Nat} {d : D} {ds : List D} {ρ : En} [h : Ev0 n ds ρ] : Ev0 (n + 1) (d :: ds) (.val d :: ρ) := ⟨by have := h.eq; simp [vals] at this ⊢; exact this⟩
def SetK : List Nat → List D → En → (En → Prop) → Prop
  | [], [], ρ, k => k ρ
  | i :: is, d :: ds, ρ, k => SetK is ds (ρ.set i (.val d)) k
  | _, _, _, _ => False
theorem SetK.len : ∀ {is : List Nat} {ds : List D} {ρ : En} {k : En → Prop}, SetK is ds ρ k → ds.length = is.length ∧ k (setM is (vals ds) ρ)
  | [], [], ρ, k, h => ⟨rfl, h⟩
  | i :: is, d :: ds, ρ, k, h => by
    obtain ⟨h1, h2⟩ := SetK.len (is := is) (ds := ds) h
    exact ⟨by simp [h1], h2⟩
class Short (xs : List D) (n : Nat) : Prop where
  le : xs.length ≤ n
instance {n : Nat} : Short [] n := ⟨Nat.zero_le n⟩
instance {x : D} {xs : List D} {n : Nat} [h : Short xs n] : Short (x :: xs) (n + 1) := ⟨Nat.succ_le_succ h.le⟩
class LenEq (xs : List D) (n : Nat) : Prop where
  eq : xs.length = n
instance : LenEq [] 0 := ⟨rfl⟩
instance {x : D} {xs : List D} {n : Nat} [h : LenEq xs n] : LenEq (x :: xs) (n + 1) := ⟨congrArg (· + 1) h.eq⟩
class AppL (xs ys : List D) (zs : outParam (List D)) : Prop where
  eq : xs ++ ys = zs
instance {ys : List D} : AppL [] ys ys := ⟨rfl⟩
instance {x : D} {xs ys zs : List D} [h : AppL xs ys zs] : AppL (x :: xs) ys (x :: zs) := ⟨congrArg (x :: ·) h.eq⟩
class LenIs (xs : List D) (n : outParam Nat) : Prop where
  eq : xs.length = n
instance : LenIs [] 0 := ⟨rfl⟩
instance {x : D} {xs : List D} {n : Nat} [h : LenIs xs n] : LenIs (x :: xs) (n + 1) := ⟨congrArg (· + 1) h.eq⟩
/-- one step, found by the form alone -/
class Stp (G : Prop) (N : outParam Prop) : Prop where
  go : N → G
section
variable {ρ ρ' : En} {s : DS} {P : D → DS → Prop} {a b e mi : En → M D} {ms is : En → M (List D)} {c mt mu : En → M Bool} {f : D → D → Option D} {g1 : D → Option D} {gl : List D → Option D} {R : Res → DS → Prop} {m n m1 m2 : En → M Res} {QL : List D → DS → Prop} {QB : Bool → DS → Prop} {QO : Option Int → DS → Prop} {Q : D → Prop} {d d1 : D} {ds xs ys : List D} {A B : Prop} {ii : Nat} {il : List Nat} {rf : D → En} {rl : List D → En}
theorem wp_fnL {n : Nat} [h : Ev0 n ds ρ] (g : Wp (m ρ s) (retR P)) : Wp (fnD n m ds s) P := wp_fn (by unfold env0; rw [h.eq]; exact g)
instance [h : ∀ d, SetL ρ ii (.val d) (rf d)] : Stp (Wp (sSeq (sSet (.one ii) e) n ρ s) R) (Wp (e ρ s) fun d s1 => Wp (n (rf d) s1) R) := ⟨fun g => wq_set (g.mono fun d s1 q => by rw [(h d).eq]; exact q)⟩
instance : Stp (Wp (sSeq (sSet (.unl il) e) n ρ s) R) (Wp (e ρ s) fun d s1 => ∃ ds, d = .lst ds ∧ SetK il ds ρ fun ρ' => Wp (n ρ' s1) R) := ⟨fun g => wq_unl (g.mono fun d s1 ⟨ds, e, h⟩ => ⟨ds, e, h.len⟩)⟩
instance : Stp (Wp (sSeq (sSet (.many il) e) n ρ s) R) (Wp (e ρ s) fun d s1 => ∃ ds, d = .tup ds ∧ SetK il ds ρ fun ρ' => Wp (n ρ' s1) R) := ⟨fun g => wq_many (g.mono fun d s1 ⟨ds, e, h⟩ => ⟨ds, e, h.len⟩)⟩
instance {k : En → Prop} [h : SetL ρ ii (.val d) ρ'] : Stp (SetK (ii :: il) (d :: ds) ρ k) (SetK il ds ρ' k) := ⟨fun g => by unfold SetK; rw [h.eq]; exact g⟩
instance {k : En → Prop} : Stp (SetK [] [] ρ k) (k ρ) := ⟨fun g => g⟩
instance : Stp (Wp (sSeq (sIf c m1 m2) n ρ s) R) (Wp (c ρ s) fun x s1 => (x = true → Wp (sSeq m1 n ρ s1) R) ∧ (x = false → Wp (sSeq m2 n ρ s1) R)) := ⟨wq_if⟩
instance : Stp (Wp (sSeq (sRet e) n ρ s) R) (Wp (e ρ s) fun d s1 => R (.rt d) s1) := ⟨wq_ret⟩
instance : Stp (Wp (sSeq sNext n ρ s) R) (Wp (n ρ s) R) := ⟨wq_next⟩
instance : Stp (Wp (sSeq (sSeq m1 m2) n ρ s) R) (Wp (sSeq m1 (sSeq m2 n) ρ s) R) := ⟨wq_assoc⟩
instance [h : ∀ xs, SetL ρ ii (.own (.lst xs)) (rl xs)] : Stp (Wp (sSeq (sOwnL ii ms) n ρ s) R) (Wp (ms ρ s) fun xs s1 => xs.length ≤ line ∧ Wp (n (rl xs) s1) R) := ⟨fun g => wq_ownL (g.mono fun d s1 q => by rw [(h d).eq]; exact q)⟩
instance [h : SetL ρ ii (.own (.dic [] [])) ρ'] : Stp (Wp (sSeq (sOwnD ii) n ρ s) R) (Wp (n ρ' s) R) := ⟨fun g => wq_ownD (by rw [h.eq]; exact g)⟩
instance [h1 : Lk ρ ii (.own (.lst ds))] [h : ∀ es, SetL ρ ii (.own (.lst (ds ++ es))) (rl es)] : Stp (Wp (sExt ii e ρ s) R) (Wp (e ρ s) fun x s1 => ∃ es, x = .lst es ∧ ds.length + es.length ≤ line ∧ R (.nx (rl es)) s1) := ⟨fun g => wp_ext h1.eq (g.mono fun d s1 ⟨es, h2, h3, h4⟩ => ⟨es, h2, h3, by rw [(h es).eq]; exact h4⟩)⟩
instance [h1 : Lk ρ ii (.own (.lst ds))] [h : ∀ x, SetL ρ ii (.own (.lst (ds ++ [x]))) (rf x)] : Stp (Wp (sAppend ii e ρ s) R) (Wp (e ρ s) fun x s1 => ds.length < line ∧ R (.nx (rf x)) s1) := ⟨fun g => wp_append h1.eq (g.mono fun d s1 ⟨h2, h3⟩ => ⟨h2, by rw [(h d).eq]; exact h3⟩)⟩
instance {k v : En → M D} {ks : List Str} [h1 : Lk ρ ii (.own (.dic ks ds))] : Stp (Wp (sPut ii k v ρ s) R) (Wp (v ρ s) fun x s1 => Wp (k ρ s1) fun y s2 => ∃ z, y = .str z ∧ ks.length < line ∧ ∀ ρ', ρ.set ii (.own (.dic (putD ks ds z x).1 (putD ks ds z x).2)) = ρ' → R (.nx ρ') s2) := ⟨fun g => by
  obtain ⟨x, s1, e1, y, s2, e2, z, rfl, hl, q⟩ := g
  exact wp_put h1.eq hl ⟨x, s1, e1, .str z, s2, e2, z, rfl, q _ rfl⟩⟩
instance [h1 : Lk ρ ii (.own d)] [h : SetL ρ ii (.val d) ρ'] : Stp (Wp (sShare ii m ρ s) R) (Wp (m ρ' s) R) := ⟨fun g => wp_share h1.eq (by rw [h.eq]; exact g)⟩
instance : Stp (Wp (sRet e ρ s) R) (Wp (e ρ s) fun d s1 => R (.rt d) s1) := ⟨wp_ret⟩
instance [h : ∀ d, SetL ρ ii (.val d) (rf d)] : Stp (Wp (sSet (.one ii) e ρ s) R) (Wp (e ρ s) fun d s1 => R (.nx (rf d)) s1) := ⟨fun g => wp_set (g.mono fun d s1 q => ⟨_, rfl, by rw [(h d).eq]; exact q⟩)⟩
instance (priority := low) : Stp (Wp (sSeq m1 m2 ρ s) R) (Wp (m1 ρ s) (thenR R m2)) := ⟨wp_seq⟩
instance : Stp (thenR R n (.nx ρ) s) (Wp (n ρ s) R) := ⟨fun h => h⟩
instance : Stp (thenR R n (.rt d) s) (R (.rt d) s) := ⟨fun h => h⟩
instance {tg : Tgt} : Stp (goR tg m ds R (.nx ρ) s) (Wp (forGo tg m ds ρ s) R) := ⟨fun h => h⟩
instance {tg : Tgt} : Stp (goR tg m ds R (.rt d) s) (R (.rt d) s) := ⟨fun h => h⟩
instance {tg : Tgt} : Stp (Wp (sSeq (sFor tg is m) n ρ s) R) (Wp (is ρ s) fun xs s1 => Wp (forGo tg m xs ρ s1) (thenR R n)) := ⟨wq_for⟩
instance {tg : Tgt} : Stp (Wp (forGo tg m [] ρ s) R) (R (.nx ρ) s) := ⟨wp_forNil⟩
instance {tg : Tgt} : Stp (Wp (forGo tg m (d :: ds) ρ s) R) (WO (tg.set ρ d) fun ρ1 => Wp (m ρ1 s) (goR tg m ds R)) := ⟨wp_forCons⟩
instance : Stp (Wp (sIf c m1 m2 ρ s) R) (Wp (c ρ s) fun x s1 => (x = true → Wp (m1 ρ s1) R) ∧ (x = false → Wp (m2 ρ s1) R)) := ⟨wp_sif⟩
instance : Stp (Wp (sNext ρ s) R) (R (.nx ρ) s) := ⟨wp_next⟩
instance [h : Lk ρ ii (.val d)] : Stp (Wp (eVar ii ρ s) P) (P d s) := ⟨wp_var h.eq⟩
instance : Stp (Wp (eC d ρ s) P) (P d s) := ⟨wp_c⟩
instance [h : Lk ρ ii (.val .drw)] : Stp (Wp (eDr1 ii ρ s) P) (P (.int (s.k : Int)) s) := ⟨fun g => ⟨_, s, by unfold eDr1; rw [h.eq], g⟩⟩
instance : Stp (Wp (eOp f a b ρ s) P) (Wp (a ρ s) fun x s1 => Wp (b ρ s1) fun y s2 => WO (f x y) fun z => P z s2) := ⟨wp_op⟩
instance : Stp (Wp (eUn g1 a ρ s) P) (Wp (a ρ s) fun x s1 => WO (g1 x) fun z => P z s1) := ⟨wp_un⟩
instance : Stp (Wp (eCB gl ms ρ s) P) (Wp (ms ρ s) fun xs s1 => WO (gl xs) fun z => P z s1) := ⟨wp_cb⟩
instance : Stp (Wp (aCons a ms ρ s) QL) (Wp (a ρ s) fun x s1 => Wp (ms ρ s1) fun xs s2 => QL (x :: xs) s2) := ⟨wp_acons⟩
instance : Stp (Wp (aNil ρ s) QL) (QL [] s) := ⟨wp_anil⟩
instance : Stp (Wp (eTup ms ρ s) P) (Wp (ms ρ s) fun xs s1 => xs.length ≤ line ∧ P (.tup xs) s1) := ⟨wp_tup⟩
instance : Stp (Wp (eLst ms ρ s) P) (Wp (ms ρ s) fun xs s1 => xs.length ≤ line ∧ P (.lst xs) s1) := ⟨wp_lst⟩
instance {k : Nat} {F : List D → M D} : Stp (Wp (eCallN k F ms ρ s) P) (Wp (ms ρ s) fun xs s1 => xs.length = k ∧ Wp (F xs s1) P) := ⟨wp_call⟩
instance : Stp (Wp (tB' a ρ s) QB) (Wp (a ρ s) fun x s1 => ∃ k, x = .bl k ∧ QB k s1) := ⟨wp_tB⟩
instance : Stp (Wp (tAnd' mt mu ρ s) QB) (Wp (mt ρ s) fun x s1 => Wp (mu ρ s1) fun y s2 => s2 = s1 ∧ QB (x && y) s1) := ⟨wp_tAndB⟩
instance : Stp (Wp (tOr' mt mu ρ s) QB) (Wp (mt ρ s) fun x s1 => Wp (mu ρ s1) fun y s2 => s2 = s1 ∧ QB (x || y) s1) := ⟨wp_tOrB⟩
instance : Stp (Wp (tNot' mt ρ s) QB) (Wp (mt ρ s) fun x s1 => QB (!x) s1) := ⟨wp_tNot⟩
instance : Stp (Wp (tYes' ρ s) QB) (QB true s) := ⟨wp_tYes⟩
instance : Stp (Wp (eIf c a b ρ s) P) (Wp (c ρ s) fun x s1 => (x = true → Wp (a ρ s1) P) ∧ (x = false → Wp (b ρ s1) P)) := ⟨wp_eif⟩
instance : Stp (Wp (oNone ρ s) QO) (QO none s) := ⟨wp_oNone⟩
instance : Stp (Wp (oSome a ρ s) QO) (Wp (a ρ s) fun x s1 => ∃ i, x = .int i ∧ QO (some i) s1) := ⟨wp_oSome⟩
instance {g : D → Option Int → Option Int → Option D} {l u : En → M (Option Int)} : Stp (Wp (eSl g a l u ρ s) P) (Wp (a ρ s) fun x s1 => Wp (l ρ s1) fun y s2 => Wp (u ρ s2) fun z s3 => WO (g x y z) fun w => P w s3) := ⟨wp_sl⟩
instance [h : Wl ρ [ii] ρ'] : Stp (Wp (eLc (.one ii) is mt e ρ s) P) (Wp (is ρ s) fun xs s1 => Wp (lcGo (.one ii) mt e ρ' xs s1) fun ys s2 => ys.length ≤ line ∧ P (.lst ys) s2) := ⟨fun g => wp_lc (g.mono fun xs s1 q => by show Wp (lcGo _ _ _ (wipeE ρ [ii]) _ _) _; rw [h.eq]; exact q)⟩
instance [h : Wl ρ il ρ'] : Stp (Wp (eLc (.many il) is mt e ρ s) P) (Wp (is ρ s) fun xs s1 => Wp (lcGo (.many il) mt e ρ' xs s1) fun ys s2 => ys.length ≤ line ∧ P (.lst ys) s2) := ⟨fun g => wp_lc (g.mono fun xs s1 q => by show Wp (lcGo _ _ _ (wipeE ρ il) _ _) _; rw [h.eq]; exact q)⟩
instance {tg : Tgt} : Stp (Wp (lcGo tg mt e ρ (d :: ds) s) QL) (WO (tg.set ρ d) fun ρ1 => Wp (mt ρ1 s) fun k s1 => (k = true → Wp (e ρ1 s1) fun y s2 => Wp (lcGo tg mt e ρ ds s2) fun ys s3 => QL (y :: ys) s3) ∧ (k = false → Wp (lcGo tg mt e ρ ds s1) QL)) := ⟨wp_lcCons⟩
instance {tg : Tgt} : Stp (Wp (lcGo tg mt e ρ [] s) QL) (QL [] s) := ⟨wp_lcNil⟩
instance : Stp (Wp (iL a ρ s) QL) (Wp (a ρ s) fun x s1 => ∃ xs, x = .lst xs ∧ QL xs s1) := ⟨wp_iL⟩
instance : Stp (Wp (iT a ρ s) QL) (Wp (a ρ s) fun x s1 => ∃ xs, x = .tup xs ∧ QL xs s1) := ⟨wp_iT⟩
instance : Stp (Wp (iS a ρ s) QL) (Wp (a ρ s) fun x s1 => ∃ z : Str, x = .str z ∧ QL (z.cps.toList.map fun c => .str ⟨#[c]⟩) s1) := ⟨wp_iS⟩
instance : Stp (Wp (iE ms ρ s) QL) (Wp (ms ρ s) fun xs s1 => ∃ ys, xs = [.lst ys] ∧ QL (enumD 0 ys) s1) := ⟨wp_iE⟩
theorem wp_iR2' (h : QL [.int 0, .int 1] s) : Wp (iR (aCons (eC (.int 2)) aNil) ρ s) QL := wp_iR2 (wp_acons (wp_c (wp_anil ⟨rfl, h⟩)))
theorem wp_iR3' (h : QL [.int 0, .int 1, .int 2] s) : Wp (iR (aCons (eC (.int 3)) aNil) ρ s) QL := wp_iR3 (wp_acons (wp_c (wp_anil ⟨rfl, h⟩)))
instance : Stp (Wp (iR (aCons (eC (.int 2)) aNil) ρ s) QL) (QL [.int 0, .int 1] s) := ⟨wp_iR2'⟩
instance : Stp (Wp (iR (aCons (eC (.int 3)) aNil) ρ s) QL) (QL [.int 0, .int 1, .int 2] s) := ⟨wp_iR3'⟩
instance {QE : En → Prop} [h : SetL ρ ii (.val d) ρ'] : Stp (WO ((Tgt.one ii).set ρ d) QE) (QE ρ') := ⟨fun g => wo_one (by rw [h.eq]; exact g)⟩
instance {QE : En → Prop} : Stp (WO ((Tgt.many il).set ρ (.tup ds)) QE) (SetK il ds ρ QE) := ⟨fun g => wo_many g.len.1 g.len.2⟩
variable {i j : Int} {y z : Str}
instance : Stp (WO (oI0 (fun i j => .int (i + j)) (.int i) (.int j)) Q) (Q (.int (i + j))) := ⟨wo_add⟩
instance : Stp (WO (oI0 (fun i j => .int (i - j)) (.int i) (.int j)) Q) (Q (.int (i - j))) := ⟨wo_sub⟩
instance : Stp (WO (oI0 (fun i j => .bl (decide (i < j))) (.int i) (.int j)) Q) (Q (.bl (decide (i < j)))) := ⟨wo_lt⟩
instance : Stp (WO (oI0 (fun i j => .bl (decide (i ≤ j))) (.int i) (.int j)) Q) (Q (.bl (decide (i ≤ j)))) := ⟨wo_le⟩
instance : Stp (WO (oI0 (fun i j => .bl (decide (j < i))) (.int i) (.int j)) Q) (Q (.bl (decide (j < i)))) := ⟨wo_gt⟩
instance : Stp (WO (oI0 (fun i j => .bl (decide (j ≤ i))) (.int i) (.int j)) Q) (Q (.bl (decide (j ≤ i)))) := ⟨wo_ge⟩
instance : Stp (WO (oNeg (.int i)) Q) (Q (.int (-i))) := ⟨wo_neg⟩
instance : Stp (WO (oEq (.int i) (.int j)) Q) (Q (.bl (decide (i = j)))) := ⟨wo_eqI⟩
instance : Stp (WO (oEq (.str y) (.str z)) Q) (Q (.bl (decide (y = z)))) := ⟨wo_eqS⟩
instance : Stp (WO (oNe (.int i) (.int j)) Q) (Q (.bl (!decide (i = j)))) := ⟨wo_neI⟩
instance : Stp (WO (oNe (.str y) (.str z)) Q) (Q (.bl (!decide (y = z)))) := ⟨wo_neS⟩
instance : Stp (WO (bLen [.lst xs]) Q) (Q (.int xs.length)) := ⟨wo_lenL⟩
instance : Stp (WO (bLen [.tup xs]) Q) (Q (.int xs.length)) := ⟨wo_lenT⟩
theorem wo_tupL (h : Q (.tup xs)) : WO (bTuple [.lst xs]) Q := ⟨_, rfl, h⟩
instance : Stp (WO (bTuple [.lst xs]) Q) (Q (.tup xs)) := ⟨wo_tupL⟩
theorem wo_ix0 {x : D} (h : Q x) : WO (oIx (.tup (x :: xs)) (.int 0)) Q := wo_ixTn (j := 0) rfl h
theorem wo_ix1 {x x1 : D} (h : Q x1) : WO (oIx (.tup (x :: x1 :: xs)) (.int 1)) Q := wo_ixTn (j := 1) rfl h
theorem wo_ix2 {x x1 x2 : D} (h : Q x2) : WO (oIx (.tup (x :: x1 :: x2 :: xs)) (.int 2)) Q := wo_ixTn (j := 2) rfl h
theorem wo_ix3 {x x1 x2 x3 : D} (h : Q x3) : WO (oIx (.tup (x :: x1 :: x2 :: x3 :: xs)) (.int 3)) Q := wo_ixTn (j := 3) rfl h
theorem wo_lx0 {x : D} (h : Q x) : WO (oIx (.lst (x :: xs)) (.int 0)) Q := wo_ixLn (j := 0) rfl h
theorem wo_lx1 {x x1 : D} (h : Q x1) : WO (oIx (.lst (x :: x1 :: xs)) (.int 1)) Q := wo_ixLn (j := 1) rfl h
instance {x : D} : Stp (WO (oIx (.tup (x :: xs)) (.int 0)) Q) (Q x) := ⟨wo_ix0⟩
instance {x x1 : D} : Stp (WO (oIx (.tup (x :: x1 :: xs)) (.int 1)) Q) (Q x1) := ⟨wo_ix1⟩
instance {x x1 x2 : D} : Stp (WO (oIx (.tup (x :: x1 :: x2 :: xs)) (.int 2)) Q) (Q x2) := ⟨wo_ix2⟩
instance {x x1 x2 x3 : D} : Stp (WO (oIx (.tup (x :: x1 :: x2 :: x3 :: xs)) (.int 3)) Q) (Q x3) := ⟨wo_ix3⟩
instance {x : D} : Stp (WO (oIx (.lst (x :: xs)) (.int 0)) Q) (Q x) := ⟨wo_lx0⟩
instance {x x1 : D} : Stp (WO (oIx (.lst (x :: x1 :: xs)) (.int 1)) Q) (Q x1) := ⟨wo_lx1⟩
instance {k : Bool} {Q : Bool → Prop} : Stp (∃ j, D.bl k = D.bl j ∧ Q j) (Q k) := ⟨sp_bl⟩
instance {k : Int} {Q : Int → Prop} : Stp (∃ j, D.int k = D.int j ∧ Q j) (Q k) := ⟨sp_int⟩
instance {k : Str} {Q : Str → Prop} : Stp (∃ j, D.str k = D.str j ∧ Q j) (Q k) := ⟨sp_str⟩
instance {k : List D} {Q : List D → Prop} : Stp (∃ j, D.lst k = D.lst j ∧ Q j) (Q k) := ⟨sp_lst⟩
instance {k : List D} {Q : List D → Prop} : Stp (∃ j, D.tup k = D.tup j ∧ Q j) (Q k) := ⟨sp_tup⟩
instance {s : DS} : Stp (s = s ∧ A) A := ⟨sp_same⟩
instance : Stp ((true = true → A) ∧ (true = false → B)) A := ⟨sp_true⟩
instance : Stp ((false = true → A) ∧ (false = false → B)) B := ⟨sp_false⟩
instance [h : Short xs 64] : Stp (xs.length ≤ line ∧ A) A := ⟨fun a => ⟨Nat.le_trans h.le (by decide), a⟩⟩
instance {k : Nat} [h : LenEq xs k] : Stp (xs.length = k ∧ A) A := ⟨fun a => ⟨h.eq, a⟩⟩
instance {k : List D} {Q : List D → Prop} : Stp (∃ j, [D.lst k] = [D.lst j] ∧ Q j) (Q k) := ⟨fun q => ⟨k, rfl, q⟩⟩
instance {zs : List D} [h : AppL xs ys zs] [h2 : Short zs 64] : Stp (WO (oCat (.lst xs) (.lst ys)) Q) (Q (.lst zs)) := ⟨fun q => wo_cat (by rw [← List.length_append, h.eq]; exact Nat.le_trans h2.le (by decide)) (by rw [h.eq]; exact q)⟩
instance {zs : List D} [h : AppL xs ys zs] [h2 : Short zs 64] : Stp (WO (oCatT (.tup xs) (.tup ys)) Q) (Q (.tup zs)) := ⟨fun q => wo_catT (by rw [← List.length_append, h.eq]; exact Nat.le_trans h2.le (by decide)) (by rw [h.eq]; exact q)⟩
instance (priority := high) {k : Nat} [h : LenIs xs k] : Stp (WO (bLen [.lst xs]) Q) (Q (.int k)) := ⟨fun q => wo_lenL (by rw [h.eq]; exact q)⟩
instance (priority := high) {k : Nat} [h : LenIs xs k] : Stp (WO (bLen [.tup xs]) Q) (Q (.int k)) := ⟨fun q => wo_lenT (by rw [h.eq]; exact q)⟩
/-- a place that isn't known, of items that all are so -/
theorem wo_ixQ (I : D → Prop) {i : Int} (h0 : 0 ≤ i) (h1 : i < xs.length) (ha : AllOf I xs) (h : ∀ d, I d → Q d) : WO (oIx (.lst xs) (.int i)) Q := wo_ixL h0 h1 fun j d e1 e2 => h d (allIx (i := i) ha j d e1 e2)
/-- cut: what is made is told by I alone -/
theorem wq_cut (I : D → DS → Prop) [h : ∀ d, SetL ρ ii (.val d) (rf d)] (h1 : Wp (e ρ s) I) (h2 : ∀ d s1, I d s1 → Wp (n (rf d) s1) R) : Wp (sSeq (sSet (.one ii) e) n ρ s) R := wq_set (h1.mono fun d s1 q => by rw [(h d).eq]; exact h2 d s1 q)
end
end DL
set_option Elab.async false
set_option linter.all false
set_option maxRecDepth 100000
set_option maxHeartbeats 2000000
/-! Defs called where no text of an object is under way: the promise FnG, its making, the law's call, repr and str of data. -/
namespace GD
open PySem PySem.Spec PyProof.Rows L2
/-- as FnOk, for calls around which no repr is under way -/
structure FnG (P : Program) (w : World) (K : PySem.W.Frag) (mg : Str → Option Value) (base : Heap) (CX : CXT) (k : Nat) (f : Addr) (fd : FuncData) (ps : List Str) (sp : Sp) : Prop where
  lens : ∀ vs H Q E, sp vs H Q E → vs.length = ps.length
  runs : ∀ (A : Around) (o : List Env) (s : Shared) (H : Hp) (ar : Args) (us : List Value) (vs : List V) (Q : VK) (E : XK), A.guards = some [] → Room k A →
    Env0 P w K mg base A o s H → BindsTo s fd ar (ps.zip us) → Vals vs us → sp vs H Q E → codeAny (model P w) A (.call (.ref f) ar) (CR CX o P w H s Q E) s
section
variable {P : Program} {w : World} {K : PySem.W.Frag} {mg : Str → Option Value} {base : Heap} {CX : CXT} {k : Nat} {f : Addr} {fd : FuncData} {ps : List Str} {sp : Sp}
theorem FnG.of (F : FnOk P w K mg base CX k f fd ps sp) : FnG P w K mg base CX k f fd ps sp := ⟨F.len, fun A o s H ar us vs Q E _ hr e b r h => F.run A o s H ar us vs Q E hr e b r h⟩
theorem FnG.mono {j : Nat} (F : FnG P w K mg base CX j f fd ps sp) (h : j ≤ k) : FnG P w K mg base CX k f fd ps sp := ⟨F.lens, fun A o s H ar us vs Q E g hr => F.runs A o s H ar us vs Q E g (hr.mono h)⟩
/-- the making: from the body's walk, which may use that nothing is under way -/
theorem Fun.okG {x qual : Str} {st : Stmt} {N : List Str} (F : Fun K x qual st f fd) (S : FnScope N ps (defScope st)) (len : ∀ vs H Q E, sp vs H Q E → vs.length = ps.length)
    (hbody : ∀ (cdv : Value) (A : Around) (o : List Env) (s : Shared) (H : Hp) (vs : List V) (Q : VK) (E : XK), A.guards = some [] → Room k (A.deeper (envOfC qual (defScope st) s.heap.objs.size f cdv)) → sp vs H Q E →
      ∃ t, PSs (cxOf CX P w K mg base N qual (defScope st) f cdv A o s H E) (defBody st) t ∧ t { nx := fun _ H' => Q .non H', rt := Q } (start N vs) H) : FnG P w K mg base CX (k + 1) f fd ps sp := by
  obtain ⟨oc, od, kV, doc, pm, an, cdv, ct, osl, rfl, lk, hcd⟩ := F.ex
  refine ⟨len, fun A o s H ar us vs Q E g hr e0 hb r hq => ?_⟩
  have hw : ∀ b ob, base.get? b = some ob → s.heap.get? b = some ob := fun b ob z => (e0.bs b ob z).1
  have inK := e0.mod.kin.keeps hw
  have noLim := e0.mod.nolimit.keeps hw
  have kinds : ∀ y ∈ ps.zip us, (defScope st).names.lookup y.1 = some .local ∨
      ((defScope st).names.lookup y.1 = some .cell ∧ ((cellsFrom (s.heap.objs.size + 1) (defScope st).names []).lookup y.1).isSome = true) := by
    intro y hy
    have hp := S.par y.1 (List.of_mem_zip (a := y.1) (b := y.2) hy).1
    rcases hp with z | z
    · exact Or.inl z
    · exact Or.inr ⟨z, PySem.W.cellsFrom_some _ _ _ (Or.inl z)⟩
  have go : ∀ bd : BindsTo s (PySem.W.fnOf x qual (defArgs st) (defBody st) (defScope st) .none kV doc pm an cdv ct) ar (ps.zip us),
      codeAny (model P w) A (.call (.ref f) ar) (CR CX o P w H s Q E) s := by
    intro bd
    refine codeAny_call_function hr.depth (inK _ _ lk) rfl S.co S.gen rfl
      (PySem.W.codeRec_of inK hcd) (bd _ _ _ _ ?_)
    refine wpAny_newFunctionEnv_cells S.kind kinds fun ev hev s2 z => ?_
    subst hev
    refine ⟨noLim.keeps z.toInCall.keep, codeAny_func ?_⟩
    obtain ⟨t, ht, hv⟩ := hbody cdv A o s H vs Q E g (hr.deeper _) hq
    have J0 := inv_start (CX := CX) (E := E) S hr.hd e0 (len _ _ _ _ hq) r z
    refine wpAny_mono (ht.run [] s2 (start N vs) H _ J0 hv) (fun fl s' hs => ?_) fun _ _ q => q
    cases fl with
    | ret u => exact let ⟨v, σ', H', J, rv, q⟩ := hs; ⟨v, H', J.os, J.bare, J.base, J.hok, rv, q⟩
    | next => exact let ⟨σ', H', J, q⟩ := hs; ⟨V.non, H', J.os, J.bare, J.base, J.hok, rfl, q⟩
    | brk => exact (let ⟨_, _, _, q⟩ := hs; q.elim)
    | cont => exact (let ⟨_, _, _, q⟩ := hs; q.elim)
  exact go hb
end
/-- the law's own call, by such a promise: the script is read alone, all else stays -/
theorem law_callG {P : Program} {w : World} {K : PySem.W.Frag} {mg mb : Str → Option Value} {k : Nat} {fa a : Addr} {fd : FuncData} {x : Str} {sp : Sp} {s1 : Shared} {vs : List Value} {ns : List Int}
    (KX : K.In s1.heap) (hns : s1.heap.Ns mainGlobals mg) (hb : s1.heap.Ns builtinsNs mb) (hbb : ∀ x : Str, x ≠ "__name__" → mb x = bootBuiltins x)
    (hlim : s1.heap.NoLimit) (hgen : s1.gens = #[]) (ha : s1.heap.get? a = some { cls := .type "list", data := .seq vs.toArray }) (hi : IntsAre vs ns) (hl : ns.length ≤ sizeLine)
    (hr : Room k callerA) (F : ∀ base : Heap, K.In base → base.Ns mainGlobals mg → FnG P w K mg base CX0 k fa fd [x] sp)
    (hbind : ∀ (s : Shared) (u : Value), BindsTo s fd ⟨[u], []⟩ [(x, u)])
    (hsp : ∀ H : Hp, Only H → SqL K H a (ns.map V.int) → sp [.ref a] H (fun v _ => v = .bl true) fun _ _ _ => False) :
    codeAny (model P w) callerA (.call (.ref fa) ⟨[.ref a], []⟩)
      (fun r s' => r = .ok (.ret (.bool true)) ∧ OldK s1.heap s'.heap ∧ s'.os = s1.os ∧ AllBare s'.gens) s1 := by
  have rv := vals_ints hi
  -- what is tracked is the script alone, and locked
  have main : ∀ H : Hp, Only H → SqL K H a (ns.map V.int) → HOk P w H s1.heap → (∀ b, H b ≠ none → b = a) → (H a ≠ none → K.lookup a = none) →
      codeAny (model P w) callerA (.call (.ref fa) ⟨[.ref a], []⟩)
        (fun r s' => r = .ok (.ret (.bool true)) ∧ OldK s1.heap s'.heap ∧ s'.os = s1.os ∧ AllBare s'.gens) s1 := by
    intro H only sq hok isA noK
    have free : ∀ {b : Addr}, b ≠ a → H b = none := fun {b} hb' => by
      cases z : H b with
      | none => rfl
      | some u => exact absurd (isA b (by rw [z]; exact Option.some_ne_none _)) hb'
    have dictFree : ∀ {b : Addr} {ob : Obj} {es : Array DictEntry} {ep : Nat}, s1.heap.get? b = some ob → ob.data = .dict es ep → H b = none := by
      intro b ob es ep e d
      refine free fun z => ?_
      rw [z, ha] at e
      cases e
      cases d
    have ns2 : ∀ {b : Addr} {m : Str → Option Value}, s1.heap.Ns b m → (hidT s1.heap H).Ns b m := by
      rintro b m ⟨ob, es, ep, e, d, rr⟩
      exact ⟨ob, es, ep, hidT_get e (dictFree e d), d, rr⟩
    have inB : K.In (hidT s1.heap H) := by
      intro b ob e
      refine hidT_get (KX b ob e) ?_
      cases z : H b with
      | none => rfl
      | some u =>
        have hba := isA b (by rw [z]; exact Option.some_ne_none _)
        subst hba
        have := noK (by rw [z]; exact Option.some_ne_none _)
        rw [this] at e
        cases e
    obtain ⟨mc, l1, l2⟩ := hlim
    have hM : Mod K mg (hidT s1.heap H) := ⟨inB, ns2 hns, ⟨mb, ns2 hb, hbb⟩, ⟨mc, ns2 l1, l2⟩⟩
    have e0 : Env0 P w K mg (hidT s1.heap H) callerA [] s1 H := by
      refine ⟨rfl, hM, fun b ob e => of_hidT e, Nat.le_of_eq (hidT_size _ _), trivial, ?_, hok, .of_eq hgen⟩
      intro b hb'
      exact absurd hb' (List.not_mem_nil (a := b))
    have run := (F _ inB (ns2 hns)).runs callerA [] s1 H ⟨[.ref a], []⟩ [.ref a] [.ref a] _ _ rfl hr e0
      (hbind s1 (.ref a)) (.cons rfl .nil) (hsp H only sq)
    refine codeAny_mono run fun r s' h => ?_
    rcases r with e | fl
    · exact h.elim
    rcases fl with _ | _ | _ | u
    any_goals exact h.elim
    all_goals
      obtain ⟨v, H', os, bare, un, hok', r', q⟩ := h
      have q : v = .bl true := q
      subst q
      cases r'
      refine ⟨rfl, OldK.of_keep fun b ob e => ?_, os, bare⟩
      rcases only b with z | ⟨o2, xs, z⟩
      · exact un.keep b ob e z (fun m => absurd m (List.not_mem_nil (a := b))) (List.not_mem_nil (a := b))
      · have z2 := un.frzs b o2 _ z
        have g1 := (hok b _ z).1
        have g2 := (hok' b _ z2).1
        rw [e] at g1
        cases g1
        exact g2
  cases hk : K.lookup a with
  | some ob =>
    have e := (KX a ob hk).symm.trans ha
    cases e
    refine main (fun _ => none) (fun _ => .inl rfl) (.inr ⟨_, vs.toArray, _, hk, rfl, rfl, rfl, ?_, by simpa using rv⟩) ?_ ?_ ?_
    · rw [List.size_toArray, hi.length]
      exact hl
    · intro b u z
      cases z
    · intro b z
      exact absurd rfl z
    · intro z
      exact absurd rfl z
  | none =>
    have at_ : ∀ {b : Addr} {u : HO}, upd (fun _ => none) a (.frz { cls := .type "list", data := .seq vs.toArray } (.lst (ns.map V.int))) b = some u →
        b = a ∧ u = .frz { cls := .type "list", data := .seq vs.toArray } (.lst (ns.map V.int)) := by
      intro b u z
      by_cases hb' : b = a
      · subst hb'
        rw [upd_same] at z
        exact ⟨rfl, (Option.some.inj z).symm⟩
      · rw [upd_ne hb'] at z
        cases z
    refine main (upd (fun _ => none) a (.frz { cls := .type "list", data := .seq vs.toArray } (.lst (ns.map V.int)))) ?_ (.inl (.inr ⟨_, upd_same⟩)) ?_ ?_ fun _ => hk
    · intro b
      cases z : upd (fun _ => none) a (.frz { cls := .type "list", data := .seq vs.toArray } (.lst (ns.map V.int))) b with
      | none => exact .inl rfl
      | some u =>
        obtain ⟨_, rfl⟩ := at_ z
        exact .inr ⟨_, _, rfl⟩
    · intro b u z
      obtain ⟨rfl, rfl⟩ := at_ z
      exact ⟨ha, by rw [List.length_map]; exact hl, vs, _, rv, ha⟩
    · intro b z
      cases e : upd (fun _ => none) a (.frz { cls := .type "list", data := .seq vs.toArray } (.lst (ns.map V.int))) b with
      | none => exact absurd e z
      | some u => exact (at_ e).1
theorem walk_ofG {l : PySem.W.OpenLaw} {n k : Nat} {q : Program} {loose : List Str} {XP : (Str → Option Value) → Heap → Prop} {YP : World → Heap → Prop} {d : DefRec} {K : Params → PySem.W.Frag} {sp : World → Sp} {x : Str}
    (hn : l.most = some n) (hn2 : n ≤ sizeLine) (hdf : d.params.defaults = []) (hr : Room k callerA) (hY : ∀ (w : World) (h : Heap), YP w h → (K w.params).In h)
    (F : ∀ (w : World) (mg : Str → Option Value) (fa : Addr) (h : Heap), (K w.params).In h → h.Ns mainGlobals mg → mg d.name = some (.ref fa) → ∃ fd : FuncData,
      (∀ (s : Shared) (u : Value), BindsTo s fd ⟨[u], []⟩ [(x, u)]) ∧ ∀ base : Heap, (K w.params).In base → base.Ns mainGlobals mg → FnG l.prog w (K w.params) mg base CX0 k fa fd [x] (sp w))
    (hsp : ∀ (w : World) (H : Hp) (a : Addr) (ns : List Int), ns.length ≤ n → Only H → SqL (K w.params) H a (ns.map V.int) → sp w [.ref a] H (fun v _ => v = .bl true) fun _ _ _ => False) :
    PySem.W.WalkO q loose XP YP l.row.toRowW d [] (fun f vs => PySem.call f vs) := by
  refine Att.attach_call hn hdf fun w s0 s1 mg mb fa ob pm cd doc a vs ns G Y _ _ _ hmg hobj hints hlen hgen => ?_
  obtain ⟨fd, hbd, hF⟩ := F w mg fa _ (hY w _ Y) G.T.g hmg
  exact law_callG (hY w _ Y) G.T.g G.T.b G.T.builtins G.T.nolimit hgen hobj hints (Nat.le_trans hlen hn2) hr hF hbd fun H hO hS => hsp w H a ns hlen hO hS
theorem deeper_guards {A : Around} {e : Env} (h : A.guards = some []) : (A.deeper e).guards = some [] := h
/-! ### repr and str of data -/
section
variable {X : Cx} {k : Nat}
mutual
theorem dp_noDict {K : PySem.W.Frag} {H : Hp} : ∀ (d : PyData) (v : V), Dp K H v d → d.hasDict = false
  | .none, _, _ => rfl
  | .bool _, _, _ => rfl
  | .int _, _, _ => rfl
  | .str _, _, _ => rfl
  | .dict _, _, h => by cases h
  | .list ds, _, h => by
    cases h with
    | lst _ r => simpa [PyData.hasDict] using dp_noDicts ds _ r
  | .tuple ds, _, h => by
    cases h with
    | tup _ r => simpa [PyData.hasDict] using dp_noDicts ds _ r
theorem dp_noDicts {K : PySem.W.Frag} {H : Hp} : ∀ (ds : List PyData) (vs : List V), DpAll K H vs ds → PyData.hasDictAll ds = false
  | [], _, _ => rfl
  | d :: ds, _, h => by
    cases h with
    | cons a r => simp [PyData.hasDictAll, dp_noDict d _ a, dp_noDicts ds _ r]
end
/-- what repr asks of data that is a list or a tuple -/
def rRepr (K : PySem.W.Frag) : List V → Hp → VK → Prop := fun xs H Q => ∃ a d, xs = [.ref a] ∧ Dp K H (.ref a) d ∧ d.showable = true ∧ d.depth ≤ 60 ∧ d.shown.length ≤ sizeLine ∧ Q (.str d.shown) H
theorem call_reprD (hg : X.A.guards = some []) (hr : Room k X.A) : CallR X (.builtin "repr") (rRepr X.K) := by
  intro pins s σ H xs us Q I r h
  obtain ⟨a, d, rfl, hd, hs, hdep, hsz, q⟩ := h
  obtain ⟨u, rfl, ru⟩ := vals1 r
  cases ru
  obtain ⟨as, rd⟩ := Dp.reads I d (.ref a) (.ref a) hd rfl
  have hu := hr.un
  exact repr_of_reads' rd hs (fun z => absurd z (by rw [dp_noDict d _ hd]; simp)) hg (by omega) (fun _ _ z => z) (fun h' t tk hk => ⟨.str _, H, I.kept hk, ⟨_, rfl⟩, q⟩) hsz
theorem call_strD (hg : X.A.guards = some []) (hr : Room k X.A) : CallR X (.type "str") (rRepr X.K) := by
  intro pins s σ H xs us Q I r h
  obtain ⟨a, d, rfl, hd, hs, hdep, hsz, q⟩ := h
  obtain ⟨u, rfl, ru⟩ := vals1 r
  cases ru
  obtain ⟨as, rd⟩ := Dp.reads I d (.ref a) (.ref a) hd rfl
  have hu := hr.un
  exact str_of_reads rd hs (fun z => absurd z (by rw [dp_noDict d _ hd]; simp)) hg (by omega) (fun _ _ z => z) (fun h' t tk hk => ⟨.str _, H, I.kept hk, ⟨_, rfl⟩, q⟩) hsz
end
end GD
set_option Elab.async false
set_option linter.all false
set_option maxRecDepth 100000
set_option maxHeartbeats 2000000
/-! What is written of plain data: how long it is; repr as a step of the data layer. -/
namespace DL
open PySem L2
def Sh (d : D) (n : Nat) : Prop := (shw d).length ≤ n
def Shs (xs : List D) (n : Nat) : Prop := piled (shws xs) ≤ n
theorem Sh.mono {d : D} {n m : Nat} (h : Sh d n) (hm : n ≤ m) : Sh d m := Nat.le_trans h hm
theorem Shs.mono {d : List D} {n m : Nat} (h : Shs d n) (hm : n ≤ m) : Shs d m := Nat.le_trans h hm
theorem sh_str {z : Str} {n : Nat} (h : PyData.strOk z = true) (hn : z.length ≤ n) : Sh (.str z) (10 * n + 2) := by
  unfold Sh
  simp only [shw]
  refine Nat.le_trans (StrLaws.reprText_len z fun c hc => ?_) (by omega)
  unfold PyData.strOk at h
  rw [Array.all_eq_true'] at h
  have := h c (by simpa using hc)
  simp only [decide_eq_true_eq] at this
  omega
theorem sh_int {i : Int} {k : Nat} (hk : 0 < k) (h : i.natAbs < 10 ^ k) : Sh (.int i) (k + 1) := by
  unfold Sh
  simp only [shw]
  rw [PySem.ofString_length]
  exact int_text_length_le10 hk h
theorem sh_bl {b : Bool} : Sh (.bl b) 5 := by
  unfold Sh
  cases b <;> simp only [shw] <;> decide +kernel
theorem shs_nil : Shs [] 0 := by simp [Shs, shws, piled]
theorem shs_cons {d : D} {ds : List D} {n m : Nat} (h : Sh d n) (h2 : Shs ds m) : Shs (d :: ds) (n + 2 + m) := by
  unfold Shs at h2 ⊢
  unfold Sh at h
  simp only [shws]
  rw [piled_cons]
  omega
theorem sh_tup {xs : List D} {n : Nat} (h : Shs xs n) : Sh (.tup xs) (n + 2) := by
  unfold Sh
  simp only [shw]
  exact Nat.le_trans (fmt_text _) (by unfold Shs at h; omega)
theorem shs_all {xs : List D} {n : Nat} (h : ∀ x ∈ xs, Sh x n) : Shs xs ((n + 2) * xs.length) := by
  induction xs with
  | nil => exact shs_nil
  | cons x xs ih =>
    refine (shs_cons (h x (by simp)) (ih fun y hy => h y (by simp [hy]))).mono ?_
    rw [List.length_cons, Nat.mul_succ]
    omega
/-! showable: no number is too great -/
mutual
def sa : D → Bool
  | .int i => decide (i.natAbs.log2 < 1920)
  | .lst xs => sas xs
  | .tup xs => sas xs
  | _ => true
def sas : List D → Bool
  | [] => true
  | x :: xs => sa x && sas xs
end
theorem sas_iff : ∀ {xs : List D}, sas xs = true ↔ ∀ x ∈ xs, sa x = true
  | [] => by simp [sas]
  | x :: xs => by simp [sas, sas_iff (xs := xs)]
mutual
theorem showable_sa : ∀ (d : D) (p : PyData), toP d = some p → sa d = true → p.showable = true
  | .non, p, h, _ => by simp [toP] at h; subst h; rfl
  | .bl b, p, h, _ => by simp [toP] at h; subst h; rfl
  | .int b, p, h, s => by simp [toP] at h; subst h; simpa [sa, PyData.showable] using s
  | .str b, p, h, _ => by simp [toP] at h; subst h; rfl
  | .dic _ _, p, h, _ => by simp [toP] at h
  | .drw, p, h, _ => by simp [toP] at h
  | .lst xs, p, h, s => by
    simp only [toP, Option.map_eq_some_iff] at h
    obtain ⟨ps, h, rfl⟩ := h
    simp only [PyData.showable]
    exact showables_sa xs ps h (by simpa [sa] using s)
  | .tup xs, p, h, s => by
    simp only [toP, Option.map_eq_some_iff] at h
    obtain ⟨ps, h, rfl⟩ := h
    simp only [PyData.showable]
    exact showables_sa xs ps h (by simpa [sa] using s)
theorem showables_sa : ∀ (d : List D) (p : List PyData), toPs d = some p → sas d = true → PyData.showableAll p = true
  | [], p, h, _ => by simp [toPs] at h; subst h; rfl
  | x :: xs, p, h, s => by
    simp only [toPs, Option.bind_eq_some_iff, Option.map_eq_some_iff] at h
    obtain ⟨q1, h1, qs, h3, rfl⟩ := h
    simp only [sas, Bool.and_eq_true] at s
    simp only [PyData.showableAll, showable_sa x q1 h1 s.1, showables_sa xs qs h3 s.2, Bool.and_self]
end
theorem sa_int {i : Int} (h : i.natAbs < 10 ^ 30) : sa (.int i) = true := by
  simp only [sa, decide_eq_true_eq]
  rcases Nat.eq_zero_or_pos i.natAbs with h0 | h0
  · rw [h0]; decide
  · rw [Nat.log2_lt (by omega)]
    exact Nat.lt_of_lt_of_le h (Nat.le_trans (Nat.pow_le_pow_left (by omega : 10 ≤ 2 ^ 4) 30) (by rw [← Nat.pow_mul]; exact Nat.pow_le_pow_right (by omega) (by omega)))
/-- data that repr takes -/
structure Wr (d : D) : Prop where
  c : cmpb d
  s : sa d = true
  l : (shw d).length ≤ sizeLine
theorem wr_run {K : PySem.W.Frag} {H : Hp} {av : Av} {dr : Addr} {v : V} {xs : List D} {Q : VK} (h : Wr (.tup xs)) (r : Rep K H av dr v (.tup xs)) (q : Q (.str (shw (.tup xs))) H) : GD.rRepr K [v] H Q := by
  obtain ⟨p, e1, e2, e3⟩ := toP_pl _ h.c.1
  obtain ⟨a, vs, rfl, _⟩ := r.tup_at
  refine ⟨a, p, rfl, r.dp e1, showable_sa _ _ e1 h.s, by rw [e3]; exact h.c.2, ?_, ?_⟩
  · rw [shown_shw _ _ e1]; exact h.l
  · rw [shown_shw _ _ e1]; exact q
end DL
set_option Elab.async false
set_option linter.all false
set_option maxRecDepth 100000
set_option maxHeartbeats 2000000
/-! Dicts of the module, from texts to tuples of numbers: looked at by one run. -/
namespace DL
open PySem L2
def intV : Value → Option Int
  | .int i _ => some i
  | _ => none
def tupB (K : PySem.W.Frag) (q : Addr) (ns : List Int) : Bool := match K.lookup q with
  | some ⟨.type c, _, .seq its _, _⟩ => decide (c = "tuple") && decide (its.toList.map intV = ns.map some)
  | _ => false
def tblB (K : PySem.W.Frag) (a : Addr) (tbl : List (Str × List Int)) : Bool := tbl.all fun p => match PySem.W.nsIn K a p.1 with
  | some (some (.ref q)) => tupB K q p.2
  | _ => false
def missB (K : PySem.W.Frag) (a : Addr) (miss : List Str) : Bool := miss.all fun z => match PySem.W.nsIn K a z with
  | some none => true
  | _ => false
theorem vals_intV : ∀ {us : List Value} {ns : List Int}, us.map intV = ns.map some → Vals (ns.map V.int) us
  | [], [], _ => .nil
  | [], _ :: _, h => by simp at h
  | _ :: _, [], h => by simp at h
  | u :: us, n :: ns, h => by
    simp only [List.map_cons, List.cons.injEq] at h
    refine .cons ?_ (vals_intV h.2)
    cases u <;> simp [intV] at h
    obtain ⟨rfl, _⟩ := h
    exact ⟨_, rfl⟩
theorem tupB_ok {K : PySem.W.Frag} {q : Addr} {ns : List Int} (hn : ns.length ≤ 1000) (h : tupB K q ns = true) : WrT K q (ns.map V.int) := by
  unfold tupB at h
  split at h
  · rename_i c d its n sl e
    simp only [Bool.and_eq_true, decide_eq_true_eq] at h
    obtain ⟨rfl, h⟩ := h
    have hl : its.size = ns.length := by
      have := congrArg List.length h
      simpa using this
    exact ⟨_, its, n, e, rfl, rfl, by rw [hl]; exact Nat.le_trans hn (by decide), vals_intV h⟩
  · cases h
theorem wdict_of {K : PySem.W.Frag} {w : World} {a : Addr} {es : Array DictEntry} {n : Nat} {tbl : List (Str × List Int)} {miss : List Str} (hl : K.lookup a = some ⟨.type "dict", none, .dict es n, #[]⟩) (hk : PySem.W.KeysLit w.params es.toList) (ho : (a == sysModules) = false)
    (ht : tblB K a tbl = true) (hm : missB K a miss = true) (hs : tbl.all (fun p => decide (p.2.length ≤ 1000)) = true) : WDict K w a tbl miss := by
  refine ⟨ho, fun z ns e => ?_, fun z hz => ?_⟩
  · have hmem : (z, ns) ∈ tbl := by
      clear ht hs
      induction tbl with
      | nil => simp at e
      | cons p tbl ih =>
        obtain ⟨y, ms⟩ := p
        rw [List.lookup_cons] at e
        split at e
        · rename_i hb
          cases e
          rw [show z = y from by simpa using hb]
          exact List.mem_cons_self
        · exact List.mem_cons_of_mem _ (ih e)
    have h1 := List.all_eq_true.mp ht _ hmem
    have h2 := List.all_eq_true.mp hs _ hmem
    dsimp only at h1 h2
    split at h1
    · rename_i q hq
      exact ⟨q, ⟨es, n, _, hl, hk, hq, rfl⟩, tupB_ok (by simpa using h2) h1⟩
    · cases h1
  · have h1 := List.all_eq_true.mp hm _ hz
    split at h1
    · rename_i hq
      exact ⟨es, n, hl, hk, ho, hq⟩
    · cases h1
end DL
set_option Elab.async false
set_option linter.all false
set_option maxRecDepth 100000
set_option maxHeartbeats 2000000
namespace K60
open PySem L2 Lay DL
abbrev Tb := Nat → List D → M D
def topS (i : Nat) : Stmt := PySem.Challenge.pw_askford_k60_weights.main.body.getD i (.Pass ⟨0, 0, 0, 0⟩)
abbrev s_places_of : Stmt := topS 3
theorem sc_places_of : FnScope ["thing"] ["thing"] (defScope s_places_of) := ⟨rfl, rfl, rfl, by decide +kernel, rfl, by decide +kernel, by decide +kernel⟩
abbrev s_parts_of : Stmt := topS 4
theorem sc_parts_of : FnScope ["thing", "place"] ["thing"] (defScope s_parts_of) := ⟨rfl, rfl, rfl, by decide +kernel, rfl, by decide +kernel, by decide +kernel⟩
abbrev s_paths : Stmt := topS 5
theorem sc_paths : FnScope ["term", "told", "number", "part", "path"] ["term"] (defScope s_paths) := ⟨rfl, rfl, rfl, by decide +kernel, rfl, by decide +kernel, by decide +kernel⟩
abbrev s_parts_of_question : Stmt := topS 8
theorem sc_parts_of_question : FnScope ["question", "place"] ["question"] (defScope s_parts_of_question) := ⟨rfl, rfl, rfl, by decide +kernel, rfl, by decide +kernel, by decide +kernel⟩
abbrev s_own_terms : Stmt := topS 10
theorem sc_own_terms : FnScope ["question", "word", "name", "term", "up", "word_of"] ["question"] (defScope s_own_terms) := ⟨rfl, rfl, rfl, by decide +kernel, rfl, by decide +kernel, by decide +kernel⟩
abbrev s_weight_of : Stmt := topS 11
theorem sc_weight_of : FnScope ["question", "own", "term", "part"] ["question"] (defScope s_weight_of) := ⟨rfl, rfl, rfl, by decide +kernel, rfl, by decide +kernel, by decide +kernel⟩
abbrev s__law_draws : Stmt := topS 13
theorem sc__law_draws : FnScope ["_law_cell"] ["_law_cell"] (defScope s__law_draws) := ⟨rfl, rfl, rfl, by decide +kernel, rfl, by decide +kernel, by decide +kernel⟩
abbrev s__law_next : Stmt := topS 14
theorem sc__law_next : FnScope ["_law_draws_here", "_law_k", "_law_number"] ["_law_draws_here"] (defScope s__law_next) := ⟨rfl, rfl, rfl, by decide +kernel, rfl, by decide +kernel, by decide +kernel⟩
abbrev s__law_kind : Stmt := topS 15
theorem sc__law_kind : FnScope ["_law_draws_here", "_law_tongue"] ["_law_draws_here", "_law_tongue"] (defScope s__law_kind) := ⟨rfl, rfl, rfl, by decide +kernel, rfl, by decide +kernel, by decide +kernel⟩
abbrev s__law_heads : Stmt := topS 16
theorem sc__law_heads : FnScope ["_law_draws_here", "_law_tongue", "_law_told", "_law_a_name", "_law_letters", "_law_letter"] ["_law_draws_here", "_law_tongue"] (defScope s__law_heads) := ⟨rfl, rfl, rfl, by decide +kernel, rfl, by decide +kernel, by decide +kernel⟩
abbrev s__law_leaf : Stmt := topS 17
theorem sc__law_leaf : FnScope ["_law_draws_here", "_law_tongue", "_law_heads_here", "_law_kind_here", "_law_some", "_law_pick", "_law_letter", "_law_other"] ["_law_draws_here", "_law_tongue", "_law_heads_here", "_law_kind_here"] (defScope s__law_leaf) := ⟨rfl, rfl, rfl, by decide +kernel, rfl, by decide +kernel, by decide +kernel⟩
abbrev s__law_term : Stmt := topS 18
theorem sc__law_term : FnScope ["_law_draws_here", "_law_tongue", "_law_heads_here", "_law_kind_here", "_law_deep", "_law_pick", "_law_one", "_law_other", "_law_way", "_law_number", "_law_inner_here", "_law_k", "_law_head"] ["_law_draws_here", "_law_tongue", "_law_heads_here", "_law_kind_here", "_law_deep"] (defScope s__law_term) := ⟨rfl, rfl, rfl, by decide +kernel, rfl, by decide +kernel, by decide +kernel⟩
abbrev s__law_condition : Stmt := topS 19
theorem sc__law_condition : FnScope ["_law_draws_here", "_law_tongue", "_law_heads_here", "_law_deep", "_law_pick", "_law_one", "_law_two", "_law_kind_here", "_law_k"] ["_law_draws_here", "_law_tongue", "_law_heads_here", "_law_deep"] (defScope s__law_condition) := ⟨rfl, rfl, rfl, by decide +kernel, rfl, by decide +kernel, by decide +kernel⟩
abbrev s__law_odd_term : Stmt := topS 20
theorem sc__law_odd_term : FnScope ["_law_draws_here", "_law_tongue", "_law_heads_here", "_law_kind_here", "_law_pick", "_law_one", "_law_other", "_law_small", "_law_some", "_law_inner_here", "_law_within", "_law_k", "_law_head"] ["_law_draws_here", "_law_tongue", "_law_heads_here", "_law_kind_here"] (defScope s__law_odd_term) := ⟨rfl, rfl, rfl, by decide +kernel, rfl, by decide +kernel, by decide +kernel⟩
abbrev s__law_odd : Stmt := topS 21
theorem sc__law_odd : FnScope ["_law_draws_here", "_law_tongue", "_law_heads_here", "_law_pick", "_law_one", "_law_other", "_law_kind_here", "_law_first", "_law_second", "_law_sure", "_law_word", "_law_some", "_law_k"] ["_law_draws_here", "_law_tongue", "_law_heads_here"] (defScope s__law_odd) := ⟨rfl, rfl, rfl, by decide +kernel, rfl, by decide +kernel, by decide +kernel⟩
abbrev s__law_grouped : Stmt := topS 22
theorem sc__law_grouped : FnScope ["_law_draws_here", "_law_tongue", "_law_inner_here", "_law_keys", "_law_kind_here", "_law_a_name", "_law_row", "_law_told", "_law_head", "_law_key", "_law_also"] ["_law_draws_here", "_law_tongue", "_law_inner_here"] (defScope s__law_grouped) := ⟨rfl, rfl, rfl, by decide +kernel, rfl, by decide +kernel, by decide +kernel⟩
abbrev s__law_picked : Stmt := topS 23
theorem sc__law_picked : FnScope ["_law_draws_here", "_law_tongue", "_law_inner_here", "_law_told", "_law_row", "_law_k", "_law_a_name", "_law_kind_here"] ["_law_draws_here", "_law_tongue", "_law_inner_here"] (defScope s__law_picked) := ⟨rfl, rfl, rfl, by decide +kernel, rfl, by decide +kernel, by decide +kernel⟩
abbrev s__law_sorted : Stmt := topS 24
theorem sc__law_sorted : FnScope ["_law_draws_here", "_law_tongue", "_law_inner_here", "_law_term_here"] ["_law_draws_here", "_law_tongue", "_law_inner_here"] (defScope s__law_sorted) := ⟨rfl, rfl, rfl, by decide +kernel, rfl, by decide +kernel, by decide +kernel⟩
abbrev s__law_inner : Stmt := topS 25
theorem sc__law_inner : FnScope ["_law_draws_here", "_law_tongue", "_law_tables", "_law_a_name", "_law_inner_here", "_law_pick"] ["_law_draws_here", "_law_tongue", "_law_tables", "_law_a_name"] (defScope s__law_inner) := ⟨rfl, rfl, rfl, by decide +kernel, rfl, by decide +kernel, by decide +kernel⟩
abbrev s__law_joined : Stmt := topS 26
theorem sc__law_joined : FnScope ["_law_draws_here", "_law_tongue", "_law_one", "_law_other", "_law_pick", "_law_heads_here", "_law_condition_here", "_law_x", "_law_kind_here", "_law_y", "_law_some", "_law_a_name", "_law_also"] ["_law_draws_here", "_law_tongue", "_law_one", "_law_other"] (defScope s__law_joined) := ⟨rfl, rfl, rfl, by decide +kernel, rfl, by decide +kernel, by decide +kernel⟩
abbrev s__law_where_shaped : Stmt := topS 27
theorem sc__law_where_shaped : FnScope ["_law_draws_here", "_law_tongue", "_law_tables", "_law_inner_here", "_law_way", "_law_some", "_law_head"] ["_law_draws_here", "_law_tongue", "_law_tables", "_law_inner_here", "_law_way"] (defScope s__law_where_shaped) := ⟨rfl, rfl, rfl, by decide +kernel, rfl, by decide +kernel, by decide +kernel⟩
abbrev s__law_shaped : Stmt := topS 28
theorem sc__law_shaped : FnScope ["_law_draws_here", "_law_tongue", "_law_tables", "_law_inner_here", "_law_way", "_law_some", "_law_other", "_law_others", "_law_told", "_law_a_name"] ["_law_draws_here", "_law_tongue", "_law_tables"] (defScope s__law_shaped) := ⟨rfl, rfl, rfl, by decide +kernel, rfl, by decide +kernel, by decide +kernel⟩
abbrev s__law_counted : Stmt := topS 29
theorem sc__law_counted : FnScope ["_law_thing", "_law_words", "_law_questions", "_law_told", "_law_part"] ["_law_thing"] (defScope s__law_counted) := ⟨rfl, rfl, rfl, by decide +kernel, rfl, by decide +kernel, by decide +kernel⟩
abbrev s_law : Stmt := topS 30
theorem sc_law : FnScope ["_law_script", "_law_cell", "_law_draws_here", "_law_tongue", "_law_one", "_law_kept", "_law_told"] ["_law_script"] (defScope s_law) := ⟨rfl, rfl, rfl, by decide +kernel, rfl, by decide +kernel, by decide +kernel⟩
def tb_PLACES : List (Str × List Int) := [("col", []), ("num", []), ("text", []), ("blank", []), ("plus", [1, 2]), ("minus", [1, 2]), ("times", [1, 2]), ("over", [1, 2]), ("rest", [1, 2]), ("joined", [1, 2]), ("size", [1]), ("part", [1, 2, 3]), ("or_else", [1, 2]), ("if", [1, 2, 3]), ("let", [2, 3]), ("date", []), ("year", [1]), ("month", [1]), ("daily", [1]), ("months", [1, 2]), ("later", [1, 2]), ("days", [1, 2]), ("blank_if", [1, 2])]
def ms_PLACES : List Str := ["yes", "no", "same", "less", "begins", "is_blank", "and", "or", "not"]
def tb_ASKS : List (Str × List Int) := [("yes", []), ("no", []), ("same", [1, 2]), ("less", [1, 2]), ("begins", [1, 2]), ("is_blank", [1]), ("and", [1, 2]), ("or", [1, 2]), ("not", [1])]
def ms_ASKS : List Str := []
def tb_PARTS : List (Str × List Int) := [("where", [1]), ("pick", [1]), ("join", [1, 2]), ("left", [1, 2]), ("group", [1]), ("sorted", [1]), ("first", [1]), ("with", [1, 2]), ("less_rows", [1, 2]), ("unlike", [1])]
def ms_PARTS : List Str := ["table"]
def b_places_of (S : Tb) : En → M Res :=
  (sRet (eIf (tB' (eUn (wIn tb_PLACES ms_PLACES) (eOp oIx (eVar 0) (eC (.int 0))))) (eUn (wIx tb_PLACES) (eOp oIx (eVar 0) (eC (.int 0)))) (eUn (wIx tb_ASKS) (eOp oIx (eVar 0) (eC (.int 0))))))
def b_parts_of (S : Tb) : En → M Res :=
  (sRet (eLc (.one 1) (iT (eCallN 1 (S 0) (aCons (eVar 0) aNil))) tYes' (eOp oIx (eVar 0) (eVar 1))))
def b_paths (S : Tb) : En → M Res :=
  (sSeq (sOwnL 1 (aCons (eTup aNil) aNil))
    (sSeq (sFor (.many [2, 3]) (iE (aCons (eCallN 1 (S 1) (aCons (eVar 0) aNil)) aNil)) (sExt 1 (eLc (.one 4) (iL (eCallN 1 (S 2) (aCons (eVar 3) aNil))) tYes' (eOp oCatT (eTup (aCons (eVar 2) aNil)) (eVar 4)))))
    (sShare 1 (sRet (eVar 1)))))
def b_parts_of_question (S : Tb) : En → M Res :=
  (sRet (eLc (.one 1) (iT (eUn (wGet tb_PARTS ms_PARTS) (eOp oIx (eVar 0) (eC (.int 0))))) tYes' (eOp oIx (eVar 0) (eVar 1))))
def b_own_terms (S : Tb) : En → M Res :=
  (sSeq (sSet (.one 1) (eOp oIx (eVar 0) (eC (.int 0))))
    (sSeq (sIf (tB' (eOp oEq (eVar 1) (eC (.str "where")))) (sRet (eLst (aCons (eOp oIx (eVar 0) (eC (.int 2))) aNil))) sNext)
    (sSeq (sIf (tB' (eOp oIn (eVar 1) (eTup (aCons (eC (.str "join")) (aCons (eC (.str "left")) aNil))))) (sRet (eLst (aCons (eOp oIx (eVar 0) (eC (.int 3))) aNil))) sNext)
    (sSeq (sIf (tB' (eOp oEq (eVar 1) (eC (.str "pick")))) (sRet (eLc (.many [2, 3]) (iT (eOp oIx (eVar 0) (eC (.int 2)))) tYes' (eVar 3))) sNext)
    (sSeq (sIf (tB' (eOp oEq (eVar 1) (eC (.str "sorted")))) (sRet (eLc (.many [3, 4]) (iT (eOp oIx (eVar 0) (eC (.int 2)))) tYes' (eVar 3))) sNext)
    (sRet (eIf (tB' (eOp oEq (eVar 1) (eC (.str "group")))) (eLc (.many [2, 5, 3]) (iT (eOp oIx (eVar 0) (eC (.int 3)))) tYes' (eVar 3)) (eLst aNil))))))))
def b_weight_of (S : Tb) : En → M Res :=
  (sSeq (sSet (.one 1) (eOp oAdd (eC (.int 10)) (eCB bSum (aCons (eLc (.one 2) (iL (eCallN 1 (S 4) (aCons (eVar 0) aNil))) tYes' (eCB bLen (aCons (eCallN 1 (S 2) (aCons (eVar 2) aNil)) aNil))) aNil))))
    (sRet (eOp oAdd (eVar 1) (eCB bSum (aCons (eLc (.one 3) (iL (eCallN 1 (S 3) (aCons (eVar 0) aNil))) tYes' (eCallN 1 (S 5) (aCons (eVar 3) aNil))) aNil)))))
def b__law_kind (S : Tb) : En → M Res :=
  (sRet (eOp oIx (eLst (aCons (eC (.str "number")) (aCons (eC (.str "text")) (aCons (eC (.str "number")) (aCons (eC (.str "day")) aNil))))) (eOp oMod (eCallN 1 (S 6) (aCons (eVar 0) aNil)) (eOp oAdd (eC (.int 3)) (eCB bInt (aCons (eOp oEq (eVar 1) (eC (.str "hill"))) aNil))))))
def b__law_heads (S : Tb) : En → M Res :=
  (sSeq (sOwnD 2)
    (sSeq (sFor (.many [3, 4]) (iL (eLst (aCons (eTup (aCons (eC (.str "t")) (aCons (eC (.str "abc")) aNil))) (aCons (eTup (aCons (eC (.str "u")) (aCons (eC (.str "efg")) aNil))) (aCons (eTup (aCons (eC (.str "v")) (aCons (eC (.str "hi")) aNil))) aNil))))) (sPut 2 (eVar 3) (eLc (.one 5) (iS (eSl slS (eVar 4) oNone (oSome (eOp oAdd (eC (.int 1)) (eOp oMod (eCallN 1 (S 6) (aCons (eVar 0) aNil)) (eC (.int 3))))))) tYes' (eTup (aCons (eVar 5) (aCons (eCallN 2 (S 7) (aCons (eVar 0) (aCons (eVar 1) aNil))) aNil))))))
    (sShare 2 (sRet (eVar 2)))))
def b__law_leaf (S : Tb) : En → M Res :=
  (sSeq (sSet (.one 4) (eLc (.many [6, 7]) (iL (eVar 2)) (tB' (eOp oEq (eVar 7) (eVar 3))) (eTup (aCons (eC (.str "col")) (aCons (eVar 6) aNil)))))
    (sSeq (sSet (.one 5) (eCallN 1 (S 6) (aCons (eVar 0) aNil)))
    (sSeq (sIf (tAnd' (tB' (eOp oNeD (eVar 4) (eLst aNil))) (tB' (eOp oGt (eOp oMod (eVar 5) (eC (.int 4))) (eC (.int 0))))) (sRet (eOp oIx (eVar 4) (eOp oMod (eOp oDiv (eVar 5) (eC (.int 4))) (eCB bLen (aCons (eVar 4) aNil))))) sNext)
    (sSeq (sIf (tB' (eOp oEq (eOp oMod (eOp oDiv (eVar 5) (eC (.int 4))) (eC (.int 5))) (eC (.int 0)))) (sRet (eTup (aCons (eC (.str "blank")) (aCons (eVar 3) aNil)))) sNext)
    (sSeq (sIf (tB' (eOp oEq (eVar 3) (eC (.str "number")))) (sRet (eTup (aCons (eC (.str "num")) (aCons (eOp oIx (eLst (aCons (eOp oSub (eOp oMod (eOp oDiv (eVar 5) (eC (.int 20))) (eC (.int 5))) (eC (.int 1))) (aCons (eOp oMul (eOp oAdd (eOp oPow (eC (.int 10)) (eC (.int 19))) (eVar 5)) (eOp oIx (eLst (aCons (eC (.int 1)) (aCons (eUn oNeg (eC (.int 1))) aNil))) (eOp oMod (eOp oDiv (eVar 5) (eC (.int 100))) (eC (.int 2))))) aNil))) (eCB bInt (aCons (eOp oEq (eOp oMod (eOp oDiv (eVar 5) (eC (.int 200))) (eC (.int 12))) (eC (.int 7))) aNil))) aNil)))) sNext)
    (sSeq (sIf (tB' (eOp oEq (eVar 3) (eC (.str "text")))) (sRet (eTup (aCons (eC (.str "text")) (aCons (eOp oIx (eLst (aCons (eC (.str "a")) (aCons (eC (.str "b")) (aCons (eC (.str "ab")) (aCons (eSl slS (eC (.str "b")) (oSome (eCB bInt (aCons (eOp oEq (eVar 1) (eC (.str "hill"))) aNil))) oNone) (aCons (eC (.str "B a")) (aCons (eC (.str "Ab")) aNil))))))) (eOp oMod (eOp oDiv (eVar 5) (eC (.int 20))) (eC (.int 6)))) aNil)))) sNext)
    (sRet (eTup (aCons (eC (.str "date")) (aCons (eOp oIx (eLst (aCons (eC (.int 0)) (aCons (eC (.int 4)) (aCons (eC (.int 1900)) (aCons (eC (.int 2023)) aNil))))) (eOp oMod (eOp oDiv (eVar 5) (eC (.int 20))) (eC (.int 4)))) (aCons (eOp oAdd (eC (.int 1)) (eOp oMod (eOp oDiv (eVar 5) (eC (.int 80))) (eC (.int 12)))) (aCons (eOp oAdd (eC (.int 1)) (eOp oMod (eOp oDiv (eVar 5) (eC (.int 960))) (eC (.int 28)))) aNil))))))))))))
def b__law_term (S : Tb) : En → M Res :=
  (sSeq (sSet (.one 5) (eCallN 1 (S 6) (aCons (eVar 0) aNil)))
    (sSeq (sIf (tOr' (tB' (eOp oLt (eVar 4) (eC (.int 1)))) (tB' (eOp oEq (eOp oMod (eVar 5) (eC (.int 3))) (eC (.int 0))))) (sRet (eCallN 4 (S 9) (aCons (eVar 0) (aCons (eVar 1) (aCons (eVar 2) (aCons (eVar 3) aNil)))))) sNext)
    (sSeq (sSet (.unl [6, 7]) (eLc (.one 11) (iR (aCons (eC (.int 2)) aNil)) tYes' (eCallN 5 (S 10) (aCons (eVar 0) (aCons (eVar 1) (aCons (eVar 2) (aCons (eVar 3) (aCons (eOp oSub (eVar 4) (eC (.int 1))) aNil))))))))
    (sSeq (sSet (.one 8) (eOp oMod (eOp oDiv (eVar 5) (eC (.int 3))) (eC (.int 10))))
    (sSeq (sIf (tB' (eOp oLt (eVar 8) (eC (.int 2)))) (sRet (eOp oIx (eLst (aCons (eTup (aCons (eC (.str "or_else")) (aCons (eVar 6) (aCons (eVar 7) aNil)))) (aCons (eTup (aCons (eC (.str "if")) (aCons (eCallN 4 (S 11) (aCons (eVar 0) (aCons (eVar 1) (aCons (eVar 2) (aCons (eOp oSub (eVar 4) (eC (.int 1))) aNil))))) (aCons (eVar 6) (aCons (eVar 7) aNil))))) aNil))) (eVar 8))) sNext)
    (sSeq (sSet (.one 9) (eCallN 5 (S 10) (aCons (eVar 0) (aCons (eVar 1) (aCons (eVar 2) (aCons (eC (.str "number")) (aCons (eOp oSub (eVar 4) (eC (.int 1))) aNil)))))))
    (sSeq (sIf (tB' (eOp oEq (eVar 8) (eC (.int 2)))) (sSeq (sSet (.one 10) (eOp oCat (eLc (.one 12) (iL (eVar 2)) (tB' (eOp oNe (eOp oIx (eVar 12) (eC (.int 0))) (eC (.str "a")))) (eVar 12)) (eLst (aCons (eTup (aCons (eC (.str "a")) (aCons (eC (.str "number")) aNil))) aNil))))
    (sRet (eTup (aCons (eC (.str "let")) (aCons (eC (.str "a")) (aCons (eVar 9) (aCons (eCallN 5 (S 10) (aCons (eVar 0) (aCons (eVar 1) (aCons (eVar 10) (aCons (eVar 3) (aCons (eOp oSub (eVar 4) (eC (.int 1))) aNil)))))) aNil))))))) sNext)
    (sSeq (sIf (tAnd' (tB' (eOp oEq (eVar 8) (eC (.int 3)))) (tB' (eOp oEq (eVar 1) (eC (.str "hill"))))) (sRet (eTup (aCons (eC (.str "blank_if")) (aCons (eVar 6) (aCons (eVar 7) aNil))))) sNext)
    (sSeq (sIf (tB' (eOp oEq (eVar 3) (eC (.str "text")))) (sRet (eOp oIx (eLst (aCons (eTup (aCons (eC (.str "joined")) (aCons (eVar 6) (aCons (eVar 7) aNil)))) (aCons (eTup (aCons (eC (.str "part")) (aCons (eVar 6) (aCons (eVar 9) (aCons (eTup (aCons (eC (.str "num")) (aCons (eOp oMod (eOp oDiv (eVar 5) (eC (.int 30))) (eC (.int 3))) aNil))) aNil))))) aNil))) (eOp oMod (eVar 8) (eC (.int 2))))) sNext)
    (sSeq (sIf (tB' (eOp oEq (eVar 3) (eC (.str "day")))) (sRet (eOp oIx (eLst (aCons (eTup (aCons (eC (.str "months")) (aCons (eVar 6) (aCons (eVar 9) aNil)))) (aCons (eTup (aCons (eC (.str "later")) (aCons (eVar 6) (aCons (eVar 9) aNil)))) aNil))) (eOp oMod (eVar 8) (eC (.int 2))))) sNext)
    (sSeq (sIf (tB' (eOp oEq (eVar 8) (eC (.int 4)))) (sRet (eTup (aCons (eC (.str "size")) (aCons (eCallN 5 (S 10) (aCons (eVar 0) (aCons (eVar 1) (aCons (eVar 2) (aCons (eC (.str "text")) (aCons (eOp oSub (eVar 4) (eC (.int 1))) aNil)))))) aNil)))) sNext)
    (sRet (eTup (aCons (eOp oIx (eLst (aCons (eC (.str "plus")) (aCons (eC (.str "minus")) (aCons (eC (.str "times")) (aCons (eC (.str "over")) (aCons (eC (.str "rest")) aNil)))))) (eOp oMod (eVar 8) (eC (.int 5)))) (aCons (eVar 6) (aCons (eVar 7) aNil))))))))))))))))
def b__law_condition (S : Tb) : En → M Res :=
  (sSeq (sSet (.one 4) (eCallN 1 (S 6) (aCons (eVar 0) aNil)))
    (sSeq (sIf (tB' (eOp oEq (eOp oMod (eVar 4) (eC (.int 10))) (eC (.int 0)))) (sRet (eOp oIx (eLst (aCons (eTup (aCons (eC (.str "yes")) aNil)) (aCons (eTup (aCons (eC (.str "no")) aNil)) aNil))) (eOp oMod (eOp oDiv (eVar 4) (eC (.int 10))) (eC (.int 2))))) sNext)
    (sSeq (sIf (tAnd' (tB' (eOp oGt (eVar 3) (eC (.int 0)))) (tB' (eOp oLt (eOp oMod (eVar 4) (eC (.int 10))) (eC (.int 4))))) (sSeq (sSet (.unl [5, 6]) (eLc (.one 8) (iR (aCons (eC (.int 2)) aNil)) tYes' (eCallN 4 (S 11) (aCons (eVar 0) (aCons (eVar 1) (aCons (eVar 2) (aCons (eOp oSub (eVar 3) (eC (.int 1))) aNil)))))))
    (sRet (eOp oIx (eLst (aCons (eTup (aCons (eC (.str "and")) (aCons (eVar 5) (aCons (eVar 6) aNil)))) (aCons (eTup (aCons (eC (.str "or")) (aCons (eVar 5) (aCons (eVar 6) aNil)))) (aCons (eTup (aCons (eC (.str "not")) (aCons (eVar 5) aNil))) aNil)))) (eOp oMod (eOp oDiv (eVar 4) (eC (.int 10))) (eC (.int 3)))))) sNext)
    (sSeq (sSet (.one 7) (eCallN 2 (S 7) (aCons (eVar 0) (aCons (eVar 1) aNil))))
    (sSeq (sSet (.unl [5, 6]) (eLc (.one 8) (iR (aCons (eC (.int 2)) aNil)) tYes' (eCallN 5 (S 10) (aCons (eVar 0) (aCons (eVar 1) (aCons (eVar 2) (aCons (eVar 7) (aCons (eOp oSub (eVar 3) (eC (.int 1))) aNil))))))))
    (sSeq (sIf (tB' (eOp oEq (eOp oMod (eOp oDiv (eVar 4) (eC (.int 10))) (eC (.int 5))) (eC (.int 0)))) (sRet (eTup (aCons (eC (.str "is_blank")) (aCons (eVar 5) aNil)))) sNext)
    (sSeq (sIf (tAnd' (tB' (eOp oEq (eOp oMod (eOp oDiv (eVar 4) (eC (.int 10))) (eC (.int 5))) (eC (.int 1)))) (tB' (eOp oEq (eVar 7) (eC (.str "text"))))) (sRet (eTup (aCons (eC (.str "begins")) (aCons (eVar 5) (aCons (eVar 6) aNil))))) sNext)
    (sRet (eTup (aCons (eOp oIx (eLst (aCons (eC (.str "same")) (aCons (eC (.str "less")) aNil))) (eOp oMod (eOp oDiv (eVar 4) (eC (.int 50))) (eC (.int 2)))) (aCons (eVar 5) (aCons (eVar 6) aNil))))))))))))
def b__law_odd_term (S : Tb) : En → M Res :=
  (sSeq (sSet (.one 4) (eCallN 1 (S 6) (aCons (eVar 0) aNil)))
    (sSeq (sSet (.unl [5, 6]) (eLc (.one 11) (iR (aCons (eC (.int 2)) aNil)) tYes' (eCallN 5 (S 10) (aCons (eVar 0) (aCons (eVar 1) (aCons (eVar 2) (aCons (eVar 3) (aCons (eC (.int 1)) aNil))))))))
    (sSeq (sSet (.one 7) (eTup (aCons (eC (.str "num")) (aCons (eOp oMod (eOp oDiv (eVar 4) (eC (.int 99))) (eC (.int 2))) aNil))))
    (sSeq (sSet (.one 8) (eLst (aCons (eVar 5) (aCons (eCallN 5 (S 10) (aCons (eVar 0) (aCons (eVar 1) (aCons (eLst aNil) (aCons (eVar 3) (aCons (eC (.int 1)) aNil)))))) (aCons (eTup (aCons (eC (.str "if")) (aCons (eOp oIx (eLst (aCons (eTup (aCons (eC (.str "yes")) aNil)) (aCons (eTup (aCons (eC (.str "no")) aNil)) aNil))) (eOp oMod (eOp oDiv (eVar 4) (eC (.int 99))) (eC (.int 2)))) (aCons (eVar 5) (aCons (eVar 6) aNil))))) aNil)))))
    (sSeq (sSet (.one 9) (eOp oCat (eLc (.one 12) (iL (eVar 2)) (tB' (eOp oNe (eOp oIx (eVar 12) (eC (.int 0))) (eC (.str "a")))) (eVar 12)) (eLst (aCons (eTup (aCons (eC (.str "a")) (aCons (eVar 3) aNil))) aNil))))
    (sSeq (sSet (.one 10) (eCallN 5 (S 10) (aCons (eVar 0) (aCons (eVar 1) (aCons (eVar 9) (aCons (eVar 3) (aCons (eC (.int 1)) aNil)))))))
    (sSeq (sSet (.one 8) (eOp oCat (eVar 8) (eLst (aCons (eTup (aCons (eC (.str "if")) (aCons (eCallN 4 (S 11) (aCons (eVar 0) (aCons (eVar 1) (aCons (eVar 2) (aCons (eC (.int 1)) aNil))))) (aCons (eVar 5) (aCons (eVar 5) aNil))))) (aCons (eTup (aCons (eC (.str "let")) (aCons (eC (.str "a")) (aCons (eVar 6) (aCons (eVar 10) aNil))))) aNil)))))
    (sSeq (sSet (.one 8) (eOp oCat (eVar 8) (eLst (aCons (eTup (aCons (eC (.str "or_else")) (aCons (eVar 5) (aCons (eTup (aCons (eC (.str "blank")) (aCons (eVar 3) aNil))) aNil)))) (aCons (eTup (aCons (eC (.str "or_else")) (aCons (eTup (aCons (eC (.str "blank")) (aCons (eVar 3) aNil))) (aCons (eVar 5) aNil)))) (aCons (eTup (aCons (eC (.str "or_else")) (aCons (eVar 5) (aCons (eVar 6) aNil)))) aNil))))))
    (sSeq (sIf (tAnd' (tB' (eOp oEq (eVar 3) (eC (.str "text")))) (tB' (eOp oEq (eVar 1) (eC (.str "hill"))))) (sSet (.one 8) (eOp oCat (eVar 8) (eLst (aCons (eTup (aCons (eC (.str "joined")) (aCons (eVar 5) (aCons (eTup (aCons (eC (.str "text")) (aCons (eC (.str "")) aNil))) aNil)))) (aCons (eTup (aCons (eC (.str "joined")) (aCons (eTup (aCons (eC (.str "text")) (aCons (eC (.str "")) aNil))) (aCons (eVar 5) aNil)))) aNil))))) sNext)
    (sSeq (sIf (tB' (eOp oEq (eVar 3) (eC (.str "number")))) (sSeq (sSet (.one 8) (eOp oCat (eVar 8) (eLst (aCons (eTup (aCons (eC (.str "plus")) (aCons (eVar 5) (aCons (eVar 7) aNil)))) (aCons (eTup (aCons (eC (.str "plus")) (aCons (eVar 7) (aCons (eVar 5) aNil)))) (aCons (eTup (aCons (eC (.str "minus")) (aCons (eVar 5) (aCons (eVar 7) aNil)))) aNil))))))
    (sSet (.one 8) (eOp oCat (eVar 8) (eLst (aCons (eTup (aCons (eC (.str "times")) (aCons (eVar 5) (aCons (eVar 7) aNil)))) (aCons (eTup (aCons (eC (.str "times")) (aCons (eVar 7) (aCons (eVar 5) aNil)))) (aCons (eTup (aCons (eC (.str "over")) (aCons (eVar 5) (aCons (eVar 7) aNil)))) aNil))))))) sNext)
    (sRet (eOp oIx (eVar 8) (eOp oMod (eVar 4) (eCB bLen (aCons (eVar 8) aNil)))))))))))))))
def b__law_odd (S : Tb) : En → M Res :=
  (sSeq (sSet (.one 3) (eCallN 1 (S 6) (aCons (eVar 0) aNil)))
    (sSeq (sSet (.unl [4, 5]) (eLc (.one 12) (iR (aCons (eC (.int 2)) aNil)) tYes' (eCallN 4 (S 11) (aCons (eVar 0) (aCons (eVar 1) (aCons (eVar 2) (aCons (eC (.int 1)) aNil)))))))
    (sSeq (sSet (.one 6) (eCallN 2 (S 7) (aCons (eVar 0) (aCons (eVar 1) aNil))))
    (sSeq (sSet (.unl [7, 8]) (eLc (.one 12) (iR (aCons (eC (.int 2)) aNil)) tYes' (eCallN 4 (S 12) (aCons (eVar 0) (aCons (eVar 1) (aCons (eVar 2) (aCons (eVar 6) aNil)))))))
    (sSeq (sSet (.one 9) (eOp oIx (eLst (aCons (eTup (aCons (eC (.str "yes")) aNil)) (aCons (eTup (aCons (eC (.str "no")) aNil)) aNil))) (eOp oMod (eOp oDiv (eVar 3) (eC (.int 99))) (eC (.int 2)))))
    (sSeq (sSet (.one 10) (eOp oIx (eLst (aCons (eC (.str "and")) (aCons (eC (.str "or")) aNil))) (eOp oMod (eOp oDiv (eVar 3) (eC (.int 198))) (eC (.int 2)))))
    (sSeq (sSet (.one 11) (eLst (aCons (eVar 4) (aCons (eTup (aCons (eVar 10) (aCons (eVar 4) (aCons (eVar 9) aNil)))) (aCons (eTup (aCons (eVar 10) (aCons (eVar 9) (aCons (eVar 4) aNil)))) (aCons (eTup (aCons (eVar 10) (aCons (eVar 4) (aCons (eVar 4) aNil)))) (aCons (eTup (aCons (eVar 10) (aCons (eVar 4) (aCons (eVar 5) aNil)))) (aCons (eTup (aCons (eC (.str "not")) (aCons (eTup (aCons (eC (.str "not")) (aCons (eVar 4) aNil))) aNil))) aNil))))))))
    (sSeq (sSet (.one 11) (eOp oCat (eVar 11) (eLst (aCons (eCallN 4 (S 11) (aCons (eVar 0) (aCons (eVar 1) (aCons (eLst aNil) (aCons (eC (.int 1)) aNil))))) (aCons (eVar 9) (aCons (eTup (aCons (eC (.str "same")) (aCons (eVar 7) (aCons (eVar 7) aNil)))) (aCons (eTup (aCons (eC (.str "is_blank")) (aCons (eVar 7) aNil))) aNil)))))))
    (sRet (eOp oIx (eOp oCat (eVar 11) (eLst (aCons (eTup (aCons (eC (.str "same")) (aCons (eVar 7) (aCons (eVar 8) aNil)))) (aCons (eTup (aCons (eC (.str "less")) (aCons (eVar 7) (aCons (eVar 8) aNil)))) aNil)))) (eOp oMod (eVar 3) (eC (.int 12)))))))))))))
def b__law_grouped (S : Tb) : En → M Res :=
  (sSeq (sSet (.one 3) (eLc (.one 8) (iL (eOp oIx (eVar 2) (eC (.int 1)))) (tB' (eOp oEq (eOp oMod (eCallN 1 (S 6) (aCons (eVar 0) aNil)) (eC (.int 2))) (eC (.int 0)))) (eVar 8)))
    (sSeq (sSet (.one 4) (eCallN 2 (S 7) (aCons (eVar 0) (aCons (eVar 1) aNil))))
    (sSeq (sSet (.one 5) (eOp oAddS (eC (.str "n")) (eCB bStr (aCons (eDr1 0) aNil))))
    (sSeq (sSet (.one 6) (eTup (aCons (eTup (aCons (eVar 5) (aCons (eOp oIx (eLst (aCons (eC (.str "count")) (aCons (eC (.str "least")) (aCons (eC (.str "most")) aNil)))) (eOp oMod (eCallN 1 (S 6) (aCons (eVar 0) aNil)) (eC (.int 3)))) (aCons (eCallN 4 (S 12) (aCons (eVar 0) (aCons (eVar 1) (aCons (eOp oIx (eVar 2) (eC (.int 1))) (aCons (eVar 4) aNil))))) aNil)))) aNil)))
    (sSeq (sSet (.one 7) (eOp oCat (eVar 3) (eLst (aCons (eTup (aCons (eVar 5) (aCons (eOp oIx (eLst (aCons (eVar 4) (aCons (eC (.str "number")) aNil))) (eCB bInt (aCons (eOp oEq (eOp oIx (eOp oIx (eVar 6) (eC (.int 0))) (eC (.int 1))) (eC (.str "count"))) aNil))) aNil))) aNil))))
    (sRet (eTup (aCons (eTup (aCons (eC (.str "group")) (aCons (eOp oIx (eVar 2) (eC (.int 0))) (aCons (eCB bTuple (aCons (eLc (.many [9, 10]) (iL (eVar 3)) tYes' (eVar 9)) aNil)) (aCons (eVar 6) aNil))))) (aCons (eVar 7) aNil)))))))))
def b__law_picked (S : Tb) : En → M Res :=
  (sSeq (sIf (tB' (eOp oEq (eOp oMod (eCallN 1 (S 6) (aCons (eVar 0) aNil)) (eC (.int 3))) (eC (.int 0)))) (sRet (eTup (aCons (eTup (aCons (eC (.str "pick")) (aCons (eOp oIx (eVar 2) (eC (.int 0))) (aCons (eCB bTuple (aCons (eLc (.many [6, 7]) (iL (eOp oIx (eVar 2) (eC (.int 1)))) tYes' (eTup (aCons (eVar 6) (aCons (eTup (aCons (eC (.str "col")) (aCons (eVar 6) aNil))) aNil)))) aNil)) aNil)))) (aCons (eOp oIx (eVar 2) (eC (.int 1))) aNil)))) sNext)
    (sSeq (sSet (.one 3) (eLc (.one 5) (iR (aCons (eC (.int 2)) aNil)) tYes' (eTup (aCons (eOp oAddS (eC (.str "m")) (eCB bStr (aCons (eDr1 0) aNil))) (aCons (eCallN 2 (S 7) (aCons (eVar 0) (aCons (eVar 1) aNil))) aNil)))))
    (sSeq (sSet (.one 4) (eLc (.many [6, 7]) (iL (eVar 3)) tYes' (eTup (aCons (eVar 6) (aCons (eCallN 4 (S 12) (aCons (eVar 0) (aCons (eVar 1) (aCons (eOp oIx (eVar 2) (eC (.int 1))) (aCons (eVar 7) aNil))))) aNil)))))
    (sRet (eTup (aCons (eTup (aCons (eC (.str "pick")) (aCons (eOp oIx (eVar 2) (eC (.int 0))) (aCons (eCB bTuple (aCons (eVar 4) aNil)) aNil)))) (aCons (eVar 3) aNil)))))))
def b__law_sorted (S : Tb) : En → M Res :=
  (sSeq (sSet (.one 3) (eCallN 4 (S 12) (aCons (eVar 0) (aCons (eVar 1) (aCons (eOp oIx (eVar 2) (eC (.int 1))) (aCons (eCallN 2 (S 7) (aCons (eVar 0) (aCons (eVar 1) aNil))) aNil))))))
    (sRet (eTup (aCons (eTup (aCons (eC (.str "sorted")) (aCons (eOp oIx (eVar 2) (eC (.int 0))) (aCons (eTup (aCons (eTup (aCons (eVar 3) (aCons (eOp oEq (eOp oMod (eCallN 1 (S 6) (aCons (eVar 0) aNil)) (eC (.int 2))) (eC (.int 0))) aNil))) aNil)) aNil)))) (aCons (eOp oIx (eVar 2) (eC (.int 1))) aNil)))))
def b__law_inner (S : Tb) : En → M Res :=
  (sSeq (sSet (.one 4) (eTup (aCons (eTup (aCons (eC (.str "table")) (aCons (eVar 3) aNil))) (aCons (eOp oGet (eVar 2) (eVar 3)) aNil))))
    (sSeq (sSet (.one 5) (eCallN 1 (S 6) (aCons (eVar 0) aNil)))
    (sSeq (sIf (tB' (eOp oEq (eOp oMod (eVar 5) (eC (.int 7))) (eC (.int 0)))) (sRet (eTup (aCons (eTup (aCons (eC (.str "where")) (aCons (eOp oIx (eVar 4) (eC (.int 0))) (aCons (eCallN 3 (S 13) (aCons (eVar 0) (aCons (eVar 1) (aCons (eOp oIx (eVar 4) (eC (.int 1))) aNil)))) aNil)))) (aCons (eOp oIx (eVar 4) (eC (.int 1))) aNil)))) sNext)
    (sSeq (sIf (tB' (eOp oLt (eOp oMod (eVar 5) (eC (.int 7))) (eC (.int 3)))) (sRet (ePick 3 3 (S 14) (S 15) (eOp oSub (eOp oMod (eVar 5) (eC (.int 7))) (eC (.int 1))) (aCons (eVar 0) (aCons (eVar 1) (aCons (eVar 4) aNil))))) sNext)
    (sSeq (sIf (tB' (eOp oEq (eOp oMod (eVar 5) (eC (.int 7))) (eC (.int 3)))) (sSeq (sSet (.one 4) (eCallN 3 (S 16) (aCons (eVar 0) (aCons (eVar 1) (aCons (eVar 4) aNil)))))
    (sRet (eOp oIx (eLst (aCons (eVar 4) (aCons (eTup (aCons (eTup (aCons (eC (.str "first")) (aCons (eOp oIx (eVar 4) (eC (.int 0))) (aCons (eOp oMod (eOp oDiv (eVar 5) (eC (.int 14))) (eC (.int 3))) aNil)))) (aCons (eOp oIx (eVar 4) (eC (.int 1))) aNil))) aNil))) (eOp oMod (eOp oDiv (eVar 5) (eC (.int 7))) (eC (.int 2)))))) sNext)
    (sRet (eVar 4)))))))
def b__law_joined (S : Tb) : En → M Res :=
  (sSeq (sSet (.one 4) (eCallN 1 (S 6) (aCons (eVar 0) aNil)))
    (sSeq (sSet (.one 5) (eOp oIx (eLst (aCons (eOp oCat (eOp oIx (eVar 2) (eC (.int 1))) (eOp oIx (eVar 3) (eC (.int 1)))) (aCons (eOp oIx (eVar 2) (eC (.int 1))) (aCons (eOp oIx (eVar 3) (eC (.int 1))) (aCons (eOp oCat (eOp oIx (eVar 2) (eC (.int 1))) (eOp oIx (eVar 3) (eC (.int 1)))) aNil))))) (eOp oMod (eVar 4) (eC (.int 4)))))
    (sSeq (sSet (.one 6) (eCallN 3 (S 13) (aCons (eVar 0) (aCons (eVar 1) (aCons (eVar 5) aNil)))))
    (sSeq (sSet (.one 10) (eLc (.many [7, 8]) (iL (eOp oIx (eVar 2) (eC (.int 1)))) (tB' (eOp oIn (eVar 8) (eLc (.many [9, 12]) (iL (eOp oIx (eVar 3) (eC (.int 1)))) tYes' (eVar 12)))) (eTup (aCons (eVar 7) (aCons (eVar 8) aNil)))))
    (sSeq (sIf (tAnd' (tB' (eOp oEq (eOp oMod (eOp oDiv (eVar 4) (eC (.int 4))) (eC (.int 2))) (eC (.int 0)))) (tB' (eOp oNeD (eVar 10) (eLst aNil)))) (sSeq (sSet (.many [7, 8]) (eOp oIx (eVar 10) (eOp oMod (eOp oDiv (eVar 4) (eC (.int 8))) (eCB bLen (aCons (eVar 10) aNil)))))
    (sSeq (sSet (.one 9) (eOp oIx (eLc (.many [11, 12]) (iL (eOp oIx (eVar 3) (eC (.int 1)))) (tB' (eOp oEq (eVar 12) (eVar 8))) (eVar 11)) (eC (.int 0))))
    (sSet (.one 6) (eTup (aCons (eC (.str "and")) (aCons (eTup (aCons (eC (.str "same")) (aCons (eTup (aCons (eC (.str "col")) (aCons (eVar 7) aNil))) (aCons (eTup (aCons (eC (.str "col")) (aCons (eVar 9) aNil))) aNil)))) (aCons (eVar 6) aNil))))))) sNext)
    (sRet (eTup (aCons (eTup (aCons (eC (.str "join")) (aCons (eOp oIx (eVar 2) (eC (.int 0))) (aCons (eOp oIx (eVar 3) (eC (.int 0))) (aCons (eVar 6) aNil))))) (aCons (eOp oCat (eOp oIx (eVar 2) (eC (.int 1))) (eOp oIx (eVar 3) (eC (.int 1)))) aNil)))))))))
def b__law_where_shaped (S : Tb) : En → M Res :=
  (sSeq (sIf (tB' (eOp oEq (eVar 4) (eC (.int 1)))) (sSet (.one 3) (eTup (aCons (eTup (aCons (eC (.str "where")) (aCons (eOp oIx (eVar 3) (eC (.int 0))) (aCons (eCallN 3 (S 13) (aCons (eVar 0) (aCons (eVar 1) (aCons (eOp oIx (eVar 3) (eC (.int 1))) aNil)))) aNil)))) (aCons (eOp oIx (eVar 3) (eC (.int 1))) aNil)))) sNext)
    (sSeq (sIf (tB' (eOp oIn (eVar 4) (eLst (aCons (eC (.int 2)) (aCons (eC (.int 3)) aNil))))) (sSet (.one 3) (ePick 3 3 (S 15) (S 14) (eOp oSub (eVar 4) (eC (.int 2))) (aCons (eVar 0) (aCons (eVar 1) (aCons (eVar 3) aNil))))) sNext)
    (sSeq (sIf (tB' (eOp oGt (eVar 4) (eC (.int 3)))) (sSet (.one 3) (eCallN 4 (S 18) (aCons (eVar 0) (aCons (eVar 1) (aCons (eVar 3) (aCons (eCallN 4 (S 17) (aCons (eVar 0) (aCons (eVar 1) (aCons (eVar 2) (aCons (eC (.str "u")) aNil))))) aNil)))))) sNext)
    (sSeq (sSet (.one 5) (eOp oIx (eVar 3) (eC (.int 1))))
    (sSeq (sIf (tB' (eOp oGt (eVar 4) (eC (.int 2)))) (sSet (.one 5) (eLc (.one 6) (iL (eOp oIx (eVar 3) (eC (.int 1)))) (tB' (eOp oEq (eOp oMod (eCallN 1 (S 6) (aCons (eVar 0) aNil)) (eC (.int 2))) (eC (.int 0)))) (eVar 6))) sNext)
    (sRet (eTup (aCons (eTup (aCons (eC (.str "where")) (aCons (eOp oIx (eVar 3) (eC (.int 0))) (aCons (eCallN 3 (S 13) (aCons (eVar 0) (aCons (eVar 1) (aCons (eVar 5) aNil)))) aNil)))) (aCons (eOp oIx (eVar 3) (eC (.int 1))) aNil)))))))))
def b__law_shaped (S : Tb) : En → M Res :=
  (sSeq (sSet (.one 3) (eCallN 4 (S 17) (aCons (eVar 0) (aCons (eVar 1) (aCons (eVar 2) (aCons (eC (.str "t")) aNil))))))
    (sSeq (sSet (.one 4) (eOp oMod (eCallN 1 (S 6) (aCons (eVar 0) aNil)) (eC (.int 14))))
    (sSeq (sIf (tB' (eOp oLt (eVar 4) (eC (.int 6)))) (sRet (eCallN 5 (S 19) (aCons (eVar 0) (aCons (eVar 1) (aCons (eVar 2) (aCons (eVar 3) (aCons (eVar 4) aNil))))))) sNext)
    (sSeq (sIf (tB' (eOp oLt (eVar 4) (eC (.int 8)))) (sRet (eCallN 3 (S 15) (aCons (eVar 0) (aCons (eVar 1) (aCons (eOp oIx (eLst (aCons (eVar 3) (aCons (eCallN 3 (S 15) (aCons (eVar 0) (aCons (eVar 1) (aCons (eVar 3) aNil)))) aNil))) (eOp oSub (eVar 4) (eC (.int 6)))) aNil))))) sNext)
    (sSeq (sIf (tB' (eOp oEq (eVar 4) (eC (.int 8)))) (sSeq (sSet (.one 5) (eOp oIx (eLst (aCons (eTup (aCons (eTup (aCons (eC (.str "unlike")) (aCons (eOp oIx (eVar 3) (eC (.int 0))) aNil))) (aCons (eOp oIx (eVar 3) (eC (.int 1))) aNil))) (aCons (eCallN 3 (S 14) (aCons (eVar 0) (aCons (eVar 1) (aCons (eVar 3) aNil)))) aNil))) (eOp oMod (eCallN 1 (S 6) (aCons (eVar 0) aNil)) (eC (.int 2)))))
    (sRet (eTup (aCons (eTup (aCons (eC (.str "unlike")) (aCons (eOp oIx (eVar 5) (eC (.int 0))) aNil))) (aCons (eOp oIx (eVar 5) (eC (.int 1))) aNil))))) sNext)
    (sSeq (sIf (tB' (eOp oEq (eVar 4) (eC (.int 9)))) (sSeq (sSet (.one 5) (eCallN 3 (S 16) (aCons (eVar 0) (aCons (eVar 1) (aCons (eVar 3) aNil)))))
    (sRet (eOp oIx (eLst (aCons (eTup (aCons (eTup (aCons (eC (.str "unlike")) (aCons (eOp oIx (eVar 5) (eC (.int 0))) aNil))) (aCons (eOp oIx (eVar 5) (eC (.int 1))) aNil))) (aCons (eCallN 3 (S 15) (aCons (eVar 0) (aCons (eVar 1) (aCons (eVar 5) aNil)))) aNil))) (eOp oMod (eCallN 1 (S 6) (aCons (eVar 0) aNil)) (eC (.int 2)))))) sNext)
    (sSeq (sIf (tB' (eOp oEq (eVar 4) (eC (.int 10)))) (sSeq (sSet (.one 6) (eTup (aCons (eC (.str "where")) (aCons (eOp oIx (eVar 3) (eC (.int 0))) (aCons (eCallN 3 (S 13) (aCons (eVar 0) (aCons (eVar 1) (aCons (eOp oIx (eVar 3) (eC (.int 1))) aNil)))) aNil)))))
    (sRet (eTup (aCons (eTup (aCons (eC (.str "less_rows")) (aCons (eTup (aCons (eC (.str "with")) (aCons (eOp oIx (eVar 3) (eC (.int 0))) (aCons (eVar 6) aNil)))) (aCons (eOp oIx (eLst (aCons (eVar 6) (aCons (eOp oIx (eVar 3) (eC (.int 0))) aNil))) (eOp oDiv (eOp oMod (eCallN 1 (S 6) (aCons (eVar 0) aNil)) (eC (.int 3))) (eC (.int 2)))) aNil)))) (aCons (eOp oIx (eVar 3) (eC (.int 1))) aNil))))) sNext)
    (sSeq (sSet (.one 7) (eLc (.one 9) (iS (eC (.str "uv"))) tYes' (eCallN 4 (S 17) (aCons (eVar 0) (aCons (eVar 1) (aCons (eVar 2) (aCons (eVar 9) aNil)))))))
    (sSeq (sIf (tB' (eOp oEq (eVar 4) (eC (.int 11)))) (sRet (eCallN 4 (S 18) (aCons (eVar 0) (aCons (eVar 1) (aCons (eCallN 4 (S 18) (aCons (eVar 0) (aCons (eVar 1) (aCons (eVar 3) (aCons (eOp oIx (eVar 7) (eC (.int 0))) aNil))))) (aCons (eOp oIx (eVar 7) (eC (.int 1))) aNil)))))) sNext)
    (sSeq (sIf (tB' (eOp oEq (eVar 4) (eC (.int 12)))) (sRet (eCallN 4 (S 18) (aCons (eVar 0) (aCons (eVar 1) (aCons (eVar 3) (aCons (eCallN 4 (S 18) (aCons (eVar 0) (aCons (eVar 1) (aCons (eOp oIx (eVar 7) (eC (.int 0))) (aCons (eOp oIx (eVar 7) (eC (.int 1))) aNil))))) aNil)))))) sNext)
    (sSeq (sSet (.one 8) (eCallN 4 (S 18) (aCons (eVar 0) (aCons (eVar 1) (aCons (eVar 3) (aCons (eOp oIx (eVar 7) (eC (.int 0))) aNil))))))
    (sRet (eTup (aCons (eOp oCatT (eOp oCatT (eOp oRep (eTup (aCons (eC (.str "left")) aNil)) (eCB bInt (aCons (eOp oEq (eVar 1) (eC (.str "hill"))) aNil))) (eOp oRep (eTup (aCons (eC (.str "join")) aNil)) (eCB bInt (aCons (eOp oEq (eVar 1) (eC (.str "dale"))) aNil)))) (eSl slT (eOp oIx (eVar 8) (eC (.int 0))) (oSome (eC (.int 1))) oNone)) (aCons (eOp oIx (eVar 8) (eC (.int 1))) aNil)))))))))))))))
def b__law_counted (S : Tb) : En → M Res :=
  (sSeq (sSet (.one 1) (eLst (aCons (eC (.str "col")) (aCons (eC (.str "num")) (aCons (eC (.str "text")) (aCons (eC (.str "blank")) (aCons (eC (.str "date")) (aCons (eC (.str "plus")) (aCons (eC (.str "minus")) (aCons (eC (.str "times")) (aCons (eC (.str "over")) (aCons (eC (.str "rest")) (aCons (eC (.str "joined")) (aCons (eC (.str "size")) (aCons (eC (.str "part")) aNil)))))))))))))))
    (sSeq (sSet (.one 1) (eOp oCat (eVar 1) (eLst (aCons (eC (.str "or_else")) (aCons (eC (.str "if")) (aCons (eC (.str "let")) (aCons (eC (.str "year")) (aCons (eC (.str "month")) (aCons (eC (.str "daily")) (aCons (eC (.str "months")) (aCons (eC (.str "later")) (aCons (eC (.str "days")) (aCons (eC (.str "blank_if")) (aCons (eC (.str "yes")) aNil))))))))))))))
    (sSeq (sSet (.one 1) (eOp oCat (eVar 1) (eLst (aCons (eC (.str "no")) (aCons (eC (.str "same")) (aCons (eC (.str "less")) (aCons (eC (.str "begins")) (aCons (eC (.str "is_blank")) (aCons (eC (.str "and")) (aCons (eC (.str "or")) (aCons (eC (.str "not")) aNil)))))))))))
    (sSeq (sSet (.one 2) (eLst (aCons (eC (.str "table")) (aCons (eC (.str "where")) (aCons (eC (.str "pick")) (aCons (eC (.str "join")) (aCons (eC (.str "left")) (aCons (eC (.str "group")) (aCons (eC (.str "sorted")) (aCons (eC (.str "first")) (aCons (eC (.str "with")) (aCons (eC (.str "less_rows")) (aCons (eC (.str "unlike")) aNil)))))))))))))
    (sSeq (sIf (tOr' (tNot' (tB' (eUn (isF "tuple") (eVar 0)))) (tB' (eOp oEqD (eVar 0) (eTup aNil)))) (sRet (eC (.int 0))) sNext)
    (sSeq (sIf (tB' (eOp oInD (eOp oIx (eVar 0) (eC (.int 0))) (eLst (aCons (eC (.str "num")) (aCons (eC (.str "text")) (aCons (eC (.str "blank")) (aCons (eC (.str "col")) (aCons (eC (.str "date")) aNil)))))))) (sRet (eC (.int 1))) sNext)
    (sSeq (sIf (tAnd' (tB' (eOp oEqD (eOp oIx (eVar 0) (eC (.int 0))) (eC (.str "table")))) (tB' (eOp oEq (eCB bLen (aCons (eVar 0) aNil)) (eC (.int 2))))) (sRet (eC (.int 10))) sNext)
    (sSeq (sSet (.one 3) (eCB bSum (aCons (eLc (.one 4) (iT (eVar 0)) tYes' (eCallN 1 (S 21) (aCons (eVar 4) aNil))) aNil)))
    (sSeq (sIf (tAnd' (tB' (eUn (isF "str") (eOp oIx (eVar 0) (eC (.int 0))))) (tB' (eOp oIn (eOp oIx (eVar 0) (eC (.int 0))) (eVar 1)))) (sRet (eOp oAdd (eVar 3) (eC (.int 1)))) sNext)
    (sRet (eOp oAdd (eVar 3) (eOp oMul (eC (.int 10)) (eCB bInt (aCons (eAnd (eUn (isF "str") (eOp oIx (eVar 0) (eC (.int 0)))) (eOp oIn (eOp oIx (eVar 0) (eC (.int 0))) (eVar 2))) aNil))))))))))))))
def step (S : Tb) : Tb := fun i => match i with
  | 0 => fnD 1 (b_places_of S)
  | 1 => fnD 2 (b_parts_of S)
  | 2 => fnD 5 (b_paths S)
  | 3 => fnD 2 (b_parts_of_question S)
  | 4 => fnD 6 (b_own_terms S)
  | 5 => fnD 4 (b_weight_of S)
  | 6 => next
  | 7 => fnD 2 (b__law_kind S)
  | 8 => fnD 6 (b__law_heads S)
  | 9 => fnD 8 (b__law_leaf S)
  | 10 => fnD 13 (b__law_term S)
  | 11 => fnD 9 (b__law_condition S)
  | 12 => fnD 13 (b__law_odd_term S)
  | 13 => fnD 13 (b__law_odd S)
  | 14 => fnD 11 (b__law_grouped S)
  | 15 => fnD 8 (b__law_picked S)
  | 16 => fnD 4 (b__law_sorted S)
  | 17 => fnD 6 (b__law_inner S)
  | 18 => fnD 13 (b__law_joined S)
  | 19 => fnD 7 (b__law_where_shaped S)
  | 20 => fnD 10 (b__law_shaped S)
  | 21 => fnD 5 (b__law_counted S)
  | _ => fun _ _ => none
def sem : Nat → Tb
  | 0 => fun _ _ _ => none
  | n + 1 => step (sem n)
structure Tx (K : PySem.W.Frag) (mg : Str → Option Value) (w : World) where
  f_places_of : Addr
  fd_places_of : FuncData
  F_places_of : Fun K "places_of" "places_of" s_places_of f_places_of fd_places_of
  b_places_of : Binds K fd_places_of ["thing"] []
  g_places_of : mg "places_of" = some (.ref f_places_of)
  f_parts_of : Addr
  fd_parts_of : FuncData
  F_parts_of : Fun K "parts_of" "parts_of" s_parts_of f_parts_of fd_parts_of
  b_parts_of : Binds K fd_parts_of ["thing"] []
  g_parts_of : mg "parts_of" = some (.ref f_parts_of)
  f_paths : Addr
  fd_paths : FuncData
  F_paths : Fun K "paths" "paths" s_paths f_paths fd_paths
  b_paths : Binds K fd_paths ["term"] []
  g_paths : mg "paths" = some (.ref f_paths)
  f_parts_of_question : Addr
  fd_parts_of_question : FuncData
  F_parts_of_question : Fun K "parts_of_question" "parts_of_question" s_parts_of_question f_parts_of_question fd_parts_of_question
  b_parts_of_question : Binds K fd_parts_of_question ["question"] []
  g_parts_of_question : mg "parts_of_question" = some (.ref f_parts_of_question)
  f_own_terms : Addr
  fd_own_terms : FuncData
  F_own_terms : Fun K "own_terms" "own_terms" s_own_terms f_own_terms fd_own_terms
  b_own_terms : Binds K fd_own_terms ["question"] []
  g_own_terms : mg "own_terms" = some (.ref f_own_terms)
  f_weight_of : Addr
  fd_weight_of : FuncData
  F_weight_of : Fun K "weight_of" "weight_of" s_weight_of f_weight_of fd_weight_of
  b_weight_of : Binds K fd_weight_of ["question"] []
  g_weight_of : mg "weight_of" = some (.ref f_weight_of)
  f__law_draws : Addr
  fd__law_draws : FuncData
  F__law_draws : Fun K "_law_draws" "_law_draws" s__law_draws f__law_draws fd__law_draws
  b__law_draws : Binds K fd__law_draws ["_law_cell"] []
  g__law_draws : mg "_law_draws" = some (.ref f__law_draws)
  f__law_next : Addr
  fd__law_next : FuncData
  F__law_next : Fun K "_law_next" "_law_next" s__law_next f__law_next fd__law_next
  b__law_next : Binds K fd__law_next ["_law_draws_here"] []
  g__law_next : mg "_law_next" = some (.ref f__law_next)
  f__law_kind : Addr
  fd__law_kind : FuncData
  F__law_kind : Fun K "_law_kind" "_law_kind" s__law_kind f__law_kind fd__law_kind
  b__law_kind : Binds K fd__law_kind ["_law_draws_here", "_law_tongue"] []
  g__law_kind : mg "_law_kind" = some (.ref f__law_kind)
  f__law_heads : Addr
  fd__law_heads : FuncData
  F__law_heads : Fun K "_law_heads" "_law_heads" s__law_heads f__law_heads fd__law_heads
  b__law_heads : Binds K fd__law_heads ["_law_draws_here", "_law_tongue"] []
  g__law_heads : mg "_law_heads" = some (.ref f__law_heads)
  f__law_leaf : Addr
  fd__law_leaf : FuncData
  F__law_leaf : Fun K "_law_leaf" "_law_leaf" s__law_leaf f__law_leaf fd__law_leaf
  b__law_leaf : Binds K fd__law_leaf ["_law_draws_here", "_law_tongue", "_law_heads_here", "_law_kind_here"] []
  g__law_leaf : mg "_law_leaf" = some (.ref f__law_leaf)
  f__law_term : Addr
  fd__law_term : FuncData
  F__law_term : Fun K "_law_term" "_law_term" s__law_term f__law_term fd__law_term
  b__law_term : Binds K fd__law_term ["_law_draws_here", "_law_tongue", "_law_heads_here", "_law_kind_here", "_law_deep"] []
  g__law_term : mg "_law_term" = some (.ref f__law_term)
  f__law_condition : Addr
  fd__law_condition : FuncData
  F__law_condition : Fun K "_law_condition" "_law_condition" s__law_condition f__law_condition fd__law_condition
  b__law_condition : Binds K fd__law_condition ["_law_draws_here", "_law_tongue", "_law_heads_here", "_law_deep"] []
  g__law_condition : mg "_law_condition" = some (.ref f__law_condition)
  f__law_odd_term : Addr
  fd__law_odd_term : FuncData
  F__law_odd_term : Fun K "_law_odd_term" "_law_odd_term" s__law_odd_term f__law_odd_term fd__law_odd_term
  b__law_odd_term : Binds K fd__law_odd_term ["_law_draws_here", "_law_tongue", "_law_heads_here", "_law_kind_here"] []
  g__law_odd_term : mg "_law_odd_term" = some (.ref f__law_odd_term)
  f__law_odd : Addr
  fd__law_odd : FuncData
  F__law_odd : Fun K "_law_odd" "_law_odd" s__law_odd f__law_odd fd__law_odd
  b__law_odd : Binds K fd__law_odd ["_law_draws_here", "_law_tongue", "_law_heads_here"] []
  g__law_odd : mg "_law_odd" = some (.ref f__law_odd)
  f__law_grouped : Addr
  fd__law_grouped : FuncData
  F__law_grouped : Fun K "_law_grouped" "_law_grouped" s__law_grouped f__law_grouped fd__law_grouped
  b__law_grouped : Binds K fd__law_grouped ["_law_draws_here", "_law_tongue", "_law_inner_here"] []
  g__law_grouped : mg "_law_grouped" = some (.ref f__law_grouped)
  f__law_picked : Addr
  fd__law_picked : FuncData
  F__law_picked : Fun K "_law_picked" "_law_picked" s__law_picked f__law_picked fd__law_picked
  b__law_picked : Binds K fd__law_picked ["_law_draws_here", "_law_tongue", "_law_inner_here"] []
  g__law_picked : mg "_law_picked" = some (.ref f__law_picked)
  f__law_sorted : Addr
  fd__law_sorted : FuncData
  F__law_sorted : Fun K "_law_sorted" "_law_sorted" s__law_sorted f__law_sorted fd__law_sorted
  b__law_sorted : Binds K fd__law_sorted ["_law_draws_here", "_law_tongue", "_law_inner_here"] []
  g__law_sorted : mg "_law_sorted" = some (.ref f__law_sorted)
  f__law_inner : Addr
  fd__law_inner : FuncData
  F__law_inner : Fun K "_law_inner" "_law_inner" s__law_inner f__law_inner fd__law_inner
  b__law_inner : Binds K fd__law_inner ["_law_draws_here", "_law_tongue", "_law_tables", "_law_a_name"] []
  g__law_inner : mg "_law_inner" = some (.ref f__law_inner)
  f__law_joined : Addr
  fd__law_joined : FuncData
  F__law_joined : Fun K "_law_joined" "_law_joined" s__law_joined f__law_joined fd__law_joined
  b__law_joined : Binds K fd__law_joined ["_law_draws_here", "_law_tongue", "_law_one", "_law_other"] []
  g__law_joined : mg "_law_joined" = some (.ref f__law_joined)
  f__law_where_shaped : Addr
  fd__law_where_shaped : FuncData
  F__law_where_shaped : Fun K "_law_where_shaped" "_law_where_shaped" s__law_where_shaped f__law_where_shaped fd__law_where_shaped
  b__law_where_shaped : Binds K fd__law_where_shaped ["_law_draws_here", "_law_tongue", "_law_tables", "_law_inner_here", "_law_way"] []
  g__law_where_shaped : mg "_law_where_shaped" = some (.ref f__law_where_shaped)
  f__law_shaped : Addr
  fd__law_shaped : FuncData
  F__law_shaped : Fun K "_law_shaped" "_law_shaped" s__law_shaped f__law_shaped fd__law_shaped
  b__law_shaped : Binds K fd__law_shaped ["_law_draws_here", "_law_tongue", "_law_tables"] []
  g__law_shaped : mg "_law_shaped" = some (.ref f__law_shaped)
  f__law_counted : Addr
  fd__law_counted : FuncData
  F__law_counted : Fun K "_law_counted" "_law_counted" s__law_counted f__law_counted fd__law_counted
  b__law_counted : Binds K fd__law_counted ["_law_thing"] []
  g__law_counted : mg "_law_counted" = some (.ref f__law_counted)
  f_law : Addr
  fd_law : FuncData
  F_law : Fun K "law" "law" s_law f_law fd_law
  b_law : Binds K fd_law ["_law_script"] []
  g_law : mg "law" = some (.ref f_law)
  z_enumerate : mg "enumerate" = none
  z_sum : mg "sum" = none
  z_len : mg "len" = none
  z_int : mg "int" = none
  z_range : mg "range" = none
  z_str : mg "str" = none
  z_tuple : mg "tuple" = none
  z_isinstance : mg "isinstance" = none
  z_repr : mg "repr" = none
  z_bool : mg "bool" = none
  a_PLACES : Addr
  g_PLACES : mg "PLACES" = some (.ref a_PLACES)
  es_PLACES : Array DictEntry
  n_PLACES : Nat
  l_PLACES : K.lookup a_PLACES = some ⟨.type "dict", none, .dict es_PLACES n_PLACES, #[]⟩
  k_PLACES : PySem.W.KeysLit w.params es_PLACES.toList
  W_PLACES : WDict K w a_PLACES tb_PLACES ms_PLACES
  a_ASKS : Addr
  g_ASKS : mg "ASKS" = some (.ref a_ASKS)
  es_ASKS : Array DictEntry
  n_ASKS : Nat
  l_ASKS : K.lookup a_ASKS = some ⟨.type "dict", none, .dict es_ASKS n_ASKS, #[]⟩
  k_ASKS : PySem.W.KeysLit w.params es_ASKS.toList
  W_ASKS : WDict K w a_ASKS tb_ASKS ms_ASKS
  a_PARTS : Addr
  g_PARTS : mg "PARTS" = some (.ref a_PARTS)
  es_PARTS : Array DictEntry
  n_PARTS : Nat
  l_PARTS : K.lookup a_PARTS = some ⟨.type "dict", none, .dict es_PARTS n_PARTS, #[]⟩
  k_PARTS : PySem.W.KeysLit w.params es_PARTS.toList
  W_PARTS : WDict K w a_PARTS tb_PARTS ms_PARTS
structure All (P : Program) (w : World) (K : PySem.W.Frag) (mg : Str → Option Value) (base : Heap) (T : Tx K mg w) (S : Tb) (n : Nat) : Prop where
  G_places_of : FnOk P w K mg base CX0 n T.f_places_of T.fd_places_of ["thing"] (spF K 1 (S 0))
  G_parts_of : FnOk P w K mg base CX0 n T.f_parts_of T.fd_parts_of ["thing"] (spF K 1 (S 1))
  G_paths : FnOk P w K mg base CX0 n T.f_paths T.fd_paths ["term"] (spF K 1 (S 2))
  G_parts_of_question : FnOk P w K mg base CX0 n T.f_parts_of_question T.fd_parts_of_question ["question"] (spF K 1 (S 3))
  G_own_terms : FnOk P w K mg base CX0 n T.f_own_terms T.fd_own_terms ["question"] (spF K 1 (S 4))
  G_weight_of : FnOk P w K mg base CX0 n T.f_weight_of T.fd_weight_of ["question"] (spF K 1 (S 5))
  G__law_next : FnOk P w K mg base CX0 n T.f__law_next T.fd__law_next ["_law_draws_here"] (spF K 1 (S 6))
  G__law_kind : FnOk P w K mg base CX0 n T.f__law_kind T.fd__law_kind ["_law_draws_here", "_law_tongue"] (spF K 2 (S 7))
  G__law_heads : FnOk P w K mg base CX0 n T.f__law_heads T.fd__law_heads ["_law_draws_here", "_law_tongue"] (spF K 2 (S 8))
  G__law_leaf : FnOk P w K mg base CX0 n T.f__law_leaf T.fd__law_leaf ["_law_draws_here", "_law_tongue", "_law_heads_here", "_law_kind_here"] (spF K 4 (S 9))
  G__law_term : FnOk P w K mg base CX0 n T.f__law_term T.fd__law_term ["_law_draws_here", "_law_tongue", "_law_heads_here", "_law_kind_here", "_law_deep"] (spF K 5 (S 10))
  G__law_condition : FnOk P w K mg base CX0 n T.f__law_condition T.fd__law_condition ["_law_draws_here", "_law_tongue", "_law_heads_here", "_law_deep"] (spF K 4 (S 11))
  G__law_odd_term : FnOk P w K mg base CX0 n T.f__law_odd_term T.fd__law_odd_term ["_law_draws_here", "_law_tongue", "_law_heads_here", "_law_kind_here"] (spF K 4 (S 12))
  G__law_odd : FnOk P w K mg base CX0 n T.f__law_odd T.fd__law_odd ["_law_draws_here", "_law_tongue", "_law_heads_here"] (spF K 3 (S 13))
  G__law_grouped : FnOk P w K mg base CX0 n T.f__law_grouped T.fd__law_grouped ["_law_draws_here", "_law_tongue", "_law_inner_here"] (spF K 3 (S 14))
  G__law_picked : FnOk P w K mg base CX0 n T.f__law_picked T.fd__law_picked ["_law_draws_here", "_law_tongue", "_law_inner_here"] (spF K 3 (S 15))
  G__law_sorted : FnOk P w K mg base CX0 n T.f__law_sorted T.fd__law_sorted ["_law_draws_here", "_law_tongue", "_law_inner_here"] (spF K 3 (S 16))
  G__law_inner : FnOk P w K mg base CX0 n T.f__law_inner T.fd__law_inner ["_law_draws_here", "_law_tongue", "_law_tables", "_law_a_name"] (spF K 4 (S 17))
  G__law_joined : FnOk P w K mg base CX0 n T.f__law_joined T.fd__law_joined ["_law_draws_here", "_law_tongue", "_law_one", "_law_other"] (spF K 4 (S 18))
  G__law_where_shaped : FnOk P w K mg base CX0 n T.f__law_where_shaped T.fd__law_where_shaped ["_law_draws_here", "_law_tongue", "_law_tables", "_law_inner_here", "_law_way"] (spF K 5 (S 19))
  G__law_shaped : FnOk P w K mg base CX0 n T.f__law_shaped T.fd__law_shaped ["_law_draws_here", "_law_tongue", "_law_tables"] (spF K 3 (S 20))
  G__law_counted : FnOk P w K mg base CX0 n T.f__law_counted T.fd__law_counted ["_law_thing"] (spF K 1 (S 21))
end K60
set_option Elab.async false
set_option linter.all false
set_option maxRecDepth 100000
set_option maxHeartbeats 2000000
namespace K60
open PySem L2 Lay DL
section
variable {P : Program} {w : World} {K : PySem.W.Frag} {mg : Str → Option Value} {base : Heap} (T : Tx K mg w)
theorem ok_places_of {n : Nat} {S : Tb} (G : All P w K mg base T S n) : FnOk P w K mg base CX0 (n + 1) T.f_places_of T.fd_places_of ["thing"] (spF K 1 (fnD 1 (b_places_of S))) := by
  refine fn_okN T.F_places_of sc_places_of rfl rfl fun cdv A outer s H E hr => ?_
  refine ⟨_, (pss_one (ps_ret (pe_ifExp (pt_cmpR (r := rInK K w) op_inK (pe_ix (r := rIx K) ix_seq (pv 0) pe_int (fun _ _ => rfl)) (pe_glob (v := .ref T.a_PLACES) (by rfl) T.g_PLACES rfl) rfl) (pe_ix (r := rIxD K w) ix_kdict (pe_glob (v := .ref T.a_PLACES) (by rfl) T.g_PLACES rfl) (pe_ix (r := rIx K) ix_seq (pv 0) pe_int (fun _ _ => rfl)) (fun _ _ => rfl)) (pe_ix (r := rIxD K w) ix_kdict (pe_glob (v := .ref T.a_ASKS) (by rfl) T.g_ASKS rfl) (pe_ix (r := rIx K) ix_seq (pv 0) pe_int (fun _ _ => rfl)) (fun _ _ => rfl))))), ?_⟩
  exact (ss_ret (se_if (st_test (se_win T.W_PLACES (se_op os_ix se_var se_int))) (se_wix T.W_PLACES (se_op os_ix se_var se_int)) (se_wix T.W_ASKS (se_op os_ix se_var se_int))))
theorem ok_parts_of {n : Nat} {S : Tb} (G : All P w K mg base T S n) : FnOk P w K mg base CX0 (n + 1) T.f_parts_of T.fd_parts_of ["thing"] (spF K 1 (fnD 2 (b_parts_of S))) := by
  refine fn_okN T.F_parts_of sc_parts_of rfl rfl fun cdv A outer s H E hr => ?_
  refine ⟨_, (pss_one (ps_ret (pe_lc (own := [("place", 1)]) (g := gOf K (.one 1)) (tt := tYes) rfl sc_parts_of.nd (pi_tup (pe_call G.G_places_of hr (by rfl) T.g_places_of T.F_places_of.kp T.b_places_of .nil pass0 (pa_cons (pv 0) pa_nil))) (blkOk_by (own := [("place", 1)]) (N := ["thing", "place"]) (sc := defScope s_parts_of) (by decide +kernel)) (fun _ _ _ _ _ => (pg_name (i := 1) sc_parts_of.nd rfl (by first | exact .inl rfl | exact .inr rfl))) (fun _ _ _ _ _ => pts_nil) (fun _ _ _ _ _ => (pe_ix (r := rIx K) ix_seq (pv 0) (pv 1) (fun _ _ => rfl)))))), ?_⟩
  exact (ss_ret (se_lc (tg := (.one 1)) (si_tup (se_call (sa_cons se_var sa_nil))) st_yes (se_op os_ix se_var se_var)))
theorem ok_paths {n : Nat} {S : Tb} (G : All P w K mg base T S n) : FnOk P w K mg base CX0 (n + 1) T.f_paths T.fd_paths ["term"] (spF K 1 (fnD 5 (b_paths S))) := by
  refine fn_okN T.F_paths sc_paths rfl rfl fun cdv A outer s H E hr => ?_
  refine ⟨_, (pss_cons (ps_set (i := 1) sc_paths.nd rfl (by first | exact .inl rfl | exact .inr rfl) (pe_lst (pa_cons (pe_tup pa_nil) pa_nil)))
    (pss_cons (ps_for PassesOwn.never rfl (pi_enum (by rfl) T.z_enumerate (pa_cons (pe_call G.G_parts_of hr (by rfl) T.g_parts_of T.F_parts_of.kp T.b_parts_of .nil pass0 (pa_cons (pv 0) pa_nil)) pa_nil)) (pg_tup (by rfl) (pgs_cons (pg_name (i := 2) sc_paths.nd rfl (by first | exact .inl rfl | exact .inr rfl)) (pgs_cons (pg_name (i := 3) sc_paths.nd rfl (by first | exact .inl rfl | exact .inr rfl)) pgs_nil))) (pss_one (ps_aug (i := 1) sc_paths.nd rfl (by first | exact .inl rfl | exact .inr rfl) (pe_lc (own := [("path", 4)]) (g := gOf K (.one 4)) (tt := tYes) rfl sc_paths.nd (pi_list (pe_call G.G_paths hr (by rfl) T.g_paths T.F_paths.kp T.b_paths .nil pass0 (pa_cons (pv 3) pa_nil))) (blkOk_by (own := [("path", 4)]) (N := ["term", "told", "number", "part", "path"]) (sc := defScope s_paths) (by decide +kernel)) (fun _ _ _ _ _ => (pg_name (i := 4) sc_paths.nd rfl (by first | exact .inl rfl | exact .inr rfl))) (fun _ _ _ _ _ => pts_nil) (fun _ _ _ _ _ => (pe_op (r := rCatA K) op_catA (pe_tup (pa_cons (pv 2) pa_nil)) (pv 4)))) iop_ext)))
    (pss_one (ps_ret (pv 1))))), ?_⟩
  exact (ss_seq (ss_ownL (sa_cons (se_tup sa_nil) sa_nil))
    (ss_seq (ss_for (tg := (.many [2, 3])) (si_enum (sa_cons (se_call (sa_cons se_var sa_nil)) sa_nil)) (ss_ext (se_lc (tg := (.one 4)) (si_list (se_call (sa_cons se_var sa_nil))) st_yes (se_op os_catT (se_tup (sa_cons se_var sa_nil)) se_var))))
    (ss_share (ss_ret se_var))))
theorem ok_parts_of_question {n : Nat} {S : Tb} (G : All P w K mg base T S n) : FnOk P w K mg base CX0 (n + 1) T.f_parts_of_question T.fd_parts_of_question ["question"] (spF K 1 (fnD 2 (b_parts_of_question S))) := by
  refine fn_okN T.F_parts_of_question sc_parts_of_question rfl rfl fun cdv A outer s H E hr => ?_
  refine ⟨_, (pss_one (ps_ret (pe_lc (own := [("place", 1)]) (g := gOf K (.one 1)) (tt := tYes) rfl sc_parts_of_question.nd (pi_tup (pe_kget2 T.l_PARTS T.k_PARTS (pe_glob (v := .ref T.a_PARTS) (by rfl) T.g_PARTS rfl) (pe_ix (r := rIx K) ix_seq (pv 0) pe_int (fun _ _ => rfl)) (pe_tup pa_nil) ⟨rfl, rfl, rfl, rfl⟩)) (blkOk_by (own := [("place", 1)]) (N := ["question", "place"]) (sc := defScope s_parts_of_question) (by decide +kernel)) (fun _ _ _ _ _ => (pg_name (i := 1) sc_parts_of_question.nd rfl (by first | exact .inl rfl | exact .inr rfl))) (fun _ _ _ _ _ => pts_nil) (fun _ _ _ _ _ => (pe_ix (r := rIx K) ix_seq (pv 0) (pv 1) (fun _ _ => rfl)))))), ?_⟩
  exact (ss_ret (se_lc (tg := (.one 1)) (si_tup (se_wget T.W_PARTS (se_op os_ix se_var se_int))) st_yes (se_op os_ix se_var se_var)))
theorem ok_own_terms {n : Nat} {S : Tb} (G : All P w K mg base T S n) : FnOk P w K mg base CX0 (n + 1) T.f_own_terms T.fd_own_terms ["question"] (spF K 1 (fnD 6 (b_own_terms S))) := by
  refine fn_okN T.F_own_terms sc_own_terms rfl rfl fun cdv A outer s H E hr => ?_
  refine ⟨_, (pss_cons (ps_set (i := 1) sc_own_terms.nd rfl (by first | exact .inl rfl | exact .inr rfl) (pe_ix (r := rIx K) ix_seq (pv 0) pe_int (fun _ _ => rfl)))
    (pss_cons (ps_if (pt_cmpR op_eq (pv 1) pe_str (nomark _)) (pss_one (ps_ret (pe_lst (pa_cons (pe_ix (r := rIx K) ix_seq (pv 0) pe_int (fun _ _ => rfl)) pa_nil)))) pss_nil)
    (pss_cons (ps_if (pt_cmpR (r := rIn K false) op_in_seq (pv 1) (pe_tup (pa_cons pe_str (pa_cons pe_str pa_nil))) rfl) (pss_one (ps_ret (pe_lst (pa_cons (pe_ix (r := rIx K) ix_seq (pv 0) pe_int (fun _ _ => rfl)) pa_nil)))) pss_nil)
    (pss_cons (ps_if (pt_cmpR op_eq (pv 1) pe_str (nomark _)) (pss_one (ps_ret (pe_lc (own := [("name", 2), ("term", 3)]) (g := gOf K (.many [2, 3])) (tt := tYes) rfl sc_own_terms.nd (pi_tup (pe_ix (r := rIx K) ix_seq (pv 0) pe_int (fun _ _ => rfl))) (blkOk_by (own := [("name", 2), ("term", 3)]) (N := ["question", "word", "name", "term", "up", "word_of"]) (sc := defScope s_own_terms) (by decide +kernel)) (fun _ _ _ _ _ => (pg_tup (by rfl) (pgs_cons (pg_name (i := 2) sc_own_terms.nd rfl (by first | exact .inl rfl | exact .inr rfl)) (pgs_cons (pg_name (i := 3) sc_own_terms.nd rfl (by first | exact .inl rfl | exact .inr rfl)) pgs_nil)))) (fun _ _ _ _ _ => pts_nil) (fun _ _ _ _ _ => (pv 3))))) pss_nil)
    (pss_cons (ps_if (pt_cmpR op_eq (pv 1) pe_str (nomark _)) (pss_one (ps_ret (pe_lc (own := [("term", 3), ("up", 4)]) (g := gOf K (.many [3, 4])) (tt := tYes) rfl sc_own_terms.nd (pi_tup (pe_ix (r := rIx K) ix_seq (pv 0) pe_int (fun _ _ => rfl))) (blkOk_by (own := [("term", 3), ("up", 4)]) (N := ["question", "word", "name", "term", "up", "word_of"]) (sc := defScope s_own_terms) (by decide +kernel)) (fun _ _ _ _ _ => (pg_tup (by rfl) (pgs_cons (pg_name (i := 3) sc_own_terms.nd rfl (by first | exact .inl rfl | exact .inr rfl)) (pgs_cons (pg_name (i := 4) sc_own_terms.nd rfl (by first | exact .inl rfl | exact .inr rfl)) pgs_nil)))) (fun _ _ _ _ _ => pts_nil) (fun _ _ _ _ _ => (pv 3))))) pss_nil)
    (pss_one (ps_ret (pe_ifExp (pt_cmpR op_eq (pv 1) pe_str (nomark _)) (pe_lc (own := [("name", 2), ("word_of", 5), ("term", 3)]) (g := gOf K (.many [2, 5, 3])) (tt := tYes) rfl sc_own_terms.nd (pi_tup (pe_ix (r := rIx K) ix_seq (pv 0) pe_int (fun _ _ => rfl))) (blkOk_by (own := [("name", 2), ("word_of", 5), ("term", 3)]) (N := ["question", "word", "name", "term", "up", "word_of"]) (sc := defScope s_own_terms) (by decide +kernel)) (fun _ _ _ _ _ => (pg_tup (by rfl) (pgs_cons (pg_name (i := 2) sc_own_terms.nd rfl (by first | exact .inl rfl | exact .inr rfl)) (pgs_cons (pg_name (i := 5) sc_own_terms.nd rfl (by first | exact .inl rfl | exact .inr rfl)) (pgs_cons (pg_name (i := 3) sc_own_terms.nd rfl (by first | exact .inl rfl | exact .inr rfl)) pgs_nil))))) (fun _ _ _ _ _ => pts_nil) (fun _ _ _ _ _ => (pv 3))) (pe_lst pa_nil))))))))), ?_⟩
  exact (ss_seq (ss_set (tg := .one 1) (se_op os_ix se_var se_int))
    (ss_seq (ss_if (st_test (se_op os_eq se_var se_str)) (ss_ret (se_lst (sa_cons (se_op os_ix se_var se_int) sa_nil))) ss_next)
    (ss_seq (ss_if (st_test (se_op os_in se_var (se_tup (sa_cons se_str (sa_cons se_str sa_nil))))) (ss_ret (se_lst (sa_cons (se_op os_ix se_var se_int) sa_nil))) ss_next)
    (ss_seq (ss_if (st_test (se_op os_eq se_var se_str)) (ss_ret (se_lc (tg := (.many [2, 3])) (si_tup (se_op os_ix se_var se_int)) st_yes se_var)) ss_next)
    (ss_seq (ss_if (st_test (se_op os_eq se_var se_str)) (ss_ret (se_lc (tg := (.many [3, 4])) (si_tup (se_op os_ix se_var se_int)) st_yes se_var)) ss_next)
    (ss_ret (se_if (st_test (se_op os_eq se_var se_str)) (se_lc (tg := (.many [2, 5, 3])) (si_tup (se_op os_ix se_var se_int)) st_yes se_var) (se_lst sa_nil))))))))
theorem ok_weight_of {n : Nat} {S : Tb} (G : All P w K mg base T S n) : FnOk P w K mg base CX0 (n + 1) T.f_weight_of T.fd_weight_of ["question"] (spF K 1 (fnD 4 (b_weight_of S))) := by
  refine fn_okN T.F_weight_of sc_weight_of rfl rfl fun cdv A outer s H E hr => ?_
  refine ⟨_, (pss_cons (ps_set (i := 1) sc_weight_of.nd rfl (by first | exact .inl rfl | exact .inr rfl) (pe_op op_add pe_int (pe_callB (r := rSum K) (cr_sum rfl) (by rfl) T.z_sum (by decide +kernel) (pa_cons (pe_lc (own := [("term", 2)]) (g := gOf K (.one 2)) (tt := tYes) rfl sc_weight_of.nd (pi_list (pe_call G.G_own_terms hr (by rfl) T.g_own_terms T.F_own_terms.kp T.b_own_terms .nil pass0 (pa_cons (pv 0) pa_nil))) (blkOk_by (own := [("term", 2)]) (N := ["question", "own", "term", "part"]) (sc := defScope s_weight_of) (by decide +kernel)) (fun _ _ _ _ _ => (pg_name (i := 2) sc_weight_of.nd rfl (by first | exact .inl rfl | exact .inr rfl))) (fun _ _ _ _ _ => pts_nil) (fun _ _ _ _ _ => (pe_callB (r := rLenK K) call_len_seq (by rfl) T.z_len (by decide +kernel) (pa_cons (pe_call G.G_paths hr (by rfl) T.g_paths T.F_paths.kp T.b_paths .nil pass0 (pa_cons (pv 2) pa_nil)) pa_nil)))) pa_nil))))
    (pss_one (ps_ret (pe_op op_add (pv 1) (pe_callB (r := rSum K) (cr_sum rfl) (by rfl) T.z_sum (by decide +kernel) (pa_cons (pe_lc (own := [("part", 3)]) (g := gOf K (.one 3)) (tt := tYes) rfl sc_weight_of.nd (pi_list (pe_call G.G_parts_of_question hr (by rfl) T.g_parts_of_question T.F_parts_of_question.kp T.b_parts_of_question .nil pass0 (pa_cons (pv 0) pa_nil))) (blkOk_by (own := [("part", 3)]) (N := ["question", "own", "term", "part"]) (sc := defScope s_weight_of) (by decide +kernel)) (fun _ _ _ _ _ => (pg_name (i := 3) sc_weight_of.nd rfl (by first | exact .inl rfl | exact .inr rfl))) (fun _ _ _ _ _ => pts_nil) (fun _ _ _ _ _ => (pe_call G.G_weight_of hr (by rfl) T.g_weight_of T.F_weight_of.kp T.b_weight_of .nil pass0 (pa_cons (pv 3) pa_nil)))) pa_nil)))))), ?_⟩
  exact (ss_seq (ss_set (tg := .one 1) (se_op os_add se_int (se_cb cb_sum (sa_cons (se_lc (tg := (.one 2)) (si_list (se_call (sa_cons se_var sa_nil))) st_yes (se_cb cb_len (sa_cons (se_call (sa_cons se_var sa_nil)) sa_nil))) sa_nil))))
    (ss_ret (se_op os_add se_var (se_cb cb_sum (sa_cons (se_lc (tg := (.one 3)) (si_list (se_call (sa_cons se_var sa_nil))) st_yes (se_call (sa_cons se_var sa_nil))) sa_nil)))))
theorem ok__law_kind {n : Nat} {S : Tb} (G : All P w K mg base T S n) : FnOk P w K mg base CX0 (n + 1) T.f__law_kind T.fd__law_kind ["_law_draws_here", "_law_tongue"] (spF K 2 (fnD 2 (b__law_kind S))) := by
  refine fn_okN T.F__law_kind sc__law_kind rfl rfl fun cdv A outer s H E hr => ?_
  refine ⟨_, (pss_one (ps_ret (pe_ix (r := rIx K) ix_seq (pe_lst (pa_cons pe_str (pa_cons pe_str (pa_cons pe_str (pa_cons pe_str pa_nil))))) (pe_op op_mod (pe_call G.G__law_next hr (by rfl) T.g__law_next T.F__law_next.kp T.b__law_next .nil pass0 (pa_cons (pv 0) pa_nil)) (pe_op op_add pe_int (pe_callTy call_int1 (by rfl) T.z_int (by decide +kernel) (pa_cons (pe_cmpR op_eq (pv 1) pe_str (nomark _)) pa_nil)))) (fun _ _ => rfl)))), ?_⟩
  exact (ss_ret (se_op os_ix (se_lst (sa_cons se_str (sa_cons se_str (sa_cons se_str (sa_cons se_str sa_nil))))) (se_op os_mod (se_call (sa_cons se_var sa_nil)) (se_op os_add se_int (se_cb cb_int (sa_cons (se_op os_eq se_var se_str) sa_nil))))))
theorem ok__law_heads {n : Nat} {S : Tb} (G : All P w K mg base T S n) : FnOk P w K mg base CX0 (n + 1) T.f__law_heads T.fd__law_heads ["_law_draws_here", "_law_tongue"] (spF K 2 (fnD 6 (b__law_heads S))) := by
  refine fn_okN T.F__law_heads sc__law_heads rfl rfl fun cdv A outer s H E hr => ?_
  refine ⟨_, (pss_cons (ps_set (i := 2) sc__law_heads.nd rfl (by first | exact .inl rfl | exact .inr rfl) pe_dnewK)
    (pss_cons (ps_for PassesOwn.never rfl (pi_list (pe_lst (pa_cons (pe_tup (pa_cons pe_str (pa_cons pe_str pa_nil))) (pa_cons (pe_tup (pa_cons pe_str (pa_cons pe_str pa_nil))) (pa_cons (pe_tup (pa_cons pe_str (pa_cons pe_str pa_nil))) pa_nil))))) (pg_tup (by rfl) (pgs_cons (pg_name (i := 3) sc__law_heads.nd rfl (by first | exact .inl rfl | exact .inr rfl)) (pgs_cons (pg_name (i := 4) sc__law_heads.nd rfl (by first | exact .inl rfl | exact .inr rfl)) pgs_nil))) (pss_one (ps_dput (hu_of hr) (pv 2) (pv 3) (pe_lc (own := [("_law_letter", 5)]) (g := gOf K (.one 5)) (tt := tYes) rfl sc__law_heads.nd (pi_str (pe_slice (r := rSlS) sl_str (pv 4) po_none (po_some (pe_op op_add pe_int (pe_op op_mod (pe_call G.G__law_next hr (by rfl) T.g__law_next T.F__law_next.kp T.b__law_next .nil pass0 (pa_cons (pv 0) pa_nil)) pe_int))))) (blkOk_by (own := [("_law_letter", 5)]) (N := ["_law_draws_here", "_law_tongue", "_law_told", "_law_a_name", "_law_letters", "_law_letter"]) (sc := defScope s__law_heads) (by decide +kernel)) (fun _ _ _ _ _ => (pg_name (i := 5) sc__law_heads.nd rfl (by first | exact .inl rfl | exact .inr rfl))) (fun _ _ _ _ _ => pts_nil) (fun _ _ _ _ _ => (pe_tup (pa_cons (pv 5) (pa_cons (pe_call G.G__law_kind hr (by rfl) T.g__law_kind T.F__law_kind.kp T.b__law_kind .nil pass0 (pa_cons (pv 0) (pa_cons (pv 1) pa_nil))) pa_nil))))) rfl)))
    (pss_one (ps_ret (pv 2))))), ?_⟩
  exact (ss_seq ss_ownD
    (ss_seq (ss_for (tg := (.many [3, 4])) (si_list (se_lst (sa_cons (se_tup (sa_cons se_str (sa_cons se_str sa_nil))) (sa_cons (se_tup (sa_cons se_str (sa_cons se_str sa_nil))) (sa_cons (se_tup (sa_cons se_str (sa_cons se_str sa_nil))) sa_nil))))) (ss_put se_var (se_lc (tg := (.one 5)) (si_str (se_sl ss_S se_var so_none (so_some (se_op os_add se_int (se_op os_mod (se_call (sa_cons se_var sa_nil)) se_int))))) st_yes (se_tup (sa_cons se_var (sa_cons (se_call (sa_cons se_var (sa_cons se_var sa_nil))) sa_nil))))))
    (ss_share (ss_ret se_var))))
theorem ok__law_leaf {n : Nat} {S : Tb} (G : All P w K mg base T S n) : FnOk P w K mg base CX0 (n + 1) T.f__law_leaf T.fd__law_leaf ["_law_draws_here", "_law_tongue", "_law_heads_here", "_law_kind_here"] (spF K 4 (fnD 8 (b__law_leaf S))) := by
  refine fn_okN T.F__law_leaf sc__law_leaf rfl rfl fun cdv A outer s H E hr => ?_
  refine ⟨_, (pss_cons (ps_setLc (i := 4) (own := [("_law_letter", 6), ("_law_other", 7)]) (g := gOf K (.many [6, 7])) rfl sc__law_leaf.nd rfl rfl (sw_true rfl rfl rfl rfl) (pi_list (pv 2)) (blkOk_by (own := [("_law_letter", 6), ("_law_other", 7)]) (N := ["_law_draws_here", "_law_tongue", "_law_heads_here", "_law_kind_here", "_law_some", "_law_pick", "_law_letter", "_law_other"]) (sc := defScope s__law_leaf) (by decide +kernel)) (fun _ _ _ _ _ => (pg_tup (by rfl) (pgs_cons (pg_name (i := 6) sc__law_leaf.nd rfl (by first | exact .inl rfl | exact .inr rfl)) (pgs_cons (pg_name (i := 7) sc__law_leaf.nd rfl (by first | exact .inl rfl | exact .inr rfl)) pgs_nil)))) (fun _ _ _ _ _ => (pts_one (pt_cmpR op_eq (pv 7) (pv 3) (nomark _)))) (fun _ _ _ _ _ => (pe_tup (pa_cons pe_str (pa_cons (pv 6) pa_nil)))))
    (pss_cons (ps_set (i := 5) sc__law_leaf.nd rfl (by first | exact .inl rfl | exact .inr rfl) (pe_call G.G__law_next hr (by rfl) T.g__law_next T.F__law_next.kp T.b__law_next .nil pass0 (pa_cons (pv 0) pa_nil)))
    (pss_cons (ps_if (PW.pt (pw_and (pt_cmpR (r := rNeD K) (op_neD hr.units) (pv 4) (pe_lst pa_nil) (nomark _)) (pw_and1 (pt_cmpR op_gt (pe_op op_mod (pv 5) pe_int) pe_int (nomark _))))) (pss_one (ps_ret (pe_ix (r := rIx K) ix_seq (pv 4) (pe_op op_mod (pe_op op_fdiv (pv 5) pe_int) (pe_callB (r := rLenK K) call_len_seq (by rfl) T.z_len (by decide +kernel) (pa_cons (pv 4) pa_nil))) (fun _ _ => rfl)))) pss_nil)
    (pss_cons (ps_if (pt_cmpR op_eq (pe_op op_mod (pe_op op_fdiv (pv 5) pe_int) pe_int) pe_int (nomark _)) (pss_one (ps_ret (pe_tup (pa_cons pe_str (pa_cons (pv 3) pa_nil))))) pss_nil)
    (pss_cons (ps_if (pt_cmpR op_eq (pv 3) pe_str (nomark _)) (pss_one (ps_ret (pe_tup (pa_cons pe_str (pa_cons (pe_ix (r := rIx K) ix_seq (pe_lst (pa_cons (pe_op op_sub (pe_op op_mod (pe_op op_fdiv (pv 5) pe_int) pe_int) pe_int) (pa_cons (pe_op op_mul (pe_op op_add (pe_op op_pow pe_int pe_int) (pv 5)) (pe_ix (r := rIx K) ix_seq (pe_lst (pa_cons pe_int (pa_cons (pe_un un_neg pe_int) pa_nil))) (pe_op op_mod (pe_op op_fdiv (pv 5) pe_int) pe_int) (fun _ _ => rfl))) pa_nil))) (pe_callTy call_int1 (by rfl) T.z_int (by decide +kernel) (pa_cons (pe_cmpR op_eq (pe_op op_mod (pe_op op_fdiv (pv 5) pe_int) pe_int) pe_int (nomark _)) pa_nil)) (fun _ _ => rfl)) pa_nil))))) pss_nil)
    (pss_cons (ps_if (pt_cmpR op_eq (pv 3) pe_str (nomark _)) (pss_one (ps_ret (pe_tup (pa_cons pe_str (pa_cons (pe_ix (r := rIx K) ix_seq (pe_lst (pa_cons pe_str (pa_cons pe_str (pa_cons pe_str (pa_cons (pe_slice (r := rSlS) sl_str pe_str (po_some (pe_callTy call_int1 (by rfl) T.z_int (by decide +kernel) (pa_cons (pe_cmpR op_eq (pv 1) pe_str (nomark _)) pa_nil))) po_none) (pa_cons pe_str (pa_cons pe_str pa_nil))))))) (pe_op op_mod (pe_op op_fdiv (pv 5) pe_int) pe_int) (fun _ _ => rfl)) pa_nil))))) pss_nil)
    (pss_one (ps_ret (pe_tup (pa_cons pe_str (pa_cons (pe_ix (r := rIx K) ix_seq (pe_lst (pa_cons pe_int (pa_cons pe_int (pa_cons pe_int (pa_cons pe_int pa_nil))))) (pe_op op_mod (pe_op op_fdiv (pv 5) pe_int) pe_int) (fun _ _ => rfl)) (pa_cons (pe_op op_add pe_int (pe_op op_mod (pe_op op_fdiv (pv 5) pe_int) pe_int)) (pa_cons (pe_op op_add pe_int (pe_op op_mod (pe_op op_fdiv (pv 5) pe_int) pe_int)) pa_nil))))))))))))), ?_⟩
  exact (ss_seq (ss_set (tg := .one 4) (se_lc (tg := (.many [6, 7])) (si_list se_var) (st_test (se_op os_eq se_var se_var)) (se_tup (sa_cons se_str (sa_cons se_var sa_nil)))))
    (ss_seq (ss_set (tg := .one 5) (se_call (sa_cons se_var sa_nil)))
    (ss_seq (ss_if (st_and (st_test (se_op os_neD se_var (se_lst sa_nil))) (st_test (se_op os_B0 (se_op os_mod se_var se_int) se_int))) (ss_ret (se_op os_ix se_var (se_op os_mod (se_op os_fdiv se_var se_int) (se_cb cb_len (sa_cons se_var sa_nil))))) ss_next)
    (ss_seq (ss_if (st_test (se_op os_eq (se_op os_mod (se_op os_fdiv se_var se_int) se_int) se_int)) (ss_ret (se_tup (sa_cons se_str (sa_cons se_var sa_nil)))) ss_next)
    (ss_seq (ss_if (st_test (se_op os_eq se_var se_str)) (ss_ret (se_tup (sa_cons se_str (sa_cons (se_op os_ix (se_lst (sa_cons (se_op os_sub (se_op os_mod (se_op os_fdiv se_var se_int) se_int) se_int) (sa_cons (se_op os_mul (se_op os_add (se_op os_pow se_int se_int) se_var) (se_op os_ix (se_lst (sa_cons se_int (sa_cons (se_un un_negS se_int) sa_nil))) (se_op os_mod (se_op os_fdiv se_var se_int) se_int))) sa_nil))) (se_cb cb_int (sa_cons (se_op os_eq (se_op os_mod (se_op os_fdiv se_var se_int) se_int) se_int) sa_nil))) sa_nil)))) ss_next)
    (ss_seq (ss_if (st_test (se_op os_eq se_var se_str)) (ss_ret (se_tup (sa_cons se_str (sa_cons (se_op os_ix (se_lst (sa_cons se_str (sa_cons se_str (sa_cons se_str (sa_cons (se_sl ss_S se_str (so_some (se_cb cb_int (sa_cons (se_op os_eq se_var se_str) sa_nil))) so_none) (sa_cons se_str (sa_cons se_str sa_nil))))))) (se_op os_mod (se_op os_fdiv se_var se_int) se_int)) sa_nil)))) ss_next)
    (ss_ret (se_tup (sa_cons se_str (sa_cons (se_op os_ix (se_lst (sa_cons se_int (sa_cons se_int (sa_cons se_int (sa_cons se_int sa_nil))))) (se_op os_mod (se_op os_fdiv se_var se_int) se_int)) (sa_cons (se_op os_add se_int (se_op os_mod (se_op os_fdiv se_var se_int) se_int)) (sa_cons (se_op os_add se_int (se_op os_mod (se_op os_fdiv se_var se_int) se_int)) sa_nil))))))))))))
theorem ok__law_term {n : Nat} {S : Tb} (G : All P w K mg base T S n) : FnOk P w K mg base CX0 (n + 1) T.f__law_term T.fd__law_term ["_law_draws_here", "_law_tongue", "_law_heads_here", "_law_kind_here", "_law_deep"] (spF K 5 (fnD 13 (b__law_term S))) := by
  refine fn_okN T.F__law_term sc__law_term rfl rfl fun cdv A outer s H E hr => ?_
  refine ⟨_, (pss_cons (ps_set (i := 5) sc__law_term.nd rfl (by first | exact .inl rfl | exact .inr rfl) (pe_call G.G__law_next hr (by rfl) T.g__law_next T.F__law_next.kp T.b__law_next .nil pass0 (pa_cons (pv 0) pa_nil)))
    (pss_cons (ps_if (PW.pt (pw_or (pt_cmpR op_lt (pv 4) pe_int (nomark _)) (pw_or1 (pt_cmpR op_eq (pe_op op_mod (pv 5) pe_int) pe_int (nomark _))))) (pss_one (ps_ret (pe_call G.G__law_leaf hr (by rfl) T.g__law_leaf T.F__law_leaf.kp T.b__law_leaf .nil pass0 (pa_cons (pv 0) (pa_cons (pv 1) (pa_cons (pv 2) (pa_cons (pv 3) pa_nil))))))) pss_nil)
    (pss_cons (ps_asg (pe_lc (own := [("_law_k", 11)]) (g := gOf K (.one 11)) (tt := tYes) rfl sc__law_term.nd (pi_range1 (by rfl) T.z_range (pa_cons pe_int pa_nil)) (blkOk_by (own := [("_law_k", 11)]) (N := ["_law_draws_here", "_law_tongue", "_law_heads_here", "_law_kind_here", "_law_deep", "_law_pick", "_law_one", "_law_other", "_law_way", "_law_number", "_law_inner_here", "_law_k", "_law_head"]) (sc := defScope s__law_term) (by decide +kernel)) (fun _ _ _ _ _ => (pg_name (i := 11) sc__law_term.nd rfl (by first | exact .inl rfl | exact .inr rfl))) (fun _ _ _ _ _ => pts_nil) (fun _ _ _ _ _ => (pe_call G.G__law_term hr (by rfl) T.g__law_term T.F__law_term.kp T.b__law_term .nil pass0 (pa_cons (pv 0) (pa_cons (pv 1) (pa_cons (pv 2) (pa_cons (pv 3) (pa_cons (pe_op op_sub (pv 4) pe_int) pa_nil)))))))) (pg_unl rfl (pgs_cons (pg_name (i := 6) sc__law_term.nd rfl (by first | exact .inl rfl | exact .inr rfl)) (pgs_cons (pg_name (i := 7) sc__law_term.nd rfl (by first | exact .inl rfl | exact .inr rfl)) pgs_nil))))
    (pss_cons (ps_set (i := 8) sc__law_term.nd rfl (by first | exact .inl rfl | exact .inr rfl) (pe_op op_mod (pe_op op_fdiv (pv 5) pe_int) pe_int))
    (pss_cons (ps_if (pt_cmpR op_lt (pv 8) pe_int (nomark _)) (pss_one (ps_ret (pe_ix (r := rIx K) ix_seq (pe_lst (pa_cons (pe_tup (pa_cons pe_str (pa_cons (pv 6) (pa_cons (pv 7) pa_nil)))) (pa_cons (pe_tup (pa_cons pe_str (pa_cons (pe_call G.G__law_condition hr (by rfl) T.g__law_condition T.F__law_condition.kp T.b__law_condition .nil pass0 (pa_cons (pv 0) (pa_cons (pv 1) (pa_cons (pv 2) (pa_cons (pe_op op_sub (pv 4) pe_int) pa_nil))))) (pa_cons (pv 6) (pa_cons (pv 7) pa_nil))))) pa_nil))) (pv 8) (fun _ _ => rfl)))) pss_nil)
    (pss_cons (ps_set (i := 9) sc__law_term.nd rfl (by first | exact .inl rfl | exact .inr rfl) (pe_call G.G__law_term hr (by rfl) T.g__law_term T.F__law_term.kp T.b__law_term .nil pass0 (pa_cons (pv 0) (pa_cons (pv 1) (pa_cons (pv 2) (pa_cons pe_str (pa_cons (pe_op op_sub (pv 4) pe_int) pa_nil)))))))
    (pss_cons (ps_if (pt_cmpR op_eq (pv 8) pe_int (nomark _)) (pss_cons (ps_set (i := 10) sc__law_term.nd rfl (by first | exact .inl rfl | exact .inr rfl) (pe_op op_cat (pe_lc (own := [("_law_head", 12)]) (g := gOf K (.one 12)) rfl sc__law_term.nd (pi_list (pv 2)) (blkOk_by (own := [("_law_head", 12)]) (N := ["_law_draws_here", "_law_tongue", "_law_heads_here", "_law_kind_here", "_law_deep", "_law_pick", "_law_one", "_law_other", "_law_way", "_law_number", "_law_inner_here", "_law_k", "_law_head"]) (sc := defScope s__law_term) (by decide +kernel)) (fun _ _ _ _ _ => (pg_name (i := 12) sc__law_term.nd rfl (by first | exact .inl rfl | exact .inr rfl))) (fun _ _ _ _ _ => (pts_one (pt_cmpR op_ne (pe_ix (r := rIx K) ix_seq (pv 12) pe_int (fun _ _ => rfl)) pe_str (nomark _)))) (fun _ _ _ _ _ => (pv 12))) (pe_lst (pa_cons (pe_tup (pa_cons pe_str (pa_cons pe_str pa_nil))) pa_nil))))
    (pss_one (ps_ret (pe_tup (pa_cons pe_str (pa_cons pe_str (pa_cons (pv 9) (pa_cons (pe_call G.G__law_term hr (by rfl) T.g__law_term T.F__law_term.kp T.b__law_term .nil pass0 (pa_cons (pv 0) (pa_cons (pv 1) (pa_cons (pv 10) (pa_cons (pv 3) (pa_cons (pe_op op_sub (pv 4) pe_int) pa_nil)))))) pa_nil)))))))) pss_nil)
    (pss_cons (ps_if (PW.pt (pw_and (pt_cmpR op_eq (pv 8) pe_int (nomark _)) (pw_and1 (pt_cmpR op_eq (pv 1) pe_str (nomark _))))) (pss_one (ps_ret (pe_tup (pa_cons pe_str (pa_cons (pv 6) (pa_cons (pv 7) pa_nil)))))) pss_nil)
    (pss_cons (ps_if (pt_cmpR op_eq (pv 3) pe_str (nomark _)) (pss_one (ps_ret (pe_ix (r := rIx K) ix_seq (pe_lst (pa_cons (pe_tup (pa_cons pe_str (pa_cons (pv 6) (pa_cons (pv 7) pa_nil)))) (pa_cons (pe_tup (pa_cons pe_str (pa_cons (pv 6) (pa_cons (pv 9) (pa_cons (pe_tup (pa_cons pe_str (pa_cons (pe_op op_mod (pe_op op_fdiv (pv 5) pe_int) pe_int) pa_nil))) pa_nil))))) pa_nil))) (pe_op op_mod (pv 8) pe_int) (fun _ _ => rfl)))) pss_nil)
    (pss_cons (ps_if (pt_cmpR op_eq (pv 3) pe_str (nomark _)) (pss_one (ps_ret (pe_ix (r := rIx K) ix_seq (pe_lst (pa_cons (pe_tup (pa_cons pe_str (pa_cons (pv 6) (pa_cons (pv 9) pa_nil)))) (pa_cons (pe_tup (pa_cons pe_str (pa_cons (pv 6) (pa_cons (pv 9) pa_nil)))) pa_nil))) (pe_op op_mod (pv 8) pe_int) (fun _ _ => rfl)))) pss_nil)
    (pss_cons (ps_if (pt_cmpR op_eq (pv 8) pe_int (nomark _)) (pss_one (ps_ret (pe_tup (pa_cons pe_str (pa_cons (pe_call G.G__law_term hr (by rfl) T.g__law_term T.F__law_term.kp T.b__law_term .nil pass0 (pa_cons (pv 0) (pa_cons (pv 1) (pa_cons (pv 2) (pa_cons pe_str (pa_cons (pe_op op_sub (pv 4) pe_int) pa_nil)))))) pa_nil))))) pss_nil)
    (pss_one (ps_ret (pe_tup (pa_cons (pe_ix (r := rIx K) ix_seq (pe_lst (pa_cons pe_str (pa_cons pe_str (pa_cons pe_str (pa_cons pe_str (pa_cons pe_str pa_nil)))))) (pe_op op_mod (pv 8) pe_int) (fun _ _ => rfl)) (pa_cons (pv 6) (pa_cons (pv 7) pa_nil))))))))))))))))), ?_⟩
  exact (ss_seq (ss_set (tg := .one 5) (se_call (sa_cons se_var sa_nil)))
    (ss_seq (ss_if (st_or (st_test (se_op os_B0 se_var se_int)) (st_test (se_op os_eq (se_op os_mod se_var se_int) se_int))) (ss_ret (se_call (sa_cons se_var (sa_cons se_var (sa_cons se_var (sa_cons se_var sa_nil)))))) ss_next)
    (ss_seq (ss_set (tg := (.unl [6, 7])) (se_lc (tg := (.one 11)) (si_range (sa_cons se_int sa_nil)) st_yes (se_call (sa_cons se_var (sa_cons se_var (sa_cons se_var (sa_cons se_var (sa_cons (se_op os_sub se_var se_int) sa_nil))))))))
    (ss_seq (ss_set (tg := .one 8) (se_op os_mod (se_op os_fdiv se_var se_int) se_int))
    (ss_seq (ss_if (st_test (se_op os_B0 se_var se_int)) (ss_ret (se_op os_ix (se_lst (sa_cons (se_tup (sa_cons se_str (sa_cons se_var (sa_cons se_var sa_nil)))) (sa_cons (se_tup (sa_cons se_str (sa_cons (se_call (sa_cons se_var (sa_cons se_var (sa_cons se_var (sa_cons (se_op os_sub se_var se_int) sa_nil))))) (sa_cons se_var (sa_cons se_var sa_nil))))) sa_nil))) se_var)) ss_next)
    (ss_seq (ss_set (tg := .one 9) (se_call (sa_cons se_var (sa_cons se_var (sa_cons se_var (sa_cons se_str (sa_cons (se_op os_sub se_var se_int) sa_nil)))))))
    (ss_seq (ss_if (st_test (se_op os_eq se_var se_int)) (ss_seq (ss_set (tg := .one 10) (se_op os_cat (se_lc (tg := (.one 12)) (si_list se_var) (st_test (se_op os_ne (se_op os_ix se_var se_int) se_str)) se_var) (se_lst (sa_cons (se_tup (sa_cons se_str (sa_cons se_str sa_nil))) sa_nil))))
    (ss_ret (se_tup (sa_cons se_str (sa_cons se_str (sa_cons se_var (sa_cons (se_call (sa_cons se_var (sa_cons se_var (sa_cons se_var (sa_cons se_var (sa_cons (se_op os_sub se_var se_int) sa_nil)))))) sa_nil))))))) ss_next)
    (ss_seq (ss_if (st_and (st_test (se_op os_eq se_var se_int)) (st_test (se_op os_eq se_var se_str))) (ss_ret (se_tup (sa_cons se_str (sa_cons se_var (sa_cons se_var sa_nil))))) ss_next)
    (ss_seq (ss_if (st_test (se_op os_eq se_var se_str)) (ss_ret (se_op os_ix (se_lst (sa_cons (se_tup (sa_cons se_str (sa_cons se_var (sa_cons se_var sa_nil)))) (sa_cons (se_tup (sa_cons se_str (sa_cons se_var (sa_cons se_var (sa_cons (se_tup (sa_cons se_str (sa_cons (se_op os_mod (se_op os_fdiv se_var se_int) se_int) sa_nil))) sa_nil))))) sa_nil))) (se_op os_mod se_var se_int))) ss_next)
    (ss_seq (ss_if (st_test (se_op os_eq se_var se_str)) (ss_ret (se_op os_ix (se_lst (sa_cons (se_tup (sa_cons se_str (sa_cons se_var (sa_cons se_var sa_nil)))) (sa_cons (se_tup (sa_cons se_str (sa_cons se_var (sa_cons se_var sa_nil)))) sa_nil))) (se_op os_mod se_var se_int))) ss_next)
    (ss_seq (ss_if (st_test (se_op os_eq se_var se_int)) (ss_ret (se_tup (sa_cons se_str (sa_cons (se_call (sa_cons se_var (sa_cons se_var (sa_cons se_var (sa_cons se_str (sa_cons (se_op os_sub se_var se_int) sa_nil)))))) sa_nil)))) ss_next)
    (ss_ret (se_tup (sa_cons (se_op os_ix (se_lst (sa_cons se_str (sa_cons se_str (sa_cons se_str (sa_cons se_str (sa_cons se_str sa_nil)))))) (se_op os_mod se_var se_int)) (sa_cons se_var (sa_cons se_var sa_nil))))))))))))))))
theorem ok__law_condition {n : Nat} {S : Tb} (G : All P w K mg base T S n) : FnOk P w K mg base CX0 (n + 1) T.f__law_condition T.fd__law_condition ["_law_draws_here", "_law_tongue", "_law_heads_here", "_law_deep"] (spF K 4 (fnD 9 (b__law_condition S))) := by
  refine fn_okN T.F__law_condition sc__law_condition rfl rfl fun cdv A outer s H E hr => ?_
  refine ⟨_, (pss_cons (ps_set (i := 4) sc__law_condition.nd rfl (by first | exact .inl rfl | exact .inr rfl) (pe_call G.G__law_next hr (by rfl) T.g__law_next T.F__law_next.kp T.b__law_next .nil pass0 (pa_cons (pv 0) pa_nil)))
    (pss_cons (ps_if (pt_cmpR op_eq (pe_op op_mod (pv 4) pe_int) pe_int (nomark _)) (pss_one (ps_ret (pe_ix (r := rIx K) ix_seq (pe_lst (pa_cons (pe_tup (pa_cons pe_str pa_nil)) (pa_cons (pe_tup (pa_cons pe_str pa_nil)) pa_nil))) (pe_op op_mod (pe_op op_fdiv (pv 4) pe_int) pe_int) (fun _ _ => rfl)))) pss_nil)
    (pss_cons (ps_if (PW.pt (pw_and (pt_cmpR op_gt (pv 3) pe_int (nomark _)) (pw_and1 (pt_cmpR op_lt (pe_op op_mod (pv 4) pe_int) pe_int (nomark _))))) (pss_cons (ps_asg (pe_lc (own := [("_law_k", 8)]) (g := gOf K (.one 8)) (tt := tYes) rfl sc__law_condition.nd (pi_range1 (by rfl) T.z_range (pa_cons pe_int pa_nil)) (blkOk_by (own := [("_law_k", 8)]) (N := ["_law_draws_here", "_law_tongue", "_law_heads_here", "_law_deep", "_law_pick", "_law_one", "_law_two", "_law_kind_here", "_law_k"]) (sc := defScope s__law_condition) (by decide +kernel)) (fun _ _ _ _ _ => (pg_name (i := 8) sc__law_condition.nd rfl (by first | exact .inl rfl | exact .inr rfl))) (fun _ _ _ _ _ => pts_nil) (fun _ _ _ _ _ => (pe_call G.G__law_condition hr (by rfl) T.g__law_condition T.F__law_condition.kp T.b__law_condition .nil pass0 (pa_cons (pv 0) (pa_cons (pv 1) (pa_cons (pv 2) (pa_cons (pe_op op_sub (pv 3) pe_int) pa_nil))))))) (pg_unl rfl (pgs_cons (pg_name (i := 5) sc__law_condition.nd rfl (by first | exact .inl rfl | exact .inr rfl)) (pgs_cons (pg_name (i := 6) sc__law_condition.nd rfl (by first | exact .inl rfl | exact .inr rfl)) pgs_nil))))
    (pss_one (ps_ret (pe_ix (r := rIx K) ix_seq (pe_lst (pa_cons (pe_tup (pa_cons pe_str (pa_cons (pv 5) (pa_cons (pv 6) pa_nil)))) (pa_cons (pe_tup (pa_cons pe_str (pa_cons (pv 5) (pa_cons (pv 6) pa_nil)))) (pa_cons (pe_tup (pa_cons pe_str (pa_cons (pv 5) pa_nil))) pa_nil)))) (pe_op op_mod (pe_op op_fdiv (pv 4) pe_int) pe_int) (fun _ _ => rfl))))) pss_nil)
    (pss_cons (ps_set (i := 7) sc__law_condition.nd rfl (by first | exact .inl rfl | exact .inr rfl) (pe_call G.G__law_kind hr (by rfl) T.g__law_kind T.F__law_kind.kp T.b__law_kind .nil pass0 (pa_cons (pv 0) (pa_cons (pv 1) pa_nil))))
    (pss_cons (ps_asg (pe_lc (own := [("_law_k", 8)]) (g := gOf K (.one 8)) (tt := tYes) rfl sc__law_condition.nd (pi_range1 (by rfl) T.z_range (pa_cons pe_int pa_nil)) (blkOk_by (own := [("_law_k", 8)]) (N := ["_law_draws_here", "_law_tongue", "_law_heads_here", "_law_deep", "_law_pick", "_law_one", "_law_two", "_law_kind_here", "_law_k"]) (sc := defScope s__law_condition) (by decide +kernel)) (fun _ _ _ _ _ => (pg_name (i := 8) sc__law_condition.nd rfl (by first | exact .inl rfl | exact .inr rfl))) (fun _ _ _ _ _ => pts_nil) (fun _ _ _ _ _ => (pe_call G.G__law_term hr (by rfl) T.g__law_term T.F__law_term.kp T.b__law_term .nil pass0 (pa_cons (pv 0) (pa_cons (pv 1) (pa_cons (pv 2) (pa_cons (pv 7) (pa_cons (pe_op op_sub (pv 3) pe_int) pa_nil)))))))) (pg_unl rfl (pgs_cons (pg_name (i := 5) sc__law_condition.nd rfl (by first | exact .inl rfl | exact .inr rfl)) (pgs_cons (pg_name (i := 6) sc__law_condition.nd rfl (by first | exact .inl rfl | exact .inr rfl)) pgs_nil))))
    (pss_cons (ps_if (pt_cmpR op_eq (pe_op op_mod (pe_op op_fdiv (pv 4) pe_int) pe_int) pe_int (nomark _)) (pss_one (ps_ret (pe_tup (pa_cons pe_str (pa_cons (pv 5) pa_nil))))) pss_nil)
    (pss_cons (ps_if (PW.pt (pw_and (pt_cmpR op_eq (pe_op op_mod (pe_op op_fdiv (pv 4) pe_int) pe_int) pe_int (nomark _)) (pw_and1 (pt_cmpR op_eq (pv 7) pe_str (nomark _))))) (pss_one (ps_ret (pe_tup (pa_cons pe_str (pa_cons (pv 5) (pa_cons (pv 6) pa_nil)))))) pss_nil)
    (pss_one (ps_ret (pe_tup (pa_cons (pe_ix (r := rIx K) ix_seq (pe_lst (pa_cons pe_str (pa_cons pe_str pa_nil))) (pe_op op_mod (pe_op op_fdiv (pv 4) pe_int) pe_int) (fun _ _ => rfl)) (pa_cons (pv 5) (pa_cons (pv 6) pa_nil))))))))))))), ?_⟩
  exact (ss_seq (ss_set (tg := .one 4) (se_call (sa_cons se_var sa_nil)))
    (ss_seq (ss_if (st_test (se_op os_eq (se_op os_mod se_var se_int) se_int)) (ss_ret (se_op os_ix (se_lst (sa_cons (se_tup (sa_cons se_str sa_nil)) (sa_cons (se_tup (sa_cons se_str sa_nil)) sa_nil))) (se_op os_mod (se_op os_fdiv se_var se_int) se_int))) ss_next)
    (ss_seq (ss_if (st_and (st_test (se_op os_B0 se_var se_int)) (st_test (se_op os_B0 (se_op os_mod se_var se_int) se_int))) (ss_seq (ss_set (tg := (.unl [5, 6])) (se_lc (tg := (.one 8)) (si_range (sa_cons se_int sa_nil)) st_yes (se_call (sa_cons se_var (sa_cons se_var (sa_cons se_var (sa_cons (se_op os_sub se_var se_int) sa_nil)))))))
    (ss_ret (se_op os_ix (se_lst (sa_cons (se_tup (sa_cons se_str (sa_cons se_var (sa_cons se_var sa_nil)))) (sa_cons (se_tup (sa_cons se_str (sa_cons se_var (sa_cons se_var sa_nil)))) (sa_cons (se_tup (sa_cons se_str (sa_cons se_var sa_nil))) sa_nil)))) (se_op os_mod (se_op os_fdiv se_var se_int) se_int)))) ss_next)
    (ss_seq (ss_set (tg := .one 7) (se_call (sa_cons se_var (sa_cons se_var sa_nil))))
    (ss_seq (ss_set (tg := (.unl [5, 6])) (se_lc (tg := (.one 8)) (si_range (sa_cons se_int sa_nil)) st_yes (se_call (sa_cons se_var (sa_cons se_var (sa_cons se_var (sa_cons se_var (sa_cons (se_op os_sub se_var se_int) sa_nil))))))))
    (ss_seq (ss_if (st_test (se_op os_eq (se_op os_mod (se_op os_fdiv se_var se_int) se_int) se_int)) (ss_ret (se_tup (sa_cons se_str (sa_cons se_var sa_nil)))) ss_next)
    (ss_seq (ss_if (st_and (st_test (se_op os_eq (se_op os_mod (se_op os_fdiv se_var se_int) se_int) se_int)) (st_test (se_op os_eq se_var se_str))) (ss_ret (se_tup (sa_cons se_str (sa_cons se_var (sa_cons se_var sa_nil))))) ss_next)
    (ss_ret (se_tup (sa_cons (se_op os_ix (se_lst (sa_cons se_str (sa_cons se_str sa_nil))) (se_op os_mod (se_op os_fdiv se_var se_int) se_int)) (sa_cons se_var (sa_cons se_var sa_nil))))))))))))
theorem ok__law_odd_term {n : Nat} {S : Tb} (G : All P w K mg base T S n) : FnOk P w K mg base CX0 (n + 1) T.f__law_odd_term T.fd__law_odd_term ["_law_draws_here", "_law_tongue", "_law_heads_here", "_law_kind_here"] (spF K 4 (fnD 13 (b__law_odd_term S))) := by
  refine fn_okN T.F__law_odd_term sc__law_odd_term rfl rfl fun cdv A outer s H E hr => ?_
  refine ⟨_, (pss_cons (ps_set (i := 4) sc__law_odd_term.nd rfl (by first | exact .inl rfl | exact .inr rfl) (pe_call G.G__law_next hr (by rfl) T.g__law_next T.F__law_next.kp T.b__law_next .nil pass0 (pa_cons (pv 0) pa_nil)))
    (pss_cons (ps_asg (pe_lc (own := [("_law_k", 11)]) (g := gOf K (.one 11)) (tt := tYes) rfl sc__law_odd_term.nd (pi_range1 (by rfl) T.z_range (pa_cons pe_int pa_nil)) (blkOk_by (own := [("_law_k", 11)]) (N := ["_law_draws_here", "_law_tongue", "_law_heads_here", "_law_kind_here", "_law_pick", "_law_one", "_law_other", "_law_small", "_law_some", "_law_inner_here", "_law_within", "_law_k", "_law_head"]) (sc := defScope s__law_odd_term) (by decide +kernel)) (fun _ _ _ _ _ => (pg_name (i := 11) sc__law_odd_term.nd rfl (by first | exact .inl rfl | exact .inr rfl))) (fun _ _ _ _ _ => pts_nil) (fun _ _ _ _ _ => (pe_call G.G__law_term hr (by rfl) T.g__law_term T.F__law_term.kp T.b__law_term .nil pass0 (pa_cons (pv 0) (pa_cons (pv 1) (pa_cons (pv 2) (pa_cons (pv 3) (pa_cons pe_int pa_nil)))))))) (pg_unl rfl (pgs_cons (pg_name (i := 5) sc__law_odd_term.nd rfl (by first | exact .inl rfl | exact .inr rfl)) (pgs_cons (pg_name (i := 6) sc__law_odd_term.nd rfl (by first | exact .inl rfl | exact .inr rfl)) pgs_nil))))
    (pss_cons (ps_set (i := 7) sc__law_odd_term.nd rfl (by first | exact .inl rfl | exact .inr rfl) (pe_tup (pa_cons pe_str (pa_cons (pe_op op_mod (pe_op op_fdiv (pv 4) pe_int) pe_int) pa_nil))))
    (pss_cons (ps_set (i := 8) sc__law_odd_term.nd rfl (by first | exact .inl rfl | exact .inr rfl) (pe_lst (pa_cons (pv 5) (pa_cons (pe_call G.G__law_term hr (by rfl) T.g__law_term T.F__law_term.kp T.b__law_term .nil pass0 (pa_cons (pv 0) (pa_cons (pv 1) (pa_cons (pe_lst pa_nil) (pa_cons (pv 3) (pa_cons pe_int pa_nil)))))) (pa_cons (pe_tup (pa_cons pe_str (pa_cons (pe_ix (r := rIx K) ix_seq (pe_lst (pa_cons (pe_tup (pa_cons pe_str pa_nil)) (pa_cons (pe_tup (pa_cons pe_str pa_nil)) pa_nil))) (pe_op op_mod (pe_op op_fdiv (pv 4) pe_int) pe_int) (fun _ _ => rfl)) (pa_cons (pv 5) (pa_cons (pv 6) pa_nil))))) pa_nil)))))
    (pss_cons (ps_set (i := 9) sc__law_odd_term.nd rfl (by first | exact .inl rfl | exact .inr rfl) (pe_op op_cat (pe_lc (own := [("_law_head", 12)]) (g := gOf K (.one 12)) rfl sc__law_odd_term.nd (pi_list (pv 2)) (blkOk_by (own := [("_law_head", 12)]) (N := ["_law_draws_here", "_law_tongue", "_law_heads_here", "_law_kind_here", "_law_pick", "_law_one", "_law_other", "_law_small", "_law_some", "_law_inner_here", "_law_within", "_law_k", "_law_head"]) (sc := defScope s__law_odd_term) (by decide +kernel)) (fun _ _ _ _ _ => (pg_name (i := 12) sc__law_odd_term.nd rfl (by first | exact .inl rfl | exact .inr rfl))) (fun _ _ _ _ _ => (pts_one (pt_cmpR op_ne (pe_ix (r := rIx K) ix_seq (pv 12) pe_int (fun _ _ => rfl)) pe_str (nomark _)))) (fun _ _ _ _ _ => (pv 12))) (pe_lst (pa_cons (pe_tup (pa_cons pe_str (pa_cons (pv 3) pa_nil))) pa_nil))))
    (pss_cons (ps_set (i := 10) sc__law_odd_term.nd rfl (by first | exact .inl rfl | exact .inr rfl) (pe_call G.G__law_term hr (by rfl) T.g__law_term T.F__law_term.kp T.b__law_term .nil pass0 (pa_cons (pv 0) (pa_cons (pv 1) (pa_cons (pv 9) (pa_cons (pv 3) (pa_cons pe_int pa_nil)))))))
    (pss_cons (ps_set (i := 8) sc__law_odd_term.nd rfl (by first | exact .inl rfl | exact .inr rfl) (pe_op op_cat (pv 8) (pe_lst (pa_cons (pe_tup (pa_cons pe_str (pa_cons (pe_call G.G__law_condition hr (by rfl) T.g__law_condition T.F__law_condition.kp T.b__law_condition .nil pass0 (pa_cons (pv 0) (pa_cons (pv 1) (pa_cons (pv 2) (pa_cons pe_int pa_nil))))) (pa_cons (pv 5) (pa_cons (pv 5) pa_nil))))) (pa_cons (pe_tup (pa_cons pe_str (pa_cons pe_str (pa_cons (pv 6) (pa_cons (pv 10) pa_nil))))) pa_nil)))))
    (pss_cons (ps_set (i := 8) sc__law_odd_term.nd rfl (by first | exact .inl rfl | exact .inr rfl) (pe_op op_cat (pv 8) (pe_lst (pa_cons (pe_tup (pa_cons pe_str (pa_cons (pv 5) (pa_cons (pe_tup (pa_cons pe_str (pa_cons (pv 3) pa_nil))) pa_nil)))) (pa_cons (pe_tup (pa_cons pe_str (pa_cons (pe_tup (pa_cons pe_str (pa_cons (pv 3) pa_nil))) (pa_cons (pv 5) pa_nil)))) (pa_cons (pe_tup (pa_cons pe_str (pa_cons (pv 5) (pa_cons (pv 6) pa_nil)))) pa_nil))))))
    (pss_cons (ps_if (PW.pt (pw_and (pt_cmpR op_eq (pv 3) pe_str (nomark _)) (pw_and1 (pt_cmpR op_eq (pv 1) pe_str (nomark _))))) (pss_one (ps_set (i := 8) sc__law_odd_term.nd rfl (by first | exact .inl rfl | exact .inr rfl) (pe_op op_cat (pv 8) (pe_lst (pa_cons (pe_tup (pa_cons pe_str (pa_cons (pv 5) (pa_cons (pe_tup (pa_cons pe_str (pa_cons pe_str pa_nil))) pa_nil)))) (pa_cons (pe_tup (pa_cons pe_str (pa_cons (pe_tup (pa_cons pe_str (pa_cons pe_str pa_nil))) (pa_cons (pv 5) pa_nil)))) pa_nil)))))) pss_nil)
    (pss_cons (ps_if (pt_cmpR op_eq (pv 3) pe_str (nomark _)) (pss_cons (ps_set (i := 8) sc__law_odd_term.nd rfl (by first | exact .inl rfl | exact .inr rfl) (pe_op op_cat (pv 8) (pe_lst (pa_cons (pe_tup (pa_cons pe_str (pa_cons (pv 5) (pa_cons (pv 7) pa_nil)))) (pa_cons (pe_tup (pa_cons pe_str (pa_cons (pv 7) (pa_cons (pv 5) pa_nil)))) (pa_cons (pe_tup (pa_cons pe_str (pa_cons (pv 5) (pa_cons (pv 7) pa_nil)))) pa_nil))))))
    (pss_one (ps_set (i := 8) sc__law_odd_term.nd rfl (by first | exact .inl rfl | exact .inr rfl) (pe_op op_cat (pv 8) (pe_lst (pa_cons (pe_tup (pa_cons pe_str (pa_cons (pv 5) (pa_cons (pv 7) pa_nil)))) (pa_cons (pe_tup (pa_cons pe_str (pa_cons (pv 7) (pa_cons (pv 5) pa_nil)))) (pa_cons (pe_tup (pa_cons pe_str (pa_cons (pv 5) (pa_cons (pv 7) pa_nil)))) pa_nil)))))))) pss_nil)
    (pss_one (ps_ret (pe_ix (r := rIx K) ix_seq (pv 8) (pe_op op_mod (pv 4) (pe_callB (r := rLenK K) call_len_seq (by rfl) T.z_len (by decide +kernel) (pa_cons (pv 8) pa_nil))) (fun _ _ => rfl)))))))))))))), ?_⟩
  exact (ss_seq (ss_set (tg := .one 4) (se_call (sa_cons se_var sa_nil)))
    (ss_seq (ss_set (tg := (.unl [5, 6])) (se_lc (tg := (.one 11)) (si_range (sa_cons se_int sa_nil)) st_yes (se_call (sa_cons se_var (sa_cons se_var (sa_cons se_var (sa_cons se_var (sa_cons se_int sa_nil))))))))
    (ss_seq (ss_set (tg := .one 7) (se_tup (sa_cons se_str (sa_cons (se_op os_mod (se_op os_fdiv se_var se_int) se_int) sa_nil))))
    (ss_seq (ss_set (tg := .one 8) (se_lst (sa_cons se_var (sa_cons (se_call (sa_cons se_var (sa_cons se_var (sa_cons (se_lst sa_nil) (sa_cons se_var (sa_cons se_int sa_nil)))))) (sa_cons (se_tup (sa_cons se_str (sa_cons (se_op os_ix (se_lst (sa_cons (se_tup (sa_cons se_str sa_nil)) (sa_cons (se_tup (sa_cons se_str sa_nil)) sa_nil))) (se_op os_mod (se_op os_fdiv se_var se_int) se_int)) (sa_cons se_var (sa_cons se_var sa_nil))))) sa_nil)))))
    (ss_seq (ss_set (tg := .one 9) (se_op os_cat (se_lc (tg := (.one 12)) (si_list se_var) (st_test (se_op os_ne (se_op os_ix se_var se_int) se_str)) se_var) (se_lst (sa_cons (se_tup (sa_cons se_str (sa_cons se_var sa_nil))) sa_nil))))
    (ss_seq (ss_set (tg := .one 10) (se_call (sa_cons se_var (sa_cons se_var (sa_cons se_var (sa_cons se_var (sa_cons se_int sa_nil)))))))
    (ss_seq (ss_set (tg := .one 8) (se_op os_cat se_var (se_lst (sa_cons (se_tup (sa_cons se_str (sa_cons (se_call (sa_cons se_var (sa_cons se_var (sa_cons se_var (sa_cons se_int sa_nil))))) (sa_cons se_var (sa_cons se_var sa_nil))))) (sa_cons (se_tup (sa_cons se_str (sa_cons se_str (sa_cons se_var (sa_cons se_var sa_nil))))) sa_nil)))))
    (ss_seq (ss_set (tg := .one 8) (se_op os_cat se_var (se_lst (sa_cons (se_tup (sa_cons se_str (sa_cons se_var (sa_cons (se_tup (sa_cons se_str (sa_cons se_var sa_nil))) sa_nil)))) (sa_cons (se_tup (sa_cons se_str (sa_cons (se_tup (sa_cons se_str (sa_cons se_var sa_nil))) (sa_cons se_var sa_nil)))) (sa_cons (se_tup (sa_cons se_str (sa_cons se_var (sa_cons se_var sa_nil)))) sa_nil))))))
    (ss_seq (ss_if (st_and (st_test (se_op os_eq se_var se_str)) (st_test (se_op os_eq se_var se_str))) (ss_set (tg := .one 8) (se_op os_cat se_var (se_lst (sa_cons (se_tup (sa_cons se_str (sa_cons se_var (sa_cons (se_tup (sa_cons se_str (sa_cons se_str sa_nil))) sa_nil)))) (sa_cons (se_tup (sa_cons se_str (sa_cons (se_tup (sa_cons se_str (sa_cons se_str sa_nil))) (sa_cons se_var sa_nil)))) sa_nil))))) ss_next)
    (ss_seq (ss_if (st_test (se_op os_eq se_var se_str)) (ss_seq (ss_set (tg := .one 8) (se_op os_cat se_var (se_lst (sa_cons (se_tup (sa_cons se_str (sa_cons se_var (sa_cons se_var sa_nil)))) (sa_cons (se_tup (sa_cons se_str (sa_cons se_var (sa_cons se_var sa_nil)))) (sa_cons (se_tup (sa_cons se_str (sa_cons se_var (sa_cons se_var sa_nil)))) sa_nil))))))
    (ss_set (tg := .one 8) (se_op os_cat se_var (se_lst (sa_cons (se_tup (sa_cons se_str (sa_cons se_var (sa_cons se_var sa_nil)))) (sa_cons (se_tup (sa_cons se_str (sa_cons se_var (sa_cons se_var sa_nil)))) (sa_cons (se_tup (sa_cons se_str (sa_cons se_var (sa_cons se_var sa_nil)))) sa_nil))))))) ss_next)
    (ss_ret (se_op os_ix se_var (se_op os_mod se_var (se_cb cb_len (sa_cons se_var sa_nil)))))))))))))))
theorem ok__law_odd {n : Nat} {S : Tb} (G : All P w K mg base T S n) : FnOk P w K mg base CX0 (n + 1) T.f__law_odd T.fd__law_odd ["_law_draws_here", "_law_tongue", "_law_heads_here"] (spF K 3 (fnD 13 (b__law_odd S))) := by
  refine fn_okN T.F__law_odd sc__law_odd rfl rfl fun cdv A outer s H E hr => ?_
  refine ⟨_, (pss_cons (ps_set (i := 3) sc__law_odd.nd rfl (by first | exact .inl rfl | exact .inr rfl) (pe_call G.G__law_next hr (by rfl) T.g__law_next T.F__law_next.kp T.b__law_next .nil pass0 (pa_cons (pv 0) pa_nil)))
    (pss_cons (ps_asg (pe_lc (own := [("_law_k", 12)]) (g := gOf K (.one 12)) (tt := tYes) rfl sc__law_odd.nd (pi_range1 (by rfl) T.z_range (pa_cons pe_int pa_nil)) (blkOk_by (own := [("_law_k", 12)]) (N := ["_law_draws_here", "_law_tongue", "_law_heads_here", "_law_pick", "_law_one", "_law_other", "_law_kind_here", "_law_first", "_law_second", "_law_sure", "_law_word", "_law_some", "_law_k"]) (sc := defScope s__law_odd) (by decide +kernel)) (fun _ _ _ _ _ => (pg_name (i := 12) sc__law_odd.nd rfl (by first | exact .inl rfl | exact .inr rfl))) (fun _ _ _ _ _ => pts_nil) (fun _ _ _ _ _ => (pe_call G.G__law_condition hr (by rfl) T.g__law_condition T.F__law_condition.kp T.b__law_condition .nil pass0 (pa_cons (pv 0) (pa_cons (pv 1) (pa_cons (pv 2) (pa_cons pe_int pa_nil))))))) (pg_unl rfl (pgs_cons (pg_name (i := 4) sc__law_odd.nd rfl (by first | exact .inl rfl | exact .inr rfl)) (pgs_cons (pg_name (i := 5) sc__law_odd.nd rfl (by first | exact .inl rfl | exact .inr rfl)) pgs_nil))))
    (pss_cons (ps_set (i := 6) sc__law_odd.nd rfl (by first | exact .inl rfl | exact .inr rfl) (pe_call G.G__law_kind hr (by rfl) T.g__law_kind T.F__law_kind.kp T.b__law_kind .nil pass0 (pa_cons (pv 0) (pa_cons (pv 1) pa_nil))))
    (pss_cons (ps_asg (pe_lc (own := [("_law_k", 12)]) (g := gOf K (.one 12)) (tt := tYes) rfl sc__law_odd.nd (pi_range1 (by rfl) T.z_range (pa_cons pe_int pa_nil)) (blkOk_by (own := [("_law_k", 12)]) (N := ["_law_draws_here", "_law_tongue", "_law_heads_here", "_law_pick", "_law_one", "_law_other", "_law_kind_here", "_law_first", "_law_second", "_law_sure", "_law_word", "_law_some", "_law_k"]) (sc := defScope s__law_odd) (by decide +kernel)) (fun _ _ _ _ _ => (pg_name (i := 12) sc__law_odd.nd rfl (by first | exact .inl rfl | exact .inr rfl))) (fun _ _ _ _ _ => pts_nil) (fun _ _ _ _ _ => (pe_call G.G__law_odd_term hr (by rfl) T.g__law_odd_term T.F__law_odd_term.kp T.b__law_odd_term .nil pass0 (pa_cons (pv 0) (pa_cons (pv 1) (pa_cons (pv 2) (pa_cons (pv 6) pa_nil))))))) (pg_unl rfl (pgs_cons (pg_name (i := 7) sc__law_odd.nd rfl (by first | exact .inl rfl | exact .inr rfl)) (pgs_cons (pg_name (i := 8) sc__law_odd.nd rfl (by first | exact .inl rfl | exact .inr rfl)) pgs_nil))))
    (pss_cons (ps_set (i := 9) sc__law_odd.nd rfl (by first | exact .inl rfl | exact .inr rfl) (pe_ix (r := rIx K) ix_seq (pe_lst (pa_cons (pe_tup (pa_cons pe_str pa_nil)) (pa_cons (pe_tup (pa_cons pe_str pa_nil)) pa_nil))) (pe_op op_mod (pe_op op_fdiv (pv 3) pe_int) pe_int) (fun _ _ => rfl)))
    (pss_cons (ps_set (i := 10) sc__law_odd.nd rfl (by first | exact .inl rfl | exact .inr rfl) (pe_ix (r := rIx K) ix_seq (pe_lst (pa_cons pe_str (pa_cons pe_str pa_nil))) (pe_op op_mod (pe_op op_fdiv (pv 3) pe_int) pe_int) (fun _ _ => rfl)))
    (pss_cons (ps_set (i := 11) sc__law_odd.nd rfl (by first | exact .inl rfl | exact .inr rfl) (pe_lst (pa_cons (pv 4) (pa_cons (pe_tup (pa_cons (pv 10) (pa_cons (pv 4) (pa_cons (pv 9) pa_nil)))) (pa_cons (pe_tup (pa_cons (pv 10) (pa_cons (pv 9) (pa_cons (pv 4) pa_nil)))) (pa_cons (pe_tup (pa_cons (pv 10) (pa_cons (pv 4) (pa_cons (pv 4) pa_nil)))) (pa_cons (pe_tup (pa_cons (pv 10) (pa_cons (pv 4) (pa_cons (pv 5) pa_nil)))) (pa_cons (pe_tup (pa_cons pe_str (pa_cons (pe_tup (pa_cons pe_str (pa_cons (pv 4) pa_nil))) pa_nil))) pa_nil))))))))
    (pss_cons (ps_set (i := 11) sc__law_odd.nd rfl (by first | exact .inl rfl | exact .inr rfl) (pe_op op_cat (pv 11) (pe_lst (pa_cons (pe_call G.G__law_condition hr (by rfl) T.g__law_condition T.F__law_condition.kp T.b__law_condition .nil pass0 (pa_cons (pv 0) (pa_cons (pv 1) (pa_cons (pe_lst pa_nil) (pa_cons pe_int pa_nil))))) (pa_cons (pv 9) (pa_cons (pe_tup (pa_cons pe_str (pa_cons (pv 7) (pa_cons (pv 7) pa_nil)))) (pa_cons (pe_tup (pa_cons pe_str (pa_cons (pv 7) pa_nil))) pa_nil)))))))
    (pss_one (ps_ret (pe_ix (r := rIx K) ix_seq (pe_op op_cat (pv 11) (pe_lst (pa_cons (pe_tup (pa_cons pe_str (pa_cons (pv 7) (pa_cons (pv 8) pa_nil)))) (pa_cons (pe_tup (pa_cons pe_str (pa_cons (pv 7) (pa_cons (pv 8) pa_nil)))) pa_nil)))) (pe_op op_mod (pv 3) pe_int) (fun _ _ => rfl)))))))))))), ?_⟩
  exact (ss_seq (ss_set (tg := .one 3) (se_call (sa_cons se_var sa_nil)))
    (ss_seq (ss_set (tg := (.unl [4, 5])) (se_lc (tg := (.one 12)) (si_range (sa_cons se_int sa_nil)) st_yes (se_call (sa_cons se_var (sa_cons se_var (sa_cons se_var (sa_cons se_int sa_nil)))))))
    (ss_seq (ss_set (tg := .one 6) (se_call (sa_cons se_var (sa_cons se_var sa_nil))))
    (ss_seq (ss_set (tg := (.unl [7, 8])) (se_lc (tg := (.one 12)) (si_range (sa_cons se_int sa_nil)) st_yes (se_call (sa_cons se_var (sa_cons se_var (sa_cons se_var (sa_cons se_var sa_nil)))))))
    (ss_seq (ss_set (tg := .one 9) (se_op os_ix (se_lst (sa_cons (se_tup (sa_cons se_str sa_nil)) (sa_cons (se_tup (sa_cons se_str sa_nil)) sa_nil))) (se_op os_mod (se_op os_fdiv se_var se_int) se_int)))
    (ss_seq (ss_set (tg := .one 10) (se_op os_ix (se_lst (sa_cons se_str (sa_cons se_str sa_nil))) (se_op os_mod (se_op os_fdiv se_var se_int) se_int)))
    (ss_seq (ss_set (tg := .one 11) (se_lst (sa_cons se_var (sa_cons (se_tup (sa_cons se_var (sa_cons se_var (sa_cons se_var sa_nil)))) (sa_cons (se_tup (sa_cons se_var (sa_cons se_var (sa_cons se_var sa_nil)))) (sa_cons (se_tup (sa_cons se_var (sa_cons se_var (sa_cons se_var sa_nil)))) (sa_cons (se_tup (sa_cons se_var (sa_cons se_var (sa_cons se_var sa_nil)))) (sa_cons (se_tup (sa_cons se_str (sa_cons (se_tup (sa_cons se_str (sa_cons se_var sa_nil))) sa_nil))) sa_nil))))))))
    (ss_seq (ss_set (tg := .one 11) (se_op os_cat se_var (se_lst (sa_cons (se_call (sa_cons se_var (sa_cons se_var (sa_cons (se_lst sa_nil) (sa_cons se_int sa_nil))))) (sa_cons se_var (sa_cons (se_tup (sa_cons se_str (sa_cons se_var (sa_cons se_var sa_nil)))) (sa_cons (se_tup (sa_cons se_str (sa_cons se_var sa_nil))) sa_nil)))))))
    (ss_ret (se_op os_ix (se_op os_cat se_var (se_lst (sa_cons (se_tup (sa_cons se_str (sa_cons se_var (sa_cons se_var sa_nil)))) (sa_cons (se_tup (sa_cons se_str (sa_cons se_var (sa_cons se_var sa_nil)))) sa_nil)))) (se_op os_mod se_var se_int)))))))))))
theorem ok__law_grouped {n : Nat} {S : Tb} (G : All P w K mg base T S n) : FnOk P w K mg base CX0 (n + 1) T.f__law_grouped T.fd__law_grouped ["_law_draws_here", "_law_tongue", "_law_inner_here"] (spF K 3 (fnD 11 (b__law_grouped S))) := by
  refine fn_okN T.F__law_grouped sc__law_grouped rfl rfl fun cdv A outer s H E hr => ?_
  refine ⟨_, (pss_cons (ps_setLc (i := 3) (own := [("_law_head", 8)]) (g := gOf K (.one 8)) rfl sc__law_grouped.nd rfl rfl (sw_true rfl rfl rfl rfl) (pi_list (pe_ix (r := rIx K) ix_seq (pv 2) pe_int (fun _ _ => rfl))) (blkOk_by (own := [("_law_head", 8)]) (N := ["_law_draws_here", "_law_tongue", "_law_inner_here", "_law_keys", "_law_kind_here", "_law_a_name", "_law_row", "_law_told", "_law_head", "_law_key", "_law_also"]) (sc := defScope s__law_grouped) (by decide +kernel)) (fun _ _ _ _ _ => (pg_name (i := 8) sc__law_grouped.nd rfl (by first | exact .inl rfl | exact .inr rfl))) (fun _ _ _ _ _ => (pts_one (pt_cmpR op_eq (pe_op op_mod (pe_call G.G__law_next hr (by rfl) T.g__law_next T.F__law_next.kp T.b__law_next .nil pass0 (pa_cons (pv 0) pa_nil)) pe_int) pe_int (nomark _)))) (fun _ _ _ _ _ => (pv 8)))
    (pss_cons (ps_set (i := 4) sc__law_grouped.nd rfl (by first | exact .inl rfl | exact .inr rfl) (pe_call G.G__law_kind hr (by rfl) T.g__law_kind T.F__law_kind.kp T.b__law_kind .nil pass0 (pa_cons (pv 0) (pa_cons (pv 1) pa_nil))))
    (pss_cons (ps_set (i := 5) sc__law_grouped.nd rfl (by first | exact .inl rfl | exact .inr rfl) (pe_op op_add_str pe_str (pe_callTy call_str_int (by rfl) T.z_str (by decide +kernel) (pa_cons (pe_ix (r := rIx K) ix_seq (pv 0) pe_int (fun _ _ => rfl)) pa_nil))))
    (pss_cons (ps_set (i := 6) sc__law_grouped.nd rfl (by first | exact .inl rfl | exact .inr rfl) (pe_tup (pa_cons (pe_tup (pa_cons (pv 5) (pa_cons (pe_ix (r := rIx K) ix_seq (pe_lst (pa_cons pe_str (pa_cons pe_str (pa_cons pe_str pa_nil)))) (pe_op op_mod (pe_call G.G__law_next hr (by rfl) T.g__law_next T.F__law_next.kp T.b__law_next .nil pass0 (pa_cons (pv 0) pa_nil)) pe_int) (fun _ _ => rfl)) (pa_cons (pe_call G.G__law_odd_term hr (by rfl) T.g__law_odd_term T.F__law_odd_term.kp T.b__law_odd_term .nil pass0 (pa_cons (pv 0) (pa_cons (pv 1) (pa_cons (pe_ix (r := rIx K) ix_seq (pv 2) pe_int (fun _ _ => rfl)) (pa_cons (pv 4) pa_nil))))) pa_nil)))) pa_nil)))
    (pss_cons (ps_set (i := 7) sc__law_grouped.nd rfl (by first | exact .inl rfl | exact .inr rfl) (pe_op op_cat (pv 3) (pe_lst (pa_cons (pe_tup (pa_cons (pv 5) (pa_cons (pe_ix (r := rIx K) ix_seq (pe_lst (pa_cons (pv 4) (pa_cons pe_str pa_nil))) (pe_callTy call_int1 (by rfl) T.z_int (by decide +kernel) (pa_cons (pe_cmpR op_eq (pe_ix (r := rIx K) ix_seq (pe_ix (r := rIx K) ix_seq (pv 6) pe_int (fun _ _ => rfl)) pe_int (fun _ _ => rfl)) pe_str (nomark _)) pa_nil)) (fun _ _ => rfl)) pa_nil))) pa_nil))))
    (pss_one (ps_ret (pe_tup (pa_cons (pe_tup (pa_cons pe_str (pa_cons (pe_ix (r := rIx K) ix_seq (pv 2) pe_int (fun _ _ => rfl)) (pa_cons (pe_callTy (r := rTupK K) call_tuple_of (by rfl) T.z_tuple (by decide +kernel) (pa_cons (pe_lc (own := [("_law_key", 9), ("_law_also", 10)]) (g := gOf K (.many [9, 10])) (tt := tYes) rfl sc__law_grouped.nd (pi_list (pv 3)) (blkOk_by (own := [("_law_key", 9), ("_law_also", 10)]) (N := ["_law_draws_here", "_law_tongue", "_law_inner_here", "_law_keys", "_law_kind_here", "_law_a_name", "_law_row", "_law_told", "_law_head", "_law_key", "_law_also"]) (sc := defScope s__law_grouped) (by decide +kernel)) (fun _ _ _ _ _ => (pg_tup (by rfl) (pgs_cons (pg_name (i := 9) sc__law_grouped.nd rfl (by first | exact .inl rfl | exact .inr rfl)) (pgs_cons (pg_name (i := 10) sc__law_grouped.nd rfl (by first | exact .inl rfl | exact .inr rfl)) pgs_nil)))) (fun _ _ _ _ _ => pts_nil) (fun _ _ _ _ _ => (pv 9))) pa_nil)) (pa_cons (pv 6) pa_nil))))) (pa_cons (pv 7) pa_nil)))))))))), ?_⟩
  exact (ss_seq (ss_set (tg := .one 3) (se_lc (tg := (.one 8)) (si_list (se_op os_ix se_var se_int)) (st_test (se_op os_eq (se_op os_mod (se_call (sa_cons se_var sa_nil)) se_int) se_int)) se_var))
    (ss_seq (ss_set (tg := .one 4) (se_call (sa_cons se_var (sa_cons se_var sa_nil))))
    (ss_seq (ss_set (tg := .one 5) (se_op os_addS se_str (se_cb cb_str (sa_cons se_dr1 sa_nil))))
    (ss_seq (ss_set (tg := .one 6) (se_tup (sa_cons (se_tup (sa_cons se_var (sa_cons (se_op os_ix (se_lst (sa_cons se_str (sa_cons se_str (sa_cons se_str sa_nil)))) (se_op os_mod (se_call (sa_cons se_var sa_nil)) se_int)) (sa_cons (se_call (sa_cons se_var (sa_cons se_var (sa_cons (se_op os_ix se_var se_int) (sa_cons se_var sa_nil))))) sa_nil)))) sa_nil)))
    (ss_seq (ss_set (tg := .one 7) (se_op os_cat se_var (se_lst (sa_cons (se_tup (sa_cons se_var (sa_cons (se_op os_ix (se_lst (sa_cons se_var (sa_cons se_str sa_nil))) (se_cb cb_int (sa_cons (se_op os_eq (se_op os_ix (se_op os_ix se_var se_int) se_int) se_str) sa_nil))) sa_nil))) sa_nil))))
    (ss_ret (se_tup (sa_cons (se_tup (sa_cons se_str (sa_cons (se_op os_ix se_var se_int) (sa_cons (se_cb cb_tuple (sa_cons (se_lc (tg := (.many [9, 10])) (si_list se_var) st_yes se_var) sa_nil)) (sa_cons se_var sa_nil))))) (sa_cons se_var sa_nil)))))))))
theorem ok__law_picked {n : Nat} {S : Tb} (G : All P w K mg base T S n) : FnOk P w K mg base CX0 (n + 1) T.f__law_picked T.fd__law_picked ["_law_draws_here", "_law_tongue", "_law_inner_here"] (spF K 3 (fnD 8 (b__law_picked S))) := by
  refine fn_okN T.F__law_picked sc__law_picked rfl rfl fun cdv A outer s H E hr => ?_
  refine ⟨_, (pss_cons (ps_if (pt_cmpR op_eq (pe_op op_mod (pe_call G.G__law_next hr (by rfl) T.g__law_next T.F__law_next.kp T.b__law_next .nil pass0 (pa_cons (pv 0) pa_nil)) pe_int) pe_int (nomark _)) (pss_one (ps_ret (pe_tup (pa_cons (pe_tup (pa_cons pe_str (pa_cons (pe_ix (r := rIx K) ix_seq (pv 2) pe_int (fun _ _ => rfl)) (pa_cons (pe_callTy (r := rTupK K) call_tuple_of (by rfl) T.z_tuple (by decide +kernel) (pa_cons (pe_lc (own := [("_law_a_name", 6), ("_law_kind_here", 7)]) (g := gOf K (.many [6, 7])) (tt := tYes) rfl sc__law_picked.nd (pi_list (pe_ix (r := rIx K) ix_seq (pv 2) pe_int (fun _ _ => rfl))) (blkOk_by (own := [("_law_a_name", 6), ("_law_kind_here", 7)]) (N := ["_law_draws_here", "_law_tongue", "_law_inner_here", "_law_told", "_law_row", "_law_k", "_law_a_name", "_law_kind_here"]) (sc := defScope s__law_picked) (by decide +kernel)) (fun _ _ _ _ _ => (pg_tup (by rfl) (pgs_cons (pg_name (i := 6) sc__law_picked.nd rfl (by first | exact .inl rfl | exact .inr rfl)) (pgs_cons (pg_name (i := 7) sc__law_picked.nd rfl (by first | exact .inl rfl | exact .inr rfl)) pgs_nil)))) (fun _ _ _ _ _ => pts_nil) (fun _ _ _ _ _ => (pe_tup (pa_cons (pv 6) (pa_cons (pe_tup (pa_cons pe_str (pa_cons (pv 6) pa_nil))) pa_nil))))) pa_nil)) pa_nil)))) (pa_cons (pe_ix (r := rIx K) ix_seq (pv 2) pe_int (fun _ _ => rfl)) pa_nil))))) pss_nil)
    (pss_cons (ps_setLc (i := 3) (own := [("_law_k", 5)]) (g := gOf K (.one 5)) (tt := tYes) rfl sc__law_picked.nd rfl rfl (sw_true rfl rfl rfl rfl) (pi_range1 (by rfl) T.z_range (pa_cons pe_int pa_nil)) (blkOk_by (own := [("_law_k", 5)]) (N := ["_law_draws_here", "_law_tongue", "_law_inner_here", "_law_told", "_law_row", "_law_k", "_law_a_name", "_law_kind_here"]) (sc := defScope s__law_picked) (by decide +kernel)) (fun _ _ _ _ _ => (pg_name (i := 5) sc__law_picked.nd rfl (by first | exact .inl rfl | exact .inr rfl))) (fun _ _ _ _ _ => pts_nil) (fun _ _ _ _ _ => (pe_tup (pa_cons (pe_op op_add_str pe_str (pe_callTy call_str_int (by rfl) T.z_str (by decide +kernel) (pa_cons (pe_ix (r := rIx K) ix_seq (pv 0) pe_int (fun _ _ => rfl)) pa_nil))) (pa_cons (pe_call G.G__law_kind hr (by rfl) T.g__law_kind T.F__law_kind.kp T.b__law_kind .nil pass0 (pa_cons (pv 0) (pa_cons (pv 1) pa_nil))) pa_nil)))))
    (pss_cons (ps_setLc (i := 4) (own := [("_law_a_name", 6), ("_law_kind_here", 7)]) (g := gOf K (.many [6, 7])) (tt := tYes) rfl sc__law_picked.nd rfl rfl (sw_true rfl rfl rfl rfl) (pi_list (pv 3)) (blkOk_by (own := [("_law_a_name", 6), ("_law_kind_here", 7)]) (N := ["_law_draws_here", "_law_tongue", "_law_inner_here", "_law_told", "_law_row", "_law_k", "_law_a_name", "_law_kind_here"]) (sc := defScope s__law_picked) (by decide +kernel)) (fun _ _ _ _ _ => (pg_tup (by rfl) (pgs_cons (pg_name (i := 6) sc__law_picked.nd rfl (by first | exact .inl rfl | exact .inr rfl)) (pgs_cons (pg_name (i := 7) sc__law_picked.nd rfl (by first | exact .inl rfl | exact .inr rfl)) pgs_nil)))) (fun _ _ _ _ _ => pts_nil) (fun _ _ _ _ _ => (pe_tup (pa_cons (pv 6) (pa_cons (pe_call G.G__law_odd_term hr (by rfl) T.g__law_odd_term T.F__law_odd_term.kp T.b__law_odd_term .nil pass0 (pa_cons (pv 0) (pa_cons (pv 1) (pa_cons (pe_ix (r := rIx K) ix_seq (pv 2) pe_int (fun _ _ => rfl)) (pa_cons (pv 7) pa_nil))))) pa_nil)))))
    (pss_one (ps_ret (pe_tup (pa_cons (pe_tup (pa_cons pe_str (pa_cons (pe_ix (r := rIx K) ix_seq (pv 2) pe_int (fun _ _ => rfl)) (pa_cons (pe_callTy (r := rTupK K) call_tuple_of (by rfl) T.z_tuple (by decide +kernel) (pa_cons (pv 4) pa_nil)) pa_nil)))) (pa_cons (pv 3) pa_nil)))))))), ?_⟩
  exact (ss_seq (ss_if (st_test (se_op os_eq (se_op os_mod (se_call (sa_cons se_var sa_nil)) se_int) se_int)) (ss_ret (se_tup (sa_cons (se_tup (sa_cons se_str (sa_cons (se_op os_ix se_var se_int) (sa_cons (se_cb cb_tuple (sa_cons (se_lc (tg := (.many [6, 7])) (si_list (se_op os_ix se_var se_int)) st_yes (se_tup (sa_cons se_var (sa_cons (se_tup (sa_cons se_str (sa_cons se_var sa_nil))) sa_nil)))) sa_nil)) sa_nil)))) (sa_cons (se_op os_ix se_var se_int) sa_nil)))) ss_next)
    (ss_seq (ss_set (tg := .one 3) (se_lc (tg := (.one 5)) (si_range (sa_cons se_int sa_nil)) st_yes (se_tup (sa_cons (se_op os_addS se_str (se_cb cb_str (sa_cons se_dr1 sa_nil))) (sa_cons (se_call (sa_cons se_var (sa_cons se_var sa_nil))) sa_nil)))))
    (ss_seq (ss_set (tg := .one 4) (se_lc (tg := (.many [6, 7])) (si_list se_var) st_yes (se_tup (sa_cons se_var (sa_cons (se_call (sa_cons se_var (sa_cons se_var (sa_cons (se_op os_ix se_var se_int) (sa_cons se_var sa_nil))))) sa_nil)))))
    (ss_ret (se_tup (sa_cons (se_tup (sa_cons se_str (sa_cons (se_op os_ix se_var se_int) (sa_cons (se_cb cb_tuple (sa_cons se_var sa_nil)) sa_nil)))) (sa_cons se_var sa_nil)))))))
theorem ok__law_sorted {n : Nat} {S : Tb} (G : All P w K mg base T S n) : FnOk P w K mg base CX0 (n + 1) T.f__law_sorted T.fd__law_sorted ["_law_draws_here", "_law_tongue", "_law_inner_here"] (spF K 3 (fnD 4 (b__law_sorted S))) := by
  refine fn_okN T.F__law_sorted sc__law_sorted rfl rfl fun cdv A outer s H E hr => ?_
  refine ⟨_, (pss_cons (ps_set (i := 3) sc__law_sorted.nd rfl (by first | exact .inl rfl | exact .inr rfl) (pe_call G.G__law_odd_term hr (by rfl) T.g__law_odd_term T.F__law_odd_term.kp T.b__law_odd_term .nil pass0 (pa_cons (pv 0) (pa_cons (pv 1) (pa_cons (pe_ix (r := rIx K) ix_seq (pv 2) pe_int (fun _ _ => rfl)) (pa_cons (pe_call G.G__law_kind hr (by rfl) T.g__law_kind T.F__law_kind.kp T.b__law_kind .nil pass0 (pa_cons (pv 0) (pa_cons (pv 1) pa_nil))) pa_nil))))))
    (pss_one (ps_ret (pe_tup (pa_cons (pe_tup (pa_cons pe_str (pa_cons (pe_ix (r := rIx K) ix_seq (pv 2) pe_int (fun _ _ => rfl)) (pa_cons (pe_tup (pa_cons (pe_tup (pa_cons (pv 3) (pa_cons (pe_cmpR op_eq (pe_op op_mod (pe_call G.G__law_next hr (by rfl) T.g__law_next T.F__law_next.kp T.b__law_next .nil pass0 (pa_cons (pv 0) pa_nil)) pe_int) pe_int (nomark _)) pa_nil))) pa_nil)) pa_nil)))) (pa_cons (pe_ix (r := rIx K) ix_seq (pv 2) pe_int (fun _ _ => rfl)) pa_nil)))))), ?_⟩
  exact (ss_seq (ss_set (tg := .one 3) (se_call (sa_cons se_var (sa_cons se_var (sa_cons (se_op os_ix se_var se_int) (sa_cons (se_call (sa_cons se_var (sa_cons se_var sa_nil))) sa_nil))))))
    (ss_ret (se_tup (sa_cons (se_tup (sa_cons se_str (sa_cons (se_op os_ix se_var se_int) (sa_cons (se_tup (sa_cons (se_tup (sa_cons se_var (sa_cons (se_op os_eq (se_op os_mod (se_call (sa_cons se_var sa_nil)) se_int) se_int) sa_nil))) sa_nil)) sa_nil)))) (sa_cons (se_op os_ix se_var se_int) sa_nil)))))
theorem ok__law_inner {n : Nat} {S : Tb} (G : All P w K mg base T S n) : FnOk P w K mg base CX0 (n + 1) T.f__law_inner T.fd__law_inner ["_law_draws_here", "_law_tongue", "_law_tables", "_law_a_name"] (spF K 4 (fnD 6 (b__law_inner S))) := by
  refine fn_okN T.F__law_inner sc__law_inner rfl rfl fun cdv A outer s H E hr => ?_
  refine ⟨_, (pss_cons (ps_set (i := 4) sc__law_inner.nd rfl (by first | exact .inl rfl | exact .inr rfl) (pe_tup (pa_cons (pe_tup (pa_cons pe_str (pa_cons (pv 3) pa_nil))) (pa_cons (pe_dget (hu_of hr) (pv 2) (pv 3) (fun _ _ => rfl)) pa_nil))))
    (pss_cons (ps_set (i := 5) sc__law_inner.nd rfl (by first | exact .inl rfl | exact .inr rfl) (pe_call G.G__law_next hr (by rfl) T.g__law_next T.F__law_next.kp T.b__law_next .nil pass0 (pa_cons (pv 0) pa_nil)))
    (pss_cons (ps_if (pt_cmpR op_eq (pe_op op_mod (pv 5) pe_int) pe_int (nomark _)) (pss_one (ps_ret (pe_tup (pa_cons (pe_tup (pa_cons pe_str (pa_cons (pe_ix (r := rIx K) ix_seq (pv 4) pe_int (fun _ _ => rfl)) (pa_cons (pe_call G.G__law_odd hr (by rfl) T.g__law_odd T.F__law_odd.kp T.b__law_odd .nil pass0 (pa_cons (pv 0) (pa_cons (pv 1) (pa_cons (pe_ix (r := rIx K) ix_seq (pv 4) pe_int (fun _ _ => rfl)) pa_nil)))) pa_nil)))) (pa_cons (pe_ix (r := rIx K) ix_seq (pv 4) pe_int (fun _ _ => rfl)) pa_nil))))) pss_nil)
    (pss_cons (ps_if (pt_cmpR op_lt (pe_op op_mod (pv 5) pe_int) pe_int (nomark _)) (pss_one (ps_ret (pe_callX G.G__law_grouped G.G__law_picked hr T.F__law_grouped.kp T.F__law_picked.kp T.b__law_grouped T.b__law_picked (pe_ix (r := rIxL K) ix_list (pe_lst (pa_cons (pe_glob (v := .ref T.f__law_grouped) (by rfl) T.g__law_grouped rfl) (pa_cons (pe_glob (v := .ref T.f__law_picked) (by rfl) T.g__law_picked rfl) pa_nil))) (pe_op op_sub (pe_op op_mod (pv 5) pe_int) pe_int) (fun _ _ => rfl)) (pa_cons (pv 0) (pa_cons (pv 1) (pa_cons (pv 4) pa_nil)))))) pss_nil)
    (pss_cons (ps_if (pt_cmpR op_eq (pe_op op_mod (pv 5) pe_int) pe_int (nomark _)) (pss_cons (ps_set (i := 4) sc__law_inner.nd rfl (by first | exact .inl rfl | exact .inr rfl) (pe_call G.G__law_sorted hr (by rfl) T.g__law_sorted T.F__law_sorted.kp T.b__law_sorted .nil pass0 (pa_cons (pv 0) (pa_cons (pv 1) (pa_cons (pv 4) pa_nil)))))
    (pss_one (ps_ret (pe_ix (r := rIx K) ix_seq (pe_lst (pa_cons (pv 4) (pa_cons (pe_tup (pa_cons (pe_tup (pa_cons pe_str (pa_cons (pe_ix (r := rIx K) ix_seq (pv 4) pe_int (fun _ _ => rfl)) (pa_cons (pe_op op_mod (pe_op op_fdiv (pv 5) pe_int) pe_int) pa_nil)))) (pa_cons (pe_ix (r := rIx K) ix_seq (pv 4) pe_int (fun _ _ => rfl)) pa_nil))) pa_nil))) (pe_op op_mod (pe_op op_fdiv (pv 5) pe_int) pe_int) (fun _ _ => rfl))))) pss_nil)
    (pss_one (ps_ret (pv 4)))))))), ?_⟩
  exact (ss_seq (ss_set (tg := .one 4) (se_tup (sa_cons (se_tup (sa_cons se_str (sa_cons se_var sa_nil))) (sa_cons (se_dget se_var se_var) sa_nil))))
    (ss_seq (ss_set (tg := .one 5) (se_call (sa_cons se_var sa_nil)))
    (ss_seq (ss_if (st_test (se_op os_eq (se_op os_mod se_var se_int) se_int)) (ss_ret (se_tup (sa_cons (se_tup (sa_cons se_str (sa_cons (se_op os_ix se_var se_int) (sa_cons (se_call (sa_cons se_var (sa_cons se_var (sa_cons (se_op os_ix se_var se_int) sa_nil)))) sa_nil)))) (sa_cons (se_op os_ix se_var se_int) sa_nil)))) ss_next)
    (ss_seq (ss_if (st_test (se_op os_B0 (se_op os_mod se_var se_int) se_int)) (ss_ret (se_pick (se_op os_sub (se_op os_mod se_var se_int) se_int) (sa_cons se_var (sa_cons se_var (sa_cons se_var sa_nil))))) ss_next)
    (ss_seq (ss_if (st_test (se_op os_eq (se_op os_mod se_var se_int) se_int)) (ss_seq (ss_set (tg := .one 4) (se_call (sa_cons se_var (sa_cons se_var (sa_cons se_var sa_nil)))))
    (ss_ret (se_op os_ix (se_lst (sa_cons se_var (sa_cons (se_tup (sa_cons (se_tup (sa_cons se_str (sa_cons (se_op os_ix se_var se_int) (sa_cons (se_op os_mod (se_op os_fdiv se_var se_int) se_int) sa_nil)))) (sa_cons (se_op os_ix se_var se_int) sa_nil))) sa_nil))) (se_op os_mod (se_op os_fdiv se_var se_int) se_int)))) ss_next)
    (ss_ret se_var))))))
theorem ok__law_joined {n : Nat} {S : Tb} (G : All P w K mg base T S n) : FnOk P w K mg base CX0 (n + 1) T.f__law_joined T.fd__law_joined ["_law_draws_here", "_law_tongue", "_law_one", "_law_other"] (spF K 4 (fnD 13 (b__law_joined S))) := by
  refine fn_okN T.F__law_joined sc__law_joined rfl rfl fun cdv A outer s H E hr => ?_
  refine ⟨_, (pss_cons (ps_set (i := 4) sc__law_joined.nd rfl (by first | exact .inl rfl | exact .inr rfl) (pe_call G.G__law_next hr (by rfl) T.g__law_next T.F__law_next.kp T.b__law_next .nil pass0 (pa_cons (pv 0) pa_nil)))
    (pss_cons (ps_set (i := 5) sc__law_joined.nd rfl (by first | exact .inl rfl | exact .inr rfl) (pe_ix (r := rIx K) ix_seq (pe_lst (pa_cons (pe_op op_cat (pe_ix (r := rIx K) ix_seq (pv 2) pe_int (fun _ _ => rfl)) (pe_ix (r := rIx K) ix_seq (pv 3) pe_int (fun _ _ => rfl))) (pa_cons (pe_ix (r := rIx K) ix_seq (pv 2) pe_int (fun _ _ => rfl)) (pa_cons (pe_ix (r := rIx K) ix_seq (pv 3) pe_int (fun _ _ => rfl)) (pa_cons (pe_op op_cat (pe_ix (r := rIx K) ix_seq (pv 2) pe_int (fun _ _ => rfl)) (pe_ix (r := rIx K) ix_seq (pv 3) pe_int (fun _ _ => rfl))) pa_nil))))) (pe_op op_mod (pv 4) pe_int) (fun _ _ => rfl)))
    (pss_cons (ps_set (i := 6) sc__law_joined.nd rfl (by first | exact .inl rfl | exact .inr rfl) (pe_call G.G__law_odd hr (by rfl) T.g__law_odd T.F__law_odd.kp T.b__law_odd .nil pass0 (pa_cons (pv 0) (pa_cons (pv 1) (pa_cons (pv 5) pa_nil)))))
    (pss_cons (ps_setLc (i := 10) (own := [("_law_x", 7), ("_law_kind_here", 8)]) (g := gOf K (.many [7, 8])) rfl sc__law_joined.nd rfl rfl (sw_true rfl rfl rfl rfl) (pi_list (pe_ix (r := rIx K) ix_seq (pv 2) pe_int (fun _ _ => rfl))) (blkOk_by (own := [("_law_x", 7), ("_law_kind_here", 8)]) (N := ["_law_draws_here", "_law_tongue", "_law_one", "_law_other", "_law_pick", "_law_heads_here", "_law_condition_here", "_law_x", "_law_kind_here", "_law_y", "_law_some", "_law_a_name", "_law_also"]) (sc := defScope s__law_joined) (by decide +kernel)) (fun _ _ _ _ _ => (pg_tup (by rfl) (pgs_cons (pg_name (i := 7) sc__law_joined.nd rfl (by first | exact .inl rfl | exact .inr rfl)) (pgs_cons (pg_name (i := 8) sc__law_joined.nd rfl (by first | exact .inl rfl | exact .inr rfl)) pgs_nil)))) (fun _ _ _ _ _ => (pts_one (pt_cmpR (r := rIn K false) op_in_seq (pv 8) (pe_lc (own := [("_law_y", 9), ("_law_also", 12)]) (g := gOf K (.many [9, 12])) (tt := tYes) (wi := iList K _) rfl sc__law_joined.nd (pi_list (pe_ix (r := rIx K) ix_seq (pv 3) pe_int (fun _ _ => rfl))) (blkOk_by (own := [("_law_y", 9), ("_law_also", 12)]) (N := ["_law_draws_here", "_law_tongue", "_law_one", "_law_other", "_law_pick", "_law_heads_here", "_law_condition_here", "_law_x", "_law_kind_here", "_law_y", "_law_some", "_law_a_name", "_law_also"]) (by kernel_rfl)) (fun _ _ _ _ _ => (pg_tup (by rfl) (pgs_cons (pg_name (i := 9) sc__law_joined.nd rfl (by first | exact .inl rfl | exact .inr rfl)) (pgs_cons (pg_name (i := 12) sc__law_joined.nd rfl (by first | exact .inl rfl | exact .inr rfl)) pgs_nil)))) (fun _ _ _ _ _ => pts_nil) (fun _ _ _ _ _ => (pv 12))) rfl))) (fun _ _ _ _ _ => (pe_tup (pa_cons (pv 7) (pa_cons (pv 8) pa_nil)))))
    (pss_cons (ps_if (PW.pt (pw_and (pt_cmpR op_eq (pe_op op_mod (pe_op op_fdiv (pv 4) pe_int) pe_int) pe_int (nomark _)) (pw_and1 (pt_cmpR (r := rNeD K) (op_neD hr.units) (pv 10) (pe_lst pa_nil) (nomark _))))) (pss_cons (ps_asg (pe_ix (r := rIx K) ix_seq (pv 10) (pe_op op_mod (pe_op op_fdiv (pv 4) pe_int) (pe_callB (r := rLenK K) call_len_seq (by rfl) T.z_len (by decide +kernel) (pa_cons (pv 10) pa_nil))) (fun _ _ => rfl)) (pg_tup (by rfl) (pgs_cons (pg_name (i := 7) sc__law_joined.nd rfl (by first | exact .inl rfl | exact .inr rfl)) (pgs_cons (pg_name (i := 8) sc__law_joined.nd rfl (by first | exact .inl rfl | exact .inr rfl)) pgs_nil))))
    (pss_cons (ps_set (i := 9) sc__law_joined.nd rfl (by first | exact .inl rfl | exact .inr rfl) (pe_ix (r := rIx K) ix_seq (pe_lc (own := [("_law_a_name", 11), ("_law_also", 12)]) (g := gOf K (.many [11, 12])) rfl sc__law_joined.nd (pi_list (pe_ix (r := rIx K) ix_seq (pv 3) pe_int (fun _ _ => rfl))) (blkOk_by (own := [("_law_a_name", 11), ("_law_also", 12)]) (N := ["_law_draws_here", "_law_tongue", "_law_one", "_law_other", "_law_pick", "_law_heads_here", "_law_condition_here", "_law_x", "_law_kind_here", "_law_y", "_law_some", "_law_a_name", "_law_also"]) (sc := defScope s__law_joined) (by decide +kernel)) (fun _ _ _ _ _ => (pg_tup (by rfl) (pgs_cons (pg_name (i := 11) sc__law_joined.nd rfl (by first | exact .inl rfl | exact .inr rfl)) (pgs_cons (pg_name (i := 12) sc__law_joined.nd rfl (by first | exact .inl rfl | exact .inr rfl)) pgs_nil)))) (fun _ _ _ _ _ => (pts_one (pt_cmpR op_eq (pv 12) (pv 8) (nomark _)))) (fun _ _ _ _ _ => (pv 11))) pe_int (fun _ _ => rfl)))
    (pss_one (ps_set (i := 6) sc__law_joined.nd rfl (by first | exact .inl rfl | exact .inr rfl) (pe_tup (pa_cons pe_str (pa_cons (pe_tup (pa_cons pe_str (pa_cons (pe_tup (pa_cons pe_str (pa_cons (pv 7) pa_nil))) (pa_cons (pe_tup (pa_cons pe_str (pa_cons (pv 9) pa_nil))) pa_nil)))) (pa_cons (pv 6) pa_nil)))))))) pss_nil)
    (pss_one (ps_ret (pe_tup (pa_cons (pe_tup (pa_cons pe_str (pa_cons (pe_ix (r := rIx K) ix_seq (pv 2) pe_int (fun _ _ => rfl)) (pa_cons (pe_ix (r := rIx K) ix_seq (pv 3) pe_int (fun _ _ => rfl)) (pa_cons (pv 6) pa_nil))))) (pa_cons (pe_op op_cat (pe_ix (r := rIx K) ix_seq (pv 2) pe_int (fun _ _ => rfl)) (pe_ix (r := rIx K) ix_seq (pv 3) pe_int (fun _ _ => rfl))) pa_nil)))))))))), ?_⟩
  exact (ss_seq (ss_set (tg := .one 4) (se_call (sa_cons se_var sa_nil)))
    (ss_seq (ss_set (tg := .one 5) (se_op os_ix (se_lst (sa_cons (se_op os_cat (se_op os_ix se_var se_int) (se_op os_ix se_var se_int)) (sa_cons (se_op os_ix se_var se_int) (sa_cons (se_op os_ix se_var se_int) (sa_cons (se_op os_cat (se_op os_ix se_var se_int) (se_op os_ix se_var se_int)) sa_nil))))) (se_op os_mod se_var se_int)))
    (ss_seq (ss_set (tg := .one 6) (se_call (sa_cons se_var (sa_cons se_var (sa_cons se_var sa_nil)))))
    (ss_seq (ss_set (tg := .one 10) (se_lc (tg := (.many [7, 8])) (si_list (se_op os_ix se_var se_int)) (st_test (se_op os_in se_var (se_lc (tg := (.many [9, 12])) (si_list (se_op os_ix se_var se_int)) st_yes se_var))) (se_tup (sa_cons se_var (sa_cons se_var sa_nil)))))
    (ss_seq (ss_if (st_and (st_test (se_op os_eq (se_op os_mod (se_op os_fdiv se_var se_int) se_int) se_int)) (st_test (se_op os_neD se_var (se_lst sa_nil)))) (ss_seq (ss_set (tg := (.many [7, 8])) (se_op os_ix se_var (se_op os_mod (se_op os_fdiv se_var se_int) (se_cb cb_len (sa_cons se_var sa_nil)))))
    (ss_seq (ss_set (tg := .one 9) (se_op os_ix (se_lc (tg := (.many [11, 12])) (si_list (se_op os_ix se_var se_int)) (st_test (se_op os_eq se_var se_var)) se_var) se_int))
    (ss_set (tg := .one 6) (se_tup (sa_cons se_str (sa_cons (se_tup (sa_cons se_str (sa_cons (se_tup (sa_cons se_str (sa_cons se_var sa_nil))) (sa_cons (se_tup (sa_cons se_str (sa_cons se_var sa_nil))) sa_nil)))) (sa_cons se_var sa_nil))))))) ss_next)
    (ss_ret (se_tup (sa_cons (se_tup (sa_cons se_str (sa_cons (se_op os_ix se_var se_int) (sa_cons (se_op os_ix se_var se_int) (sa_cons se_var sa_nil))))) (sa_cons (se_op os_cat (se_op os_ix se_var se_int) (se_op os_ix se_var se_int)) sa_nil)))))))))
theorem ok__law_where_shaped {n : Nat} {S : Tb} (G : All P w K mg base T S n) : FnOk P w K mg base CX0 (n + 1) T.f__law_where_shaped T.fd__law_where_shaped ["_law_draws_here", "_law_tongue", "_law_tables", "_law_inner_here", "_law_way"] (spF K 5 (fnD 7 (b__law_where_shaped S))) := by
  refine fn_okN T.F__law_where_shaped sc__law_where_shaped rfl rfl fun cdv A outer s H E hr => ?_
  refine ⟨_, (pss_cons (ps_if (pt_cmpR op_eq (pv 4) pe_int (nomark _)) (pss_one (ps_set (i := 3) sc__law_where_shaped.nd rfl (by first | exact .inl rfl | exact .inr rfl) (pe_tup (pa_cons (pe_tup (pa_cons pe_str (pa_cons (pe_ix (r := rIx K) ix_seq (pv 3) pe_int (fun _ _ => rfl)) (pa_cons (pe_call G.G__law_odd hr (by rfl) T.g__law_odd T.F__law_odd.kp T.b__law_odd .nil pass0 (pa_cons (pv 0) (pa_cons (pv 1) (pa_cons (pe_ix (r := rIx K) ix_seq (pv 3) pe_int (fun _ _ => rfl)) pa_nil)))) pa_nil)))) (pa_cons (pe_ix (r := rIx K) ix_seq (pv 3) pe_int (fun _ _ => rfl)) pa_nil))))) pss_nil)
    (pss_cons (ps_if (pt_cmpR (r := rIn K false) op_in_seq (pv 4) (pe_lst (pa_cons pe_int (pa_cons pe_int pa_nil))) rfl) (pss_one (ps_set (i := 3) sc__law_where_shaped.nd rfl (by first | exact .inl rfl | exact .inr rfl) (pe_callX G.G__law_picked G.G__law_grouped hr T.F__law_picked.kp T.F__law_grouped.kp T.b__law_picked T.b__law_grouped (pe_ix (r := rIxL K) ix_list (pe_lst (pa_cons (pe_glob (v := .ref T.f__law_picked) (by rfl) T.g__law_picked rfl) (pa_cons (pe_glob (v := .ref T.f__law_grouped) (by rfl) T.g__law_grouped rfl) pa_nil))) (pe_op op_sub (pv 4) pe_int) (fun _ _ => rfl)) (pa_cons (pv 0) (pa_cons (pv 1) (pa_cons (pv 3) pa_nil)))))) pss_nil)
    (pss_cons (ps_if (pt_cmpR op_gt (pv 4) pe_int (nomark _)) (pss_one (ps_set (i := 3) sc__law_where_shaped.nd rfl (by first | exact .inl rfl | exact .inr rfl) (pe_call G.G__law_joined hr (by rfl) T.g__law_joined T.F__law_joined.kp T.b__law_joined .nil pass0 (pa_cons (pv 0) (pa_cons (pv 1) (pa_cons (pv 3) (pa_cons (pe_call G.G__law_inner hr (by rfl) T.g__law_inner T.F__law_inner.kp T.b__law_inner .nil pass0 (pa_cons (pv 0) (pa_cons (pv 1) (pa_cons (pv 2) (pa_cons pe_str pa_nil))))) pa_nil))))))) pss_nil)
    (pss_cons (ps_set (i := 5) sc__law_where_shaped.nd rfl (by first | exact .inl rfl | exact .inr rfl) (pe_ix (r := rIx K) ix_seq (pv 3) pe_int (fun _ _ => rfl)))
    (pss_cons (ps_if (pt_cmpR op_gt (pv 4) pe_int (nomark _)) (pss_one (ps_setLc (i := 5) (own := [("_law_head", 6)]) (g := gOf K (.one 6)) rfl sc__law_where_shaped.nd rfl rfl (sw_true rfl rfl rfl rfl) (pi_list (pe_ix (r := rIx K) ix_seq (pv 3) pe_int (fun _ _ => rfl))) (blkOk_by (own := [("_law_head", 6)]) (N := ["_law_draws_here", "_law_tongue", "_law_tables", "_law_inner_here", "_law_way", "_law_some", "_law_head"]) (sc := defScope s__law_where_shaped) (by decide +kernel)) (fun _ _ _ _ _ => (pg_name (i := 6) sc__law_where_shaped.nd rfl (by first | exact .inl rfl | exact .inr rfl))) (fun _ _ _ _ _ => (pts_one (pt_cmpR op_eq (pe_op op_mod (pe_call G.G__law_next hr (by rfl) T.g__law_next T.F__law_next.kp T.b__law_next .nil pass0 (pa_cons (pv 0) pa_nil)) pe_int) pe_int (nomark _)))) (fun _ _ _ _ _ => (pv 6)))) pss_nil)
    (pss_one (ps_ret (pe_tup (pa_cons (pe_tup (pa_cons pe_str (pa_cons (pe_ix (r := rIx K) ix_seq (pv 3) pe_int (fun _ _ => rfl)) (pa_cons (pe_call G.G__law_odd hr (by rfl) T.g__law_odd T.F__law_odd.kp T.b__law_odd .nil pass0 (pa_cons (pv 0) (pa_cons (pv 1) (pa_cons (pv 5) pa_nil)))) pa_nil)))) (pa_cons (pe_ix (r := rIx K) ix_seq (pv 3) pe_int (fun _ _ => rfl)) pa_nil)))))))))), ?_⟩
  exact (ss_seq (ss_if (st_test (se_op os_eq se_var se_int)) (ss_set (tg := .one 3) (se_tup (sa_cons (se_tup (sa_cons se_str (sa_cons (se_op os_ix se_var se_int) (sa_cons (se_call (sa_cons se_var (sa_cons se_var (sa_cons (se_op os_ix se_var se_int) sa_nil)))) sa_nil)))) (sa_cons (se_op os_ix se_var se_int) sa_nil)))) ss_next)
    (ss_seq (ss_if (st_test (se_op os_in se_var (se_lst (sa_cons se_int (sa_cons se_int sa_nil))))) (ss_set (tg := .one 3) (se_pick (se_op os_sub se_var se_int) (sa_cons se_var (sa_cons se_var (sa_cons se_var sa_nil))))) ss_next)
    (ss_seq (ss_if (st_test (se_op os_B0 se_var se_int)) (ss_set (tg := .one 3) (se_call (sa_cons se_var (sa_cons se_var (sa_cons se_var (sa_cons (se_call (sa_cons se_var (sa_cons se_var (sa_cons se_var (sa_cons se_str sa_nil))))) sa_nil)))))) ss_next)
    (ss_seq (ss_set (tg := .one 5) (se_op os_ix se_var se_int))
    (ss_seq (ss_if (st_test (se_op os_B0 se_var se_int)) (ss_set (tg := .one 5) (se_lc (tg := (.one 6)) (si_list (se_op os_ix se_var se_int)) (st_test (se_op os_eq (se_op os_mod (se_call (sa_cons se_var sa_nil)) se_int) se_int)) se_var)) ss_next)
    (ss_ret (se_tup (sa_cons (se_tup (sa_cons se_str (sa_cons (se_op os_ix se_var se_int) (sa_cons (se_call (sa_cons se_var (sa_cons se_var (sa_cons se_var sa_nil)))) sa_nil)))) (sa_cons (se_op os_ix se_var se_int) sa_nil)))))))))
theorem ok__law_shaped {n : Nat} {S : Tb} (G : All P w K mg base T S n) : FnOk P w K mg base CX0 (n + 1) T.f__law_shaped T.fd__law_shaped ["_law_draws_here", "_law_tongue", "_law_tables"] (spF K 3 (fnD 10 (b__law_shaped S))) := by
  refine fn_okN T.F__law_shaped sc__law_shaped rfl rfl fun cdv A outer s H E hr => ?_
  refine ⟨_, (pss_cons (ps_set (i := 3) sc__law_shaped.nd rfl (by first | exact .inl rfl | exact .inr rfl) (pe_call G.G__law_inner hr (by rfl) T.g__law_inner T.F__law_inner.kp T.b__law_inner .nil pass0 (pa_cons (pv 0) (pa_cons (pv 1) (pa_cons (pv 2) (pa_cons pe_str pa_nil))))))
    (pss_cons (ps_set (i := 4) sc__law_shaped.nd rfl (by first | exact .inl rfl | exact .inr rfl) (pe_op op_mod (pe_call G.G__law_next hr (by rfl) T.g__law_next T.F__law_next.kp T.b__law_next .nil pass0 (pa_cons (pv 0) pa_nil)) pe_int))
    (pss_cons (ps_if (pt_cmpR op_lt (pv 4) pe_int (nomark _)) (pss_one (ps_ret (pe_call G.G__law_where_shaped hr (by rfl) T.g__law_where_shaped T.F__law_where_shaped.kp T.b__law_where_shaped .nil pass0 (pa_cons (pv 0) (pa_cons (pv 1) (pa_cons (pv 2) (pa_cons (pv 3) (pa_cons (pv 4) pa_nil)))))))) pss_nil)
    (pss_cons (ps_if (pt_cmpR op_lt (pv 4) pe_int (nomark _)) (pss_one (ps_ret (pe_call G.G__law_picked hr (by rfl) T.g__law_picked T.F__law_picked.kp T.b__law_picked .nil pass0 (pa_cons (pv 0) (pa_cons (pv 1) (pa_cons (pe_ix (r := rIx K) ix_seq (pe_lst (pa_cons (pv 3) (pa_cons (pe_call G.G__law_picked hr (by rfl) T.g__law_picked T.F__law_picked.kp T.b__law_picked .nil pass0 (pa_cons (pv 0) (pa_cons (pv 1) (pa_cons (pv 3) pa_nil)))) pa_nil))) (pe_op op_sub (pv 4) pe_int) (fun _ _ => rfl)) pa_nil)))))) pss_nil)
    (pss_cons (ps_if (pt_cmpR op_eq (pv 4) pe_int (nomark _)) (pss_cons (ps_set (i := 5) sc__law_shaped.nd rfl (by first | exact .inl rfl | exact .inr rfl) (pe_ix (r := rIx K) ix_seq (pe_lst (pa_cons (pe_tup (pa_cons (pe_tup (pa_cons pe_str (pa_cons (pe_ix (r := rIx K) ix_seq (pv 3) pe_int (fun _ _ => rfl)) pa_nil))) (pa_cons (pe_ix (r := rIx K) ix_seq (pv 3) pe_int (fun _ _ => rfl)) pa_nil))) (pa_cons (pe_call G.G__law_grouped hr (by rfl) T.g__law_grouped T.F__law_grouped.kp T.b__law_grouped .nil pass0 (pa_cons (pv 0) (pa_cons (pv 1) (pa_cons (pv 3) pa_nil)))) pa_nil))) (pe_op op_mod (pe_call G.G__law_next hr (by rfl) T.g__law_next T.F__law_next.kp T.b__law_next .nil pass0 (pa_cons (pv 0) pa_nil)) pe_int) (fun _ _ => rfl)))
    (pss_one (ps_ret (pe_tup (pa_cons (pe_tup (pa_cons pe_str (pa_cons (pe_ix (r := rIx K) ix_seq (pv 5) pe_int (fun _ _ => rfl)) pa_nil))) (pa_cons (pe_ix (r := rIx K) ix_seq (pv 5) pe_int (fun _ _ => rfl)) pa_nil)))))) pss_nil)
    (pss_cons (ps_if (pt_cmpR op_eq (pv 4) pe_int (nomark _)) (pss_cons (ps_set (i := 5) sc__law_shaped.nd rfl (by first | exact .inl rfl | exact .inr rfl) (pe_call G.G__law_sorted hr (by rfl) T.g__law_sorted T.F__law_sorted.kp T.b__law_sorted .nil pass0 (pa_cons (pv 0) (pa_cons (pv 1) (pa_cons (pv 3) pa_nil)))))
    (pss_one (ps_ret (pe_ix (r := rIx K) ix_seq (pe_lst (pa_cons (pe_tup (pa_cons (pe_tup (pa_cons pe_str (pa_cons (pe_ix (r := rIx K) ix_seq (pv 5) pe_int (fun _ _ => rfl)) pa_nil))) (pa_cons (pe_ix (r := rIx K) ix_seq (pv 5) pe_int (fun _ _ => rfl)) pa_nil))) (pa_cons (pe_call G.G__law_picked hr (by rfl) T.g__law_picked T.F__law_picked.kp T.b__law_picked .nil pass0 (pa_cons (pv 0) (pa_cons (pv 1) (pa_cons (pv 5) pa_nil)))) pa_nil))) (pe_op op_mod (pe_call G.G__law_next hr (by rfl) T.g__law_next T.F__law_next.kp T.b__law_next .nil pass0 (pa_cons (pv 0) pa_nil)) pe_int) (fun _ _ => rfl))))) pss_nil)
    (pss_cons (ps_if (pt_cmpR op_eq (pv 4) pe_int (nomark _)) (pss_cons (ps_set (i := 6) sc__law_shaped.nd rfl (by first | exact .inl rfl | exact .inr rfl) (pe_tup (pa_cons pe_str (pa_cons (pe_ix (r := rIx K) ix_seq (pv 3) pe_int (fun _ _ => rfl)) (pa_cons (pe_call G.G__law_odd hr (by rfl) T.g__law_odd T.F__law_odd.kp T.b__law_odd .nil pass0 (pa_cons (pv 0) (pa_cons (pv 1) (pa_cons (pe_ix (r := rIx K) ix_seq (pv 3) pe_int (fun _ _ => rfl)) pa_nil)))) pa_nil)))))
    (pss_one (ps_ret (pe_tup (pa_cons (pe_tup (pa_cons pe_str (pa_cons (pe_tup (pa_cons pe_str (pa_cons (pe_ix (r := rIx K) ix_seq (pv 3) pe_int (fun _ _ => rfl)) (pa_cons (pv 6) pa_nil)))) (pa_cons (pe_ix (r := rIx K) ix_seq (pe_lst (pa_cons (pv 6) (pa_cons (pe_ix (r := rIx K) ix_seq (pv 3) pe_int (fun _ _ => rfl)) pa_nil))) (pe_op op_fdiv (pe_op op_mod (pe_call G.G__law_next hr (by rfl) T.g__law_next T.F__law_next.kp T.b__law_next .nil pass0 (pa_cons (pv 0) pa_nil)) pe_int) pe_int) (fun _ _ => rfl)) pa_nil)))) (pa_cons (pe_ix (r := rIx K) ix_seq (pv 3) pe_int (fun _ _ => rfl)) pa_nil)))))) pss_nil)
    (pss_cons (ps_setLc (i := 7) (own := [("_law_a_name", 9)]) (g := gOf K (.one 9)) (tt := tYes) rfl sc__law_shaped.nd rfl rfl (sw_true rfl rfl rfl rfl) (pi_str pe_str) (blkOk_by (own := [("_law_a_name", 9)]) (N := ["_law_draws_here", "_law_tongue", "_law_tables", "_law_inner_here", "_law_way", "_law_some", "_law_other", "_law_others", "_law_told", "_law_a_name"]) (sc := defScope s__law_shaped) (by decide +kernel)) (fun _ _ _ _ _ => (pg_name (i := 9) sc__law_shaped.nd rfl (by first | exact .inl rfl | exact .inr rfl))) (fun _ _ _ _ _ => pts_nil) (fun _ _ _ _ _ => (pe_call G.G__law_inner hr (by rfl) T.g__law_inner T.F__law_inner.kp T.b__law_inner .nil pass0 (pa_cons (pv 0) (pa_cons (pv 1) (pa_cons (pv 2) (pa_cons (pv 9) pa_nil)))))))
    (pss_cons (ps_if (pt_cmpR op_eq (pv 4) pe_int (nomark _)) (pss_one (ps_ret (pe_call G.G__law_joined hr (by rfl) T.g__law_joined T.F__law_joined.kp T.b__law_joined .nil pass0 (pa_cons (pv 0) (pa_cons (pv 1) (pa_cons (pe_call G.G__law_joined hr (by rfl) T.g__law_joined T.F__law_joined.kp T.b__law_joined .nil pass0 (pa_cons (pv 0) (pa_cons (pv 1) (pa_cons (pv 3) (pa_cons (pe_ix (r := rIx K) ix_seq (pv 7) pe_int (fun _ _ => rfl)) pa_nil))))) (pa_cons (pe_ix (r := rIx K) ix_seq (pv 7) pe_int (fun _ _ => rfl)) pa_nil))))))) pss_nil)
    (pss_cons (ps_if (pt_cmpR op_eq (pv 4) pe_int (nomark _)) (pss_one (ps_ret (pe_call G.G__law_joined hr (by rfl) T.g__law_joined T.F__law_joined.kp T.b__law_joined .nil pass0 (pa_cons (pv 0) (pa_cons (pv 1) (pa_cons (pv 3) (pa_cons (pe_call G.G__law_joined hr (by rfl) T.g__law_joined T.F__law_joined.kp T.b__law_joined .nil pass0 (pa_cons (pv 0) (pa_cons (pv 1) (pa_cons (pe_ix (r := rIx K) ix_seq (pv 7) pe_int (fun _ _ => rfl)) (pa_cons (pe_ix (r := rIx K) ix_seq (pv 7) pe_int (fun _ _ => rfl)) pa_nil))))) pa_nil))))))) pss_nil)
    (pss_cons (ps_set (i := 8) sc__law_shaped.nd rfl (by first | exact .inl rfl | exact .inr rfl) (pe_call G.G__law_joined hr (by rfl) T.g__law_joined T.F__law_joined.kp T.b__law_joined .nil pass0 (pa_cons (pv 0) (pa_cons (pv 1) (pa_cons (pv 3) (pa_cons (pe_ix (r := rIx K) ix_seq (pv 7) pe_int (fun _ _ => rfl)) pa_nil))))))
    (pss_one (ps_ret (pe_tup (pa_cons (pe_op (r := rCatA K) op_catA (pe_op (r := rCatA K) op_catA (pe_op (r := rRep01 K) op_rep01 (pe_tup (pa_cons pe_str pa_nil)) (pe_callTy call_int1 (by rfl) T.z_int (by decide +kernel) (pa_cons (pe_cmpR op_eq (pv 1) pe_str (nomark _)) pa_nil))) (pe_op (r := rRep01 K) op_rep01 (pe_tup (pa_cons pe_str pa_nil)) (pe_callTy call_int1 (by rfl) T.z_int (by decide +kernel) (pa_cons (pe_cmpR op_eq (pv 1) pe_str (nomark _)) pa_nil)))) (pe_slice (r := rSlA K) sl_tupA (pe_ix (r := rIx K) ix_seq (pv 8) pe_int (fun _ _ => rfl)) (po_some pe_int) po_none)) (pa_cons (pe_ix (r := rIx K) ix_seq (pv 8) pe_int (fun _ _ => rfl)) pa_nil)))))))))))))))), ?_⟩
  exact (ss_seq (ss_set (tg := .one 3) (se_call (sa_cons se_var (sa_cons se_var (sa_cons se_var (sa_cons se_str sa_nil))))))
    (ss_seq (ss_set (tg := .one 4) (se_op os_mod (se_call (sa_cons se_var sa_nil)) se_int))
    (ss_seq (ss_if (st_test (se_op os_B0 se_var se_int)) (ss_ret (se_call (sa_cons se_var (sa_cons se_var (sa_cons se_var (sa_cons se_var (sa_cons se_var sa_nil))))))) ss_next)
    (ss_seq (ss_if (st_test (se_op os_B0 se_var se_int)) (ss_ret (se_call (sa_cons se_var (sa_cons se_var (sa_cons (se_op os_ix (se_lst (sa_cons se_var (sa_cons (se_call (sa_cons se_var (sa_cons se_var (sa_cons se_var sa_nil)))) sa_nil))) (se_op os_sub se_var se_int)) sa_nil))))) ss_next)
    (ss_seq (ss_if (st_test (se_op os_eq se_var se_int)) (ss_seq (ss_set (tg := .one 5) (se_op os_ix (se_lst (sa_cons (se_tup (sa_cons (se_tup (sa_cons se_str (sa_cons (se_op os_ix se_var se_int) sa_nil))) (sa_cons (se_op os_ix se_var se_int) sa_nil))) (sa_cons (se_call (sa_cons se_var (sa_cons se_var (sa_cons se_var sa_nil)))) sa_nil))) (se_op os_mod (se_call (sa_cons se_var sa_nil)) se_int)))
    (ss_ret (se_tup (sa_cons (se_tup (sa_cons se_str (sa_cons (se_op os_ix se_var se_int) sa_nil))) (sa_cons (se_op os_ix se_var se_int) sa_nil))))) ss_next)
    (ss_seq (ss_if (st_test (se_op os_eq se_var se_int)) (ss_seq (ss_set (tg := .one 5) (se_call (sa_cons se_var (sa_cons se_var (sa_cons se_var sa_nil)))))
    (ss_ret (se_op os_ix (se_lst (sa_cons (se_tup (sa_cons (se_tup (sa_cons se_str (sa_cons (se_op os_ix se_var se_int) sa_nil))) (sa_cons (se_op os_ix se_var se_int) sa_nil))) (sa_cons (se_call (sa_cons se_var (sa_cons se_var (sa_cons se_var sa_nil)))) sa_nil))) (se_op os_mod (se_call (sa_cons se_var sa_nil)) se_int)))) ss_next)
    (ss_seq (ss_if (st_test (se_op os_eq se_var se_int)) (ss_seq (ss_set (tg := .one 6) (se_tup (sa_cons se_str (sa_cons (se_op os_ix se_var se_int) (sa_cons (se_call (sa_cons se_var (sa_cons se_var (sa_cons (se_op os_ix se_var se_int) sa_nil)))) sa_nil)))))
    (ss_ret (se_tup (sa_cons (se_tup (sa_cons se_str (sa_cons (se_tup (sa_cons se_str (sa_cons (se_op os_ix se_var se_int) (sa_cons se_var sa_nil)))) (sa_cons (se_op os_ix (se_lst (sa_cons se_var (sa_cons (se_op os_ix se_var se_int) sa_nil))) (se_op os_fdiv (se_op os_mod (se_call (sa_cons se_var sa_nil)) se_int) se_int)) sa_nil)))) (sa_cons (se_op os_ix se_var se_int) sa_nil))))) ss_next)
    (ss_seq (ss_set (tg := .one 7) (se_lc (tg := (.one 9)) (si_str se_str) st_yes (se_call (sa_cons se_var (sa_cons se_var (sa_cons se_var (sa_cons se_var sa_nil)))))))
    (ss_seq (ss_if (st_test (se_op os_eq se_var se_int)) (ss_ret (se_call (sa_cons se_var (sa_cons se_var (sa_cons (se_call (sa_cons se_var (sa_cons se_var (sa_cons se_var (sa_cons (se_op os_ix se_var se_int) sa_nil))))) (sa_cons (se_op os_ix se_var se_int) sa_nil)))))) ss_next)
    (ss_seq (ss_if (st_test (se_op os_eq se_var se_int)) (ss_ret (se_call (sa_cons se_var (sa_cons se_var (sa_cons se_var (sa_cons (se_call (sa_cons se_var (sa_cons se_var (sa_cons (se_op os_ix se_var se_int) (sa_cons (se_op os_ix se_var se_int) sa_nil))))) sa_nil)))))) ss_next)
    (ss_seq (ss_set (tg := .one 8) (se_call (sa_cons se_var (sa_cons se_var (sa_cons se_var (sa_cons (se_op os_ix se_var se_int) sa_nil))))))
    (ss_ret (se_tup (sa_cons (se_op os_catT (se_op os_catT (se_op os_rep (se_tup (sa_cons se_str sa_nil)) (se_cb cb_int (sa_cons (se_op os_eq se_var se_str) sa_nil))) (se_op os_rep (se_tup (sa_cons se_str sa_nil)) (se_cb cb_int (sa_cons (se_op os_eq se_var se_str) sa_nil)))) (se_sl ss_T (se_op os_ix se_var se_int) (so_some se_int) so_none)) (sa_cons (se_op os_ix se_var se_int) sa_nil)))))))))))))))
theorem ok__law_counted {n : Nat} {S : Tb} (G : All P w K mg base T S n) : FnOk P w K mg base CX0 (n + 1) T.f__law_counted T.fd__law_counted ["_law_thing"] (spF K 1 (fnD 5 (b__law_counted S))) := by
  refine fn_okN T.F__law_counted sc__law_counted rfl rfl fun cdv A outer s H E hr => ?_
  refine ⟨_, (pss_cons (ps_set (i := 1) sc__law_counted.nd rfl (by first | exact .inl rfl | exact .inr rfl) (pe_lst (pa_cons pe_str (pa_cons pe_str (pa_cons pe_str (pa_cons pe_str (pa_cons pe_str (pa_cons pe_str (pa_cons pe_str (pa_cons pe_str (pa_cons pe_str (pa_cons pe_str (pa_cons pe_str (pa_cons pe_str (pa_cons pe_str pa_nil)))))))))))))))
    (pss_cons (ps_set (i := 1) sc__law_counted.nd rfl (by first | exact .inl rfl | exact .inr rfl) (pe_op op_cat (pv 1) (pe_lst (pa_cons pe_str (pa_cons pe_str (pa_cons pe_str (pa_cons pe_str (pa_cons pe_str (pa_cons pe_str (pa_cons pe_str (pa_cons pe_str (pa_cons pe_str (pa_cons pe_str (pa_cons pe_str pa_nil))))))))))))))
    (pss_cons (ps_set (i := 1) sc__law_counted.nd rfl (by first | exact .inl rfl | exact .inr rfl) (pe_op op_cat (pv 1) (pe_lst (pa_cons pe_str (pa_cons pe_str (pa_cons pe_str (pa_cons pe_str (pa_cons pe_str (pa_cons pe_str (pa_cons pe_str (pa_cons pe_str pa_nil)))))))))))
    (pss_cons (ps_set (i := 2) sc__law_counted.nd rfl (by first | exact .inl rfl | exact .inr rfl) (pe_lst (pa_cons pe_str (pa_cons pe_str (pa_cons pe_str (pa_cons pe_str (pa_cons pe_str (pa_cons pe_str (pa_cons pe_str (pa_cons pe_str (pa_cons pe_str (pa_cons pe_str (pa_cons pe_str pa_nil)))))))))))))
    (pss_cons (ps_if (PW.pt (pw_or (pt_not (pt_val (pe_callB (r := rIsi K) call_isi (by rfl) T.z_isinstance (by decide +kernel) (pa_cons (pv 0) (pa_cons (pe_bltn (v := .ty "tuple") (u := .type "tuple") (by rfl) T.z_tuple (by decide +kernel) rfl) pa_nil))))) (pw_or1 (pt_cmpR (r := rEqD K) (op_eqD hr.units) (pv 0) (pe_tup pa_nil) (nomark _))))) (pss_one (ps_ret pe_int)) pss_nil)
    (pss_cons (ps_if (pt_cmpR (r := rInD K) (op_inD (hu65 hr)) (pe_ix (r := rIx K) ix_seq (pv 0) pe_int (fun _ _ => rfl)) (pe_lst (pa_cons pe_str (pa_cons pe_str (pa_cons pe_str (pa_cons pe_str (pa_cons pe_str pa_nil)))))) rfl) (pss_one (ps_ret pe_int)) pss_nil)
    (pss_cons (ps_if (PW.pt (pw_and (pt_cmpR (r := rEqD K) (op_eqD hr.units) (pe_ix (r := rIx K) ix_seq (pv 0) pe_int (fun _ _ => rfl)) pe_str (nomark _)) (pw_and1 (pt_cmpR op_eq (pe_callB (r := rLenK K) call_len_seq (by rfl) T.z_len (by decide +kernel) (pa_cons (pv 0) pa_nil)) pe_int (nomark _))))) (pss_one (ps_ret pe_int)) pss_nil)
    (pss_cons (ps_set (i := 3) sc__law_counted.nd rfl (by first | exact .inl rfl | exact .inr rfl) (pe_callB (r := rSum K) (cr_sum rfl) (by rfl) T.z_sum (by decide +kernel) (pa_cons (pe_lc (own := [("_law_part", 4)]) (g := gOf K (.one 4)) (tt := tYes) rfl sc__law_counted.nd (pi_tup (pv 0)) (blkOk_by (own := [("_law_part", 4)]) (N := ["_law_thing", "_law_words", "_law_questions", "_law_told", "_law_part"]) (sc := defScope s__law_counted) (by decide +kernel)) (fun _ _ _ _ _ => (pg_name (i := 4) sc__law_counted.nd rfl (by first | exact .inl rfl | exact .inr rfl))) (fun _ _ _ _ _ => pts_nil) (fun _ _ _ _ _ => (pe_call G.G__law_counted hr (by rfl) T.g__law_counted T.F__law_counted.kp T.b__law_counted .nil pass0 (pa_cons (pv 4) pa_nil)))) pa_nil)))
    (pss_cons (ps_if (PW.pt (pw_and (pt_val (pe_callB (r := rIsi K) call_isi (by rfl) T.z_isinstance (by decide +kernel) (pa_cons (pe_ix (r := rIx K) ix_seq (pv 0) pe_int (fun _ _ => rfl)) (pa_cons (pe_bltn (v := .ty "str") (u := .type "str") (by rfl) T.z_str (by decide +kernel) rfl) pa_nil)))) (pw_and1 (pt_cmpR (r := rIn K false) op_in_seq (pe_ix (r := rIx K) ix_seq (pv 0) pe_int (fun _ _ => rfl)) (pv 1) rfl)))) (pss_one (ps_ret (pe_op op_add (pv 3) pe_int))) pss_nil)
    (pss_one (ps_ret (pe_op op_add (pv 3) (pe_op op_mul pe_int (pe_callTy call_int1 (by rfl) T.z_int (by decide +kernel) (pa_cons (pe_and (pe_callB (r := rIsi K) call_isi (by rfl) T.z_isinstance (by decide +kernel) (pa_cons (pe_ix (r := rIx K) ix_seq (pv 0) pe_int (fun _ _ => rfl)) (pa_cons (pe_bltn (v := .ty "str") (u := .type "str") (by rfl) T.z_str (by decide +kernel) rfl) pa_nil))) (pe_one (pe_cmpR (r := rIn K false) op_in_seq (pe_ix (r := rIx K) ix_seq (pv 0) pe_int (fun _ _ => rfl)) (pv 2) rfl))) pa_nil))))))))))))))), ?_⟩
  exact (ss_seq (ss_set (tg := .one 1) (se_lst (sa_cons se_str (sa_cons se_str (sa_cons se_str (sa_cons se_str (sa_cons se_str (sa_cons se_str (sa_cons se_str (sa_cons se_str (sa_cons se_str (sa_cons se_str (sa_cons se_str (sa_cons se_str (sa_cons se_str sa_nil)))))))))))))))
    (ss_seq (ss_set (tg := .one 1) (se_op os_cat se_var (se_lst (sa_cons se_str (sa_cons se_str (sa_cons se_str (sa_cons se_str (sa_cons se_str (sa_cons se_str (sa_cons se_str (sa_cons se_str (sa_cons se_str (sa_cons se_str (sa_cons se_str sa_nil))))))))))))))
    (ss_seq (ss_set (tg := .one 1) (se_op os_cat se_var (se_lst (sa_cons se_str (sa_cons se_str (sa_cons se_str (sa_cons se_str (sa_cons se_str (sa_cons se_str (sa_cons se_str (sa_cons se_str sa_nil)))))))))))
    (ss_seq (ss_set (tg := .one 2) (se_lst (sa_cons se_str (sa_cons se_str (sa_cons se_str (sa_cons se_str (sa_cons se_str (sa_cons se_str (sa_cons se_str (sa_cons se_str (sa_cons se_str (sa_cons se_str (sa_cons se_str sa_nil)))))))))))))
    (ss_seq (ss_if (st_or (st_not (st_b (se_isi se_var))) (st_test (se_op os_eqD se_var (se_tup sa_nil)))) (ss_ret se_int) ss_next)
    (ss_seq (ss_if (st_test (se_op os_inD (se_op os_ix se_var se_int) (se_lst (sa_cons se_str (sa_cons se_str (sa_cons se_str (sa_cons se_str (sa_cons se_str sa_nil)))))))) (ss_ret se_int) ss_next)
    (ss_seq (ss_if (st_and (st_test (se_op os_eqD (se_op os_ix se_var se_int) se_str)) (st_test (se_op os_eq (se_cb cb_len (sa_cons se_var sa_nil)) se_int))) (ss_ret se_int) ss_next)
    (ss_seq (ss_set (tg := .one 3) (se_cb cb_sum (sa_cons (se_lc (tg := (.one 4)) (si_tup se_var) st_yes (se_call (sa_cons se_var sa_nil))) sa_nil)))
    (ss_seq (ss_if (st_and (st_b (se_isi (se_op os_ix se_var se_int))) (st_test (se_op os_in (se_op os_ix se_var se_int) se_var))) (ss_ret (se_op os_add se_var se_int)) ss_next)
    (ss_ret (se_op os_add se_var (se_op os_mul se_int (se_cb cb_int (sa_cons (se_and (se_isi (se_op os_ix se_var se_int)) (se_op os_in (se_op os_ix se_var se_int) se_var)) sa_nil))))))))))))))
end
end K60
set_option Elab.async false
set_option linter.all false
set_option maxRecDepth 100000
set_option maxHeartbeats 2000000
namespace K60
open PySem L2 Lay DL
theorem modB (a : Int) {m : Int} (h : 0 < m) (h2 : m < 2 ^ 64) : -(2 ^ 64) < a % m ∧ a % m < 2 ^ 64 := by
  have h3 := Int.emod_nonneg a (show m ≠ 0 by omega)
  have h4 := Int.emod_lt_of_pos a h
  omega
section
variable {P : Program} {w : World} {K : PySem.W.Frag} {mg : Str → Option Value} {base : Heap} (T : Tx K mg w)
theorem ok__law_next : FnOk P w K mg base CX0 1 T.f__law_next T.fd__law_next ["_law_draws_here"] (spF K 1 next) := by
  refine T.F__law_next.ok sc__law_next (fun vs H Q E h => ?_) (fun cdv A outer s H vs Q E hr h => ?_)
  · obtain ⟨av, dr, s, ds, d, s', a, r, hl, _⟩ := h
    rw [r.len, hl]
    rfl
  · obtain ⟨av, d, s0, ds, dd, s', a, r, hl, e, q⟩ := h
    unfold next at e
    split at e
    · split at e
      · rename_i hk
        obtain ⟨rfl, rfl⟩ : D.int (nextF s0).1 = dd ∧ (nextF s0).2 = s' := by cases e; exact ⟨rfl, rfl⟩
        obtain ⟨v, rfl, rv⟩ := r.one
        have hv := rv.drw_eq
        subst hv
        have hd := a.drw
        have hk' : s0.k ≤ 1000000 := hk
        clear e hk
        obtain ⟨n, k, b⟩ := s0
        have hk : k ≤ 1000000 := hk'
        clear hk'
        refine ⟨_, (pss_cons (ps_asg (pe_op op_add (pe_ix (r := rIxL K) ix_list (pv 0) pe_int (fun _ _ => rfl)) pe_int) (pg_sub (pv 0) pe_int set_list))
    (pss_cons (ps_set (i := 1) sc__law_next.nd rfl (.inl rfl) (pe_ix (r := rIxL K) ix_list (pv 0) pe_int (fun _ _ => rfl)))
    (pss_cons (ps_if (pt_val (pe_ix (r := rIxL K) ix_list (pv 0) pe_int (fun _ _ => rfl))) (pss_cons (ps_set (i := 2) sc__law_next.nd rfl (.inl rfl) (pe_op op_mod (pe_ix (r := rIxL K) ix_list (pv 0) pe_int (fun _ _ => rfl)) (pe_op op_pow pe_int pe_int)))
    (pss_cons (ps_asg (pe_op op_fdiv (pe_ix (r := rIxL K) ix_list (pv 0) pe_int (fun _ _ => rfl)) (pe_op op_pow pe_int pe_int)) (pg_sub (pv 0) pe_int set_list))
    (pss_one (ps_ret (pv 2))))) pss_nil)
    (pss_cons (ps_set (i := 2) sc__law_next.nd rfl (.inl rfl) (pe_op op_mod (pe_op op_mul (pe_op op_add (pe_op op_add (pe_op op_mod (pe_ix (r := rIxL K) ix_list (pv 0) pe_int (fun _ _ => rfl)) pe_int) (pe_op op_mul (pe_op op_mul (pv 1) (pv 1)) pe_int)) (pv 1)) pe_int) pe_int))
    (pss_cons (ps_set (i := 2) sc__law_next.nd rfl (.inl rfl) (pe_op op_mod (pe_op op_mul (pv 2) (pv 2)) pe_int))
    (pss_one (ps_ret (pe_op op_fdiv (pe_op op_mod (pe_op op_mul (pv 2) (pe_op op_add (pv 2) pe_int)) pe_int) pe_int)))))))), ?_⟩
        refine ⟨_, rfl, d, _, _, _, rfl, rfl, .inl (.inl hd), atI_nat (j := 1) rfl, _, _, rfl, rfl, _, rfl, d, _, _, 1, rfl, rfl, hd, rfl, ?_⟩
        have k1 : Go d H (upd H d (.lst [.int n, .int ((k : Int) + 1), .bl b])) := ⟨Kp.upd rfl, .upd⟩
        have hd1 : (upd H d (.lst [.int n, .int ((k : Int) + 1), .bl b])) d = some (.lst [.int n, .int ((k : Int) + 1), .bl b]) := upd_same
        show tSeq _ _ _ _ (upd H d (.lst [.int n, .int ((k : Int) + 1), .bl b]))
        generalize upd H d (.lst [.int n, .int ((k : Int) + 1), .bl b]) = H1 at k1 hd1 ⊢
        refine ⟨_, rfl, d, _, _, _, rfl, rfl, .inl (.inl hd1), atI_nat (j := 1) rfl, ?_⟩
        refine ⟨_, rfl, d, _, _, _, rfl, rfl, .inl (.inl hd1), atI_nat (j := 2) rfl, _, rfl, ?_⟩
        cases b with
        | true =>
          refine iteT ⟨_, rfl, d, _, _, _, rfl, rfl, .inl (.inl hd1), atI_nat (j := 0) rfl, _, _, rfl, rfl, ⟨by decide, by decide, by decide⟩, _, _, rfl, rfl, (by show (0 : Int) < 10 ^ 6; decide), ?_⟩
          refine ⟨_, rfl, d, _, _, _, rfl, rfl, .inl (.inl hd1), atI_nat (j := 0) rfl, _, _, rfl, rfl, ⟨by decide, by decide, by decide⟩, _, _, rfl, rfl, ⟨by decide, by decide⟩, _, rfl, d, _, _, 0, rfl, rfl, hd1, rfl, ?_⟩
          refine ⟨_, rfl, ?_⟩
          exact q (.int _) _ (k1.trans ⟨Kp.upd rfl, .upd⟩) upd_same (.int _)
        | false =>
          refine iteF ?_
          refine ⟨_, rfl, d, _, _, _, rfl, rfl, .inl (.inl hd1), atI_nat (j := 0) rfl, _, _, rfl, rfl, (by show (0 : Int) < 1000003; decide), _, rfl, _, rfl, _, _, rfl, rfl, .inl ⟨by omega, by omega⟩, _, _, rfl, rfl, .inr ⟨by decide, by decide⟩, _, _, rfl, rfl, _, rfl, _, _, rfl, rfl, _, _, rfl, rfl, .inr ⟨by decide, by decide⟩, _, _, rfl, rfl, (by show (0 : Int) < 2147483629; decide), ?_⟩
          refine ⟨_, rfl, _, rfl, _, _, rfl, rfl, .inl (modB _ (by decide) (by decide)), _, _, rfl, rfl, (by show (0 : Int) < 2147483587; decide), ?_⟩
          refine ⟨_, rfl, _, rfl, _, _, rfl, rfl, _, _, rfl, rfl, .inl (modB _ (by decide) (by decide)), _, _, rfl, rfl, (by show (0 : Int) < 2147483579; decide), _, _, rfl, rfl, ⟨by decide, by decide⟩, ?_⟩
          exact q (.int _) _ k1 hd1 (.int _)
      · cases e
    · cases e
theorem all_ok : ∀ n, All P w K mg base T (sem n) n
  | 0 => ⟨fn_none, fn_none, fn_none, fn_none, fn_none, fn_none, fn_none, fn_none, fn_none, fn_none, fn_none, fn_none, fn_none, fn_none, fn_none, fn_none, fn_none, fn_none, fn_none, fn_none, fn_none, fn_none⟩
  | n + 1 => ⟨ok_places_of T (all_ok n), ok_parts_of T (all_ok n), ok_paths T (all_ok n), ok_parts_of_question T (all_ok n), ok_own_terms T (all_ok n), ok_weight_of T (all_ok n), (ok__law_next T).mono (by omega), ok__law_kind T (all_ok n), ok__law_heads T (all_ok n), ok__law_leaf T (all_ok n), ok__law_term T (all_ok n), ok__law_condition T (all_ok n), ok__law_odd_term T (all_ok n), ok__law_odd T (all_ok n), ok__law_grouped T (all_ok n), ok__law_picked T (all_ok n), ok__law_sorted T (all_ok n), ok__law_inner T (all_ok n), ok__law_joined T (all_ok n), ok__law_where_shaped T (all_ok n), ok__law_shaped T (all_ok n), ok__law_counted T (all_ok n)⟩
end
end K60
set_option Elab.async false
set_option linter.all false
set_option maxRecDepth 100000
set_option maxHeartbeats 2000000
namespace K60
open PySem L2 Lay DL
local macro_rules
  | `(tactic| array_get_dec) => `(tactic| first
    | with_reducible refine Stp.go ?_
    | with_reducible refine wo_mod (by first | decide | omega) ?_
    | with_reducible refine wo_div (by first | decide | omega) ?_
    | with_reducible refine wo_pow19 ?_
    | with_reducible refine wo_pow (by decide) ?_
    | with_reducible refine wo_mul (by first | exact .inr (by decide) | exact .inl (by decide) | exact .inr (by omega) | exact .inl (by omega)) ?_
    | with_reducible refine wo_slS (by decide +kernel) ?_)
local macro_rules
  | `(tactic| array_mem_dec) => `(tactic| first
    | with_reducible refine wo_intC ?_
    | with_reducible refine sp_dec (fun _ => ?_) (fun _ => ?_)
    | with_reducible refine sp_ndec (fun _ => ?_) (fun _ => ?_)
    | with_reducible refine sp_not ?_
    | with_reducible refine sp_and (fun _ _ => ?_) (fun _ => ?_)
    | with_reducible refine sp_or (fun _ => ?_) (fun _ _ => ?_)
    | with_reducible exact AllOf.nil
    | with_reducible refine AllOf.cons ?_ ?_
    | with_reducible refine wo_ixL (by omega) (by simp only [List.length_cons, List.length_nil]; omega) (allIx ?_))
/-! ### what is drawn -/
def Wd (z : Str) : Prop := PyData.strOk z = true ∧ z.length ≤ 12
instance : DecidablePred Wd := fun z => inferInstanceAs (Decidable (_ ∧ _))
def words : List Str := ["col", "num", "text", "blank", "date", "plus", "minus", "times", "over", "rest", "joined", "size", "part", "or_else", "if", "let", "year", "month", "daily", "months", "later", "days", "blank_if", "yes", "no", "same", "less", "begins", "is_blank", "and", "or", "not"]
def quest : List Str := ["table", "where", "pick", "join", "left", "group", "sorted", "first", "with", "less_rows", "unlike"]
def Nm (z : Str) : Prop := Wd z ∧ z ∉ words ++ quest
instance : DecidablePred Nm := fun z => inferInstanceAs (Decidable (_ ∧ _))
def Atom (d : D) : Prop := (∃ z : Str, d = .str z ∧ Wd z) ∨ (∃ i : Int, d = .int i ∧ i.natAbs < 10 ^ 30)
def leaves : List Str := ["num", "text", "blank", "col", "date"]
def uns : List Str := ["size", "is_blank", "not"]
def bins : List Str := ["plus", "minus", "times", "over", "rest", "joined", "or_else", "months", "later", "blank_if", "same", "less", "begins", "and", "or"]
def tris : List Str := ["part", "if"]
inductive Tm : Nat → D → Prop
  | leaf {k : Nat} {w : Str} {xs : List D} : w ∈ leaves → AllOf Atom xs → xs.length ≤ 3 → Tm (k + 1) (.tup (.str w :: xs))
  | nul {k : Nat} {w : Str} : w ∈ (["yes", "no"] : List Str) → Tm (k + 1) (.tup [.str w])
  | un {k : Nat} {w : Str} {a : D} : w ∈ uns → Tm k a → Tm (k + 1) (.tup [.str w, a])
  | bin {k : Nat} {w : Str} {a b : D} : w ∈ bins → Tm k a → Tm k b → Tm (k + 1) (.tup [.str w, a, b])
  | tri {k : Nat} {w : Str} {a b c : D} : w ∈ tris → Tm k a → Tm k b → Tm k c → Tm (k + 1) (.tup [.str w, a, b, c])
  | lt {k : Nat} {x a b : D} : Atom x → Tm k a → Tm k b → Tm (k + 1) (.tup [.str "let", x, a, b])
theorem Tm.mono {k : Nat} {d : D} (h : Tm k d) : ∀ {j : Nat}, k ≤ j → Tm j d := by
  induction h with
  | leaf h1 h2 h3 => intro j hj; obtain ⟨j, rfl⟩ := Nat.exists_eq_add_of_lt hj; exact .leaf h1 h2 h3
  | nul h1 => intro j hj; obtain ⟨j, rfl⟩ := Nat.exists_eq_add_of_lt hj; exact .nul h1
  | un h1 _ ih => intro j hj; obtain ⟨j, rfl⟩ := Nat.exists_eq_add_of_lt hj; exact .un h1 (ih (by omega))
  | bin h1 _ _ ih ih2 => intro j hj; obtain ⟨j, rfl⟩ := Nat.exists_eq_add_of_lt hj; exact .bin h1 (ih (by omega)) (ih2 (by omega))
  | tri h1 _ _ _ ih ih2 ih3 => intro j hj; obtain ⟨j, rfl⟩ := Nat.exists_eq_add_of_lt hj; exact .tri h1 (ih (by omega)) (ih2 (by omega)) (ih3 (by omega))
  | lt h1 _ _ ih ih2 => intro j hj; obtain ⟨j, rfl⟩ := Nat.exists_eq_add_of_lt hj; exact .lt h1 (ih (by omega)) (ih2 (by omega))
/-- columns: names and kinds -/
def Hd (d : D) : Prop := ∃ a b : Str, d = .tup [.str a, .str b] ∧ Nm a ∧ Wd b
def Hs (c : Nat) (xs : List D) : Prop := (∀ d ∈ xs, Hd d) ∧ xs.length ≤ c
theorem Atom.str {z : Str} (h : Wd z) : Atom (.str z) := .inl ⟨z, rfl, h⟩
theorem Atom.int {i : Int} (h : i.natAbs < 10 ^ 30) : Atom (.int i) := .inr ⟨i, rfl, h⟩
theorem AllOf.mem {Q : D → Prop} {xs : List D} (h : AllOf Q xs) : ∀ x ∈ xs, Q x := by
  induction h with
  | nil => simp
  | cons h1 _ ih => simp only [List.mem_cons, forall_eq_or_imp]; exact ⟨h1, ih⟩
theorem Atom.pl {d : D} (h : Atom d) : pl d = true ∧ dep d = 0 := by
  rcases h with ⟨z, rfl, h⟩ | ⟨i, rfl, h⟩
  · exact ⟨h.1, rfl⟩
  · exact ⟨rfl, rfl⟩
theorem wds : ∀ z ∈ leaves ++ uns ++ bins ++ tris ++ (["yes", "no", "let"] : List Str), Wd z := by decide +kernel
theorem Tm.pl {k : Nat} {d : D} (h : Tm k d) : pl d = true ∧ dep d ≤ k := by
  induction h with
  | @leaf k w xs h1 h2 h3 =>
    have hw := wds w (by simp [h1])
    refine ⟨by simp only [DL.pl, DL.pls, Bool.and_eq_true]; exact ⟨hw.1, pls_iff.mpr fun x hx => (AllOf.mem h2 x hx).pl.1⟩, ?_⟩
    have : deps xs ≤ 0 := deps_le.mpr fun x hx => by rw [(AllOf.mem h2 x hx).pl.2]; exact Nat.le_refl _
    simp only [dep, deps]
    omega
  | @nul k w h1 =>
    have hw := wds w (by simp at h1; rcases h1 with h1 | h1 <;> simp [h1])
    exact ⟨by simp [DL.pl, DL.pls, hw.1], by simp [dep, deps]⟩
  | @un k w _ h1 _ ih =>
    have hw := wds w (by simp [h1])
    exact ⟨by simp [DL.pl, DL.pls, hw.1, ih.1], by simp only [dep, deps]; have := ih.2; omega⟩
  | @bin k w _ _ h1 _ _ ih ih2 =>
    have hw := wds w (by simp [h1])
    exact ⟨by simp [DL.pl, DL.pls, hw.1, ih.1, ih2.1], by simp only [dep, deps]; have := ih.2; have := ih2.2; omega⟩
  | @tri k w _ _ _ h1 _ _ _ ih ih2 ih3 =>
    have hw := wds w (by simp [h1])
    exact ⟨by simp [DL.pl, DL.pls, hw.1, ih.1, ih2.1, ih3.1], by simp only [dep, deps]; have := ih.2; have := ih2.2; have := ih3.2; omega⟩
  | lt h1 _ _ ih ih2 =>
    have hw : Wd "let" := by decide +kernel
    exact ⟨by simp [DL.pl, DL.pls, hw.1, ih.1, ih2.1, h1.pl.1], by simp only [dep, deps, h1.pl.2]; have := ih.2; have := ih2.2; omega⟩
local macro_rules
  | `(tactic| sizeOf_list_dec) => `(tactic| ((repeat' first
    | (exact Tm.mono (by assumption) (by omega))
    | (with_reducible refine Tm.leaf (by decide +kernel) ?_ (by simp only [List.length_cons, List.length_nil]; omega))
    | (with_reducible refine Tm.nul (by decide +kernel))
    | (with_reducible refine Tm.un (by decide +kernel) ?_)
    | (with_reducible refine Tm.bin (by decide +kernel) ?_ ?_)
    | (with_reducible refine Tm.tri (by decide +kernel) ?_ ?_ ?_)
    | (with_reducible refine Tm.lt ?_ ?_ ?_)
    | (with_reducible refine AllOf.cons ?_ ?_)
    | (with_reducible exact AllOf.nil)
    | (with_reducible refine Atom.str (by first | assumption | decide +kernel))
    | (with_reducible refine Atom.int (by omega))); done))
theorem w_next {n : Nat} {s : DS} {P : D → DS → Prop} (hn : 1 ≤ n) (h : s.k ≤ lim) (p : ∀ (r : Int) (s' : DS), 0 ≤ r → r < 1073741824 → s'.k = s.k + 1 → P (.int r) s') : Wp (sem n 6 [.drw] s) P := by
  obtain ⟨n, rfl⟩ := Nat.exists_eq_add_of_lt hn
  exact wp_next1 h p
theorem w_kind {n : Nat} {s : DS} {t : Str} {P : D → DS → Prop} (hn : 2 ≤ n) (h : s.k ≤ lim) (p : ∀ z s', Wd z → s'.k ≤ s.k + 1 → P (.str z) s') : Wp (sem n 7 [.drw, .str t] s) P := by
  obtain ⟨n, rfl⟩ := Nat.exists_eq_add_of_lt hn
  refine wp_fnL ?_
  unfold b__law_kind
  repeat array_get_dec
  refine w_next (by omega) h fun r s1 h0 h1 hk => ?_
  repeat array_get_dec
  array_mem_dec
  array_mem_dec
  all_goals
    repeat array_get_dec
    refine wo_ixL (by omega) (by simp only [List.length_cons, List.length_nil]; omega) (allIx ?_)
    repeat' array_mem_dec
    all_goals exact p _ _ (by decide +kernel) (by omega)
theorem Tm.col {a : Str} (h : Wd a) : Tm 1 (.tup [.str "col", .str a]) := .leaf (by decide +kernel) (.cons (.str h) .nil) (by simp)
theorem w_leaf {n : Nat} {s : DS} {t z : Str} {hs : List D} {P : D → DS → Prop} (hn : 2 ≤ n) (h : s.k ≤ lim) (hh : Hs 1000 hs) (hz : Wd z) (p : ∀ d s', Tm 1 d → s'.k ≤ s.k + 1 → P d s') : Wp (sem n 9 [.drw, .str t, .lst hs, .str z] s) P := by
  obtain ⟨n, rfl⟩ := Nat.exists_eq_add_of_lt hn
  refine wp_fnL ?_
  unfold b__law_leaf
  repeat array_get_dec
  refine (wp_lcInv (fun _ s' => s' = s) Hd (Tm 1) ?_ hs 0 s hh.1 rfl).mono fun ys s1 ⟨e1, hy, hl⟩ => ?_
  · rintro i d s0 ⟨a, b, rfl, ha, hb⟩ rfl
    repeat array_get_dec
    array_mem_dec
    · repeat array_get_dec
      exact Tm.col ha.1
    · rfl
  subst e1
  have hc : cmpb (.lst ys) := ⟨pls_iff.mpr fun x hx => (hy x hx).pl.1, Nat.succ_le_succ (deps_le.mpr fun x hx => Nat.le_trans (hy x hx).pl.2 (by decide : 1 ≤ 59))⟩
  refine ⟨le_line hl (Nat.le_trans hh.2 (by decide)), ?_⟩
  repeat array_get_dec
  refine w_next (by omega) h fun r s2 h0 h1 hk => ?_
  repeat array_get_dec
  refine wo_neD hc cmpb_nil ?_
  rw [eqD_nil]
  repeat array_get_dec
  refine sp_and (fun g1 _ => ?_) (fun _ => ?_)
  · have hne : 0 < ys.length := List.length_pos_iff.mpr (by simpa using g1)
    repeat array_get_dec
    exact wo_ixL (by apply Int.emod_nonneg; omega) (Int.emod_lt_of_pos _ (by omega)) fun j d _ e => p d s2 (hy d (List.mem_of_getElem? e)) (by omega)
  repeat array_get_dec
  array_mem_dec
  · repeat array_get_dec
    exact p _ _ (by sizeOf_list_dec) (by omega)
  repeat' first | array_get_dec | array_mem_dec
  all_goals try (exact p _ _ (by sizeOf_list_dec) (by omega))
/-- a term, a condition drawn: at fuel n, so deep, of depth a, by at most b draws, of at most c columns -/
def TermAt (n : Nat) (deep : Int) (a b c : Nat) : Prop := ∀ (s : DS) (t z : Str) (hs : List D) (P : D → DS → Prop), s.k + b ≤ lim → Hs c hs → Wd z → (∀ d s', Tm a d → s'.k ≤ s.k + b → P d s') → Wp (sem n 10 [.drw, .str t, .lst hs, .str z, .int deep] s) P
def CondAt (n : Nat) (deep : Int) (a b c : Nat) : Prop := ∀ (s : DS) (t : Str) (hs : List D) (P : D → DS → Prop), s.k + b ≤ lim → Hs c hs → (∀ d s', Tm a d → s'.k ≤ s.k + b → P d s') → Wp (sem n 11 [.drw, .str t, .lst hs, .int deep] s) P
theorem Hs.mono {c c' : Nat} {hs : List D} (h : Hs c hs) (hc : c ≤ c') : Hs c' hs := ⟨h.1, Nat.le_trans h.2 hc⟩
theorem TermAt.mono {n : Nat} {deep : Int} {a b c a' b' c' : Nat} (h : TermAt n deep a b c) (ha : a ≤ a') (hb : b ≤ b') (hc : c' ≤ c) : TermAt n deep a' b' c' := fun s t z hs P h1 h2 h3 p => h s t z hs P (by omega) (h2.mono hc) h3 fun d s' q1 q2 => p d s' (q1.mono ha) (by omega)
theorem CondAt.mono {n : Nat} {deep : Int} {a b c a' b' c' : Nat} (h : CondAt n deep a b c) (ha : a ≤ a') (hb : b ≤ b') (hc : c' ≤ c) : CondAt n deep a' b' c' := fun s t hs P h1 h2 p => h s t hs P (by omega) (h2.mono hc) fun d s' q1 q2 => p d s' (q1.mono ha) (by omega)
theorem term0 {n : Nat} {deep : Int} (hn : 3 ≤ n) (hd : deep ≤ 0) : TermAt n deep 1 2 1000 := by
  intro s t z hs P h hh hz p
  obtain ⟨n, rfl⟩ := Nat.exists_eq_add_of_lt hn
  refine wp_fnL ?_
  unfold b__law_term
  repeat array_get_dec
  refine w_next (by omega) (by omega) fun r s1 h0 h1 hk => ?_
  repeat array_get_dec
  refine sp_or (fun _ => ?_) (fun g _ => absurd g (by simp; omega))
  repeat array_get_dec
  exact w_leaf (by omega) (by omega) hh hz fun d s2 q1 q2 => p d s2 q1 (by omega)
theorem condS {n : Nat} {deep : Int} {a b c : Nat} (hn : 2 ≤ n) (hT : TermAt n (deep - 1) a b c) (hC : 0 < deep → CondAt n (deep - 1) a b c) (hc : c ≤ 1000) : CondAt (n + 1) deep (a + 1) (2 * b + 2) c := by
  intro s t hs P h hh p
  refine wp_fnL ?_
  unfold b__law_condition
  repeat array_get_dec
  refine w_next (by omega) (by omega) fun r s1 h0 h1 hk => ?_
  repeat' first
    | array_get_dec
    | array_mem_dec
    | refine (hC (by simp_all)) _ _ _ _ (by omega) hh fun d s2 q1 q2 => ?_
    | refine w_kind (by omega) (by omega) fun z s2 q1 q2 => ?_
    | refine hT _ _ _ _ _ (by omega) hh (by assumption) fun d s2 q1 q2 => ?_
  all_goals exact p _ _ (by sizeOf_list_dec) (by omega)
theorem w_filt {ρ : En} {s : DS} {hs : List D} {c : Nat} {j : Nat} {P : List D → DS → Prop} (hj : j < ρ.length) (hh : Hs c hs)
    (p : ∀ xs, Hs c xs → P xs s) : Wp (lcGo (.one j) (tB' (eOp oNe (eOp oIx (eVar j) (eC (.int 0))) (eC (.str "a")))) (eVar j) ρ hs s) P := by
  refine (wp_lcInv (fun _ s' => s' = s) Hd Hd ?_ hs 0 s hh.1 rfl).mono fun ys s1 ⟨e1, hy, hl⟩ => ?_
  · rintro i' d s0 ⟨a, b, rfl, ha, hb⟩ rfl
    have hv : ∀ d : D, (ρ.set j (.val d))[j]? = some (.val d) := fun d => by rw [List.getElem?_set_self hj]
    refine wo_one (wp_tB (wp_op (wp_op (wp_var (hv _) (wp_c (wo_ixTn (j := 0) rfl (wp_c (wo_neS ?_))))))))
    refine ⟨_, rfl, fun _ => wp_var (hv _) ⟨rfl, a, b, rfl, ha, hb⟩, fun _ => rfl⟩
  subst e1
  exact p ys ⟨hy, Nat.le_trans hl hh.2⟩
theorem Hs.line {c : Nat} {xs : List D} {A : Prop} (h : Hs c xs) (hc : c ≤ 1000) (a : A) : xs.length ≤ line ∧ A := ⟨Nat.le_trans h.2 (Nat.le_trans hc (by decide)), a⟩
theorem Hs.snoc {c : Nat} {xs : List D} {d : D} (h : Hs c xs) (hd : Hd d) : Hs (c + 1) (xs ++ [d]) := ⟨fun x hx => by
  rcases List.mem_append.mp hx with hx | hx
  · exact h.1 x hx
  · rw [List.mem_singleton.mp hx]; exact hd, by simpa using h.2⟩
theorem Hs.cat {c c' : Nat} {xs ys : List D} (h : Hs c xs) (h2 : Hs c' ys) : Hs (c + c') (xs ++ ys) := ⟨fun x hx => by
  rcases List.mem_append.mp hx with hx | hx
  · exact h.1 x hx
  · exact h2.1 x hx, by have := h.2; have := h2.2; simp; omega⟩
theorem termS {n : Nat} {deep : Int} {a b c : Nat} (hn : 2 ≤ n) (hT : TermAt n (deep - 1) a b (c + 1)) (hC : CondAt n (deep - 1) a b (c + 1)) (hc : c < 1000) (ha : 1 ≤ a) : TermAt (n + 1) deep (a + 1) (4 * b + 2) c := by
  intro s t z hs P h hh hz p
  have hh' := hh.mono (Nat.le_succ c)
  obtain ⟨a, rfl⟩ := Nat.exists_eq_add_of_lt ha
  have wn : Wd "number" := by decide +kernel
  have wt : Wd "text" := by decide +kernel
  refine wp_fnL ?_
  unfold b__law_term
  repeat array_get_dec
  refine w_next (by omega) (by omega) fun r s1 h0 h1 hk => ?_
  repeat' first
    | with_reducible refine w_filt (by simp only [List.length_cons, List.length_nil]; omega) hh fun xs hx => Hs.line hx (by omega) ?_
    | array_get_dec
    | array_mem_dec
    | refine w_leaf (by omega) (by omega) (hh.mono (by omega)) hz fun d s2 q1 q2 => ?_
    | refine hC _ _ _ _ (by omega) (by assumption) fun d s2 q1 q2 => ?_
    | refine hT _ _ _ _ _ (by omega) (by first | assumption | exact Hs.snoc (by assumption) ⟨_, _, rfl, by decide +kernel, by decide +kernel⟩) (by assumption) fun d s2 q1 q2 => ?_
    | refine wo_cat (by have := (‹Hs c xs› : _).2; simp only [List.length_cons, List.length_nil, line]; omega) ?_
  all_goals first | exact p _ _ (by sizeOf_list_dec) (by omega) | trace_state
end K60
set_option Elab.async false
set_option linter.all false
set_option maxRecDepth 100000
set_option maxHeartbeats 4000000
namespace K60
open PySem L2 Lay DL
local macro_rules
  | `(tactic| array_get_dec) => `(tactic| first
    | with_reducible refine Stp.go ?_
    | with_reducible refine wo_mod (by first | decide | omega) ?_
    | with_reducible refine wo_div (by first | decide | omega) ?_
    | with_reducible refine wo_pow19 ?_
    | with_reducible refine wo_pow (by decide) ?_
    | with_reducible refine wo_mul (by first | exact .inr (by decide) | exact .inl (by decide) | exact .inr (by omega) | exact .inl (by omega)) ?_
    | with_reducible refine wo_slS (by decide +kernel) ?_)
local macro_rules
  | `(tactic| array_mem_dec) => `(tactic| first
    | with_reducible refine wo_intC ?_
    | with_reducible refine sp_dec (fun _ => ?_) (fun _ => ?_)
    | with_reducible refine sp_ndec (fun _ => ?_) (fun _ => ?_)
    | with_reducible refine sp_not ?_
    | with_reducible refine sp_and (fun _ _ => ?_) (fun _ => ?_)
    | with_reducible refine sp_or (fun _ => ?_) (fun _ _ => ?_)
    | with_reducible exact AllOf.nil
    | with_reducible refine AllOf.cons ?_ ?_
    | with_reducible refine wo_ixL (by omega) (by simp only [List.length_cons, List.length_nil]; omega) (allIx ?_))
local macro_rules
  | `(tactic| sizeOf_list_dec) => `(tactic| ((repeat' first
    | (exact Tm.mono (by assumption) (by omega))
    | (with_reducible refine Tm.leaf (by decide +kernel) ?_ (by simp only [List.length_cons, List.length_nil]; omega))
    | (with_reducible refine Tm.nul (by decide +kernel))
    | (with_reducible refine Tm.un (by decide +kernel) ?_)
    | (with_reducible refine Tm.bin (by decide +kernel) ?_ ?_)
    | (with_reducible refine Tm.tri (by decide +kernel) ?_ ?_ ?_)
    | (with_reducible refine Tm.lt ?_ ?_ ?_)
    | (with_reducible refine AllOf.cons ?_ ?_)
    | (with_reducible exact AllOf.nil)
    | (with_reducible refine Atom.str (by first | assumption | decide +kernel))
    | (with_reducible refine Atom.int (by omega))); done))
theorem cond0 {n : Nat} {deep : Int} (hn : 4 ≤ n) (hd : deep ≤ 0) : CondAt n deep 2 6 1000 := by
  obtain ⟨n, rfl⟩ := Nat.exists_eq_add_of_lt hn
  exact condS (a := 1) (b := 2) (by omega) (term0 (by omega) (by omega)) (fun h => absurd h (by omega)) (by omega)
theorem term1 {n : Nat} (hn : 5 ≤ n) : TermAt n 1 3 26 999 := by
  obtain ⟨n, rfl⟩ := Nat.exists_eq_add_of_lt hn
  exact termS (a := 2) (b := 6) (by omega) ((term0 (by omega) (by omega)).mono (by omega) (by omega) (by omega)) (cond0 (by omega) (by omega)) (by omega) (by omega)
theorem cond1 {n : Nat} (hn : 5 ≤ n) : CondAt n 1 3 14 1000 := by
  obtain ⟨n, rfl⟩ := Nat.exists_eq_add_of_lt hn
  exact condS (a := 2) (b := 6) (by omega) ((term0 (by omega) (by omega)).mono (by omega) (by omega) (by omega)) (fun _ => cond0 (by omega) (by omega)) (by omega)
theorem hs0 {c : Nat} : Hs c [] := ⟨by simp, by simp⟩
theorem w_odd_term {n : Nat} {s : DS} {t z : Str} {hs : List D} {P : D → DS → Prop} (hn : 6 ≤ n) (h : s.k + 150 ≤ lim) (hh : Hs 900 hs) (hz : Wd z) (p : ∀ d s', Tm 4 d → s'.k ≤ s.k + 150 → P d s') : Wp (sem n 12 [.drw, .str t, .lst hs, .str z] s) P := by
  obtain ⟨n, rfl⟩ := Nat.exists_eq_add_of_lt hn
  have hT := term1 (n := 5 + n) (by omega)
  have hC := cond1 (n := 5 + n) (by omega)
  have hh1 := hh.mono (show 900 ≤ 999 by omega)
  have hh2 := hh.mono (show 900 ≤ 1000 by omega)
  have h0 : Hs 999 [] := hs0
  have hn : Nm "a" := by decide +kernel
  refine wp_fnL ?_
  unfold b__law_odd_term
  repeat array_get_dec
  refine w_next (by omega) (by omega) fun r s1 h0 h1 hk => ?_
  repeat' first
    | with_reducible refine w_filt (by simp only [List.length_cons, List.length_nil]; omega) hh fun xs hx => Hs.line hx (by omega) ?_
    | array_get_dec
    | with_reducible refine wo_ixQ (Tm 1) (by omega) (by simp only [List.length_cons, List.length_nil]; omega) (by sizeOf_list_dec) fun d hd => ?_
    | with_reducible refine wo_ixQ (Tm 4) (by omega) (by simp only [List.length_cons, List.length_nil]; omega) (by sizeOf_list_dec) fun d hd => ?_
    | array_mem_dec
    | refine hC _ _ _ _ (by omega) (by assumption) fun d s2 q1 q2 => ?_
    | refine hT _ _ _ _ _ (by omega) (by first | assumption | exact (Hs.snoc (by assumption) ⟨_, _, rfl, by assumption, by assumption⟩).mono (by omega)) (by assumption) fun d s2 q1 q2 => ?_
    | refine wo_cat (by first | (simp only [List.length_append, List.length_cons, List.length_nil, line]; omega) | (have := (‹Hs 900 xs› : _).2; simp only [List.length_cons, List.length_nil, line]; omega)) ?_
  all_goals first | exact p _ _ (by sizeOf_list_dec) (by omega) | trace_state
end K60
set_option Elab.async false
set_option linter.all false
set_option maxRecDepth 100000
set_option maxHeartbeats 4000000
namespace K60
open PySem L2 Lay DL
local macro_rules
  | `(tactic| array_get_dec) => `(tactic| first
    | with_reducible refine Stp.go ?_
    | with_reducible refine wo_mod (by first | decide | omega) ?_
    | with_reducible refine wo_div (by first | decide | omega) ?_
    | with_reducible refine wo_pow19 ?_
    | with_reducible refine wo_pow (by decide) ?_
    | with_reducible refine wo_mul (by first | exact .inr (by decide) | exact .inl (by decide) | exact .inr (by omega) | exact .inl (by omega)) ?_
    | with_reducible refine wo_slS (by decide +kernel) ?_)
local macro_rules
  | `(tactic| array_mem_dec) => `(tactic| first
    | with_reducible refine wo_intC ?_
    | with_reducible refine sp_dec (fun _ => ?_) (fun _ => ?_)
    | with_reducible refine sp_ndec (fun _ => ?_) (fun _ => ?_)
    | with_reducible refine sp_not ?_
    | with_reducible refine sp_and (fun _ _ => ?_) (fun _ => ?_)
    | with_reducible refine sp_or (fun _ => ?_) (fun _ _ => ?_)
    | with_reducible exact AllOf.nil
    | with_reducible refine AllOf.cons ?_ ?_
    | with_reducible refine wo_ixL (by omega) (by simp only [List.length_cons, List.length_nil]; omega) (allIx ?_))
local macro_rules
  | `(tactic| sizeOf_list_dec) => `(tactic| ((repeat' first
    | (exact Tm.mono (by assumption) (by omega))
    | (with_reducible refine Tm.leaf (by decide +kernel) ?_ (by simp only [List.length_cons, List.length_nil]; omega))
    | (with_reducible refine Tm.nul (by decide +kernel))
    | (with_reducible refine Tm.un (by decide +kernel) ?_)
    | (with_reducible refine Tm.bin (by decide +kernel) ?_ ?_)
    | (with_reducible refine Tm.tri (by decide +kernel) ?_ ?_ ?_)
    | (with_reducible refine Tm.lt ?_ ?_ ?_)
    | (with_reducible refine AllOf.cons ?_ ?_)
    | (with_reducible exact AllOf.nil)
    | (with_reducible refine Atom.str (by first | assumption | decide +kernel))
    | (with_reducible refine Atom.int (by omega))); done))
theorem w_odd {n : Nat} {s : DS} {t : Str} {hs : List D} {P : D → DS → Prop} (hn : 7 ≤ n) (h : s.k + 400 ≤ lim) (hh : Hs 900 hs) (p : ∀ d s', Tm 5 d → s'.k ≤ s.k + 400 → P d s') : Wp (sem n 13 [.drw, .str t, .lst hs] s) P := by
  obtain ⟨n, rfl⟩ := Nat.exists_eq_add_of_lt hn
  have hC := cond1 (n := 6 + n) (by omega)
  have hh2 := hh.mono (show 900 ≤ 1000 by omega)
  have h0 : Hs 1000 [] := hs0
  refine wp_fnL ?_
  unfold b__law_odd
  repeat array_get_dec
  refine w_next (by omega) (by omega) fun r s1 h0 h1 hk => ?_
  repeat' first
    | array_get_dec
    | with_reducible refine wo_ixQ (Tm 1) (by omega) (by simp only [List.length_cons, List.length_nil]; omega) (by sizeOf_list_dec) fun d hd => ?_
    | with_reducible refine wo_ixQ (Tm 5) (by omega) (by simp only [List.length_cons, List.length_nil]; omega) (by sizeOf_list_dec) fun d hd => ?_
    | array_mem_dec
    | refine hC _ _ _ _ (by omega) (by assumption) fun d s2 q1 q2 => ?_
    | refine w_kind (by omega) (by omega) fun z s2 q1 q2 => ?_
    | refine w_odd_term (by omega) (by omega) hh (by assumption) fun d s2 q1 q2 => ?_
  all_goals first | exact p _ _ (by sizeOf_list_dec) (by omega) | trace_state
/-! ### questions -/
def Pk (d : D) : Prop := ∃ x t, d = .tup [.str x, t] ∧ Nm x ∧ Tm 5 t
def Ky (d : D) : Prop := ∃ x, d = .str x ∧ Nm x
/-- a question, so deep, of so many parts -/
inductive Qu : Nat → Nat → D → Prop
  | table {k z : Nat} {x : Str} : Nm x → Qu (k + 1) (z + 1) (.tup [.str "table", .str x])
  | unlike {k z : Nat} {q : D} : Qu k z q → Qu (k + 1) (z + 1) (.tup [.str "unlike", q])
  | two {k z y : Nat} {w : Str} {q r : D} : w ∈ (["with", "less_rows"] : List Str) → Qu k z q → Qu k y r → Qu (k + 1) (z + y + 1) (.tup [.str w, q, r])
  | where_ {k z : Nat} {q c : D} : Qu k z q → Tm 5 c → Qu (k + 1) (z + 2) (.tup [.str "where", q, c])
  | join {k z y : Nat} {w : Str} {q r c : D} : w ∈ (["join", "left"] : List Str) → Qu k z q → Qu k y r → Tm 7 c → Qu (k + 1) (z + y + 10) (.tup [.str w, q, r, c])
  | pick {k z : Nat} {q : D} {xs : List D} : Qu k z q → (∀ x ∈ xs, Pk x) → xs.length ≤ 900 → Qu (k + 1) (z + xs.length + 1) (.tup [.str "pick", q, .tup xs])
  | group {k z : Nat} {q : D} {keys : List D} {a w : Str} {t : D} : Qu k z q → (∀ x ∈ keys, Ky x) → keys.length ≤ 900 → Nm a → w ∈ (["count", "least", "most"] : List Str) → Tm 5 t → Qu (k + 1) (z + keys.length + 2) (.tup [.str "group", q, .tup keys, .tup [.tup [.str a, .str w, t]]])
  | sorted {k z : Nat} {q t : D} {b : Bool} : Qu k z q → Tm 5 t → Qu (k + 1) (z + 2) (.tup [.str "sorted", q, .tup [.tup [t, .bl b]]])
  | first {k z : Nat} {q : D} {i : Int} : Qu k z q → i.natAbs < 10 ^ 30 → Qu (k + 1) (z + 1) (.tup [.str "first", q, .int i])
  | more {k z y : Nat} {q : D} : Qu k z q → z ≤ y → Qu k y q
theorem Qu.mono {k z : Nat} {d : D} (h : Qu k z d) : ∀ {j : Nat}, k ≤ j → Qu j z d := by
  induction h with
  | more _ h ih => intro j hj; exact .more (ih hj) h
  | table h1 => intro j hj; obtain ⟨j, rfl⟩ := Nat.exists_eq_add_of_lt hj; exact .table h1
  | unlike _ ih => intro j hj; obtain ⟨j, rfl⟩ := Nat.exists_eq_add_of_lt hj; exact .unlike (ih (by omega))
  | two h1 _ _ ih ih2 => intro j hj; obtain ⟨j, rfl⟩ := Nat.exists_eq_add_of_lt hj; exact .two h1 (ih (by omega)) (ih2 (by omega))
  | where_ _ h ih => intro j hj; obtain ⟨j, rfl⟩ := Nat.exists_eq_add_of_lt hj; exact .where_ (ih (by omega)) h
  | join h1 _ _ h ih ih2 => intro j hj; obtain ⟨j, rfl⟩ := Nat.exists_eq_add_of_lt hj; exact .join h1 (ih (by omega)) (ih2 (by omega)) h
  | pick _ h h2 ih => intro j hj; obtain ⟨j, rfl⟩ := Nat.exists_eq_add_of_lt hj; exact .pick (ih (by omega)) h h2
  | group _ h1 h2 h3 h4 h5 ih => intro j hj; obtain ⟨j, rfl⟩ := Nat.exists_eq_add_of_lt hj; exact .group (ih (by omega)) h1 h2 h3 h4 h5
  | sorted _ h ih => intro j hj; obtain ⟨j, rfl⟩ := Nat.exists_eq_add_of_lt hj; exact .sorted (ih (by omega)) h
  | first _ h ih => intro j hj; obtain ⟨j, rfl⟩ := Nat.exists_eq_add_of_lt hj; exact .first (ih (by omega)) h
theorem Qu.wide {k z k' z' : Nat} {d : D} (h : Qu k z d) (hk : k ≤ k') (hz : z ≤ z') : Qu k' z' d := .more (h.mono hk) hz
/-- a question beside its columns -/
def In (k z c : Nat) (d : D) : Prop := ∃ q hs, d = .tup [q, .lst hs] ∧ Qu k z q ∧ Hs c hs
theorem In.mk {k z c : Nat} {q : D} {hs : List D} (h : Qu k z q) (h2 : Hs c hs) : In k z c (.tup [q, .lst hs]) := ⟨q, hs, rfl, h, h2⟩
theorem In.mono {k z c k' z' c' : Nat} {d : D} (h : In k z c d) (hk : k ≤ k') (hz : z ≤ z') (hc : c ≤ c') : In k' z' c' d := by
  obtain ⟨q, hs, rfl, h1, h2⟩ := h
  exact .mk (h1.wide hk hz) (h2.mono hc)
/-! names of numbers -/
theorem nw_tail : ∀ w ∈ words ++ quest, ∃ c ∈ w.cps.toList.drop 1, 57 < c := by decide +kernel
theorem nm_num {x : Str} (hx : x.length = 1) (hx2 : PyData.strOk x = true) (i : Int) (hi : i.natAbs < 10 ^ 10) : Nm (x ++ (toString i : String)) := by
  have e : (x ++ ((toString i : String) : Str)).cps.toList = x.cps.toList ++ ((toString i : String) : Str).cps.toList := by
    show (x.cps ++ ((toString i : String) : Str).cps).toList = _
    simp
  have hx1 : x.cps.toList.length = 1 := by
    have : x.cps.size = 1 := hx
    simpa using this
  refine ⟨⟨?_, ?_⟩, fun hw => ?_⟩
  · unfold PyData.strOk at hx2 ⊢
    rw [Array.all_eq_true'] at hx2 ⊢
    intro c hc
    have hc' : c ∈ (x ++ ((toString i : String) : Str)).cps.toList := by simpa using hc
    rw [e, List.mem_append] at hc'
    rcases hc' with hc' | hc'
    · exact hx2 c (by simpa using hc')
    · by_cases hb : c ≠ 45 ∧ (c < 48 ∨ 57 < c)
      · exact absurd hc' (PyProof.Rows.int_text_free' c hb i)
      · simp only [decide_eq_true_eq]
        omega
  · show (x ++ ((toString i : String) : Str)).cps.size ≤ 12
    have h1 := int_text_length_le10 (a := i) (k := 10) (by decide) hi
    have h2 : ((toString i : String) : Str).cps.toList.length ≤ (toString i).length := by
      have h4 : ((toString i : String) : Str).cps.size = (toString i).length := PySem.ofString_length _
      rw [Array.length_toList, h4]
      exact Nat.le_refl _
    have h3 : (x ++ ((toString i : String) : Str)).cps.toList.length ≤ 12 := by
      rw [e, List.length_append]
      omega
    simpa using h3
  · obtain ⟨c, hc, h57⟩ := nw_tail _ hw
    rw [e, List.drop_append_of_le_length (by omega)] at hc
    have hd : x.cps.toList.drop 1 = [] := List.drop_eq_nil_of_le (by omega)
    rw [hd, List.nil_append] at hc
    exact PyProof.Rows.int_text_free' c (by omega) i hc
theorem wo_num {x : Str} (hx : x.length = 1) (hx2 : PyData.strOk x = true) {k : Nat} (hk : k ≤ 2000000) {Q : D → Prop} (h : ∀ a, Nm a → Q (.str a)) : WO (bStr [.int (k : Int)]) fun z => WO (oAddS (.str x) z) Q := by
  have hb : (k : Int).natAbs < 10 ^ 10 := by omega
  have hn := nm_num hx hx2 (k : Int) hb
  have hl : ((k : Int).natAbs).log2 < 1920 := by
    rcases Nat.eq_zero_or_pos (k : Int).natAbs with h0 | h0
    · rw [h0]; decide
    · rw [Nat.log2_lt (by omega)]
      exact Nat.lt_of_lt_of_le hb (by decide)
  refine ⟨_, by show (if _ then _ else _) = _; rw [if_pos hl], ?_⟩
  have h2 : x.length + ((toString (k : Int) : String) : Str).length ≤ line := by
    have h4 : ((toString (k : Int) : String) : Str).length = (toString (k : Int)).length := PySem.ofString_length _
    have h1 := int_text_length_le10 (a := (k : Int)) (k := 10) (by decide) hb
    rw [h4, hx]
    exact Nat.le_trans (Nat.add_le_add_left h1 1) (by decide)
  exact ⟨_, by show (if _ then _ else _) = _; rw [if_pos h2], h _ hn⟩
end K60
set_option Elab.async false
set_option linter.all false
set_option maxRecDepth 100000
set_option maxHeartbeats 4000000
namespace K60
open PySem L2 Lay DL
local macro_rules
  | `(tactic| array_get_dec) => `(tactic| first
    | with_reducible refine Stp.go ?_
    | with_reducible refine wo_mod (by first | decide | omega) ?_
    | with_reducible refine wo_div (by first | decide | omega) ?_
    | with_reducible refine wo_pow19 ?_
    | with_reducible refine wo_pow (by decide) ?_
    | with_reducible refine wo_mul (by first | exact .inr (by decide) | exact .inl (by decide) | exact .inr (by omega) | exact .inl (by omega)) ?_
    | with_reducible refine wo_slS (by decide +kernel) ?_)
local macro_rules
  | `(tactic| array_mem_dec) => `(tactic| first
    | with_reducible refine wo_intC ?_
    | with_reducible refine sp_dec (fun _ => ?_) (fun _ => ?_)
    | with_reducible refine sp_ndec (fun _ => ?_) (fun _ => ?_)
    | with_reducible refine sp_not ?_
    | with_reducible refine sp_and (fun _ _ => ?_) (fun _ => ?_)
    | with_reducible refine sp_or (fun _ => ?_) (fun _ _ => ?_)
    | with_reducible exact AllOf.nil
    | with_reducible refine AllOf.cons ?_ ?_
    | with_reducible refine wo_ixL (by omega) (by simp only [List.length_cons, List.length_nil]; omega) (allIx ?_))
local macro_rules
  | `(tactic| sizeOf_list_dec) => `(tactic| ((repeat' first
    | (exact Tm.mono (by assumption) (by omega))
    | (with_reducible refine Tm.leaf (by decide +kernel) ?_ (by simp only [List.length_cons, List.length_nil]; omega))
    | (with_reducible refine Tm.nul (by decide +kernel))
    | (with_reducible refine Tm.un (by decide +kernel) ?_)
    | (with_reducible refine Tm.bin (by decide +kernel) ?_ ?_)
    | (with_reducible refine Tm.tri (by decide +kernel) ?_ ?_ ?_)
    | (with_reducible refine Tm.lt ?_ ?_ ?_)
    | (with_reducible refine AllOf.cons ?_ ?_)
    | (with_reducible exact AllOf.nil)
    | (with_reducible refine Atom.str (by first | assumption | decide +kernel))
    | (with_reducible refine Atom.int (by omega))); done))
/-! ### the columns of the tables -/
theorem cut_mem {z : Str} {lo hi : Option Int} {c : Nat} (h : c ∈ (cutS z lo hi).cps.toList) : c ∈ z.cps.toList := by
  unfold cutS at h
  exact List.mem_of_mem_drop (List.mem_of_mem_take (by simpa using h))
theorem cut_len {z : Str} {lo hi : Option Int} : (cutS z lo hi).cps.toList.length ≤ z.cps.toList.length := by
  unfold cutS
  simp only [List.length_take, List.length_drop]
  omega
def Letters (z : Str) : Prop := (∀ c ∈ z.cps.toList, Nm ⟨#[c]⟩) ∧ z.cps.toList.length ≤ 3
instance : DecidablePred Letters := fun z => inferInstanceAs (Decidable (_ ∧ _))
/-- one table's columns -/
theorem w_cols {n : Nat} {a2 a3 a4 a5 : Sl} {s : DS} {t z : Str} {lo hi : Option Int} {P : List D → DS → Prop} (hn : 2 ≤ n) (h : s.k + 3 ≤ lim) (hz : Letters z)
    (p : ∀ xs s', Hs 3 xs → s'.k ≤ s.k + 3 → P xs s') : Wp (lcGo (.one 5) tYes' (eTup (aCons (eVar 5) (aCons (eCallN 2 (sem n 7) (aCons (eVar 0) (aCons (eVar 1) aNil))) aNil))) [.val .drw, .val (.str t), a2, a3, a4, a5] ((cutS z lo hi).cps.toList.map fun c => .str ⟨#[c]⟩) s) P := by
  have hlen : ((cutS z lo hi).cps.toList.map fun c => D.str ⟨#[c]⟩).length ≤ 3 := by
    rw [List.length_map]
    exact Nat.le_trans cut_len hz.2
  refine (wp_lcRem (fun i s' => s'.k + i ≤ s.k + 3) (fun d => ∃ x, d = .str x ∧ Nm x) Hd ?_ _ s ?_ (by omega)).mono fun ys s1 ⟨e1, hy, hl⟩ => p ys s1 ⟨hy, by omega⟩ (by omega)
  · rintro i d s0 ⟨x, rfl, hx⟩ hi
    repeat array_get_dec
    refine w_kind (by omega) (by omega) fun z s2 q1 q2 => ?_
    repeat array_get_dec
    exact ⟨by omega, x, z, rfl, hx, q1⟩
  · intro d hd
    obtain ⟨c, hc, rfl⟩ := List.mem_map.mp hd
    exact ⟨_, rfl, hz.1 c (cut_mem hc)⟩
theorem putD_new {ks : List Str} {ds : List D} {z : Str} {d : D} (h : (ks.any fun k => decide (k = z)) = false) : putD ks ds z d = (ks ++ [z], ds ++ [d]) := by
  unfold putD
  rw [h]
  rfl
theorem w_heads {n : Nat} {s : DS} {t : Str} {P : D → DS → Prop} (hn : 3 ≤ n) (h : s.k + 12 ≤ lim) (p : ∀ h1 h2 h3 s', Hs 3 h1 → Hs 3 h2 → Hs 3 h3 → s'.k ≤ s.k + 12 → P (.dic ["t", "u", "v"] [.lst h1, .lst h2, .lst h3]) s') : Wp (sem n 8 [.drw, .str t] s) P := by
  obtain ⟨n, rfl⟩ := Nat.exists_eq_add_of_lt hn
  refine wp_fnL ?_
  unfold b__law_heads
  repeat array_get_dec
  refine w_next (by omega) (by omega) fun r1 s1 _ _ k1 => ?_
  repeat array_get_dec
  refine w_cols (by omega) (by omega) (by decide +kernel) fun x1 s2 p1 k2 => p1.line (by omega) ?_
  repeat array_get_dec
  refine ⟨by decide, fun ρ' e => ?_⟩
  have e : [Sl.val .drw, .val (.str t), .own (.dic ["t"] [.lst x1]), .val (.str "t"), .val (.str "abc"), .no] = ρ' := e
  subst e
  repeat array_get_dec
  refine w_next (by omega) (by omega) fun r3 s3 _ _ k3 => ?_
  repeat array_get_dec
  refine w_cols (by omega) (by omega) (by decide +kernel) fun x2 s4 p2 k4 => p2.line (by omega) ?_
  repeat array_get_dec
  refine ⟨by decide, fun ρ' e => ?_⟩
  have e : [Sl.val .drw, .val (.str t), .own (.dic ["t", "u"] [.lst x1, .lst x2]), .val (.str "u"), .val (.str "efg"), .no] = ρ' := by
    rw [← e, putD_new (by decide +kernel)]
    rfl
  subst e
  repeat array_get_dec
  refine w_next (by omega) (by omega) fun r5 s5 _ _ k5 => ?_
  repeat array_get_dec
  refine w_cols (by omega) (by omega) (by decide +kernel) fun x3 s6 p3 k6 => p3.line (by omega) ?_
  repeat array_get_dec
  refine ⟨by decide, fun ρ' e => ?_⟩
  have e : [Sl.val .drw, .val (.str t), .own (.dic ["t", "u", "v"] [.lst x1, .lst x2, .lst x3]), .val (.str "v"), .val (.str "hi"), .no] = ρ' := by
    rw [← e, putD_new (by decide +kernel)]
    rfl
  subst e
  repeat array_get_dec
  exact p x1 x2 x3 s6 p1 p2 p3 (by omega)
/-! ### questions drawn -/
theorem w_grouped {n k z c : Nat} {s : DS} {t : Str} {d : D} {P : D → DS → Prop} (hn : 8 ≤ n) (h : s.k + (c + 300) ≤ lim) (hc : c ≤ 900) (hi : In k z c d) (p : ∀ d s', In (k + 1) (z + c + 2) (c + 1) d → s'.k ≤ s.k + (c + 300) → P d s') : Wp (sem n 14 [.drw, .str t, d] s) P := by
  obtain ⟨q, hs, rfl, hq, hh⟩ := hi
  obtain ⟨n, rfl⟩ := Nat.exists_eq_add_of_lt hn
  have hl := hh.2
  refine wp_fnL ?_
  unfold b__law_grouped
  repeat array_get_dec
  refine (wp_lcRem (fun i s' => s'.k + i ≤ s.k + c) Hd Hd ?_ hs s hh.1 (by omega)).mono fun keys s1 ⟨e1, hy, hl⟩ => ?_
  · rintro i d s0 hd hi
    repeat array_get_dec
    refine w_next (by omega) (by omega) fun r s2 _ _ k1 => ?_
    repeat' first | array_get_dec | array_mem_dec
    · exact ⟨by omega, hd⟩
    · omega
  have hk : Hs c keys := ⟨hy, by omega⟩
  refine hk.line (by omega) ?_
  repeat array_get_dec
  refine w_kind (by omega) (by omega) fun z s2 q1 k2 => ?_
  repeat array_get_dec
  refine wo_num (by decide +kernel) (by decide +kernel) (by have : lim = 1000000 := rfl; omega) fun a ha => ?_
  repeat array_get_dec
  refine w_next (by omega) (by omega) fun r s3 _ _ k3 => ?_
  repeat array_get_dec
  refine wo_ixQ (fun d => ∃ w, d = .str w ∧ w ∈ (["count", "least", "most"] : List Str)) (by omega) (by simp only [List.length_cons, List.length_nil]; omega) (.cons ⟨_, rfl, by decide +kernel⟩ (.cons ⟨_, rfl, by decide +kernel⟩ (.cons ⟨_, rfl, by decide +kernel⟩ .nil))) ?_
  rintro _ ⟨w, rfl, hw⟩
  repeat array_get_dec
  refine w_odd_term (by omega) (by omega) (hh.mono hc) q1 fun tm s4 q2 k4 => ?_
  repeat array_get_dec
  repeat' first | array_get_dec | array_mem_dec
  all_goals
    refine wo_cat (by have := hk.2; simp only [List.length_cons, List.length_nil, line]; omega) ?_
    repeat array_get_dec
    refine (wp_lcInv (fun _ s' => s' = s4) Hd Ky ?_ keys 0 s4 hk.1 rfl).mono fun ks s5 ⟨e5, hy5, hl5⟩ => ?_
    · rintro i d s0 ⟨a, b, rfl, ha, hb⟩ rfl
      repeat array_get_dec
      exact ⟨a, rfl, ha⟩
    subst e5
    refine ⟨le_line hl5 (Nat.le_trans (Nat.le_trans hk.2 hc) (by decide)), ?_⟩
    repeat array_get_dec
    refine p _ _ (.mk ((Qu.group hq hy5 (by have := hk.2; omega) ha hw (q2.mono (by omega))).wide (Nat.le_refl _) (by have := hk.2; omega)) (hk.snoc ⟨_, _, rfl, ha, by first | assumption | decide +kernel⟩)) (by omega)
theorem w_picked {n k z c : Nat} {s : DS} {t : Str} {d : D} {P : D → DS → Prop} (hn : 8 ≤ n) (h : s.k + 400 ≤ lim) (hc : c ≤ 900) (h2c : 2 ≤ c) (hi : In k z c d) (p : ∀ d s', In (k + 1) (z + c + 1) c d → s'.k ≤ s.k + 400 → P d s') : Wp (sem n 15 [.drw, .str t, d] s) P := by
  obtain ⟨q, hs, rfl, hq, hh⟩ := hi
  obtain ⟨n, rfl⟩ := Nat.exists_eq_add_of_lt hn
  have hl := hh.2
  refine wp_fnL ?_
  unfold b__law_picked
  repeat array_get_dec
  refine w_next (by omega) (by omega) fun r s1 _ _ k1 => ?_
  repeat array_get_dec
  array_mem_dec
  · repeat array_get_dec
    refine (wp_lcInv (fun _ s' => s' = s1) Hd Pk ?_ hs 0 s1 hh.1 rfl).mono fun ks s5 ⟨e5, hy5, hl5⟩ => ?_
    · rintro i d s0 ⟨a, b, rfl, ha, hb⟩ rfl
      repeat array_get_dec
      exact ⟨a, _, rfl, ha, (Tm.col ha.1).mono (by omega)⟩
    subst e5
    refine ⟨le_line hl5 (Nat.le_trans (Nat.le_trans hh.2 hc) (by decide)), ?_⟩
    repeat array_get_dec
    exact p _ _ (.mk ((Qu.pick hq hy5 (by omega)).wide (Nat.le_refl _) (by omega)) hh) (by omega)
  repeat array_get_dec
  refine wo_num (by decide +kernel) (by decide +kernel) (by have : lim = 1000000 := rfl; omega) fun a ha => ?_
  repeat array_get_dec
  refine w_kind (by omega) (by omega) fun z s2 q1 k2 => ?_
  repeat array_get_dec
  refine wo_num (by decide +kernel) (by decide +kernel) (by have : lim = 1000000 := rfl; omega) fun a2 ha2 => ?_
  repeat array_get_dec
  refine w_kind (by omega) (by omega) fun z2 s3 q2 k3 => ?_
  repeat array_get_dec
  refine w_odd_term (by omega) (by omega) (hh.mono hc) q1 fun tm s4 q3 k4 => ?_
  repeat array_get_dec
  refine w_odd_term (by omega) (by omega) (hh.mono hc) q2 fun tm2 s5 q4 k5 => ?_
  repeat array_get_dec
  refine p _ _ (.mk ((Qu.pick hq ?_ (by simp)).wide (Nat.le_refl _) (by simp only [List.length_cons, List.length_nil]; omega)) ⟨?_, by simpa using h2c⟩) (by omega)
  · intro x hx
    simp only [List.mem_cons, List.not_mem_nil, or_false] at hx
    rcases hx with rfl | rfl
    · exact ⟨a, tm, rfl, ha, q3.mono (by omega)⟩
    · exact ⟨a2, tm2, rfl, ha2, q4.mono (by omega)⟩
  · intro x hx
    simp only [List.mem_cons, List.not_mem_nil, or_false] at hx
    rcases hx with rfl | rfl
    · exact ⟨a, z, rfl, ha, q1⟩
    · exact ⟨a2, z2, rfl, ha2, q2⟩
theorem w_sorted {n k z c : Nat} {s : DS} {t : Str} {d : D} {P : D → DS → Prop} (hn : 8 ≤ n) (h : s.k + 200 ≤ lim) (hc : c ≤ 900) (h2c : 2 ≤ c) (hi : In k z c d) (p : ∀ d s', In (k + 1) (z + 2) c d → s'.k ≤ s.k + 200 → P d s') : Wp (sem n 16 [.drw, .str t, d] s) P := by
  obtain ⟨q, hs, rfl, hq, hh⟩ := hi
  obtain ⟨n, rfl⟩ := Nat.exists_eq_add_of_lt hn
  refine wp_fnL ?_
  unfold b__law_sorted
  repeat array_get_dec
  refine w_kind (by omega) (by omega) fun z s2 q1 k2 => ?_
  repeat array_get_dec
  refine w_odd_term (by omega) (by omega) (hh.mono hc) q1 fun tm s4 q3 k4 => ?_
  repeat array_get_dec
  refine w_next (by omega) (by omega) fun r s1 _ _ k1 => ?_
  repeat array_get_dec
  exact p _ _ (.mk (.sorted hq (q3.mono (by omega))) hh) (by omega)
end K60
set_option Elab.async false
set_option linter.all false
set_option maxRecDepth 100000
set_option maxHeartbeats 4000000
namespace K60
open PySem L2 Lay DL
local macro_rules
  | `(tactic| array_get_dec) => `(tactic| first
    | with_reducible refine Stp.go ?_
    | with_reducible refine wo_mod (by first | decide | omega) ?_
    | with_reducible refine wo_div (by first | decide | omega) ?_
    | with_reducible refine wo_pow19 ?_
    | with_reducible refine wo_pow (by decide) ?_
    | with_reducible refine wo_mul (by first | exact .inr (by decide) | exact .inl (by decide) | exact .inr (by omega) | exact .inl (by omega)) ?_
    | with_reducible refine wo_slS (by decide +kernel) ?_)
local macro_rules
  | `(tactic| array_mem_dec) => `(tactic| first
    | with_reducible refine wo_intC ?_
    | with_reducible refine sp_dec (fun _ => ?_) (fun _ => ?_)
    | with_reducible refine sp_ndec (fun _ => ?_) (fun _ => ?_)
    | with_reducible refine sp_not ?_
    | with_reducible refine sp_and (fun _ _ => ?_) (fun _ => ?_)
    | with_reducible refine sp_or (fun _ => ?_) (fun _ _ => ?_)
    | with_reducible exact AllOf.nil
    | with_reducible refine AllOf.cons ?_ ?_
    | with_reducible refine wo_ixL (by omega) (by simp only [List.length_cons, List.length_nil]; omega) (allIx ?_))
local macro_rules
  | `(tactic| sizeOf_list_dec) => `(tactic| ((repeat' first
    | (exact Tm.mono (by assumption) (by omega))
    | (with_reducible refine Tm.leaf (by decide +kernel) ?_ (by simp only [List.length_cons, List.length_nil]; omega))
    | (with_reducible refine Tm.nul (by decide +kernel))
    | (with_reducible refine Tm.un (by decide +kernel) ?_)
    | (with_reducible refine Tm.bin (by decide +kernel) ?_ ?_)
    | (with_reducible refine Tm.tri (by decide +kernel) ?_ ?_ ?_)
    | (with_reducible refine Tm.lt ?_ ?_ ?_)
    | (with_reducible refine AllOf.cons ?_ ?_)
    | (with_reducible exact AllOf.nil)
    | (with_reducible refine Atom.str (by first | assumption | decide +kernel))
    | (with_reducible refine Atom.int (by omega))); done))
theorem wp_pick {n1 n2 : Nat} {F1 F2 : List D → M D} {mi : En → M D} {ms : En → M (List D)} {ρ : En} {s : DS} {P : D → DS → Prop} (h : Wp (mi ρ s) fun i s1 => Wp (ms ρ s1) fun xs s2 => (i = .int 0 ∧ xs.length = n1 ∧ Wp (F1 xs s2) P) ∨ (i = .int 1 ∧ xs.length = n2 ∧ Wp (F2 xs s2) P)) : Wp (ePick n1 n2 F1 F2 mi ms ρ s) P := by
  obtain ⟨i, s1, e1, xs, s2, e2, h⟩ := h
  unfold ePick
  rw [e1]
  dsimp only [Option.bind]
  rw [e2]
  rcases h with ⟨rfl, hl, h⟩ | ⟨rfl, hl, h⟩
  · dsimp only
    rw [if_pos hl]
    exact h
  · dsimp only
    rw [if_pos hl]
    exact h
/-- tables by their names -/
def Tabs (d : D) : Prop := ∃ h1 h2 h3, d = .dic ["t", "u", "v"] [.lst h1, .lst h2, .lst h3] ∧ Hs 3 h1 ∧ Hs 3 h2 ∧ Hs 3 h3
theorem wo_tab {d : D} {x : Str} {Q : D → Prop} (h : Tabs d) (hx : x ∈ (["t", "u", "v"] : List Str)) (p : ∀ hs, Hs 3 hs → Q (.lst hs)) : WO (oGet d (.str x)) Q := by
  obtain ⟨h1, h2, h3, rfl, p1, p2, p3⟩ := h
  have n1 : ¬ (("t" : Str) = "u") := by decide +kernel
  have n2 : ¬ (("t" : Str) = "v") := by decide +kernel
  have n3 : ¬ (("u" : Str) = "v") := by decide +kernel
  simp only [List.mem_cons, List.not_mem_nil, or_false] at hx
  rcases hx with rfl | rfl | rfl
  · exact ⟨_, by simp [oGet, getD], p _ p1⟩
  · exact ⟨_, by simp [oGet, getD, n1], p _ p2⟩
  · exact ⟨_, by simp [oGet, getD, n2, n3], p _ p3⟩
theorem w_inner {n : Nat} {s : DS} {t x : Str} {d : D} {P : D → DS → Prop} (hn : 9 ≤ n) (h : s.k + 500 ≤ lim) (hd : Tabs d) (hx : x ∈ (["t", "u", "v"] : List Str)) (p : ∀ d s', In 3 8 4 d → s'.k ≤ s.k + 500 → P d s') : Wp (sem n 17 [.drw, .str t, d, .str x] s) P := by
  obtain ⟨n, rfl⟩ := Nat.exists_eq_add_of_lt hn
  have hm : Nm x := by
    simp only [List.mem_cons, List.not_mem_nil, or_false] at hx
    rcases hx with rfl | rfl | rfl <;> decide +kernel
  refine wp_fnL ?_
  unfold b__law_inner
  repeat array_get_dec
  refine wo_tab hd hx fun hs hh => ?_
  have hi : In 1 1 3 (.tup [.tup [.str "table", .str x], .lst hs]) := .mk (.table (z := 0) hm) hh
  repeat array_get_dec
  refine w_next (by omega) (by omega) fun r s1 _ _ k1 => ?_
  repeat array_get_dec
  array_mem_dec
  · repeat array_get_dec
    refine w_odd (by omega) (by omega) (hh.mono (by omega)) fun c s2 q2 k2 => ?_
    repeat array_get_dec
    exact p _ _ (.mk ((Qu.where_ (.table (z := 0) (k := 0) hm) q2).wide (by omega) (by omega)) (hh.mono (by omega))) (by omega)
  repeat array_get_dec
  array_mem_dec
  · repeat array_get_dec
    refine wp_pick ?_
    repeat array_get_dec
    have hr : r % 7 - 1 = 0 ∨ r % 7 - 1 = 1 := by omega
    rcases hr with hr | hr
    · refine .inl ⟨by rw [hr], rfl, ?_⟩
      exact w_grouped (by omega) (by omega) (by omega) hi fun d s' q k => p _ _ (q.mono (by omega) (by omega) (by omega)) (by omega)
    · refine .inr ⟨by rw [hr], rfl, ?_⟩
      exact w_picked (by omega) (by omega) (by omega) (by omega) hi fun d s' q k => p _ _ (q.mono (by omega) (by omega) (by omega)) (by omega)
  repeat array_get_dec
  array_mem_dec
  · repeat array_get_dec
    refine w_sorted (by omega) (by omega) (by omega) (by omega) hi fun d s' q k => ?_
    obtain ⟨q', hs', rfl, hq', hh'⟩ := q
    repeat array_get_dec
    refine wo_ixQ (In 3 8 4) (by omega) (by simp only [List.length_cons, List.length_nil]; omega) (.cons (.mk (hq'.wide (by omega) (by omega)) (hh'.mono (by omega))) (.cons (.mk ((Qu.first hq' (by omega)).wide (by omega) (by omega)) (hh'.mono (by omega))) .nil)) fun d hd => p _ _ hd (by omega)
  repeat array_get_dec
  exact p _ _ (hi.mono (by omega) (by omega) (by omega)) (by omega)
/-- a join beside its columns -/
def Jn (k z y c : Nat) (d : D) : Prop := ∃ q r cd hs, d = .tup [.tup [.str "join", q, r, cd], .lst hs] ∧ Qu k z q ∧ Qu k y r ∧ Tm 7 cd ∧ Hs c hs
theorem Jn.mk {k z y c : Nat} {q r cd : D} {hs : List D} (h1 : Qu k z q) (h2 : Qu k y r) (h3 : Tm 7 cd) (h4 : Hs c hs) : Jn k z y c (.tup [.tup [.str "join", q, r, cd], .lst hs]) := ⟨q, r, cd, hs, rfl, h1, h2, h3, h4⟩
theorem Jn.to {k z y c : Nat} {d : D} (h : Jn k z y c d) : In (k + 1) (z + y + 10) c d := by
  obtain ⟨q, r, cd, hs, rfl, h1, h2, h3, h4⟩ := h
  exact .mk (.join (by decide +kernel) h1 h2 h3) h4
def kd2 : D → Option D
  | .tup [_, b] => some b
  | _ => none
def kdf (b : Str) : D → Option D
  | .tup [a, .str b2] => if b2 = b then some a else none
  | _ => none
theorem wo_inS {b : Str} {xs : List D} {Q : D → Prop} (hx : ∀ y ∈ xs, flatD y = true) (h : Q (.bl (xs.any fun y => eqFl y (.str b)))) : WO (oIn (.str b) (.lst xs)) Q := ⟨_, by show (if _ then _ else _) = _; rw [if_pos (by simp [flatD]; exact hx)], h⟩
theorem w_joined {n k z y c : Nat} {s : DS} {t : Str} {d d2 : D} {P : D → DS → Prop} (hn : 9 ≤ n) (h : s.k + 500 ≤ lim) (hc : c ≤ 400) (h1 : In k z c d) (h2 : In k y c d2) (p : ∀ d s', Jn k z y (2 * c) d → s'.k ≤ s.k + 500 → P d s') : Wp (sem n 18 [.drw, .str t, d, d2] s) P := by
  obtain ⟨q1, x1, rfl, hq1, hh1⟩ := h1
  obtain ⟨q2, x2, rfl, hq2, hh2⟩ := h2
  obtain ⟨n, rfl⟩ := Nat.exists_eq_add_of_lt hn
  have hh := hh1.cat hh2
  refine wp_fnL ?_
  unfold b__law_joined
  repeat array_get_dec
  refine w_next (by omega) (by omega) fun r s1 _ _ k1 => ?_
  repeat array_get_dec
  refine wo_cat (by have := hh1.2; have := hh2.2; simp only [line]; omega) ?_
  repeat array_get_dec
  refine wo_cat (by have := hh1.2; have := hh2.2; simp only [line]; omega) ?_
  repeat array_get_dec
  refine wo_ixQ (fun d => ∃ hs, d = .lst hs ∧ Hs 900 hs) (by omega) (by simp only [List.length_cons, List.length_nil]; omega) (.cons ⟨_, rfl, hh.mono (by omega)⟩ (.cons ⟨_, rfl, hh1.mono (by omega)⟩ (.cons ⟨_, rfl, hh2.mono (by omega)⟩ (.cons ⟨_, rfl, hh.mono (by omega)⟩ .nil)))) ?_
  rintro _ ⟨hs, rfl, hs9⟩
  repeat array_get_dec
  refine w_odd (by omega) (by omega) hs9 fun cd s2 q2 k2 => ?_
  repeat array_get_dec
  have hkd : ∀ y ∈ x2.filterMap kd2, ∃ z, y = .str z := fun y hy => by
    obtain ⟨d, hd, e⟩ := List.mem_filterMap.mp hy
    obtain ⟨a, b, rfl, _⟩ := hh2.1 d hd
    cases e
    exact ⟨b, rfl⟩
  refine (wp_lcInv (fun _ s' => s' = s2) Hd (fun d => ∃ a b, d = .tup [.str a, .str b] ∧ Nm a ∧ ∃ e ∈ x2, kd2 e = some (.str b)) ?_ x1 0 s2 hh1.1 rfl).mono fun ys s5 ⟨e5, hy5, hl5⟩ => ?_
  · rintro i d s0 ⟨a, b, rfl, ha, hb⟩ rfl
    repeat array_get_dec
    refine wp_lcFM kd2 ?_ ?_
    · intro d hd
      obtain ⟨a2, b2, rfl, _⟩ := hh2.1 d hd
      repeat array_get_dec
      exact rfl
    refine ⟨le_line (List.length_filterMap_le _ _) (Nat.le_trans (Nat.le_trans hh2.2 hc) (by decide)), ?_⟩
    refine wo_inS ?_ ?_
    · intro y hy
      obtain ⟨z, rfl⟩ := hkd y hy
      rfl
    repeat array_get_dec
    refine ⟨fun hk => ?_, fun _ => rfl⟩
    repeat array_get_dec
    refine ⟨a, b, rfl, ha, ?_⟩
    obtain ⟨y, hy, he⟩ := List.any_eq_true.mp hk
    obtain ⟨z, rfl⟩ := hkd y hy
    obtain ⟨d, hd, e⟩ := List.mem_filterMap.mp hy
    have hz : z = b := by simpa [eqFl] using he
    subst hz
    exact ⟨d, hd, e⟩
  subst e5
  have hc2 : cmpb (.lst ys) := ⟨pls_iff.mpr fun x hx => by
    obtain ⟨a, b, rfl, ha, d, hd, e⟩ := hy5 x hx
    obtain ⟨a2, b2, rfl, _, hb2⟩ := hh2.1 d hd
    cases e
    simp [pl, pls, ha.1.1, hb2.1], Nat.succ_le_succ (deps_le.mpr fun x hx => by
    obtain ⟨a, b, rfl, _⟩ := hy5 x hx
    simp [dep, deps])⟩
  refine ⟨le_line hl5 (Nat.le_trans (Nat.le_trans hh1.2 hc) (by decide)), ?_⟩
  repeat array_get_dec
  refine wo_neD hc2 cmpb_nil ?_
  rw [eqD_nil]
  repeat array_get_dec
  refine sp_and (fun _ g1 => ?_) (fun _ => ?_)
  · have hne : 0 < ys.length := List.length_pos_iff.mpr (by simpa using g1)
    repeat array_get_dec
    refine wo_ixL (by apply Int.emod_nonneg; omega) (Int.emod_lt_of_pos _ (by omega)) fun j d _ e => ?_
    obtain ⟨a, b, rfl, ha, d2, hd2, e2⟩ := hy5 d (List.mem_of_getElem? e)
    repeat array_get_dec
    refine (wp_lcFM (kdf b) ?_ ?_)
    · intro d hd
      obtain ⟨a2, b2, rfl, _⟩ := hh2.1 d hd
      repeat array_get_dec
      refine sp_dec (fun h => ?_) (fun h => ?_)
      · repeat array_get_dec
        subst h
        simp [kdf]
      · simp [kdf, h]
    refine ⟨le_line (List.length_filterMap_le _ _) (Nat.le_trans (Nat.le_trans hh2.2 hc) (by decide)), ?_⟩
    obtain ⟨a2, b2, rfl, ha2, hb2⟩ := hh2.1 d2 hd2
    have hm : D.str a2 ∈ x2.filterMap (kdf b) := List.mem_filterMap.mpr ⟨_, hd2, by cases e2; simp [kdf]⟩
    repeat array_get_dec
    refine wo_ixL (by omega) (by have := List.length_pos_of_mem hm; omega) fun j d _ e => ?_
    obtain ⟨d3, hd3, e3⟩ := List.mem_filterMap.mp (List.mem_of_getElem? e)
    obtain ⟨a3, b3, rfl, ha3, hb3⟩ := hh2.1 d3 hd3
    have e3 : (if b3 = b then some (D.str a3) else none) = some d := e3
    split at e3
    · cases e3
      repeat array_get_dec
      refine wo_cat (by have := hh1.2; have := hh2.2; simp only [line]; omega) ?_
      repeat array_get_dec
      exact p _ _ (.mk hq1 hq2 (.bin (by decide +kernel) (.bin (by decide +kernel) ((Tm.col ha.1).mono (by omega)) ((Tm.col ha3.1).mono (by omega))) (q2.mono (by omega))) (hh.mono (by omega))) (by omega)
    · cases e3
  repeat array_get_dec
  refine wo_cat (by have := hh1.2; have := hh2.2; simp only [line]; omega) ?_
  repeat array_get_dec
  exact p _ _ (.mk hq1 hq2 (q2.mono (by omega)) (hh.mono (by omega))) (by omega)
theorem wo_in23 {i : Int} {Q : D → Prop} (h : Q (.bl (decide (i = 2 ∨ i = 3)))) : WO (oIn (.int i) (.lst [.int 2, .int 3])) Q := ⟨_, by
  have e : (([.int 2, .int 3] : List D).any fun y => eqFl y (.int i)) = decide (i = 2 ∨ i = 3) := by
    simp only [List.any_cons, List.any_nil, eqFl, Bool.or_false]
    by_cases h2 : i = 2
    · subst h2; decide
    · by_cases h3 : i = 3
      · subst h3; decide
      · have h2' : ¬ (2 : Int) = i := fun e => h2 e.symm
        have h3' : ¬ (3 : Int) = i := fun e => h3 e.symm
        simp [h2, h3, h2', h3']
  simp only [oIn]
  rw [if_pos (by rfl), e], h⟩
theorem w_where {n k c : Nat} {s : DS} {t : Str} {d tb : D} {way : Int} {P : D → DS → Prop} (hn : 10 ≤ n) (h : s.k + 3000 ≤ lim) (hd : Tabs tb) (hw : 0 ≤ way) (hw2 : way < 6) (hi : In 3 8 4 d) (p : ∀ d s', In 6 60 20 d → s'.k ≤ s.k + 3000 → P d s') : Wp (sem n 19 [.drw, .str t, tb, d, .int way] s) P := by
  obtain ⟨n, rfl⟩ := Nat.exists_eq_add_of_lt hn
  have fin : ∀ (d : D) (s1 : DS), In 5 50 10 d → s1.k ≤ s.k + 2000 → ∀ b5 b6 : Sl, Wp ((sSeq (sSet (.one 5) (eOp oIx (eVar 3) (eC (.int 1))))
    (sSeq (sIf (tB' (eOp oGt (eVar 4) (eC (.int 2)))) (sSet (.one 5) (eLc (.one 6) (iL (eOp oIx (eVar 3) (eC (.int 1)))) (tB' (eOp oEq (eOp oMod (eCallN 1 (sem (9 + n) 6) (aCons (eVar 0) aNil)) (eC (.int 2))) (eC (.int 0)))) (eVar 6))) sNext)
    (sRet (eTup (aCons (eTup (aCons (eC (.str "where")) (aCons (eOp oIx (eVar 3) (eC (.int 0))) (aCons (eCallN 3 (sem (9 + n) 13) (aCons (eVar 0) (aCons (eVar 1) (aCons (eVar 5) aNil)))) aNil)))) (aCons (eOp oIx (eVar 3) (eC (.int 1))) aNil)))))) [.val .drw, .val (.str t), .val tb, .val d, .val (.int way), b5, b6] s1) (retR P) := by
    intro d s1 hi k1 b5 b6
    obtain ⟨q, hs, rfl, hq, hh⟩ := hi
    have hl := hh.2
    repeat array_get_dec
    array_mem_dec
    · repeat array_get_dec
      refine (wp_lcRem (fun i s' => s'.k + i ≤ s1.k + 10) Hd Hd ?_ hs s1 hh.1 (by omega)).mono fun keys s2 ⟨e1, hy, hl⟩ => ?_
      · rintro i d s0 hd hi
        repeat array_get_dec
        refine w_next (by omega) (by omega) fun r s2 _ _ k1 => ?_
        repeat' first | array_get_dec | array_mem_dec
        · exact ⟨by omega, hd⟩
        · omega
      have hk : Hs 10 keys := ⟨hy, by omega⟩
      refine hk.line (by omega) ?_
      repeat array_get_dec
      refine w_odd (by omega) (by omega) (hk.mono (by omega)) fun cd s2 q2 k2 => ?_
      repeat array_get_dec
      exact p _ _ (.mk ((Qu.where_ hq q2).wide (by omega) (by omega)) (hh.mono (by omega))) (by omega)
    · repeat array_get_dec
      refine w_odd (by omega) (by omega) (hh.mono (by omega)) fun cd s2 q2 k2 => ?_
      repeat array_get_dec
      exact p _ _ (.mk ((Qu.where_ hq q2).wide (by omega) (by omega)) (hh.mono (by omega))) (by omega)
  refine wp_fnL ?_
  unfold b__law_where_shaped
  obtain ⟨q, hs, rfl, hq, hh⟩ := hi
  have hi : In 3 8 4 (.tup [q, .lst hs]) := .mk hq hh
  repeat array_get_dec
  refine sp_dec (fun g1 => ?_) (fun g1 => ?_)
  · repeat array_get_dec
    refine w_odd (by omega) (by omega) (hh.mono (by omega)) fun cd s2 q2 k2 => ?_
    repeat array_get_dec
    refine wo_in23 ?_
    repeat array_get_dec
    refine sp_dec (fun g => absurd g (by omega)) (fun _ => ?_)
    repeat array_get_dec
    refine sp_dec (fun g => absurd g (by omega)) (fun _ => ?_)
    refine wq_next ?_
    exact fin _ _ (.mk ((Qu.where_ hq q2).wide (by omega) (by omega)) (hh.mono (by omega))) (by omega) _ _
  repeat array_get_dec
  refine wo_in23 ?_
  repeat array_get_dec
  refine sp_dec (fun g2 => ?_) (fun g2 => ?_)
  · refine wq_set ?_
    refine wp_pick ?_
    repeat array_get_dec
    rcases g2 with rfl | rfl
    · refine .inl ⟨rfl, rfl, ?_⟩
      refine w_picked (by omega) (by omega) (by omega) (by omega) hi fun d s2 q1 k1 => ?_
      have hL : SetL [Sl.val .drw, .val (.str t), .val tb, .val (.tup [q, .lst hs]), .val (.int 2), .no, .no] 3 (.val d) [Sl.val .drw, .val (.str t), .val tb, .val d, .val (.int 2), .no, .no] := inferInstance
      rw [hL.eq]
      repeat array_get_dec
      refine sp_dec (fun g => absurd g (by omega)) (fun _ => ?_)
      refine wq_next ?_
      exact fin _ _ (q1.mono (by omega) (by omega) (by omega)) (by omega) _ _
    · refine .inr ⟨rfl, rfl, ?_⟩
      refine w_grouped (by omega) (by omega) (by omega) hi fun d s2 q1 k1 => ?_
      have hL : SetL [Sl.val .drw, .val (.str t), .val tb, .val (.tup [q, .lst hs]), .val (.int 3), .no, .no] 3 (.val d) [Sl.val .drw, .val (.str t), .val tb, .val d, .val (.int 3), .no, .no] := inferInstance
      rw [hL.eq]
      repeat array_get_dec
      refine sp_dec (fun g => absurd g (by omega)) (fun _ => ?_)
      refine wq_next ?_
      exact fin _ _ (q1.mono (by omega) (by omega) (by omega)) (by omega) _ _
  repeat array_get_dec
  refine sp_dec (fun g3 => ?_) (fun g3 => ?_)
  · repeat array_get_dec
    refine w_inner (by omega) (by omega) hd (by decide +kernel) fun d2 s2 q2 k2 => ?_
    repeat array_get_dec
    refine w_joined (by omega) (by omega) (by omega) hi q2 fun d3 s3 q3 k3 => ?_
    exact fin _ _ (q3.to.mono (by omega) (by omega) (by omega)) (by omega) _ _
  · refine wq_next ?_
    exact fin _ _ (hi.mono (by omega) (by omega) (by omega)) (by omega) _ _
theorem w_shaped {n : Nat} {s : DS} {t : Str} {tb : D} {P : D → DS → Prop} (hn : 11 ≤ n) (h : s.k + 8000 ≤ lim) (ht : t = "hill" ∨ t = "dale") (hd : Tabs tb) (p : ∀ d s', In 8 100 40 d → s'.k ≤ s.k + 8000 → P d s') : Wp (sem n 20 [.drw, .str t, tb] s) P := by
  obtain ⟨n, rfl⟩ := Nat.exists_eq_add_of_lt hn
  refine wp_fnL ?_
  unfold b__law_shaped
  repeat array_get_dec
  refine w_inner (by omega) (by omega) hd (by decide +kernel) fun d2 s2 q2 k2 => ?_
  obtain ⟨q, hs, rfl, hq, hh⟩ := q2
  have hi : In 3 8 4 (.tup [q, .lst hs]) := .mk hq hh
  repeat array_get_dec
  refine w_next (by omega) (by omega) fun r s3 _ _ k3 => ?_
  repeat array_get_dec
  array_mem_dec
  · repeat array_get_dec
    exact w_where (k := 0) (c := 0) (by omega) (by omega) hd (by omega) (by omega) hi fun d s' q k => p _ _ (q.mono (by omega) (by omega) (by omega)) (by omega)
  repeat array_get_dec
  array_mem_dec
  · repeat array_get_dec
    refine w_picked (by omega) (by omega) (by omega) (by omega) hi fun d4 s4 q4 k4 => ?_
    repeat array_get_dec
    refine wo_ixQ (In 4 20 4) (by omega) (by simp only [List.length_cons, List.length_nil]; omega) (.cons (hi.mono (by omega) (by omega) (by omega)) (.cons (q4.mono (by omega) (by omega) (by omega)) .nil)) fun d hd => ?_
    repeat array_get_dec
    exact w_picked (by omega) (by omega) (by omega) (by omega) hd fun d s' q k => p _ _ (q.mono (by omega) (by omega) (by omega)) (by omega)
  repeat array_get_dec
  array_mem_dec
  · repeat array_get_dec
    refine w_grouped (by omega) (by omega) (by omega) hi fun d4 s4 q4 k4 => ?_
    repeat array_get_dec
    refine w_next (by omega) (by omega) fun r s5 _ _ k5 => ?_
    repeat array_get_dec
    refine wo_ixQ (In 4 20 5) (by omega) (by simp only [List.length_cons, List.length_nil]; omega) (.cons (.mk ((Qu.unlike hq).wide (by omega) (by omega)) (hh.mono (by omega))) (.cons (q4.mono (by omega) (by omega) (by omega)) .nil)) fun d hd => ?_
    obtain ⟨q, hs, rfl, hq, hh⟩ := hd
    repeat array_get_dec
    exact p _ _ (.mk ((Qu.unlike hq).wide (by omega) (by omega)) (hh.mono (by omega))) (by omega)
  repeat array_get_dec
  array_mem_dec
  · repeat array_get_dec
    refine w_sorted (by omega) (by omega) (by omega) (by omega) hi fun d4 s4 q4 k4 => ?_
    have q4' := q4
    obtain ⟨q, hs, rfl, hq, hh⟩ := q4
    repeat array_get_dec
    refine w_picked (by omega) (by omega) (by omega) (by omega) q4' fun d5 s5 q5 k5 => ?_
    repeat array_get_dec
    refine w_next (by omega) (by omega) fun r s5 _ _ k5 => ?_
    repeat array_get_dec
    exact wo_ixQ (In 5 20 4) (by omega) (by simp only [List.length_cons, List.length_nil]; omega) (.cons (.mk ((Qu.unlike hq).wide (by omega) (by omega)) (hh.mono (by omega))) (.cons (q5.mono (by omega) (by omega) (by omega)) .nil)) fun d hd => p _ _ (hd.mono (by omega) (by omega) (by omega)) (by omega)
  repeat array_get_dec
  array_mem_dec
  · repeat array_get_dec
    refine w_odd (by omega) (by omega) (hh.mono (by omega)) fun cd s4 q4 k4 => ?_
    have hw : Qu 4 10 (.tup [.str "where", q, cd]) := .where_ hq q4
    repeat array_get_dec
    refine w_next (by omega) (by omega) fun r s5 _ _ k5 => ?_
    repeat array_get_dec
    refine wo_ixQ (Qu 4 10) (by omega) (by simp only [List.length_cons, List.length_nil]; omega) (.cons hw (.cons (hq.wide (by omega) (by omega)) .nil)) fun d hd => ?_
    repeat array_get_dec
    exact p _ _ (.mk ((Qu.two (by decide +kernel) (.two (by decide +kernel) (hq.mono (by omega)) hw) (hd.mono (by omega : 4 ≤ 5))).wide (by omega) (by omega)) (hh.mono (by omega))) (by omega)
  repeat array_get_dec
  rw [show ((("uv" : Str)).cps.toList.map fun c => D.str ⟨#[c]⟩) = [.str "u", .str "v"] from by
    rw [show (("uv" : Str)).cps.toList = [117, 118] from by decide +kernel]
    rw [show ("u" : Str) = ⟨#[117]⟩ from by decide +kernel, show ("v" : Str) = ⟨#[118]⟩ from by decide +kernel]
    rfl]
  repeat array_get_dec
  refine w_inner (by omega) (by omega) hd (by decide +kernel) fun d4 s4 q4 k4 => ?_
  repeat array_get_dec
  refine w_inner (by omega) (by omega) hd (by decide +kernel) fun d5 s5 q5 k5 => ?_
  repeat array_get_dec
  array_mem_dec
  · repeat array_get_dec
    refine w_joined (by omega) (by omega) (by omega) hi q4 fun d6 s6 q6 k6 => ?_
    repeat array_get_dec
    exact w_joined (by omega) (by omega) (by omega) q6.to (q5.mono (k' := 4) (z' := 8) (c' := 8) (by omega) (by omega) (by omega)) fun d s' q k => p _ _ (q.to.mono (by omega) (by omega) (by omega)) (by omega)
  repeat array_get_dec
  array_mem_dec
  · repeat array_get_dec
    refine w_joined (by omega) (by omega) (by omega) q4 q5 fun d6 s6 q6 k6 => ?_
    repeat array_get_dec
    exact w_joined (by omega) (by omega) (by omega) (hi.mono (k' := 4) (z' := 8) (c' := 8) (by omega) (by omega) (by omega)) q6.to fun d s' q k => p _ _ (q.to.mono (by omega) (by omega) (by omega)) (by omega)
  repeat array_get_dec
  refine w_joined (by omega) (by omega) (by omega) hi q4 fun d6 s6 q6 k6 => ?_
  obtain ⟨qa, qb, cd, hs6, rfl, h1, h2, h3, h4⟩ := q6
  repeat array_get_dec
  have n1 : ¬ (("hill" : Str) = "dale") := by decide +kernel
  have n2 : ¬ (("dale" : Str) = "hill") := by decide +kernel
  have sl : ∀ {Q : D → Prop}, Q (.tup [qa, qb, cd]) → WO (slT (.tup [.str "join", qa, qb, cd]) (some 1) none) Q := fun {Q} h => ⟨_, rfl, h⟩
  rcases ht with rfl | rfl
  · refine ⟨.int 1, by simp [bInt], ?_⟩
    refine ⟨.tup [.str "left"], rfl, ?_⟩
    repeat array_get_dec
    refine ⟨.int 0, by simp [bInt, n1], ?_⟩
    refine ⟨.tup [], rfl, ?_⟩
    repeat array_get_dec
    refine sl ?_
    repeat array_get_dec
    exact p _ _ (.mk ((Qu.join (by decide +kernel) h1 h2 h3).wide (by omega) (by omega)) (h4.mono (by omega))) (by omega)
  · refine ⟨.int 0, by simp [bInt, n2], ?_⟩
    refine ⟨.tup [], rfl, ?_⟩
    repeat array_get_dec
    refine ⟨.int 1, by simp [bInt], ?_⟩
    refine ⟨.tup [.str "join"], rfl, ?_⟩
    repeat array_get_dec
    refine sl ?_
    repeat array_get_dec
    exact p _ _ (.mk ((Qu.join (by decide +kernel) h1 h2 h3).wide (by omega) (by omega)) (h4.mono (by omega))) (by omega)
end K60
set_option Elab.async false
set_option linter.all false
set_option maxRecDepth 100000
set_option maxHeartbeats 4000000
namespace K60
open PySem L2 Lay DL
local macro_rules
  | `(tactic| array_get_dec) => `(tactic| first
    | with_reducible refine Stp.go ?_
    | with_reducible refine wo_mod (by first | decide | omega) ?_
    | with_reducible refine wo_div (by first | decide | omega) ?_
    | with_reducible refine wo_pow19 ?_
    | with_reducible refine wo_pow (by decide) ?_
    | with_reducible refine wo_mul (by first | exact .inr (by decide) | exact .inl (by decide) | exact .inr (by omega) | exact .inl (by omega)) ?_
    | with_reducible refine wo_slS (by decide +kernel) ?_)
local macro_rules
  | `(tactic| array_mem_dec) => `(tactic| first
    | with_reducible refine wo_intC ?_
    | with_reducible refine sp_dec (fun _ => ?_) (fun _ => ?_)
    | with_reducible refine sp_ndec (fun _ => ?_) (fun _ => ?_)
    | with_reducible refine sp_not ?_
    | with_reducible refine sp_and (fun _ _ => ?_) (fun _ => ?_)
    | with_reducible refine sp_or (fun _ => ?_) (fun _ _ => ?_)
    | with_reducible exact AllOf.nil
    | with_reducible refine AllOf.cons ?_ ?_
    | with_reducible refine wo_ixL (by omega) (by simp only [List.length_cons, List.length_nil]; omega) (allIx ?_))
/-! ### what the law counts -/
def Ct (d : D) (m : Nat) : Prop := ∀ (n : Nat) (s : DS) (P : D → DS → Prop), dep d < n → P (.int (m : Nat)) s → Wp (sem n 21 [d] s) P
inductive Cts : List D → List Nat → Prop
  | nil : Cts [] []
  | cons {d : D} {m : Nat} {ds : List D} {ms : List Nat} : Ct d m → Cts ds ms → Cts (d :: ds) (m :: ms)
theorem isf_str {z : Str} {Q : D → Prop} (h : Q (.bl true)) : WO (isF "str" (.str z)) Q := ⟨_, by simp [isF, tyD]; decide +kernel, h⟩
theorem isf_tupS {xs : List D} {Q : D → Prop} (h : Q (.bl false)) : WO (isF "str" (.tup xs)) Q := ⟨_, by simp [isF, tyD]; decide +kernel, h⟩
theorem isf_tup {xs : List D} {Q : D → Prop} (h : Q (.bl true)) : WO (isF "tuple" (.tup xs)) Q := ⟨_, by simp [isF, tyD]; decide +kernel, h⟩
theorem any_eqD_str {w : Str} : ∀ {ws : List Str}, ((ws.map D.str).any fun z => eqD z (.str w)) = decide (w ∈ ws)
  | [] => by simp
  | x :: ws => by
    rw [List.map_cons, List.any_cons, any_eqD_str (ws := ws)]
    by_cases h : x = w
    · subst h
      simp [eqD]
    · have h' : ¬ w = x := fun e => h e.symm
      simp [eqD, h, h']
theorem any_eqD_tup {ys : List D} : ∀ {ws : List Str}, ((ws.map D.str).any fun z => eqD z (.tup ys)) = false
  | [] => by simp
  | x :: ws => by
    rw [List.map_cons, List.any_cons, any_eqD_tup (ws := ws)]
    simp [eqD]
theorem any_fl_str {w : Str} : ∀ {ws : List Str}, ((ws.map D.str).any fun z => eqFl z (.str w)) = decide (w ∈ ws)
  | [] => by simp
  | x :: ws => by
    rw [List.map_cons, List.any_cons, any_fl_str (ws := ws)]
    by_cases h : x = w
    · subst h
      simp [eqFl]
    · have h' : ¬ w = x := fun e => h e.symm
      simp [eqFl, h, h']
theorem wo_inW {w : Str} {ws : List Str} {xs : List D} {Q : D → Prop} (e : ws.map D.str = xs) (h : Q (.bl (decide (w ∈ ws)))) : WO (oIn (.str w) (.lst xs)) Q := by
  subst e
  refine wo_inS (fun y hy => ?_) (by rw [any_fl_str]; exact h)
  obtain ⟨z, _, rfl⟩ := List.mem_map.mp hy
  rfl
theorem intsD_map : ∀ (ms : List Nat), intsD (ms.map fun (m : Nat) => D.int m) = some (ms.map fun (m : Nat) => (m : Int))
  | [] => rfl
  | m :: ms => by simp [intsD, intsD_map ms]
theorem sum_cast : ∀ (ms : List Nat), (ms.map fun (m : Nat) => (m : Int)).sum = ((ms.sum : Nat) : Int)
  | [] => rfl
  | m :: ms => by simp [sum_cast ms]
theorem wo_sum {ms : List Nat} {Q : D → Prop} (h : Q (.int (ms.sum : Nat))) : WO (bSum [.lst (ms.map fun (m : Nat) => D.int m)]) Q := ⟨_, by simp only [bSum, intsD_map, Option.map_some, sum_cast], h⟩
theorem lc_ct {n : Nat} {a0 a1 a2 a3 a4 : Sl} {s : DS} : ∀ {ds : List D} {ms : List Nat} {P : List D → DS → Prop}, Cts ds ms → deps ds < n → P (ms.map fun (m : Nat) => D.int m) s → Wp (lcGo (.one 4) tYes' (eCallN 1 (sem n 21) (aCons (eVar 4) aNil)) [a0, a1, a2, a3, a4] ds s) P
  | _, _, P, .nil, _, p => wp_lcNil p
  | _, _, P, .cons (d := d) (ds := ds) hc hcs, hd, p => by
    simp only [deps] at hd
    repeat array_get_dec
    refine hc n s _ (by omega) ?_
    refine lc_ct hcs (by omega) ?_
    exact p
def wg (w : Str) : Nat := if w ∈ words then 1 else if w ∈ quest then 10 else 0
theorem Cts.len {ds : List D} {ms : List Nat} (h : Cts ds ms) : ms.length = ds.length := by
  induction h with
  | nil => rfl
  | cons _ _ ih => simp [ih]
end K60
set_option Elab.async false
set_option linter.all false
set_option maxRecDepth 100000
set_option maxHeartbeats 4000000
namespace K60
open PySem L2 Lay DL
local macro_rules
  | `(tactic| array_get_dec) => `(tactic| first
    | with_reducible refine Stp.go ?_
    | with_reducible refine wo_mod (by first | decide | omega) ?_
    | with_reducible refine wo_div (by first | decide | omega) ?_
    | with_reducible refine wo_pow19 ?_
    | with_reducible refine wo_pow (by decide) ?_
    | with_reducible refine wo_mul (by first | exact .inr (by decide) | exact .inl (by decide) | exact .inr (by omega) | exact .inl (by omega)) ?_
    | with_reducible refine wo_slS (by decide +kernel) ?_)
local macro_rules
  | `(tactic| array_mem_dec) => `(tactic| first
    | with_reducible refine wo_intC ?_
    | with_reducible refine sp_dec (fun _ => ?_) (fun _ => ?_)
    | with_reducible refine sp_ndec (fun _ => ?_) (fun _ => ?_)
    | with_reducible refine sp_not ?_
    | with_reducible refine sp_and (fun _ _ => ?_) (fun _ => ?_)
    | with_reducible refine sp_or (fun _ => ?_) (fun _ _ => ?_)
    | with_reducible exact AllOf.nil
    | with_reducible refine AllOf.cons ?_ ?_
    | with_reducible refine wo_ixL (by omega) (by simp only [List.length_cons, List.length_nil]; omega) (allIx ?_))
theorem ct_str {w : Str} {xs : List D} {ms : List Nat} (hp : cmpb (.tup (.str w :: xs))) (hl : xs.length ≤ 1000) (hw : w ∉ leaves) (hw2 : w = "table" → xs.length ≠ 1) (h : Cts (.str w :: xs) ms) : Ct (.tup (.str w :: xs)) (ms.sum + wg w) := by
  intro n s P hn p
  obtain ⟨n, rfl⟩ : ∃ m, n = m + 1 := ⟨n - 1, by omega⟩
  have hx : cmpb (.str w) := ⟨by have := hp.1; simp only [pl, pls, Bool.and_eq_true] at this; exact this.1, by simp [dep]⟩
  show Wp (fnD 5 (b__law_counted (sem n)) [.tup (.str w :: xs)] s) P
  refine wp_fnL ?_
  unfold b__law_counted
  repeat array_get_dec
  refine isf_tup ?_
  repeat array_get_dec
  refine wo_eqD hp cmpb_nilT ?_
  rw [eqD_nilT]
  repeat array_get_dec
  refine ⟨fun h => absurd h (by simp), fun _ => ?_⟩
  repeat array_get_dec
  refine wo_inD hx ⟨by decide +kernel, by decide +kernel⟩ ?_
  rw [show ([.str "num", .str "text", .str "blank", .str "col", .str "date"] : List D) = leaves.map D.str from rfl, any_eqD_str]
  repeat array_get_dec
  refine sp_dec (fun h => absurd h hw) (fun _ => ?_)
  repeat array_get_dec
  refine wo_eqD hx ⟨by decide +kernel, by decide +kernel⟩ ?_
  repeat array_get_dec
  refine ⟨fun h => ?_, fun _ => ?_⟩
  · simp only [Bool.and_eq_true, decide_eq_true_eq, eqD, beq_iff_eq] at h
    have := hw2 h.1
    have h2 := h.2
    simp only [List.length_cons] at h2
    omega
  simp only [dep] at hn
  repeat first | with_reducible refine lc_ct (n := n) h (Nat.lt_of_succ_lt_succ hn) ?_ | array_get_dec
  refine ⟨le_line (m := 1001) (by rw [List.length_map, h.len]; simp only [List.length_cons]; omega) (by decide), ?_⟩
  repeat array_get_dec
  refine wo_sum ?_
  repeat array_get_dec
  refine isf_str ?_
  repeat array_get_dec
  refine wo_inW (ws := words) rfl ?_
  repeat array_get_dec
  by_cases hw1 : w ∈ words
  · refine ⟨fun _ => ?_, fun h => absurd h (by simp [hw1])⟩
    repeat array_get_dec
    have e : wg w = 1 := by unfold wg; rw [if_pos hw1]
    rw [e] at p
    exact p
  refine ⟨fun h => absurd h (by simp [hw1]), fun _ => ?_⟩
  repeat array_get_dec
  refine wp_eAnd ?_
  repeat array_get_dec
  refine isf_str ?_
  refine ⟨true, rfl, fun _ => ?_, fun h => (nomatch h)⟩
  repeat array_get_dec
  refine wo_inW (ws := quest) rfl ?_
  repeat array_get_dec
  refine wo_intC (sp_dec (fun h2 => ?_) (fun h2 => ?_))
  · repeat array_get_dec
    have e : wg w = 10 := by unfold wg; rw [if_neg hw1, if_pos h2]
    rw [e] at p
    exact p
  · repeat array_get_dec
    have e : wg w = 0 := by unfold wg; rw [if_neg hw1, if_neg h2]
    rw [e] at p
    exact p
theorem ct_tup {ys xs : List D} {ms : List Nat} (hp : cmpb (.tup (.tup ys :: xs))) (hl : xs.length ≤ 1000) (h : Cts (.tup ys :: xs) ms) : Ct (.tup (.tup ys :: xs)) ms.sum := by
  intro n s P hn p
  obtain ⟨n, rfl⟩ : ∃ m, n = m + 1 := ⟨n - 1, by omega⟩
  have hx : cmpb (.tup ys) := ⟨by have := hp.1; simp only [pl, pls, Bool.and_eq_true] at this; exact this.1, by have := hp.2; simp only [dep, deps] at this ⊢; omega⟩
  show Wp (fnD 5 (b__law_counted (sem n)) [.tup (.tup ys :: xs)] s) P
  refine wp_fnL ?_
  unfold b__law_counted
  repeat array_get_dec
  refine isf_tup ?_
  repeat array_get_dec
  refine wo_eqD hp cmpb_nilT ?_
  rw [eqD_nilT]
  repeat array_get_dec
  refine ⟨fun h => absurd h (by simp), fun _ => ?_⟩
  repeat array_get_dec
  refine wo_inD hx ⟨by decide +kernel, by decide +kernel⟩ ?_
  rw [show ([.str "num", .str "text", .str "blank", .str "col", .str "date"] : List D) = leaves.map D.str from rfl, any_eqD_tup]
  repeat array_get_dec
  refine wo_eqD hx ⟨by decide +kernel, by decide +kernel⟩ ?_
  repeat array_get_dec
  refine ⟨fun h => absurd h (by simp [eqD]), fun _ => ?_⟩
  simp only [dep] at hn
  repeat first | with_reducible refine lc_ct (n := n) h (Nat.lt_of_succ_lt_succ hn) ?_ | array_get_dec
  refine ⟨le_line (m := 1001) (by rw [List.length_map, h.len]; simp only [List.length_cons]; omega) (by decide), ?_⟩
  repeat array_get_dec
  refine wo_sum ?_
  repeat first | with_reducible refine wp_tAnd ?_ | array_get_dec
  refine isf_tupS ?_
  repeat array_get_dec
  refine wp_eAnd ?_
  repeat array_get_dec
  refine isf_tupS ?_
  refine ⟨false, rfl, fun h => (nomatch h), fun _ => ?_⟩
  repeat array_get_dec
  refine wo_intC (sp_false ?_)
  repeat array_get_dec
  exact p
theorem ct_atom {d : D} (h : cmpb d) (hd : dep d = 0) : Ct d 0 := by
  intro n s P hn p
  obtain ⟨n, rfl⟩ : ∃ m, n = m + 1 := ⟨n - 1, by omega⟩
  show Wp (fnD 5 (b__law_counted (sem n)) [d] s) P
  refine wp_fnL ?_
  unfold b__law_counted
  repeat array_get_dec
  have hi : WO (isF "tuple" d) fun z => z = .bl false := by
    cases d with
    | non => exact ⟨_, by simp [isF, tyD]; decide +kernel, rfl⟩
    | bl b => exact ⟨_, by simp [isF, tyD]; decide +kernel, rfl⟩
    | int b => exact ⟨_, by simp [isF, tyD]; decide +kernel, rfl⟩
    | str b => exact ⟨_, by simp [isF, tyD]; decide +kernel, rfl⟩
    | lst b => simp [dep] at hd
    | tup b => simp [dep] at hd
    | dic _ _ => exact absurd h.1 (by simp [pl])
    | drw => exact absurd h.1 (by simp [pl])
  obtain ⟨z, e, rfl⟩ := hi
  refine ⟨_, e, ?_⟩
  repeat array_get_dec
  refine wo_eqD h cmpb_nilT ?_
  repeat array_get_dec
  refine ⟨fun _ => ?_, fun h => absurd h (by simp)⟩
  repeat array_get_dec
  exact p
theorem ct_nil : Ct (.tup []) 0 := by
  intro n s P hn p
  obtain ⟨n, rfl⟩ : ∃ m, n = m + 1 := ⟨n - 1, by omega⟩
  show Wp (fnD 5 (b__law_counted (sem n)) [.tup []] s) P
  refine wp_fnL ?_
  unfold b__law_counted
  repeat array_get_dec
  refine isf_tup ?_
  repeat array_get_dec
  refine wo_eqD cmpb_nilT cmpb_nilT ?_
  rw [eqD_nilT]
  repeat array_get_dec
  refine ⟨fun _ => ?_, fun h => absurd h (by simp)⟩
  repeat array_get_dec
  exact p
theorem ct_leaf {w : Str} {xs : List D} (hp : cmpb (.tup (.str w :: xs))) (hw : w ∈ leaves) : Ct (.tup (.str w :: xs)) 1 := by
  intro n s P hn p
  obtain ⟨n, rfl⟩ : ∃ m, n = m + 1 := ⟨n - 1, by omega⟩
  have hx : cmpb (.str w) := ⟨by have := hp.1; simp only [pl, pls, Bool.and_eq_true] at this; exact this.1, by simp [dep]⟩
  show Wp (fnD 5 (b__law_counted (sem n)) [.tup (.str w :: xs)] s) P
  refine wp_fnL ?_
  unfold b__law_counted
  repeat array_get_dec
  refine isf_tup ?_
  repeat array_get_dec
  refine wo_eqD hp cmpb_nilT ?_
  rw [eqD_nilT]
  repeat array_get_dec
  refine ⟨fun h => absurd h (by simp), fun _ => ?_⟩
  repeat array_get_dec
  refine wo_inD hx ⟨by decide +kernel, by decide +kernel⟩ ?_
  rw [show ([.str "num", .str "text", .str "blank", .str "col", .str "date"] : List D) = leaves.map D.str from rfl, any_eqD_str]
  repeat array_get_dec
  refine sp_dec (fun _ => ?_) (fun h => absurd hw h)
  repeat array_get_dec
  exact p
theorem ct_table {x : Str} (hx : Nm x) : Ct (.tup [.str "table", .str x]) 10 := by
  intro n s P hn p
  obtain ⟨n, rfl⟩ : ∃ m, n = m + 1 := ⟨n - 1, by omega⟩
  have ht : cmpb (.str "table") := ⟨by decide +kernel, by decide +kernel⟩
  have hp : cmpb (.tup [.str "table", .str x]) := ⟨by simp only [pl, pls, hx.1.1, Bool.and_true]; decide +kernel, by simp [dep, deps]⟩
  show Wp (fnD 5 (b__law_counted (sem n)) [.tup [.str "table", .str x]] s) P
  refine wp_fnL ?_
  unfold b__law_counted
  repeat array_get_dec
  refine isf_tup ?_
  repeat array_get_dec
  refine wo_eqD hp cmpb_nilT ?_
  rw [eqD_nilT]
  repeat array_get_dec
  refine ⟨fun h => absurd h (by simp), fun _ => ?_⟩
  repeat array_get_dec
  refine wo_inD ht ⟨by decide +kernel, by decide +kernel⟩ ?_
  rw [show ([.str "num", .str "text", .str "blank", .str "col", .str "date"] : List D) = leaves.map D.str from rfl, any_eqD_str]
  repeat array_get_dec
  refine sp_dec (fun h => absurd h (by decide +kernel)) (fun _ => ?_)
  repeat array_get_dec
  refine wo_eqD ht ht ?_
  repeat array_get_dec
  refine ⟨fun _ => ?_, fun h => absurd h (by simp [eqD])⟩
  repeat array_get_dec
  exact p
end K60
set_option Elab.async false
set_option linter.all false
set_option maxRecDepth 100000
set_option maxHeartbeats 4000000
namespace K60
open PySem L2 Lay DL
local macro_rules
  | `(tactic| array_get_dec) => `(tactic| first
    | with_reducible refine Stp.go ?_
    | with_reducible refine wo_mod (by first | decide | omega) ?_
    | with_reducible refine wo_div (by first | decide | omega) ?_
    | with_reducible refine wo_pow19 ?_
    | with_reducible refine wo_pow (by decide) ?_
    | with_reducible refine wo_mul (by first | exact .inr (by decide) | exact .inl (by decide) | exact .inr (by omega) | exact .inl (by omega)) ?_
    | with_reducible refine wo_slS (by decide +kernel) ?_)
local macro_rules
  | `(tactic| array_mem_dec) => `(tactic| first
    | with_reducible refine wo_intC ?_
    | with_reducible refine sp_dec (fun _ => ?_) (fun _ => ?_)
    | with_reducible refine sp_ndec (fun _ => ?_) (fun _ => ?_)
    | with_reducible refine sp_not ?_
    | with_reducible refine sp_and (fun _ _ => ?_) (fun _ => ?_)
    | with_reducible refine sp_or (fun _ => ?_) (fun _ _ => ?_)
    | with_reducible exact AllOf.nil
    | with_reducible refine AllOf.cons ?_ ?_
    | with_reducible refine wo_ixL (by omega) (by simp only [List.length_cons, List.length_nil]; omega) (allIx ?_))
/-! ### what the program tells of terms -/
def look (w : Str) : Option (List Int) := if (tb_PLACES.lookup w).isSome then tb_PLACES.lookup w else if w ∈ ms_PLACES then tb_ASKS.lookup w else none
theorem w_places {n : Nat} {w : Str} {xs : List D} {ns : List Int} {s : DS} {P : D → DS → Prop} (hn : 1 ≤ n) (h : look w = some ns) (p : P (intsT ns) s) : Wp (sem n 0 [.tup (.str w :: xs)] s) P := by
  obtain ⟨n, rfl⟩ : ∃ m, n = m + 1 := ⟨n - 1, by omega⟩
  show Wp (fnD 1 (b_places_of (sem n)) [.tup (.str w :: xs)] s) P
  refine wp_fnL ?_
  unfold b_places_of
  unfold look at h
  repeat array_get_dec
  by_cases h1 : (tb_PLACES.lookup w).isSome = true
  · rw [if_pos h1] at h
    refine ⟨.bl true, by simp only [wIn]; rw [if_pos h1], ?_⟩
    repeat array_get_dec
    exact ⟨_, by simp only [wIx]; rw [h]; rfl, p⟩
  · rw [if_neg h1] at h
    split at h
    · rename_i h2
      refine ⟨.bl false, by simp only [wIn]; rw [if_neg h1, if_pos h2], ?_⟩
      repeat array_get_dec
      exact ⟨_, by simp only [wIx]; rw [h]; rfl, p⟩
    · cases h
theorem w_parts0 {n : Nat} {w : Str} {xs : List D} {s : DS} {P : D → DS → Prop} (hn : 2 ≤ n) (h : look w = some []) (p : P (.lst []) s) : Wp (sem n 1 [.tup (.str w :: xs)] s) P := by
  obtain ⟨n, rfl⟩ : ∃ m, n = m + 1 := ⟨n - 1, by omega⟩
  show Wp (fnD 2 (b_parts_of (sem n)) [.tup (.str w :: xs)] s) P
  refine wp_fnL ?_
  unfold b_parts_of
  repeat array_get_dec
  refine w_places (by omega) h ?_
  show ∃ ys, D.tup [] = D.tup ys ∧ _
  repeat array_get_dec
  exact p
theorem w_parts1 {n : Nat} {w : Str} {a : D} {xs : List D} {s : DS} {P : D → DS → Prop} (hn : 2 ≤ n) (h : look w = some [1]) (p : P (.lst [a]) s) : Wp (sem n 1 [.tup (.str w :: a :: xs)] s) P := by
  obtain ⟨n, rfl⟩ : ∃ m, n = m + 1 := ⟨n - 1, by omega⟩
  show Wp (fnD 2 (b_parts_of (sem n)) [.tup (.str w :: a :: xs)] s) P
  refine wp_fnL ?_
  unfold b_parts_of
  repeat array_get_dec
  refine w_places (by omega) h ?_
  show ∃ ys, D.tup [.int 1] = D.tup ys ∧ _
  repeat array_get_dec
  exact p
theorem w_parts2 {n : Nat} {w : Str} {a b : D} {xs : List D} {s : DS} {P : D → DS → Prop} (hn : 2 ≤ n) (h : look w = some [1, 2]) (p : P (.lst [a, b]) s) : Wp (sem n 1 [.tup (.str w :: a :: b :: xs)] s) P := by
  obtain ⟨n, rfl⟩ : ∃ m, n = m + 1 := ⟨n - 1, by omega⟩
  show Wp (fnD 2 (b_parts_of (sem n)) [.tup (.str w :: a :: b :: xs)] s) P
  refine wp_fnL ?_
  unfold b_parts_of
  repeat array_get_dec
  refine w_places (by omega) h ?_
  show ∃ ys, D.tup [.int 1, .int 2] = D.tup ys ∧ _
  repeat array_get_dec
  exact p
theorem w_parts3 {n : Nat} {w : Str} {a b c : D} {xs : List D} {s : DS} {P : D → DS → Prop} (hn : 2 ≤ n) (h : look w = some [1, 2, 3]) (p : P (.lst [a, b, c]) s) : Wp (sem n 1 [.tup (.str w :: a :: b :: c :: xs)] s) P := by
  obtain ⟨n, rfl⟩ : ∃ m, n = m + 1 := ⟨n - 1, by omega⟩
  show Wp (fnD 2 (b_parts_of (sem n)) [.tup (.str w :: a :: b :: c :: xs)] s) P
  refine wp_fnL ?_
  unfold b_parts_of
  repeat array_get_dec
  refine w_places (by omega) h ?_
  show ∃ ys, D.tup [.int 1, .int 2, .int 3] = D.tup ys ∧ _
  repeat array_get_dec
  exact p
theorem w_parts23 {n : Nat} {w : Str} {x a b : D} {xs : List D} {s : DS} {P : D → DS → Prop} (hn : 2 ≤ n) (h : look w = some [2, 3]) (p : P (.lst [a, b]) s) : Wp (sem n 1 [.tup (.str w :: x :: a :: b :: xs)] s) P := by
  obtain ⟨n, rfl⟩ : ∃ m, n = m + 1 := ⟨n - 1, by omega⟩
  show Wp (fnD 2 (b_parts_of (sem n)) [.tup (.str w :: x :: a :: b :: xs)] s) P
  refine wp_fnL ?_
  unfold b_parts_of
  repeat array_get_dec
  refine w_places (by omega) h ?_
  show ∃ ys, D.tup [.int 2, .int 3] = D.tup ys ∧ _
  repeat array_get_dec
  exact p
/-- a term's paths: so many, each a tuple -/
def Ps (k m : Nat) (xs : List D) : Prop := xs.length = m ∧ ∀ x ∈ xs, ∃ ys, x = .tup ys ∧ ys.length ≤ k
def Pt (k : Nat) (d : D) (m : Nat) : Prop := ∀ (n : Nat) (s : DS) (P : D → DS → Prop), k + 2 ≤ n → (∀ xs, Ps k m xs → P (.lst xs) s) → Wp (sem n 2 [d] s) P
def pre (i : Int) : D → Option D
  | .tup ys => some (.tup (.int i :: ys))
  | _ => none
/-- one part's paths behind the others -/
theorem w_ext {n k m : Nat} {d : D} {a0 a2 a3 a4 : Sl} {i : Int} {ds : List D} {s : DS} {R : Res → DS → Prop} (hn : k + 2 ≤ n) (hp : Pt k d m) (hl : ds.length + m ≤ line) (hk : k < line)
    (p : ∀ es, Ps (k + 1) m es → R (.nx [a0, .own (.lst (ds ++ es)), .val (.int i), .val d, a4]) s) : Wp (sExt 1 (eLc (.one 4) (iL (eCallN 1 (sem n 2) (aCons (eVar 3) aNil))) tYes' (eOp oCatT (eTup (aCons (eVar 2) aNil)) (eVar 4))) [a0, .own (.lst ds), .val (.int i), .val d, a4] s) R := by
  repeat array_get_dec
  refine hp n s _ hn fun xs hx => ?_
  repeat array_get_dec
  refine wp_lcFM (pre i) ?_ ?_
  · intro d hd
    obtain ⟨ys, rfl, hy⟩ := hx.2 d hd
    repeat array_get_dec
    exact wo_catT (by simp only [List.length_cons, List.length_nil]; omega) ⟨rfl, rfl⟩
  have hL : (xs.filterMap (pre i)).length = xs.length := by
    have hx2 := hx.2
    clear hx
    induction xs with
    | nil => rfl
    | cons x xs ih =>
      obtain ⟨ys, rfl, hy⟩ := hx2 x (by simp)
      rw [List.filterMap_cons]
      simp only [pre, List.length_cons]
      rw [ih fun z hz => hx2 z (by simp [hz])]
  have hs : Ps (k + 1) m (xs.filterMap (pre i)) := ⟨by rw [hL, hx.1], fun x hx' => by
    obtain ⟨z, hz, e⟩ := List.mem_filterMap.mp hx'
    obtain ⟨ys, rfl, hy⟩ := hx.2 z hz
    cases e
    exact ⟨_, rfl, by simpa using hy⟩⟩
  refine ⟨by rw [hs.1]; omega, ?_⟩
  refine ⟨_, rfl, by rw [hs.1]; exact hl, ?_⟩
  exact p _ hs
theorem Ps.mono {k k' m : Nat} {xs : List D} (h : Ps k m xs) (hk : k ≤ k') : Ps k' m xs := ⟨h.1, fun x hx => let ⟨ys, e, hy⟩ := h.2 x hx; ⟨ys, e, Nat.le_trans hy hk⟩⟩
theorem Ps.app {k m m' : Nat} {xs ys : List D} (h : Ps k m xs) (h2 : Ps k m' ys) : Ps k (m + m') (xs ++ ys) := ⟨by rw [List.length_append, h.1, h2.1], fun x hx => by
  rcases List.mem_append.mp hx with hx | hx
  · exact h.2 x hx
  · exact h2.2 x hx⟩
theorem ps0 {k : Nat} : Ps k 1 [.tup []] := ⟨rfl, fun x hx => by
  rw [List.mem_singleton.mp hx]
  exact ⟨[], rfl, by simp⟩⟩
theorem pt0 {k : Nat} {w : Str} {xs : List D} (h : look w = some []) : Pt (k + 1) (.tup (.str w :: xs)) 1 := by
  intro n s P hn p
  obtain ⟨n, rfl⟩ : ∃ m, n = m + 1 := ⟨n - 1, by omega⟩
  show Wp (fnD 5 (b_paths (sem n)) [.tup (.str w :: xs)] s) P
  refine wp_fnL ?_
  unfold b_paths
  repeat array_get_dec
  refine w_parts0 (by omega) h ?_
  repeat array_get_dec
  rw [show enumD 0 [] = [] from rfl]
  repeat array_get_dec
  exact p _ ps0
inductive Pts (k : Nat) : List D → List Nat → Prop
  | nil : Pts k [] []
  | cons {d : D} {m : Nat} {ds : List D} {ms : List Nat} : Pt k d m → Pts k ds ms → Pts k (d :: ds) (m :: ms)
theorem w_loop {n k : Nat} {a0 a4 : Sl} {s : DS} {R : Res → DS → Prop} (hn : k + 2 ≤ n) (hk : k < line) : ∀ {parts : List D} {ms : List Nat} {i : Nat} {ds : List D} {a2 a3 : Sl}, Pts k parts ms → ds.length + ms.sum ≤ line →
    (∀ es a2 a3, Ps (k + 1) ms.sum es → R (.nx [a0, .own (.lst (ds ++ es)), a2, a3, a4]) s) → Wp (forGo (.many [2, 3]) (sExt 1 (eLc (.one 4) (iL (eCallN 1 (sem n 2) (aCons (eVar 3) aNil))) tYes' (eOp oCatT (eTup (aCons (eVar 2) aNil)) (eVar 4)))) (enumD i parts) [a0, .own (.lst ds), a2, a3, a4] s) R
  | _, _, i, ds, a2, a3, .nil, hl, p => by
    refine wp_forNil ?_
    have := p [] a2 a3 ⟨rfl, by simp⟩
    rw [List.append_nil] at this
    exact this
  | _, _, i, ds, a2, a3, .cons (d := d) (m := m) (ds := parts) (ms := ms) h hs, hl, p => by
    have hl' : ds.length + (m + ms.sum) ≤ line := by simpa using hl
    show Wp (forGo _ _ (.tup [.int (i : Nat), d] :: enumD (i + 1) parts) _ _) _
    refine wp_forCons ?_
    refine ⟨[a0, .own (.lst ds), .val (.int (i : Nat)), .val d, a4], rfl, ?_⟩
    refine w_ext (a2 := .no) (a3 := .no) hn h (by omega) hk fun es h1 => ?_
    show Wp (forGo _ _ (enumD (i + 1) parts) _ _) _
    refine w_loop hn hk hs (by rw [List.length_append, h1.1]; omega) fun es2 b2 b3 h2 => ?_
    have := p (es ++ es2) b2 b3 (by rw [List.sum_cons]; exact h1.app h2)
    rw [← List.append_assoc] at this
    exact this
theorem pts {k : Nat} {ds parts : List D} {ms : List Nat} (hpart : ∀ n s P, 2 ≤ n → P (.lst parts) s → Wp (sem n 1 [.tup ds] s) P) (h : Pts k parts ms) (hk : k ≤ 100) (hm : ms.sum ≤ 60000) : Pt (k + 1) (.tup ds) (ms.sum + 1) := by
  intro n s P hn p
  obtain ⟨n, rfl⟩ : ∃ m, n = m + 1 := ⟨n - 1, by omega⟩
  have hline : line = 100000 := rfl
  show Wp (fnD 5 (b_paths (sem n)) [.tup ds] s) P
  refine wp_fnL ?_
  unfold b_paths
  repeat array_get_dec
  refine hpart _ _ _ (by omega) ?_
  repeat array_get_dec
  refine w_loop (by omega) (by omega) h (by simp only [List.length_cons, List.length_nil]; omega) fun es a2 a3 h1 => ?_
  repeat array_get_dec
  refine p _ ?_
  have := ps0.app h1
  rw [Nat.add_comm 1] at this
  exact this
/-! ### both together -/
theorem look0 : ∀ w ∈ leaves ++ (["yes", "no"] : List Str), look w = some [] := by decide +kernel
theorem look1 : ∀ w ∈ uns, look w = some [1] := by decide +kernel
theorem look2 : ∀ w ∈ bins, look w = some [1, 2] := by decide +kernel
theorem look3 : ∀ w ∈ tris, look w = some [1, 2, 3] := by decide +kernel
theorem lookL : look "let" = some [2, 3] := by decide +kernel
theorem wds1 : ∀ w ∈ uns ++ bins ++ tris ++ (["yes", "no", "let"] : List Str), wg w = 1 ∧ w ∉ leaves ∧ w ≠ "table" := by decide +kernel
theorem ctS (w : Str) (h : Wd w) : Ct (.str w) 0 := ct_atom (cmpb_str h.1) rfl
theorem Tm.cmpb {k : Nat} {d : D} (h : Tm k d) (hk : k ≤ 60) : cmpb d := ⟨h.pl.1, Nat.le_trans h.pl.2 hk⟩
theorem tm_both {k : Nat} {d : D} (h : Tm k d) : k ≤ 7 → ∃ m, m ≤ 4 ^ k ∧ Ct d m ∧ Pt k d m := by
  induction h with
  | @leaf k w xs h1 h2 h3 =>
    intro hk
    have hc : cmpb (.tup (.str w :: xs)) := (Tm.leaf (k := k) h1 h2 h3).cmpb (by omega)
    exact ⟨1, Nat.one_le_pow _ _ (by decide), ct_leaf hc h1, pt0 (look0 w (by simp [h1]))⟩
  | @nul k w h1 =>
    intro hk
    have hc : cmpb (.tup [.str w]) := (Tm.nul (k := k) h1).cmpb (by omega)
    have hw := wds1 w (by simp at h1; rcases h1 with h1 | h1 <;> simp [h1])
    have hd := wds w (by simp at h1; rcases h1 with h1 | h1 <;> simp [h1])
    have := ct_str hc (by simp) hw.2.1 (fun e => absurd e hw.2.2) (.cons (ctS w hd) .nil)
    rw [hw.1] at this
    exact ⟨1, Nat.one_le_pow _ _ (by decide), this, pt0 (look0 w (by simp at h1; rcases h1 with h1 | h1 <;> simp [h1]))⟩
  | @un k w a h1 ha ih =>
    intro hk
    obtain ⟨m, hm, c1, p1⟩ := ih (by omega)
    have hc : cmpb (.tup [.str w, a]) := (Tm.un h1 ha).cmpb (by omega)
    have hw := wds1 w (by simp [h1])
    have hd := wds w (by simp [h1])
    have c := ct_str hc (by simp) hw.2.1 (fun e => absurd e hw.2.2) (.cons (ctS w hd) (.cons c1 .nil))
    rw [hw.1] at c
    have hb : m ≤ 4 ^ 7 := Nat.le_trans hm (Nat.pow_le_pow_right (by decide) (by omega))
    have h41 : 1 ≤ 4 ^ k := Nat.one_le_pow _ _ (by decide)
    have p := pts (k := k) (ds := [.str w, a]) (fun n s P hn p => w_parts1 hn (look1 w h1) p) (.cons p1 .nil) (by omega) (by simp; omega)
    simp only [List.sum_cons, List.sum_nil, Nat.zero_add, Nat.add_zero] at c p
    exact ⟨m + 1, by rw [Nat.pow_succ]; omega, c, p⟩
  | @bin k w a b h1 ha hb ih ih2 =>
    intro hk
    obtain ⟨m, hm, c1, p1⟩ := ih (by omega)
    obtain ⟨m2, hm2, c2, p2⟩ := ih2 (by omega)
    have hc : cmpb (.tup [.str w, a, b]) := (Tm.bin h1 ha hb).cmpb (by omega)
    have hw := wds1 w (by simp [h1])
    have hd := wds w (by simp [h1])
    have c := ct_str hc (by simp) hw.2.1 (fun e => absurd e hw.2.2) (.cons (ctS w hd) (.cons c1 (.cons c2 .nil)))
    rw [hw.1] at c
    have hb : 4 ^ k ≤ 4 ^ 7 := Nat.pow_le_pow_right (by decide) (by omega)
    have h41 : 1 ≤ 4 ^ k := Nat.one_le_pow _ _ (by decide)
    have p := pts (k := k) (ds := [.str w, a, b]) (fun n s P hn p => w_parts2 hn (look2 w h1) p) (.cons p1 (.cons p2 .nil)) (by omega) (by simp; omega)
    simp only [List.sum_cons, List.sum_nil, Nat.zero_add, Nat.add_zero] at c p
    exact ⟨m + m2 + 1, by rw [Nat.pow_succ]; omega, c, p⟩
  | @tri k w a b e h1 ha hb he ih ih2 ih3 =>
    intro hk
    obtain ⟨m, hm, c1, p1⟩ := ih (by omega)
    obtain ⟨m2, hm2, c2, p2⟩ := ih2 (by omega)
    obtain ⟨m3, hm3, c3, p3⟩ := ih3 (by omega)
    have hc : cmpb (.tup [.str w, a, b, e]) := (Tm.tri h1 ha hb he).cmpb (by omega)
    have hw := wds1 w (by simp [h1])
    have hd := wds w (by simp [h1])
    have c := ct_str hc (by simp) hw.2.1 (fun e => absurd e hw.2.2) (.cons (ctS w hd) (.cons c1 (.cons c2 (.cons c3 .nil))))
    rw [hw.1] at c
    have hb : 4 ^ k ≤ 4 ^ 7 := Nat.pow_le_pow_right (by decide) (by omega)
    have h41 : 1 ≤ 4 ^ k := Nat.one_le_pow _ _ (by decide)
    have p := pts (k := k) (ds := [.str w, a, b, e]) (fun n s P hn p => w_parts3 hn (look3 w h1) p) (.cons p1 (.cons p2 (.cons p3 .nil))) (by omega) (by simp; omega)
    simp only [List.sum_cons, List.sum_nil, Nat.zero_add, Nat.add_zero] at c p
    exact ⟨m + (m2 + m3) + 1, by rw [Nat.pow_succ]; omega, c, p⟩
  | @lt k x a b h1 ha hb ih ih2 =>
    intro hk
    obtain ⟨m, hm, c1, p1⟩ := ih (by omega)
    obtain ⟨m2, hm2, c2, p2⟩ := ih2 (by omega)
    have hc : cmpb (.tup [.str "let", x, a, b]) := (Tm.lt h1 ha hb).cmpb (by omega)
    have hw := wds1 "let" (by simp)
    have hd := wds "let" (by simp)
    have c := ct_str hc (by simp) hw.2.1 (fun e => absurd e hw.2.2) (.cons (ctS _ hd) (.cons (ct_atom ⟨h1.pl.1, by rw [h1.pl.2]; omega⟩ h1.pl.2) (.cons c1 (.cons c2 .nil))))
    rw [hw.1] at c
    have hb : 4 ^ k ≤ 4 ^ 7 := Nat.pow_le_pow_right (by decide) (by omega)
    have h41 : 1 ≤ 4 ^ k := Nat.one_le_pow _ _ (by decide)
    have p := pts (k := k) (ds := [.str "let", x, a, b]) (fun n s P hn p => w_parts23 hn lookL p) (.cons p1 (.cons p2 .nil)) (by omega) (by simp; omega)
    simp only [List.sum_cons, List.sum_nil, Nat.zero_add, Nat.add_zero] at c p
    exact ⟨m + m2 + 1, by rw [Nat.pow_succ]; omega, c, p⟩
end K60
set_option Elab.async false
set_option linter.all false
set_option maxRecDepth 100000
set_option maxHeartbeats 4000000
namespace K60
open PySem L2 Lay DL
local macro_rules
  | `(tactic| array_get_dec) => `(tactic| first
    | with_reducible refine Stp.go ?_
    | with_reducible refine wo_mod (by first | decide | omega) ?_
    | with_reducible refine wo_div (by first | decide | omega) ?_
    | with_reducible refine wo_pow19 ?_
    | with_reducible refine wo_pow (by decide) ?_
    | with_reducible refine wo_mul (by first | exact .inr (by decide) | exact .inl (by decide) | exact .inr (by omega) | exact .inl (by omega)) ?_
    | with_reducible refine wo_slS (by decide +kernel) ?_)
local macro_rules
  | `(tactic| array_mem_dec) => `(tactic| first
    | with_reducible refine wo_intC ?_
    | with_reducible refine sp_dec (fun _ => ?_) (fun _ => ?_)
    | with_reducible refine sp_ndec (fun _ => ?_) (fun _ => ?_)
    | with_reducible refine sp_not ?_
    | with_reducible refine sp_and (fun _ _ => ?_) (fun _ => ?_)
    | with_reducible refine sp_or (fun _ => ?_) (fun _ _ => ?_)
    | with_reducible exact AllOf.nil
    | with_reducible refine AllOf.cons ?_ ?_
    | with_reducible refine wo_ixL (by omega) (by simp only [List.length_cons, List.length_nil]; omega) (allIx ?_))
/-! ### weights -/
def Wt (k : Nat) (d : D) (m : Nat) : Prop := ∀ (n : Nat) (s : DS) (P : D → DS → Prop), k + 12 ≤ n → P (.int (m : Nat)) s → Wp (sem n 5 [d] s) P
inductive Wts (k : Nat) : List D → List Nat → Prop
  | nil : Wts k [] []
  | cons {d : D} {m : Nat} {ds : List D} {ms : List Nat} : Wt k d m → Wts k ds ms → Wts k (d :: ds) (m :: ms)
theorem Wts.len {k : Nat} {ds : List D} {ms : List Nat} (h : Wts k ds ms) : ms.length = ds.length := by
  induction h with
  | nil => rfl
  | cons _ _ ih => simp [ih]
theorem Pts.len {k : Nat} {ds : List D} {ms : List Nat} (h : Pts k ds ms) : ms.length = ds.length := by
  induction h with
  | nil => rfl
  | cons _ _ ih => simp [ih]
theorem lc_wt {n k : Nat} {a0 a1 a2 a3 : Sl} {s : DS} (hn : k + 12 ≤ n) : ∀ {ds : List D} {ms : List Nat} {P : List D → DS → Prop}, Wts k ds ms → P (ms.map fun (m : Nat) => D.int m) s → Wp (lcGo (.one 3) tYes' (eCallN 1 (sem n 5) (aCons (eVar 3) aNil)) [a0, a1, a2, a3] ds s) P
  | _, _, P, .nil, p => wp_lcNil p
  | _, _, P, .cons (d := d) (ds := ds) hc hcs, p => by
    repeat array_get_dec
    refine hc n s _ hn ?_
    refine lc_wt hn hcs ?_
    exact p
theorem lc_pt {n k : Nat} {a0 a1 a2 a3 : Sl} {s : DS} (hn : k + 2 ≤ n) : ∀ {ds : List D} {ms : List Nat} {P : List D → DS → Prop}, Pts k ds ms → P (ms.map fun (m : Nat) => D.int m) s → Wp (lcGo (.one 2) tYes' (eCB bLen (aCons (eCallN 1 (sem n 2) (aCons (eVar 2) aNil)) aNil)) [a0, a1, a2, a3] ds s) P
  | _, _, P, .nil, p => wp_lcNil p
  | _, _, P, .cons (d := d) (m := m) (ds := ds) hc hcs, p => by
    repeat array_get_dec
    refine hc n s _ hn fun xs hx => ?_
    repeat array_get_dec
    rw [hx.1]
    refine lc_pt hn hcs ?_
    exact p
theorem wts {k : Nat} {d : D} {own parts : List D} {ms ws : List Nat} (ho : ∀ n s P, 1 ≤ n → P (.lst own) s → Wp (sem n 4 [d] s) P) (hp : ∀ n s P, 1 ≤ n → P (.lst parts) s → Wp (sem n 3 [d] s) P) (h1 : Pts 7 own ms) (h2 : Wts k parts ws) (hl : own.length ≤ 1000) (hl2 : parts.length ≤ 1000) : Wt (k + 1) d (10 + ms.sum + ws.sum) := by
  intro n s P hn p
  obtain ⟨n, rfl⟩ : ∃ m, n = m + 1 := ⟨n - 1, by omega⟩
  have hline : line = 100000 := rfl
  show Wp (fnD 4 (b_weight_of (sem n)) [d] s) P
  refine wp_fnL ?_
  unfold b_weight_of
  repeat array_get_dec
  refine ho _ _ _ (by omega) ?_
  repeat array_get_dec
  refine lc_pt (k := 7) (by omega) h1 ?_
  refine ⟨by rw [List.length_map, h1.len]; omega, ?_⟩
  repeat array_get_dec
  refine wo_sum ?_
  repeat array_get_dec
  refine hp _ _ _ (by omega) ?_
  repeat array_get_dec
  refine lc_wt (k := k) (by omega) h2 ?_
  refine ⟨by rw [List.length_map, h2.len]; omega, ?_⟩
  repeat array_get_dec
  refine wo_sum ?_
  repeat array_get_dec
  have e : (10 + (ms.sum : Nat) + (ws.sum : Nat) : Int) = ((10 + ms.sum + ws.sum : Nat) : Int) := by simp
  rw [e]
  exact p
theorem wo_get {w : Str} {ns : List Int} {Q : D → Prop} (h : tb_PARTS.lookup w = some ns) (q : Q (intsT ns)) : WO (wGet tb_PARTS ms_PARTS (.str w)) Q := ⟨_, by simp only [wGet]; rw [h], q⟩
theorem wo_get0 {Q : D → Prop} (q : Q (.tup [])) : WO (wGet tb_PARTS ms_PARTS (.str "table")) Q := ⟨_, by
  have h : tb_PARTS.lookup ("table" : Str) = none := by decide +kernel
  have h2 : ("table" : Str) ∈ ms_PARTS := by decide +kernel
  simp only [wGet]
  rw [h]
  simp only
  rw [if_pos h2], q⟩
theorem q_parts0 {n : Nat} {x : D} {s : DS} {P : D → DS → Prop} (hn : 1 ≤ n) (p : P (.lst []) s) : Wp (sem n 3 [.tup [.str "table", x]] s) P := by
  obtain ⟨n, rfl⟩ : ∃ m, n = m + 1 := ⟨n - 1, by omega⟩
  show Wp (fnD 2 (b_parts_of_question (sem n)) [.tup [.str "table", x]] s) P
  refine wp_fnL ?_
  unfold b_parts_of_question
  repeat array_get_dec
  refine wo_get0 ?_
  repeat array_get_dec
  exact p
theorem q_parts1 {n : Nat} {w : Str} {a : D} {xs : List D} {s : DS} {P : D → DS → Prop} (h : tb_PARTS.lookup w = some [1]) (hn : 1 ≤ n) (p : P (.lst [a]) s) : Wp (sem n 3 [.tup (.str w :: a :: xs)] s) P := by
  obtain ⟨n, rfl⟩ : ∃ m, n = m + 1 := ⟨n - 1, by omega⟩
  show Wp (fnD 2 (b_parts_of_question (sem n)) [.tup (.str w :: a :: xs)] s) P
  refine wp_fnL ?_
  unfold b_parts_of_question
  repeat array_get_dec
  refine wo_get h ?_
  show ∃ ys, D.tup [.int 1] = D.tup ys ∧ _
  repeat array_get_dec
  exact p
theorem q_parts2 {n : Nat} {w : Str} {a b : D} {xs : List D} {s : DS} {P : D → DS → Prop} (h : tb_PARTS.lookup w = some [1, 2]) (hn : 1 ≤ n) (p : P (.lst [a, b]) s) : Wp (sem n 3 [.tup (.str w :: a :: b :: xs)] s) P := by
  obtain ⟨n, rfl⟩ : ∃ m, n = m + 1 := ⟨n - 1, by omega⟩
  show Wp (fnD 2 (b_parts_of_question (sem n)) [.tup (.str w :: a :: b :: xs)] s) P
  refine wp_fnL ?_
  unfold b_parts_of_question
  repeat array_get_dec
  refine wo_get h ?_
  show ∃ ys, D.tup [.int 1, .int 2] = D.tup ys ∧ _
  repeat array_get_dec
  exact p
theorem wo_inJ {w : Str} {Q : D → Prop} (q : Q (.bl (decide (w ∈ (["join", "left"] : List Str))))) : WO (oIn (.str w) (.tup [.str "join", .str "left"])) Q := ⟨_, by
  simp only [oIn]
  rw [if_pos (by rfl), show ([.str "join", .str "left"] : List D) = (["join", "left"] : List Str).map D.str from rfl, any_fl_str], q⟩
/-! own terms -/
theorem q_where {n : Nat} {q c : D} {s : DS} {P : D → DS → Prop} (hn : 1 ≤ n) (p : P (.lst [c]) s) : Wp (sem n 4 [.tup [.str "where", q, c]] s) P := by
  obtain ⟨n, rfl⟩ : ∃ m, n = m + 1 := ⟨n - 1, by omega⟩
  show Wp (fnD 6 (b_own_terms (sem n)) [.tup [.str "where", q, c]] s) P
  refine wp_fnL ?_
  unfold b_own_terms
  repeat first
    | array_get_dec
    | with_reducible refine sp_dec (fun h => absurd h (by decide +kernel)) (fun _ => ?_)
    | with_reducible refine sp_dec (fun _ => ?_) (fun h => absurd (by decide +kernel) h)
    | with_reducible refine wo_inJ ?_
  exact p
theorem q_o_join {n : Nat} {q r c : D} {s : DS} {P : D → DS → Prop} (hn : 1 ≤ n) (p : P (.lst [c]) s) : Wp (sem n 4 [.tup [.str "join", q, r, c]] s) P := by
  obtain ⟨n, rfl⟩ : ∃ m, n = m + 1 := ⟨n - 1, by omega⟩
  show Wp (fnD 6 (b_own_terms (sem n)) [.tup [.str "join", q, r, c]] s) P
  refine wp_fnL ?_
  unfold b_own_terms
  repeat first
    | array_get_dec
    | with_reducible refine sp_dec (fun h => absurd h (by decide +kernel)) (fun _ => ?_)
    | with_reducible refine sp_dec (fun _ => ?_) (fun h => absurd (by decide +kernel) h)
    | with_reducible refine wo_inJ ?_
  exact p
theorem q_o_left {n : Nat} {q r c : D} {s : DS} {P : D → DS → Prop} (hn : 1 ≤ n) (p : P (.lst [c]) s) : Wp (sem n 4 [.tup [.str "left", q, r, c]] s) P := by
  obtain ⟨n, rfl⟩ : ∃ m, n = m + 1 := ⟨n - 1, by omega⟩
  show Wp (fnD 6 (b_own_terms (sem n)) [.tup [.str "left", q, r, c]] s) P
  refine wp_fnL ?_
  unfold b_own_terms
  repeat first
    | array_get_dec
    | with_reducible refine sp_dec (fun h => absurd h (by decide +kernel)) (fun _ => ?_)
    | with_reducible refine sp_dec (fun _ => ?_) (fun h => absurd (by decide +kernel) h)
    | with_reducible refine wo_inJ ?_
  exact p
theorem q_sorted {n : Nat} {q t b : D} {s : DS} {P : D → DS → Prop} (hn : 1 ≤ n) (p : P (.lst [t]) s) : Wp (sem n 4 [.tup [.str "sorted", q, .tup [.tup [t, b]]]] s) P := by
  obtain ⟨n, rfl⟩ : ∃ m, n = m + 1 := ⟨n - 1, by omega⟩
  show Wp (fnD 6 (b_own_terms (sem n)) [.tup [.str "sorted", q, .tup [.tup [t, b]]]] s) P
  refine wp_fnL ?_
  unfold b_own_terms
  repeat first
    | array_get_dec
    | with_reducible refine sp_dec (fun h => absurd h (by decide +kernel)) (fun _ => ?_)
    | with_reducible refine sp_dec (fun _ => ?_) (fun h => absurd (by decide +kernel) h)
    | with_reducible refine wo_inJ ?_
  exact p
theorem q_group {n : Nat} {q k a w t : D} {s : DS} {P : D → DS → Prop} (hn : 1 ≤ n) (p : P (.lst [t]) s) : Wp (sem n 4 [.tup [.str "group", q, k, .tup [.tup [a, w, t]]]] s) P := by
  obtain ⟨n, rfl⟩ : ∃ m, n = m + 1 := ⟨n - 1, by omega⟩
  show Wp (fnD 6 (b_own_terms (sem n)) [.tup [.str "group", q, k, .tup [.tup [a, w, t]]]] s) P
  refine wp_fnL ?_
  unfold b_own_terms
  repeat first
    | array_get_dec
    | with_reducible refine sp_dec (fun h => absurd h (by decide +kernel)) (fun _ => ?_)
    | with_reducible refine sp_dec (fun _ => ?_) (fun h => absurd (by decide +kernel) h)
    | with_reducible refine wo_inJ ?_
  exact p
theorem q_o_table {n : Nat} {xs : List D} {s : DS} {P : D → DS → Prop} (hn : 1 ≤ n) (p : P (.lst []) s) : Wp (sem n 4 [.tup (.str "table" :: xs)] s) P := by
  obtain ⟨n, rfl⟩ : ∃ m, n = m + 1 := ⟨n - 1, by omega⟩
  show Wp (fnD 6 (b_own_terms (sem n)) [.tup (.str "table" :: xs)] s) P
  refine wp_fnL ?_
  unfold b_own_terms
  repeat first
    | array_get_dec
    | with_reducible refine sp_dec (fun h => absurd h (by decide +kernel)) (fun _ => ?_)
    | with_reducible refine sp_dec (fun _ => ?_) (fun h => absurd (by decide +kernel) h)
    | with_reducible refine wo_inJ ?_
  exact p
theorem q_o_unlike {n : Nat} {xs : List D} {s : DS} {P : D → DS → Prop} (hn : 1 ≤ n) (p : P (.lst []) s) : Wp (sem n 4 [.tup (.str "unlike" :: xs)] s) P := by
  obtain ⟨n, rfl⟩ : ∃ m, n = m + 1 := ⟨n - 1, by omega⟩
  show Wp (fnD 6 (b_own_terms (sem n)) [.tup (.str "unlike" :: xs)] s) P
  refine wp_fnL ?_
  unfold b_own_terms
  repeat first
    | array_get_dec
    | with_reducible refine sp_dec (fun h => absurd h (by decide +kernel)) (fun _ => ?_)
    | with_reducible refine sp_dec (fun _ => ?_) (fun h => absurd (by decide +kernel) h)
    | with_reducible refine wo_inJ ?_
  exact p
theorem q_o_with {n : Nat} {xs : List D} {s : DS} {P : D → DS → Prop} (hn : 1 ≤ n) (p : P (.lst []) s) : Wp (sem n 4 [.tup (.str "with" :: xs)] s) P := by
  obtain ⟨n, rfl⟩ : ∃ m, n = m + 1 := ⟨n - 1, by omega⟩
  show Wp (fnD 6 (b_own_terms (sem n)) [.tup (.str "with" :: xs)] s) P
  refine wp_fnL ?_
  unfold b_own_terms
  repeat first
    | array_get_dec
    | with_reducible refine sp_dec (fun h => absurd h (by decide +kernel)) (fun _ => ?_)
    | with_reducible refine sp_dec (fun _ => ?_) (fun h => absurd (by decide +kernel) h)
    | with_reducible refine wo_inJ ?_
  exact p
theorem q_o_less_rows {n : Nat} {xs : List D} {s : DS} {P : D → DS → Prop} (hn : 1 ≤ n) (p : P (.lst []) s) : Wp (sem n 4 [.tup (.str "less_rows" :: xs)] s) P := by
  obtain ⟨n, rfl⟩ : ∃ m, n = m + 1 := ⟨n - 1, by omega⟩
  show Wp (fnD 6 (b_own_terms (sem n)) [.tup (.str "less_rows" :: xs)] s) P
  refine wp_fnL ?_
  unfold b_own_terms
  repeat first
    | array_get_dec
    | with_reducible refine sp_dec (fun h => absurd h (by decide +kernel)) (fun _ => ?_)
    | with_reducible refine sp_dec (fun _ => ?_) (fun h => absurd (by decide +kernel) h)
    | with_reducible refine wo_inJ ?_
  exact p
theorem q_o_first {n : Nat} {xs : List D} {s : DS} {P : D → DS → Prop} (hn : 1 ≤ n) (p : P (.lst []) s) : Wp (sem n 4 [.tup (.str "first" :: xs)] s) P := by
  obtain ⟨n, rfl⟩ : ∃ m, n = m + 1 := ⟨n - 1, by omega⟩
  show Wp (fnD 6 (b_own_terms (sem n)) [.tup (.str "first" :: xs)] s) P
  refine wp_fnL ?_
  unfold b_own_terms
  repeat first
    | array_get_dec
    | with_reducible refine sp_dec (fun h => absurd h (by decide +kernel)) (fun _ => ?_)
    | with_reducible refine sp_dec (fun _ => ?_) (fun h => absurd (by decide +kernel) h)
    | with_reducible refine wo_inJ ?_
  exact p
theorem q_pick {n : Nat} {q : D} {xs : List D} {s : DS} {P : D → DS → Prop} (hx : ∀ x ∈ xs, Pk x) (hl : xs.length ≤ 1000) (hn : 1 ≤ n) (p : P (.lst (xs.filterMap kd2)) s) : Wp (sem n 4 [.tup [.str "pick", q, .tup xs]] s) P := by
  obtain ⟨n, rfl⟩ : ∃ m, n = m + 1 := ⟨n - 1, by omega⟩
  show Wp (fnD 6 (b_own_terms (sem n)) [.tup [.str "pick", q, .tup xs]] s) P
  refine wp_fnL ?_
  unfold b_own_terms
  repeat first
    | array_get_dec
    | with_reducible refine sp_dec (fun h => absurd h (by decide +kernel)) (fun _ => ?_)
    | with_reducible refine sp_dec (fun _ => ?_) (fun h => absurd (by decide +kernel) h)
    | with_reducible refine wo_inJ ?_
  refine wp_lcFM kd2 ?_ ?_
  · intro d hd
    obtain ⟨x, t, rfl, hx, ht⟩ := hx d hd
    repeat array_get_dec
    rfl
  refine ⟨le_line (m := 1000) (Nat.le_trans (List.length_filterMap_le _ _) hl) (by decide), ?_⟩
  repeat array_get_dec
  exact p
end K60
set_option Elab.async false
set_option linter.all false
set_option maxRecDepth 100000
set_option maxHeartbeats 4000000
namespace K60
open PySem L2 Lay DL
theorem Tm.tup {k : Nat} {d : D} (h : Tm k d) : ∃ ys, d = .tup ys := by cases h <;> exact ⟨_, rfl⟩
theorem wq10 : ∀ w ∈ quest, wg w = 10 ∧ w ∉ leaves ∧ Wd w := by decide +kernel
theorem wg_nm {x : Str} (h : Nm x) : wg x = 0 ∧ x ∉ leaves ∧ x ≠ "table" := by
  have h2 := h.2
  simp only [List.mem_append, not_or] at h2
  refine ⟨by unfold wg; rw [if_neg h2.1, if_neg h2.2], fun e => ?_, fun e => ?_⟩
  · have : ∀ w ∈ leaves, w ∈ words := by decide +kernel
    exact h2.1 (this x e)
  · subst e
    exact h2.2 (by decide +kernel)
/-- data that may be compared, of such a depth -/
def Cd (k : Nat) (d : D) : Prop := pl d = true ∧ dep d ≤ k
theorem Cd.tup {k : Nat} {xs : List D} (h : ∀ x ∈ xs, Cd k x) : Cd (k + 1) (.tup xs) := ⟨pls_iff.mpr fun x hx => (h x hx).1, Nat.succ_le_succ (deps_le.mpr fun x hx => (h x hx).2)⟩
theorem Cd.mono {k j : Nat} {d : D} (h : Cd k d) (hk : k ≤ j) : Cd j d := ⟨h.1, Nat.le_trans h.2 hk⟩
theorem Cd.cmpb {k : Nat} {d : D} (h : Cd k d) (hk : k ≤ 60) : cmpb d := ⟨h.1, Nat.le_trans h.2 hk⟩
theorem Cd.str {k : Nat} {z : Str} (h : Wd z) : Cd k (.str z) := ⟨h.1, by simp [dep]⟩
theorem Tm.cd {k : Nat} {d : D} (h : Tm k d) : Cd k d := h.pl
theorem Pk.cd {d : D} (h : Pk d) : Cd 6 d := by
  obtain ⟨x, t, rfl, hx, ht⟩ := h
  exact .tup (by simp only [List.mem_cons, List.not_mem_nil, or_false]; rintro _ (rfl | rfl); exact .str hx.1; exact ht.cd)
theorem Ky.cd {d : D} (h : Ky d) : Cd 0 d := by
  obtain ⟨x, rfl, hx⟩ := h
  exact .str hx.1
theorem mem2 {P : D → Prop} {a b : D} (ha : P a) (hb : P b) : ∀ x ∈ [a, b], P x := by simp [ha, hb]
theorem mem1 {P : D → Prop} {a : D} (ha : P a) : ∀ x ∈ [a], P x := by simp [ha]
theorem mem3 {P : D → Prop} {a b c : D} (ha : P a) (hb : P b) (hc : P c) : ∀ x ∈ [a, b, c], P x := by simp [ha, hb, hc]
theorem mem4 {P : D → Prop} {a b c d : D} (ha : P a) (hb : P b) (hc : P c) (hd : P d) : ∀ x ∈ [a, b, c, d], P x := by simp [ha, hb, hc, hd]
theorem wdq : ∀ w ∈ quest ++ (["count", "least", "most"] : List Str), Wd w := by decide +kernel
theorem Qu.cd {k z : Nat} {d : D} (h : Qu k z d) : Cd (k + 8) d := by
  induction h with
  | more _ _ ih => exact ih
  | table h => exact (Cd.tup (k := 0) (mem2 (.str (wdq _ (by decide +kernel))) (.str h.1))).mono (by omega)
  | unlike _ ih => exact (Cd.tup (mem2 (.str (wdq _ (by decide +kernel))) ih)).mono (by omega)
  | @two k z y w q r h _ _ ih ih2 => exact (Cd.tup (mem3 (.str (wdq w (by simp at h; rcases h with h | h <;> subst h <;> decide +kernel))) ih ih2)).mono (by omega)
  | where_ _ h ih => exact (Cd.tup (mem3 (.str (wdq _ (by decide +kernel))) ih (h.cd.mono (by omega)))).mono (by omega)
  | @join k z y w q r c h _ _ h2 ih ih2 => exact (Cd.tup (mem4 (.str (wdq w (by simp at h; rcases h with h | h <;> subst h <;> decide +kernel))) ih ih2 (h2.cd.mono (by omega)))).mono (by omega)
  | pick _ h h2 ih => exact (Cd.tup (mem3 (.str (wdq _ (by decide +kernel))) ih ((Cd.tup fun x hx => (h x hx).cd).mono (by omega)))).mono (by omega)
  | @group k z q keys a w t _ h1 h2 h3 h4 h5 ih =>
    have hw := wdq w (by simp only [List.mem_append]; exact .inr h4)
    exact (Cd.tup (mem4 (.str (wdq _ (by decide +kernel))) ih ((Cd.tup fun x hx => (h1 x hx).cd).mono (by omega)) ((Cd.tup (mem1 (Cd.tup (mem3 (.str h3.1) (.str hw) h5.cd)))).mono (by omega)))).mono (by omega)
  | @sorted k z q t b _ h ih =>
    have hb : Cd 5 (.bl b) := ⟨rfl, by simp [dep]⟩
    exact (Cd.tup (mem3 (.str (wdq _ (by decide +kernel))) ih ((Cd.tup (mem1 (Cd.tup (mem2 h.cd hb)))).mono (by omega)))).mono (by omega)
  | @first k z q i _ h ih =>
    have hb : Cd (k + 8) (.int i) := ⟨rfl, by simp [dep]⟩
    exact (Cd.tup (mem3 (.str (wdq _ (by decide +kernel))) ih hb)).mono (by omega)
theorem Cts.zero {xs : List D} (h : ∀ x ∈ xs, Ct x 0) : Cts xs (xs.map fun _ => 0) := by
  induction xs with
  | nil => exact .nil
  | cons x xs ih => exact .cons (h x (by simp)) (ih fun y hy => h y (by simp [hy]))
theorem sum_zero : ∀ (xs : List D), (xs.map fun _ => 0).sum = 0
  | [] => rfl
  | x :: xs => by simp [sum_zero xs]
theorem ct_keys {keys : List D} (h : ∀ x ∈ keys, Ky x) (hl : keys.length ≤ 1000) : Ct (.tup keys) 0 := by
  cases keys with
  | nil => exact ct_nil
  | cons k ks =>
    obtain ⟨a, rfl, ha⟩ := h k (by simp)
    have hw := wg_nm ha
    have hc : cmpb (.tup (.str a :: ks)) := (Cd.tup fun x hx => (h x hx).cd).cmpb (by omega)
    have := ct_str hc (by simp only [List.length_cons] at hl; omega) hw.2.1 (fun e => absurd e hw.2.2) (Cts.zero (xs := .str a :: ks) fun x hx => by
      obtain ⟨b, rfl, hb⟩ := h x hx
      exact ctS b hb.1)
    rw [sum_zero, hw.1] at this
    exact this
theorem ct_pk {d : D} (h : Pk d) : ∃ m t, kd2 d = some t ∧ Ct d m ∧ Pt 7 t m := by
  obtain ⟨x, t, rfl, hx, ht⟩ := h
  have hw := wg_nm hx
  obtain ⟨m, hm, c, p⟩ := tm_both (ht.mono (show 5 ≤ 7 by omega)) (Nat.le_refl _)
  have hc : cmpb (.tup [.str x, t]) := (Cd.tup (mem2 (.str hx.1) ht.cd)).cmpb (by omega)
  have := ct_str hc (by simp) hw.2.1 (fun e => absurd e hw.2.2) (.cons (ctS x hx.1) (.cons c .nil))
  rw [hw.1] at this
  simp only [List.sum_cons, List.sum_nil, Nat.zero_add, Nat.add_zero] at this
  exact ⟨m, t, rfl, this, p⟩
theorem ct_pks : ∀ {xs : List D}, (∀ x ∈ xs, Pk x) → ∃ ms, Cts xs ms ∧ Pts 7 (xs.filterMap kd2) ms
  | [], _ => ⟨[], .nil, .nil⟩
  | x :: xs, h => by
    obtain ⟨m, t, e, c, p⟩ := ct_pk (h x (by simp))
    obtain ⟨ms, h1, h2⟩ := ct_pks (xs := xs) fun y hy => h y (by simp [hy])
    exact ⟨m :: ms, .cons c h1, by rw [List.filterMap_cons, e]; exact .cons p h2⟩
theorem ct_tups {xs : List D} {ms : List Nat} (h : Cts xs ms) (ht : ∀ x ∈ xs, ∃ ys, x = .tup ys) (hc : cmpb (.tup xs)) (hl : xs.length ≤ 1000) : Ct (.tup xs) ms.sum := by
  cases h with
  | nil => exact ct_nil
  | @cons d m ds ms h1 h2 =>
    obtain ⟨ys, rfl⟩ := ht d (by simp)
    exact ct_tup hc (by simp only [List.length_cons] at hl; omega) (.cons h1 h2)
theorem ct_q {w : Str} {xs : List D} {ms : List Nat} (hw : w ∈ quest) (hc : cmpb (.tup (.str w :: xs))) (hl : xs.length ≤ 1000) (hx : w = "table" → xs.length ≠ 1) (h : Cts xs ms) : Ct (.tup (.str w :: xs)) (ms.sum + 10) := by
  have h10 := wq10 w hw
  have := ct_str hc hl h10.2.1 hx (.cons (ctS w h10.2.2) h)
  rw [h10.1] at this
  simpa using this
theorem qu_both {k z : Nat} {d : D} (h : Qu k z d) : k ≤ 40 → ∃ m, Ct d m ∧ Wt k d m := by
  induction h with
  | more _ _ ih => exact ih
  | @table k z x h =>
    intro _
    have w := wts (k := k) (d := .tup [.str "table", .str x]) (fun n s P hn p => q_o_table hn p) (fun n s P hn p => q_parts0 hn p) .nil .nil (by simp) (by simp)
    exact ⟨10, ct_table h, w⟩
  | @unlike k z q hq ih =>
    intro hk
    obtain ⟨m, c, w⟩ := ih (by omega)
    have c' := ct_q (w := "unlike") (by decide +kernel) ((Qu.unlike hq).cd.cmpb (by omega)) (by simp) (fun e => absurd e (by decide +kernel)) (.cons c .nil)
    have w' := wts (k := k) (d := .tup [.str "unlike", q]) (fun n s P hn p => q_o_unlike hn p) (fun n s P hn p => q_parts1 (by decide +kernel) hn p) .nil (.cons w .nil) (by simp) (by simp)
    refine ⟨_, c', ?_⟩
    simp only [List.sum_cons, List.sum_nil, Nat.add_zero] at w' ⊢
    rw [show m + 10 = 10 + m by omega]
    exact w'
  | @two k z y v q r hv hq hr ih ih2 =>
    intro hk
    obtain ⟨m, c, w⟩ := ih (by omega)
    obtain ⟨m2, c2, w2⟩ := ih2 (by omega)
    have c' := ct_q (w := v) (by simp at hv; rcases hv with hv | hv <;> subst hv <;> decide +kernel) ((Qu.two hv hq hr).cd.cmpb (by omega)) (by simp) (fun e => by simp) (.cons c (.cons c2 .nil))
    refine ⟨_, c', ?_⟩
    simp only [List.sum_cons, List.sum_nil, Nat.add_zero]
    rw [show m + m2 + 10 = 10 + (m + m2) by omega]
    simp at hv
    rcases hv with hv | hv <;> subst hv
    · have w' := wts (k := k) (d := .tup [.str "with", q, r]) (fun n s P hn p => q_o_with hn p) (fun n s P hn p => q_parts2 (by decide +kernel) hn p) .nil (.cons w (.cons w2 .nil)) (by simp) (by simp)
      simpa only [List.sum_cons, List.sum_nil, Nat.add_zero] using w'
    · have w' := wts (k := k) (d := .tup [.str "less_rows", q, r]) (fun n s P hn p => q_o_less_rows hn p) (fun n s P hn p => q_parts2 (by decide +kernel) hn p) .nil (.cons w (.cons w2 .nil)) (by simp) (by simp)
      simpa only [List.sum_cons, List.sum_nil, Nat.add_zero] using w'
  | @where_ k z q t hq ht ih =>
    intro hk
    obtain ⟨m, c, w⟩ := ih (by omega)
    obtain ⟨m2, hm, c2, p2⟩ := tm_both (ht.mono (show 5 ≤ 7 by omega)) (Nat.le_refl _)
    have c' := ct_q (w := "where") (by decide +kernel) ((Qu.where_ hq ht).cd.cmpb (by omega)) (by simp) (fun e => absurd e (by decide +kernel)) (.cons c (.cons c2 .nil))
    have w' := wts (k := k) (d := .tup [.str "where", q, t]) (fun n s P hn p => q_where hn p) (fun n s P hn p => q_parts1 (by decide +kernel) hn p) (.cons p2 .nil) (.cons w .nil) (by simp) (by simp)
    refine ⟨_, c', ?_⟩
    simp only [List.sum_cons, List.sum_nil, Nat.add_zero] at w' ⊢
    rw [show m + m2 + 10 = 10 + m2 + m by omega]
    exact w'
  | @join k z y v q r t hv hq hr ht ih ih2 =>
    intro hk
    obtain ⟨m, c, w⟩ := ih (by omega)
    obtain ⟨m2, c2, w2⟩ := ih2 (by omega)
    obtain ⟨m3, hm, c3, p3⟩ := tm_both ht (Nat.le_refl _)
    have c' := ct_q (w := v) (by simp at hv; rcases hv with hv | hv <;> subst hv <;> decide +kernel) ((Qu.join hv hq hr ht).cd.cmpb (by omega)) (by simp) (fun e => by simp) (.cons c (.cons c2 (.cons c3 .nil)))
    refine ⟨_, c', ?_⟩
    simp only [List.sum_cons, List.sum_nil, Nat.add_zero]
    rw [show m + (m2 + m3) + 10 = 10 + m3 + (m + m2) by omega]
    simp at hv
    rcases hv with hv | hv <;> subst hv
    · have w' := wts (k := k) (d := .tup [.str "join", q, r, t]) (fun n s P hn p => q_o_join hn p) (fun n s P hn p => q_parts2 (by decide +kernel) hn p) (.cons p3 .nil) (.cons w (.cons w2 .nil)) (by simp) (by simp)
      simpa only [List.sum_cons, List.sum_nil, Nat.add_zero] using w'
    · have w' := wts (k := k) (d := .tup [.str "left", q, r, t]) (fun n s P hn p => q_o_left hn p) (fun n s P hn p => q_parts2 (by decide +kernel) hn p) (.cons p3 .nil) (.cons w (.cons w2 .nil)) (by simp) (by simp)
      simpa only [List.sum_cons, List.sum_nil, Nat.add_zero] using w'
  | @pick k z q xs hq hx hl ih =>
    intro hk
    obtain ⟨m, c, w⟩ := ih (by omega)
    obtain ⟨ms, h1, h2⟩ := ct_pks hx
    have cx := ct_tups h1 (fun x hx' => by obtain ⟨a, t, rfl, _⟩ := hx x hx'; exact ⟨_, rfl⟩) ((Cd.tup fun x hx' => (hx x hx').cd).cmpb (by omega)) (Nat.le_trans hl (by omega))
    have c' := ct_q (w := "pick") (by decide +kernel) ((Qu.pick hq hx hl).cd.cmpb (by omega)) (by simp) (fun e => absurd e (by decide +kernel)) (.cons c (.cons cx .nil))
    have w' := wts (k := k) (d := .tup [.str "pick", q, .tup xs]) (fun n s P hn p => q_pick hx (Nat.le_trans hl (by omega)) hn p) (fun n s P hn p => q_parts1 (by decide +kernel) hn p) h2 (.cons w .nil) (Nat.le_trans (List.length_filterMap_le _ _) (Nat.le_trans hl (by omega))) (by simp)
    refine ⟨_, c', ?_⟩
    simp only [List.sum_cons, List.sum_nil, Nat.add_zero] at w' ⊢
    rw [show m + ms.sum + 10 = 10 + ms.sum + m by omega]
    exact w'
  | @group k z q keys a v t hq h1 h2 h3 h4 h5 ih =>
    intro hk
    obtain ⟨m, c, w⟩ := ih (by omega)
    obtain ⟨m2, hm, c2, p2⟩ := tm_both (h5.mono (show 5 ≤ 7 by omega)) (Nat.le_refl _)
    have hv := wdq v (by simp only [List.mem_append]; exact .inr h4)
    have hw := wg_nm h3
    have hr : Cd 6 (.tup [.str a, .str v, t]) := .tup (mem3 (.str h3.1) (.str hv) h5.cd)
    have cr := ct_str (hr.cmpb (by omega)) (by simp) hw.2.1 (fun e => absurd e hw.2.2) (.cons (ctS a h3.1) (.cons (ctS v hv) (.cons c2 .nil)))
    rw [hw.1] at cr
    simp only [List.sum_cons, List.sum_nil, Nat.add_zero, Nat.zero_add] at cr
    have crr := ct_tup ((Cd.tup (mem1 hr)).cmpb (by omega)) (by simp) (.cons cr .nil)
    have c' := ct_q (w := "group") (by decide +kernel) ((Qu.group hq h1 h2 h3 h4 h5).cd.cmpb (by omega)) (by simp) (fun e => absurd e (by decide +kernel)) (.cons c (.cons (ct_keys h1 (Nat.le_trans h2 (by omega))) (.cons crr .nil)))
    have w' := wts (k := k) (d := .tup [.str "group", q, .tup keys, .tup [.tup [.str a, .str v, t]]]) (fun n s P hn p => q_group hn p) (fun n s P hn p => q_parts1 (by decide +kernel) hn p) (.cons p2 .nil) (.cons w .nil) (by simp) (by simp)
    refine ⟨_, c', ?_⟩
    simp only [List.sum_cons, List.sum_nil, Nat.add_zero, Nat.zero_add] at w' ⊢
    rw [show m + m2 + 10 = 10 + m2 + m by omega]
    exact w'
  | @sorted k z q t b hq ht ih =>
    intro hk
    obtain ⟨m, c, w⟩ := ih (by omega)
    obtain ⟨m2, hm, c2, p2⟩ := tm_both (ht.mono (show 5 ≤ 7 by omega)) (Nat.le_refl _)
    have hb : Cd 5 (.bl b) := ⟨rfl, by simp [dep]⟩
    have cb : Ct (.bl b) 0 := ct_atom (hb.cmpb (by omega)) rfl
    have hr : Cd 6 (.tup [t, .bl b]) := .tup (mem2 ht.cd hb)
    have c' := ct_q (w := "sorted") (by decide +kernel) ((Qu.sorted (b := b) hq ht).cd.cmpb (by omega)) (by simp) (fun e => absurd e (by decide +kernel)) (.cons c (.cons (m := m2) (by
      obtain ⟨ys, rfl⟩ := ht.tup
      have cr := ct_tup (hr.cmpb (by omega)) (by simp) (.cons c2 (.cons cb .nil))
      have crr := ct_tup ((Cd.tup (mem1 hr)).cmpb (by omega)) (by simp) (.cons cr .nil)
      simpa using crr) .nil))
    have w' := wts (k := k) (d := .tup [.str "sorted", q, .tup [.tup [t, .bl b]]]) (fun n s P hn p => q_sorted hn p) (fun n s P hn p => q_parts1 (by decide +kernel) hn p) (.cons p2 .nil) (.cons w .nil) (by simp) (by simp)
    refine ⟨_, c', ?_⟩
    simp only [List.sum_cons, List.sum_nil, Nat.add_zero, Nat.zero_add] at w' ⊢
    rw [show m + m2 + 10 = 10 + m2 + m by omega]
    exact w'
  | @first k z q i hq hi ih =>
    intro hk
    obtain ⟨m, c, w⟩ := ih (by omega)
    have cb : Ct (.int i) 0 := ct_atom ⟨rfl, by simp [dep]⟩ rfl
    have c' := ct_q (w := "first") (by decide +kernel) ((Qu.first hq hi).cd.cmpb (by omega)) (by simp) (fun e => absurd e (by decide +kernel)) (.cons c (.cons cb .nil))
    have w' := wts (k := k) (d := .tup [.str "first", q, .int i]) (fun n s P hn p => q_o_first hn p) (fun n s P hn p => q_parts1 (by decide +kernel) hn p) .nil (.cons w .nil) (by simp) (by simp)
    refine ⟨_, c', ?_⟩
    simp only [List.sum_cons, List.sum_nil, Nat.add_zero, Nat.zero_add] at w' ⊢
    rw [show m + 10 = 10 + m by omega]
    exact w'
end K60
set_option Elab.async false
set_option linter.all false
set_option maxRecDepth 100000
set_option maxHeartbeats 4000000
namespace K60
open PySem L2 Lay DL
/-! ### how long a question's text is -/
theorem shW {z : Str} (h : Wd z) : Sh (.str z) 122 := sh_str h.1 h.2
theorem Atom.sh {d : D} (h : Atom d) : Sh d 122 ∧ sa d = true := by
  rcases h with ⟨z, rfl, h⟩ | ⟨i, rfl, h⟩
  · exact ⟨shW h, rfl⟩
  · exact ⟨(sh_int (by decide) h).mono (by decide), sa_int h⟩
def tmB : Nat → Nat
  | 0 => 0
  | k + 1 => 3 * tmB k + 600
theorem saT {xs : List D} (h : ∀ x ∈ xs, sa x = true) : sa (.tup xs) = true := by
  simp only [sa]
  exact sas_iff.mpr h
theorem Tm.sh {k : Nat} {d : D} (h : Tm k d) : Sh d (tmB k) ∧ sa d = true := by
  induction h with
  | @leaf k w xs h1 h2 h3 =>
    have hw := wds w (by simp [h1])
    have hx := shs_all fun x hx => (AllOf.mem h2 x hx).sh.1
    refine ⟨(sh_tup (shs_cons (shW hw) hx)).mono ?_, saT ?_⟩
    · have : (122 + 2) * xs.length ≤ (122 + 2) * 3 := Nat.mul_le_mul_left _ h3
      simp only [tmB]
      omega
    · intro x hx
      rcases List.mem_cons.mp hx with rfl | hx
      · rfl
      · exact (AllOf.mem h2 x hx).sh.2
  | @nul k w h1 =>
    have hw := wds w (by simp at h1; rcases h1 with h1 | h1 <;> simp [h1])
    exact ⟨(sh_tup (shs_cons (shW hw) shs_nil)).mono (by simp only [tmB]; omega), rfl⟩
  | @un k w a h1 _ ih =>
    have hw := wds w (by simp [h1])
    exact ⟨(sh_tup (shs_cons (shW hw) (shs_cons ih.1 shs_nil))).mono (by simp only [tmB]; omega), saT (mem2 rfl ih.2)⟩
  | @bin k w a b h1 _ _ ih ih2 =>
    have hw := wds w (by simp [h1])
    exact ⟨(sh_tup (shs_cons (shW hw) (shs_cons ih.1 (shs_cons ih2.1 shs_nil)))).mono (by simp only [tmB]; omega), saT (mem3 rfl ih.2 ih2.2)⟩
  | @tri k w a b c h1 _ _ _ ih ih2 ih3 =>
    have hw := wds w (by simp [h1])
    exact ⟨(sh_tup (shs_cons (shW hw) (shs_cons ih.1 (shs_cons ih2.1 (shs_cons ih3.1 shs_nil))))).mono (by simp only [tmB]; omega), saT (mem4 rfl ih.2 ih2.2 ih3.2)⟩
  | @lt k x a b h1 _ _ ih ih2 =>
    have hw := wds "let" (by simp)
    exact ⟨(sh_tup (shs_cons (shW hw) (shs_cons h1.sh.1 (shs_cons ih.1 (shs_cons ih2.1 shs_nil))))).mono (by simp only [tmB]; omega), saT (mem4 rfl h1.sh.2 ih.2 ih2.2)⟩
theorem tm5 {d : D} (h : Tm 5 d) : Sh d 73000 ∧ sa d = true := ⟨h.sh.1.mono (by decide), h.sh.2⟩
theorem tm7 {d : D} (h : Tm 7 d) : Sh d 656000 ∧ sa d = true := ⟨h.sh.1.mono (by decide), h.sh.2⟩
theorem Pk.sh {d : D} (h : Pk d) : Sh d 73200 ∧ sa d = true := by
  obtain ⟨x, t, rfl, hx, ht⟩ := h
  exact ⟨(sh_tup (shs_cons (shW hx.1) (shs_cons (tm5 ht).1 shs_nil))).mono (by omega), saT (mem2 rfl (tm5 ht).2)⟩
theorem Ky.sh {d : D} (h : Ky d) : Sh d 122 ∧ sa d = true := by
  obtain ⟨x, rfl, hx⟩ := h
  exact ⟨shW hx.1, rfl⟩
theorem Qu.sh {k z : Nat} {d : D} (h : Qu k z d) : Sh d (74000 * z) ∧ sa d = true := by
  induction h with
  | more _ h ih => exact ⟨ih.1.mono (Nat.mul_le_mul_left _ h), ih.2⟩
  | table h => exact ⟨(sh_tup (shs_cons (shW (wdq _ (by decide +kernel))) (shs_cons (shW h.1) shs_nil))).mono (by omega), rfl⟩
  | unlike _ ih => exact ⟨(sh_tup (shs_cons (shW (wdq _ (by decide +kernel))) (shs_cons ih.1 shs_nil))).mono (by omega), saT (mem2 rfl ih.2)⟩
  | @two k z y w q r h _ _ ih ih2 => exact ⟨(sh_tup (shs_cons (shW (wdq w (by simp at h; rcases h with h | h <;> subst h <;> decide +kernel))) (shs_cons ih.1 (shs_cons ih2.1 shs_nil)))).mono (by omega), saT (mem3 rfl ih.2 ih2.2)⟩
  | where_ _ h ih => exact ⟨(sh_tup (shs_cons (shW (wdq _ (by decide +kernel))) (shs_cons ih.1 (shs_cons (tm5 h).1 shs_nil)))).mono (by omega), saT (mem3 rfl ih.2 (tm5 h).2)⟩
  | @join k z y w q r c h _ _ h2 ih ih2 => exact ⟨(sh_tup (shs_cons (shW (wdq w (by simp at h; rcases h with h | h <;> subst h <;> decide +kernel))) (shs_cons ih.1 (shs_cons ih2.1 (shs_cons (tm7 h2).1 shs_nil))))).mono (by omega), saT (mem4 rfl ih.2 ih2.2 (tm7 h2).2)⟩
  | @pick k z q xs _ h h2 ih =>
    have hx := sh_tup (shs_all fun x hx => (h x hx).sh.1)
    refine ⟨(sh_tup (shs_cons (shW (wdq _ (by decide +kernel))) (shs_cons ih.1 (shs_cons hx shs_nil)))).mono ?_, saT (mem3 rfl ih.2 (saT fun x hx => (h x hx).sh.2))⟩
    have e1 : 74000 * (z + xs.length + 1) = 74000 * z + 74000 * xs.length + 74000 := by rw [Nat.mul_add, Nat.mul_add]
    have e2 : (73200 + 2) * xs.length ≤ 74000 * xs.length := Nat.mul_le_mul_right _ (by omega)
    omega
  | @group k z q keys a w t _ h1 h2 h3 h4 h5 ih =>
    have hw := wdq w (by simp only [List.mem_append]; exact .inr h4)
    have hx := sh_tup (shs_all fun x hx => (h1 x hx).sh.1)
    have hr := sh_tup (shs_cons (sh_tup (shs_cons (shW h3.1) (shs_cons (shW hw) (shs_cons (tm5 h5).1 shs_nil)))) shs_nil)
    refine ⟨(sh_tup (shs_cons (shW (wdq _ (by decide +kernel))) (shs_cons ih.1 (shs_cons hx (shs_cons hr shs_nil))))).mono ?_, saT (mem4 rfl ih.2 (saT fun x hx => (h1 x hx).sh.2) (saT (mem1 (saT (mem3 rfl rfl (tm5 h5).2)))))⟩
    have e1 : 74000 * (z + keys.length + 2) = 74000 * z + 74000 * keys.length + 148000 := by rw [Nat.mul_add, Nat.mul_add]
    have e2 : (122 + 2) * keys.length ≤ 74000 * keys.length := Nat.mul_le_mul_right _ (by omega)
    omega
  | @sorted k z q t b _ h ih =>
    have hr := sh_tup (shs_cons (sh_tup (shs_cons (tm5 h).1 (shs_cons (sh_bl (b := b)) shs_nil))) shs_nil)
    exact ⟨(sh_tup (shs_cons (shW (wdq _ (by decide +kernel))) (shs_cons ih.1 (shs_cons hr shs_nil)))).mono (by omega), saT (mem3 rfl ih.2 (saT (mem1 (saT (mem2 (tm5 h).2 rfl)))))⟩
  | @first k z q i _ h ih =>
    exact ⟨(sh_tup (shs_cons (shW (wdq _ (by decide +kernel))) (shs_cons ih.1 (shs_cons (sh_int (by decide) h) shs_nil)))).mono (by omega), saT (mem3 rfl ih.2 (sa_int h))⟩
theorem Qu.wr {k z : Nat} {d : D} (h : Qu k z d) (hk : k ≤ 20) (hz : z ≤ 200) : Wr d := ⟨h.cd.cmpb (by omega), h.sh.2, Nat.le_trans h.sh.1 (Nat.le_trans (Nat.mul_le_mul_left _ hz) (by decide))⟩
theorem Qu.tup {k z : Nat} {d : D} (h : Qu k z d) : ∃ ys, d = .tup ys := by
  induction h with
  | more _ _ ih => exact ih
  | _ => exact ⟨_, rfl⟩
end K60
set_option Elab.async false
set_option linter.all false
set_option maxRecDepth 100000
set_option maxHeartbeats 4000000
namespace K60
open PySem L2 Lay DL
theorem spF_of {K : PySem.W.Frag} {n : Nat} {F : List D → M D} {vs : List V} {ds : List D} {H : Hp} {av : Av} {dr : Addr} {s : DS} {Q : VK} {E : XK} {P : D → DS → Prop} (a : At K av dr s H) (r : RepAll K H av dr vs ds) (hl : ds.length = n) (hw : Wp (F ds s) P)
    (q : ∀ d s' v H', P d s' → Go dr H H' → Dr H' dr s' → Rep K H' av dr v d → Q v H') : spF K n F vs H Q E := by
  obtain ⟨d, s', e, p⟩ := hw
  exact ⟨av, dr, s, ds, d, s', a, r, hl, e, fun v H' g hd rr => q d s' v H' p g hd rr⟩
theorem items_int {ns : List Int} {k : Int} {i : Nat} {y : V} (h : (cutV (ns.map V.int) none (some k) ++ [V.int 0])[i]? = some y) : ∃ c, y = .int c := by
  have hm := List.mem_of_getElem? h
  rcases List.mem_append.mp hm with h | h
  · unfold cutV at h
    have h2 := List.mem_of_mem_drop (List.mem_of_mem_take h)
    obtain ⟨c, _, rfl⟩ := List.mem_map.mp h2
    exact ⟨c, rfl⟩
  · exact ⟨0, List.mem_singleton.mp h⟩
theorem app2_rel {vs zs : List V} {us ws : List Value} (h : Vals vs us) (h2 : Vals zs ws) : Vals (vs ++ zs) (us ++ ws) := h.append h2
section
variable {P : Program} {w : World} {K : PySem.W.Frag} {mg : Str → Option Value} {base : Heap} (T : Tx K mg w)
theorem kb_weight_of_question : KBn K T.fd_weight_of ["question"] 0 ["question"] (fun us ws => us ++ ws) (fun vs zs => vs ++ zs) :=
  Fun_kbn T.F_weight_of 0 _ (fun us ws => us ++ ws) app2_rel fun _ _ _ _ _ _ us ws h1 h2 => match us, ws, h1, h2 with | [], [_], _, _ => rfl
def sp_draws : Sp := fun vs H Q _ => ∃ c : Int, vs = [.int c] ∧ ∀ d n b H', H d = none → Same H H' → H' d = some (.lst [.int n, .int 0, .bl b]) → Q (.ref d) H'
theorem G__law_draws : FnOk P w K mg base CX0 1 T.f__law_draws T.fd__law_draws ["_law_cell"] sp_draws := by
  refine T.F__law_draws.ok sc__law_draws (fun vs H Q E h => ?_) (fun cdv A outer s H vs Q E hr h => ?_)
  · obtain ⟨c, rfl, _⟩ := h
    rfl
  · obtain ⟨c, rfl, q⟩ := h
    refine ⟨_, (pss_one (ps_ret (pe_lst (pa_cons (pe_op op_mod (pv 0) (pe_op op_powW (pe_op op_powW (pe_op op_pow pe_int pe_int) pe_int) pe_int)) (pa_cons pe_int (pa_cons (pe_cmpR op_ge (pv 0) (pe_op op_pow pe_int pe_int) (nomark _)) pa_nil)))))), ?_⟩
    have hbig : (0 : Int) < ((10 ^ (60 : Int).toNat) ^ (60 : Int).toNat) ^ (4 : Int).toNat := by decide +kernel
    have b1 : CPowW (10 ^ (60 : Int).toNat) 60 := ⟨by decide, by decide +kernel⟩
    have b2 : CPowW ((10 ^ (60 : Int).toNat) ^ (60 : Int).toNat) 4 := ⟨by decide, by decide +kernel⟩
    refine ⟨_, rfl, _, _, rfl, rfl, ⟨by decide, by decide, by decide⟩, _, _, rfl, rfl, b1, _, _, rfl, rfl, b2, _, _, rfl, rfl, hbig, ?_⟩
    generalize ((10 ^ (60 : Int).toNat) ^ (60 : Int).toNat) ^ (4 : Int).toNat = big
    refine ⟨_, rfl, _, _, rfl, rfl, ⟨by decide, by decide, by decide⟩, _, _, rfl, rfl, (by show 3 ≤ sizeLine; decide), fun d nd => ?_⟩
    exact q d _ _ _ nd (same_upd nd) upd_same
def spLaw (K : PySem.W.Frag) : Sp := fun vs H Q _ => ∃ (a : Addr) (ns : List Int), vs = [.ref a] ∧ SqL K H a (ns.map V.int) ∧ ns.length ≤ 63 ∧ ∀ H', Q (.bl true) H'
theorem ok_law : GD.FnG P w K mg base CX0 31 T.f_law T.fd_law ["_law_script"] (spLaw K) := by
  have GA := all_ok (P := P) (w := w) (base := base) T 30
  have G__law_draws := G__law_draws (P := P) (w := w) (base := base) T
  have G__law_next := GA.G__law_next
  have G__law_shaped := GA.G__law_shaped
  have G__law_heads := GA.G__law_heads
  have G_weight_of := GA.G_weight_of
  have G__law_counted := GA.G__law_counted
  refine GD.Fun.okG T.F_law sc_law (fun vs H Q E h => ?_) (fun cdv A outer s H vs Q E g hr h => ?_)
  · obtain ⟨a, ns, rfl, _⟩ := h
    rfl
  · obtain ⟨a, ns, rfl, hS, hlen, q⟩ := h
    have hg := g
    refine ⟨_, PSs.nox (pss_cons (ps_for PassesOwn.never rfl (pi_list (pe_op op_cat (pe_slice sl_list (pv 0) po_none (po_some pe_int)) (pe_lst (pa_cons pe_int pa_nil)))) (pg_name (i := 1) sc_law.nd rfl (.inl rfl))
      (pss_cons (ps_set (i := 2) sc_law.nd rfl (.inl rfl) (pe_call G__law_draws (hr.mono (by decide)) (by rfl) T.g__law_draws T.F__law_draws.kp T.b__law_draws .nil pass0 (pa_cons (pv 1) pa_nil)))
    (pss_cons (ps_set (i := 3) sc_law.nd rfl (.inl rfl) (pe_ix (r := rIxL K) ix_list (pe_lst (pa_cons pe_str (pa_cons pe_str pa_nil))) (pe_op op_mod (pe_call G__law_next (hr.mono (by decide)) (by rfl) T.g__law_next T.F__law_next.kp T.b__law_next .nil pass0 (pa_cons (pv 2) pa_nil)) pe_int) (fun _ _ => rfl)))
    (pss_cons (ps_set (i := 4) sc_law.nd rfl (.inl rfl) (pe_ix (r := rIxT K) ix_tup (pe_call G__law_shaped (hr.mono (by decide)) (by rfl) T.g__law_shaped T.F__law_shaped.kp T.b__law_shaped .nil pass0 (pa_cons (pv 2) (pa_cons (pv 3) (pa_cons (pe_call G__law_heads (hr.mono (by decide)) (by rfl) T.g__law_heads T.F__law_heads.kp T.b__law_heads .nil pass0 (pa_cons (pv 2) (pa_cons (pv 3) pa_nil))) pa_nil)))) pe_int (fun _ _ => rfl)))
    (pss_cons (ps_set (i := 5) sc_law.nd rfl (.inl rfl) (pe_callB (r := GD.rRepr K) (GD.call_reprD hg hr) (by rfl) T.z_repr (by decide +kernel) (pa_cons (pv 4) pa_nil)))
    (pss_cons (ps_set (i := 6) sc_law.nd rfl (.inl rfl) (pe_call G_weight_of (hr.mono (by decide)) (by rfl) T.g_weight_of T.F_weight_of.kp T.b_weight_of .nil pass0 (pa_cons (pv 4) pa_nil)))
    (pss_cons (ps_if (PW.pt (pw_or (pt_val (pe_callB call_isi (by rfl) T.z_isinstance (by decide +kernel) (pa_cons (pv 6) (pa_cons (pe_bltn (v := .ty "bool") (u := .type "bool") (by rfl) T.z_bool (by decide +kernel) rfl) pa_nil)))) (pw_or (pt_cmpR op_ne (pv 6) (pe_call G__law_counted (hr.mono (by decide)) (by rfl) T.g__law_counted T.F__law_counted.kp T.b__law_counted .nil pass0 (pa_cons (pv 4) pa_nil)) (nomark _)) (pw_or1 (pt_cmpR op_ne (pe_callK0 G_weight_of (hr.mono (by decide)) (by rfl) T.g_weight_of T.F_weight_of.kp (kb_weight_of_question T) pass0 (pk_cons (pv 4) pk_nil)) (pv 6) (nomark _)))))) (pss_one (ps_ret pe_bl)) pss_nil)
    (pss_one (ps_if (pt_cmpR op_ne (pe_callB (r := GD.rRepr K) (GD.call_reprD hg hr) (by rfl) T.z_repr (by decide +kernel) (pa_cons (pv 4) pa_nil)) (pv 5) (nomark _)) (pss_one (ps_ret pe_bl)) pss_nil)))))))))
    (pss_one (ps_ret (pe_cmpR op_eq (pe_call G_weight_of (hr.mono (by decide)) (by rfl) T.g_weight_of T.F_weight_of.kp T.b_weight_of .nil pass0 (pa_cons (pe_tup (pa_cons pe_str (pa_cons pe_str pa_nil))) pa_nil)) pe_int (nomark _))))), ?_⟩
    refine ⟨_, rfl, _, rfl, a, _, rfl, hS, fun p1 n1 => ?_⟩
    refine ⟨(by show 1 ≤ sizeLine; decide), fun p2 n2 => ?_⟩
    have n12 : p1 ≠ p2 := fun e => by
      subst e
      rw [upd_same] at n2
      cases n2
    have hl : (cutV (ns.map V.int) none (some 8)).length + 1 ≤ sizeLine := by
      have h1 := cutV_length (ns.map V.int) none (some 8)
      rw [List.length_map] at h1
      exact Nat.le_of_lt (small1000 (by omega))
    refine ⟨p1, p2, _, _, rfl, rfl, (by rw [upd_ne n12, upd_same]), upd_same, hl, fun p3 n3 => ?_⟩
    refine ⟨p3, rfl, ⟨_, .inl (.inl upd_same)⟩, for_list (K := K) (a := p3) (xs := cutV (ns.map V.int) none (some 8) ++ [V.int 0])
      (fun i σ H2 => ∃ v1 v2 v3 v4 v5 v6, σ = [some (.ref a), v1, v2, v3, v4, v5, v6] ∧ H2 p3 = some (.lst (cutV (ns.map V.int) none (some 8) ++ [V.int 0])) ∧ (0 < i → ∃ d s, DL.Dr H2 d s))
      ⟨none, none, none, none, none, none, rfl, upd_same, fun h => absurd h (Nat.lt_irrefl 0)⟩ (fun i σ H2 _ ⟨_, _, _, _, _, _, _, h, _⟩ => .inl (.inl h)) ?_ ?_⟩
    · rintro i y σ H2 hi ⟨v1, v2, v3, v4, v5, v6, rfl, h3, _⟩
      obtain ⟨c, rfl⟩ := items_int hi
      refine ⟨_, rfl, c, rfl, fun d n b H4 nd s4 hd4 => ?_⟩
      have npd : p3 ≠ d := ne_of_none h3 nd
      have h4 := s4 _ _ h3
      let av : Av := fun x => x = d
      have at4 : At K av d ⟨n, 0, b⟩ H4 := ⟨hd4, rfl, fun x hx => by rw [show x = d from hx, hd4]; simp⟩
      have hlim : lim = 1000000 := rfl
      -- the tongue
      refine ⟨(by show 2 ≤ sizeLine; decide), fun p5 n5 => ?_⟩
      have at5 : At K av d ⟨n, 0, b⟩ (upd H4 p5 (.lst [.str "hill", .str "dale"])) := ⟨at4.drw.new n5, rfl, fun x hx => Lv.upd x (at4.al x hx)⟩
      have h5 := same_upd (o := .lst [.str "hill", .str "dale"]) n5 _ _ h4
      refine ⟨_, rfl, ?_⟩
      refine spF_of (E := E0) (P := fun d s' => ∃ r : Int, d = .int r ∧ 0 ≤ r ∧ s'.k = 1) at5 (.cons .drw .nil) rfl (w_next (n := 30) (by omega) (by show 0 ≤ lim; omega) fun r s' h0 h1 hk => ⟨r, rfl, h0, hk⟩) fun dd s6 v6' H6 pp g6 d6 r6 => ?_
      obtain ⟨r, rfl, hr0, hk6⟩ := pp
      cases r6.int_eq
      have h5' : H6 p5 = some (.lst [.str "hill", .str "dale"]) := g6.kp p5 _ (at4.fresh n5) upd_same
      have h6 := g6.kp p3 _ npd h5
      have at6 : At K av d s6 H6 := ⟨d6, rfl, fun x hx => g6.lv x (at5.al x hx)⟩
      refine ⟨_, _, rfl, rfl, (by show (0 : Int) < 2; decide), ?_⟩
      have ht : ∃ t : Str, (t = "hill" ∨ t = "dale") ∧ atI [V.str "hill", .str "dale"] (r % 2) = some (.str t) := by
        have hr2 : r % 2 = 0 ∨ r % 2 = 1 := by omega
        rcases hr2 with e | e
        · exact ⟨"hill", .inl rfl, by rw [e]; exact atI_nat (j := 0) rfl⟩
        · exact ⟨"dale", .inr rfl, by rw [e]; exact atI_nat (j := 1) rfl⟩
      obtain ⟨t, ht, hat⟩ := ht
      refine ⟨p5, _, _, .str t, rfl, rfl, .inl (.inl h5'), hat, ?_⟩
      -- the question
      refine ⟨_, rfl, _, rfl, _, rfl, _, rfl, ?_⟩
      refine spF_of (E := E0) (P := fun d s' => Tabs d ∧ s'.k ≤ 13) at6 (.cons .drw (.cons (.str t) .nil)) rfl (w_heads (n := 30) (by omega) (by omega) fun h1 h2 h3 s' p1 p2 p3 hk => ⟨⟨h1, h2, h3, rfl, p1, p2, p3⟩, by omega⟩) fun tb s7 v7 H7 pp g7 d7 r7 => ?_
      obtain ⟨htb, hk7⟩ := pp
      have h7 := g7.kp p3 _ npd h6
      have at7 : At K av d s7 H7 := ⟨d7, rfl, fun x hx => g7.lv x (at6.al x hx)⟩
      refine spF_of (E := E0) (P := fun d _ => In 8 100 40 d) at7 (.cons .drw (.cons (.str t) (.cons r7 .nil))) rfl (w_shaped (n := 30) (by omega) (by omega) ht htb fun d s' hi _ => hi) fun dd s8 v8 H8 pp g8 d8 r8 => ?_
      obtain ⟨q0, hs0, rfl, hq, _⟩ := pp
      have h8 := g8.kp p3 _ npd h7
      have at8 : At K av d s8 H8 := ⟨d8, rfl, fun x hx => g8.lv x (at7.al x hx)⟩
      obtain ⟨p9, vs9, rfl, ht9, ra9⟩ := r8.tup_at
      obtain ⟨v9, hv9, r9⟩ := ra9.get (i := 0) rfl
      refine ⟨p9, _, _, v9, rfl, rfl, ht9.sq, atI_nat hv9, ?_⟩
      obtain ⟨ys, rfl⟩ := hq.tup
      have hwr := hq.wr (by omega) (by omega)
      obtain ⟨m, hct, hwt⟩ := qu_both hq (by omega)
      -- kept, told
      refine ⟨v9, rfl, ?_⟩
      unfold tNil
      dsimp only
      refine wr_run hwr r9 ?_
      refine ⟨_, rfl, ?_⟩
      refine spF_of (E := E0) (P := fun d s' => d = .int (m : Nat) ∧ s' = s8) at8 (.cons r9 .nil) rfl (hwt 30 s8 _ (by omega) ⟨rfl, rfl⟩) fun dd s10 v10 H10 pp g10 d10 r10 => ?_
      obtain ⟨rfl, rfl⟩ := pp
      cases r10.int_eq
      have h10 := g10.kp p3 _ npd h8
      have at10 : At K av d s10 H10 := ⟨d10, rfl, fun x hx => g10.lv x (at8.al x hx)⟩
      have r9' := r9.kp (g10.kp.dr at8.ad)
      -- the tests
      refine ⟨_, rfl, ?_⟩
      refine ⟨.int (m : Nat), .ty "bool", .type "int", .type "bool", false, rfl, .ty "bool", ty_of at10 (.int _) rfl, kit_ty (by decide +kernel), ?_⟩
      refine ⟨false, rfl, iteF ?_⟩
      -- told != counted
      refine ⟨_, rfl, v9, rfl, ?_⟩
      refine spF_of (E := E0) (P := fun d s' => d = .int (m : Nat) ∧ s' = s10) at10 (.cons r9' .nil) rfl (hct 30 s10 _ (by have := hq.cd.2; omega) ⟨rfl, rfl⟩) fun dd s11 v11 H11 pp g11 d11 r11 => ?_
      obtain ⟨rfl, rfl⟩ := pp
      cases r11.int_eq
      have h11 := g11.kp p3 _ npd h10
      have at11 : At K av d s11 H11 := ⟨d11, rfl, fun x hx => g11.lv x (at10.al x hx)⟩
      have r9'' := r9'.kp (g11.kp.dr at10.ad)
      refine ⟨rfl, _, rfl, ?_⟩
      refine iteNS rfl ?_
      -- weight_of(question=..) != told
      refine ⟨v9, rfl, rfl, rfl, ?_⟩
      refine spF_of (E := E0) (P := fun d s' => d = .int (m : Nat) ∧ s' = s11) at11 (.cons r9'' .nil) rfl (hwt 30 s11 _ (by omega) ⟨rfl, rfl⟩) fun dd s12 v12 H12 pp g12 d12 r12 => ?_
      obtain ⟨rfl, rfl⟩ := pp
      cases r12.int_eq
      have h12 := g12.kp p3 _ npd h11
      have r9a := r9''.kp (g12.kp.dr at11.ad)
      refine ⟨_, rfl, rfl, _, rfl, iteNS rfl ?_⟩
      -- repr again
      refine ⟨v9, rfl, wr_run hwr r9a ?_⟩
      refine ⟨_, rfl, rfl, _, rfl, iteNS rfl ?_⟩
      exact ⟨_, _, _, _, _, _, rfl, h12, fun _ => ⟨d, s12, d12⟩⟩
    · rintro σ H2 ⟨v1, v2, v3, v4, v5, v6, rfl, h3, hd⟩
      obtain ⟨d, s1, hd⟩ := hd (by rw [List.length_append]; show 0 < _ + 1; omega)
      have at1 : At K (fun x => x = d) d s1 H2 := ⟨hd, rfl, fun x hx => by rw [show x = d from hx, hd]; simp⟩
      refine ⟨(by show 2 ≤ sizeLine; decide), fun p4 n4 => ?_⟩
      have at2 : At K (fun x => x = d) d s1 (upd H2 p4 (.tup [.str "table", .str "where"])) := ⟨at1.drw.new n4, rfl, fun x hx => Lv.upd x (at1.al x hx)⟩
      have hwt := wts (k := 0) (d := .tup [.str "table", .str "where"]) (fun n s P hn p => q_o_table hn p) (fun n s P hn p => q_parts0 hn p) .nil .nil (by simp) (by simp)
      refine spF_of (E := E0) (P := fun d _ => d = .int 10) at2 (.cons (.newT at1 n4 (.cons (.str _) (.cons (.str _) .nil))) .nil) rfl (hwt 30 s1 _ (by omega) rfl) fun dd s3 v3 H3 pp g3 d3 r3 => ?_
      subst pp
      cases r3.int_eq
      exact ⟨rfl, q _⟩
end
end K60
set_option Elab.async false
set_option linter.all false
set_option maxRecDepth 100000
set_option maxHeartbeats 2000000
namespace K60
open PySem L2 Lay DL
theorem all_mk {l : PySem.W.OpenLaw} {w : World} {K : PySem.W.Frag} {h : Heap} {mg : Str → Option Value} {fa : Addr}
    {f_places_of : Addr} {od_places_of an_places_of : Option Addr} {sl_places_of : Array (Option Value)} {oc_places_of kV_places_of dc_places_of pm_places_of cd_places_of ct_places_of : Value}
    {f_parts_of : Addr} {od_parts_of an_parts_of : Option Addr} {sl_parts_of : Array (Option Value)} {oc_parts_of kV_parts_of dc_parts_of pm_parts_of cd_parts_of ct_parts_of : Value}
    {f_paths : Addr} {od_paths an_paths : Option Addr} {sl_paths : Array (Option Value)} {oc_paths kV_paths dc_paths pm_paths cd_paths ct_paths : Value}
    {f_parts_of_question : Addr} {od_parts_of_question an_parts_of_question : Option Addr} {sl_parts_of_question : Array (Option Value)} {oc_parts_of_question kV_parts_of_question dc_parts_of_question pm_parts_of_question cd_parts_of_question ct_parts_of_question : Value}
    {f_own_terms : Addr} {od_own_terms an_own_terms : Option Addr} {sl_own_terms : Array (Option Value)} {oc_own_terms kV_own_terms dc_own_terms pm_own_terms cd_own_terms ct_own_terms : Value}
    {f_weight_of : Addr} {od_weight_of an_weight_of : Option Addr} {sl_weight_of : Array (Option Value)} {oc_weight_of kV_weight_of dc_weight_of pm_weight_of cd_weight_of ct_weight_of : Value}
    {f__law_draws : Addr} {od__law_draws an__law_draws : Option Addr} {sl__law_draws : Array (Option Value)} {oc__law_draws kV__law_draws dc__law_draws pm__law_draws cd__law_draws ct__law_draws : Value}
    {f__law_next : Addr} {od__law_next an__law_next : Option Addr} {sl__law_next : Array (Option Value)} {oc__law_next kV__law_next dc__law_next pm__law_next cd__law_next ct__law_next : Value}
    {f__law_kind : Addr} {od__law_kind an__law_kind : Option Addr} {sl__law_kind : Array (Option Value)} {oc__law_kind kV__law_kind dc__law_kind pm__law_kind cd__law_kind ct__law_kind : Value}
    {f__law_heads : Addr} {od__law_heads an__law_heads : Option Addr} {sl__law_heads : Array (Option Value)} {oc__law_heads kV__law_heads dc__law_heads pm__law_heads cd__law_heads ct__law_heads : Value}
    {f__law_leaf : Addr} {od__law_leaf an__law_leaf : Option Addr} {sl__law_leaf : Array (Option Value)} {oc__law_leaf kV__law_leaf dc__law_leaf pm__law_leaf cd__law_leaf ct__law_leaf : Value}
    {f__law_term : Addr} {od__law_term an__law_term : Option Addr} {sl__law_term : Array (Option Value)} {oc__law_term kV__law_term dc__law_term pm__law_term cd__law_term ct__law_term : Value}
    {f__law_condition : Addr} {od__law_condition an__law_condition : Option Addr} {sl__law_condition : Array (Option Value)} {oc__law_condition kV__law_condition dc__law_condition pm__law_condition cd__law_condition ct__law_condition : Value}
    {f__law_odd_term : Addr} {od__law_odd_term an__law_odd_term : Option Addr} {sl__law_odd_term : Array (Option Value)} {oc__law_odd_term kV__law_odd_term dc__law_odd_term pm__law_odd_term cd__law_odd_term ct__law_odd_term : Value}
    {f__law_odd : Addr} {od__law_odd an__law_odd : Option Addr} {sl__law_odd : Array (Option Value)} {oc__law_odd kV__law_odd dc__law_odd pm__law_odd cd__law_odd ct__law_odd : Value}
    {f__law_grouped : Addr} {od__law_grouped an__law_grouped : Option Addr} {sl__law_grouped : Array (Option Value)} {oc__law_grouped kV__law_grouped dc__law_grouped pm__law_grouped cd__law_grouped ct__law_grouped : Value}
    {f__law_picked : Addr} {od__law_picked an__law_picked : Option Addr} {sl__law_picked : Array (Option Value)} {oc__law_picked kV__law_picked dc__law_picked pm__law_picked cd__law_picked ct__law_picked : Value}
    {f__law_sorted : Addr} {od__law_sorted an__law_sorted : Option Addr} {sl__law_sorted : Array (Option Value)} {oc__law_sorted kV__law_sorted dc__law_sorted pm__law_sorted cd__law_sorted ct__law_sorted : Value}
    {f__law_inner : Addr} {od__law_inner an__law_inner : Option Addr} {sl__law_inner : Array (Option Value)} {oc__law_inner kV__law_inner dc__law_inner pm__law_inner cd__law_inner ct__law_inner : Value}
    {f__law_joined : Addr} {od__law_joined an__law_joined : Option Addr} {sl__law_joined : Array (Option Value)} {oc__law_joined kV__law_joined dc__law_joined pm__law_joined cd__law_joined ct__law_joined : Value}
    {f__law_where_shaped : Addr} {od__law_where_shaped an__law_where_shaped : Option Addr} {sl__law_where_shaped : Array (Option Value)} {oc__law_where_shaped kV__law_where_shaped dc__law_where_shaped pm__law_where_shaped cd__law_where_shaped ct__law_where_shaped : Value}
    {f__law_shaped : Addr} {od__law_shaped an__law_shaped : Option Addr} {sl__law_shaped : Array (Option Value)} {oc__law_shaped kV__law_shaped dc__law_shaped pm__law_shaped cd__law_shaped ct__law_shaped : Value}
    {f__law_counted : Addr} {od__law_counted an__law_counted : Option Addr} {sl__law_counted : Array (Option Value)} {oc__law_counted kV__law_counted dc__law_counted pm__law_counted cd__law_counted ct__law_counted : Value}
    {f_law : Addr} {od_law an_law : Option Addr} {sl_law : Array (Option Value)} {oc_law kV_law dc_law pm_law cd_law ct_law : Value}
    {q_PLACES : Addr} {es_PLACES : Array DictEntry} {n_PLACES : Nat}
    {q_ASKS : Addr} {es_ASKS : Array DictEntry} {n_ASKS : Nat}
    {q_PARTS : Addr} {es_PARTS : Array DictEntry} {n_PARTS : Nat} (X : K.In h) (G : h.Ns mainGlobals mg) (hfa : mg "law" = some (.ref fa))
    (a_places_of : PySem.W.nsIn K mainGlobals "places_of" = some (some (.ref f_places_of)))
    (l_places_of : K.lookup f_places_of = some ⟨oc_places_of, od_places_of, .func (PySem.W.fnOf "places_of" "places_of" (defArgs s_places_of) (defBody s_places_of) (defScope s_places_of) .none kV_places_of dc_places_of pm_places_of an_places_of cd_places_of ct_places_of), sl_places_of⟩)
    (c_places_of : PySem.W.codeIn K cd_places_of "places_of" = true)
    (k_places_of : PySem.W.keepIn K (.ref f_places_of) = true)
    (a_parts_of : PySem.W.nsIn K mainGlobals "parts_of" = some (some (.ref f_parts_of)))
    (l_parts_of : K.lookup f_parts_of = some ⟨oc_parts_of, od_parts_of, .func (PySem.W.fnOf "parts_of" "parts_of" (defArgs s_parts_of) (defBody s_parts_of) (defScope s_parts_of) .none kV_parts_of dc_parts_of pm_parts_of an_parts_of cd_parts_of ct_parts_of), sl_parts_of⟩)
    (c_parts_of : PySem.W.codeIn K cd_parts_of "parts_of" = true)
    (k_parts_of : PySem.W.keepIn K (.ref f_parts_of) = true)
    (a_paths : PySem.W.nsIn K mainGlobals "paths" = some (some (.ref f_paths)))
    (l_paths : K.lookup f_paths = some ⟨oc_paths, od_paths, .func (PySem.W.fnOf "paths" "paths" (defArgs s_paths) (defBody s_paths) (defScope s_paths) .none kV_paths dc_paths pm_paths an_paths cd_paths ct_paths), sl_paths⟩)
    (c_paths : PySem.W.codeIn K cd_paths "paths" = true)
    (k_paths : PySem.W.keepIn K (.ref f_paths) = true)
    (a_parts_of_question : PySem.W.nsIn K mainGlobals "parts_of_question" = some (some (.ref f_parts_of_question)))
    (l_parts_of_question : K.lookup f_parts_of_question = some ⟨oc_parts_of_question, od_parts_of_question, .func (PySem.W.fnOf "parts_of_question" "parts_of_question" (defArgs s_parts_of_question) (defBody s_parts_of_question) (defScope s_parts_of_question) .none kV_parts_of_question dc_parts_of_question pm_parts_of_question an_parts_of_question cd_parts_of_question ct_parts_of_question), sl_parts_of_question⟩)
    (c_parts_of_question : PySem.W.codeIn K cd_parts_of_question "parts_of_question" = true)
    (k_parts_of_question : PySem.W.keepIn K (.ref f_parts_of_question) = true)
    (a_own_terms : PySem.W.nsIn K mainGlobals "own_terms" = some (some (.ref f_own_terms)))
    (l_own_terms : K.lookup f_own_terms = some ⟨oc_own_terms, od_own_terms, .func (PySem.W.fnOf "own_terms" "own_terms" (defArgs s_own_terms) (defBody s_own_terms) (defScope s_own_terms) .none kV_own_terms dc_own_terms pm_own_terms an_own_terms cd_own_terms ct_own_terms), sl_own_terms⟩)
    (c_own_terms : PySem.W.codeIn K cd_own_terms "own_terms" = true)
    (k_own_terms : PySem.W.keepIn K (.ref f_own_terms) = true)
    (a_weight_of : PySem.W.nsIn K mainGlobals "weight_of" = some (some (.ref f_weight_of)))
    (l_weight_of : K.lookup f_weight_of = some ⟨oc_weight_of, od_weight_of, .func (PySem.W.fnOf "weight_of" "weight_of" (defArgs s_weight_of) (defBody s_weight_of) (defScope s_weight_of) .none kV_weight_of dc_weight_of pm_weight_of an_weight_of cd_weight_of ct_weight_of), sl_weight_of⟩)
    (c_weight_of : PySem.W.codeIn K cd_weight_of "weight_of" = true)
    (k_weight_of : PySem.W.keepIn K (.ref f_weight_of) = true)
    (a__law_draws : PySem.W.nsIn K mainGlobals "_law_draws" = some (some (.ref f__law_draws)))
    (l__law_draws : K.lookup f__law_draws = some ⟨oc__law_draws, od__law_draws, .func (PySem.W.fnOf "_law_draws" "_law_draws" (defArgs s__law_draws) (defBody s__law_draws) (defScope s__law_draws) .none kV__law_draws dc__law_draws pm__law_draws an__law_draws cd__law_draws ct__law_draws), sl__law_draws⟩)
    (c__law_draws : PySem.W.codeIn K cd__law_draws "_law_draws" = true)
    (k__law_draws : PySem.W.keepIn K (.ref f__law_draws) = true)
    (a__law_next : PySem.W.nsIn K mainGlobals "_law_next" = some (some (.ref f__law_next)))
    (l__law_next : K.lookup f__law_next = some ⟨oc__law_next, od__law_next, .func (PySem.W.fnOf "_law_next" "_law_next" (defArgs s__law_next) (defBody s__law_next) (defScope s__law_next) .none kV__law_next dc__law_next pm__law_next an__law_next cd__law_next ct__law_next), sl__law_next⟩)
    (c__law_next : PySem.W.codeIn K cd__law_next "_law_next" = true)
    (k__law_next : PySem.W.keepIn K (.ref f__law_next) = true)
    (a__law_kind : PySem.W.nsIn K mainGlobals "_law_kind" = some (some (.ref f__law_kind)))
    (l__law_kind : K.lookup f__law_kind = some ⟨oc__law_kind, od__law_kind, .func (PySem.W.fnOf "_law_kind" "_law_kind" (defArgs s__law_kind) (defBody s__law_kind) (defScope s__law_kind) .none kV__law_kind dc__law_kind pm__law_kind an__law_kind cd__law_kind ct__law_kind), sl__law_kind⟩)
    (c__law_kind : PySem.W.codeIn K cd__law_kind "_law_kind" = true)
    (k__law_kind : PySem.W.keepIn K (.ref f__law_kind) = true)
    (a__law_heads : PySem.W.nsIn K mainGlobals "_law_heads" = some (some (.ref f__law_heads)))
    (l__law_heads : K.lookup f__law_heads = some ⟨oc__law_heads, od__law_heads, .func (PySem.W.fnOf "_law_heads" "_law_heads" (defArgs s__law_heads) (defBody s__law_heads) (defScope s__law_heads) .none kV__law_heads dc__law_heads pm__law_heads an__law_heads cd__law_heads ct__law_heads), sl__law_heads⟩)
    (c__law_heads : PySem.W.codeIn K cd__law_heads "_law_heads" = true)
    (k__law_heads : PySem.W.keepIn K (.ref f__law_heads) = true)
    (a__law_leaf : PySem.W.nsIn K mainGlobals "_law_leaf" = some (some (.ref f__law_leaf)))
    (l__law_leaf : K.lookup f__law_leaf = some ⟨oc__law_leaf, od__law_leaf, .func (PySem.W.fnOf "_law_leaf" "_law_leaf" (defArgs s__law_leaf) (defBody s__law_leaf) (defScope s__law_leaf) .none kV__law_leaf dc__law_leaf pm__law_leaf an__law_leaf cd__law_leaf ct__law_leaf), sl__law_leaf⟩)
    (c__law_leaf : PySem.W.codeIn K cd__law_leaf "_law_leaf" = true)
    (k__law_leaf : PySem.W.keepIn K (.ref f__law_leaf) = true)
    (a__law_term : PySem.W.nsIn K mainGlobals "_law_term" = some (some (.ref f__law_term)))
    (l__law_term : K.lookup f__law_term = some ⟨oc__law_term, od__law_term, .func (PySem.W.fnOf "_law_term" "_law_term" (defArgs s__law_term) (defBody s__law_term) (defScope s__law_term) .none kV__law_term dc__law_term pm__law_term an__law_term cd__law_term ct__law_term), sl__law_term⟩)
    (c__law_term : PySem.W.codeIn K cd__law_term "_law_term" = true)
    (k__law_term : PySem.W.keepIn K (.ref f__law_term) = true)
    (a__law_condition : PySem.W.nsIn K mainGlobals "_law_condition" = some (some (.ref f__law_condition)))
    (l__law_condition : K.lookup f__law_condition = some ⟨oc__law_condition, od__law_condition, .func (PySem.W.fnOf "_law_condition" "_law_condition" (defArgs s__law_condition) (defBody s__law_condition) (defScope s__law_condition) .none kV__law_condition dc__law_condition pm__law_condition an__law_condition cd__law_condition ct__law_condition), sl__law_condition⟩)
    (c__law_condition : PySem.W.codeIn K cd__law_condition "_law_condition" = true)
    (k__law_condition : PySem.W.keepIn K (.ref f__law_condition) = true)
    (a__law_odd_term : PySem.W.nsIn K mainGlobals "_law_odd_term" = some (some (.ref f__law_odd_term)))
    (l__law_odd_term : K.lookup f__law_odd_term = some ⟨oc__law_odd_term, od__law_odd_term, .func (PySem.W.fnOf "_law_odd_term" "_law_odd_term" (defArgs s__law_odd_term) (defBody s__law_odd_term) (defScope s__law_odd_term) .none kV__law_odd_term dc__law_odd_term pm__law_odd_term an__law_odd_term cd__law_odd_term ct__law_odd_term), sl__law_odd_term⟩)
    (c__law_odd_term : PySem.W.codeIn K cd__law_odd_term "_law_odd_term" = true)
    (k__law_odd_term : PySem.W.keepIn K (.ref f__law_odd_term) = true)
    (a__law_odd : PySem.W.nsIn K mainGlobals "_law_odd" = some (some (.ref f__law_odd)))
    (l__law_odd : K.lookup f__law_odd = some ⟨oc__law_odd, od__law_odd, .func (PySem.W.fnOf "_law_odd" "_law_odd" (defArgs s__law_odd) (defBody s__law_odd) (defScope s__law_odd) .none kV__law_odd dc__law_odd pm__law_odd an__law_odd cd__law_odd ct__law_odd), sl__law_odd⟩)
    (c__law_odd : PySem.W.codeIn K cd__law_odd "_law_odd" = true)
    (k__law_odd : PySem.W.keepIn K (.ref f__law_odd) = true)
    (a__law_grouped : PySem.W.nsIn K mainGlobals "_law_grouped" = some (some (.ref f__law_grouped)))
    (l__law_grouped : K.lookup f__law_grouped = some ⟨oc__law_grouped, od__law_grouped, .func (PySem.W.fnOf "_law_grouped" "_law_grouped" (defArgs s__law_grouped) (defBody s__law_grouped) (defScope s__law_grouped) .none kV__law_grouped dc__law_grouped pm__law_grouped an__law_grouped cd__law_grouped ct__law_grouped), sl__law_grouped⟩)
    (c__law_grouped : PySem.W.codeIn K cd__law_grouped "_law_grouped" = true)
    (k__law_grouped : PySem.W.keepIn K (.ref f__law_grouped) = true)
    (a__law_picked : PySem.W.nsIn K mainGlobals "_law_picked" = some (some (.ref f__law_picked)))
    (l__law_picked : K.lookup f__law_picked = some ⟨oc__law_picked, od__law_picked, .func (PySem.W.fnOf "_law_picked" "_law_picked" (defArgs s__law_picked) (defBody s__law_picked) (defScope s__law_picked) .none kV__law_picked dc__law_picked pm__law_picked an__law_picked cd__law_picked ct__law_picked), sl__law_picked⟩)
    (c__law_picked : PySem.W.codeIn K cd__law_picked "_law_picked" = true)
    (k__law_picked : PySem.W.keepIn K (.ref f__law_picked) = true)
    (a__law_sorted : PySem.W.nsIn K mainGlobals "_law_sorted" = some (some (.ref f__law_sorted)))
    (l__law_sorted : K.lookup f__law_sorted = some ⟨oc__law_sorted, od__law_sorted, .func (PySem.W.fnOf "_law_sorted" "_law_sorted" (defArgs s__law_sorted) (defBody s__law_sorted) (defScope s__law_sorted) .none kV__law_sorted dc__law_sorted pm__law_sorted an__law_sorted cd__law_sorted ct__law_sorted), sl__law_sorted⟩)
    (c__law_sorted : PySem.W.codeIn K cd__law_sorted "_law_sorted" = true)
    (k__law_sorted : PySem.W.keepIn K (.ref f__law_sorted) = true)
    (a__law_inner : PySem.W.nsIn K mainGlobals "_law_inner" = some (some (.ref f__law_inner)))
    (l__law_inner : K.lookup f__law_inner = some ⟨oc__law_inner, od__law_inner, .func (PySem.W.fnOf "_law_inner" "_law_inner" (defArgs s__law_inner) (defBody s__law_inner) (defScope s__law_inner) .none kV__law_inner dc__law_inner pm__law_inner an__law_inner cd__law_inner ct__law_inner), sl__law_inner⟩)
    (c__law_inner : PySem.W.codeIn K cd__law_inner "_law_inner" = true)
    (k__law_inner : PySem.W.keepIn K (.ref f__law_inner) = true)
    (a__law_joined : PySem.W.nsIn K mainGlobals "_law_joined" = some (some (.ref f__law_joined)))
    (l__law_joined : K.lookup f__law_joined = some ⟨oc__law_joined, od__law_joined, .func (PySem.W.fnOf "_law_joined" "_law_joined" (defArgs s__law_joined) (defBody s__law_joined) (defScope s__law_joined) .none kV__law_joined dc__law_joined pm__law_joined an__law_joined cd__law_joined ct__law_joined), sl__law_joined⟩)
    (c__law_joined : PySem.W.codeIn K cd__law_joined "_law_joined" = true)
    (k__law_joined : PySem.W.keepIn K (.ref f__law_joined) = true)
    (a__law_where_shaped : PySem.W.nsIn K mainGlobals "_law_where_shaped" = some (some (.ref f__law_where_shaped)))
    (l__law_where_shaped : K.lookup f__law_where_shaped = some ⟨oc__law_where_shaped, od__law_where_shaped, .func (PySem.W.fnOf "_law_where_shaped" "_law_where_shaped" (defArgs s__law_where_shaped) (defBody s__law_where_shaped) (defScope s__law_where_shaped) .none kV__law_where_shaped dc__law_where_shaped pm__law_where_shaped an__law_where_shaped cd__law_where_shaped ct__law_where_shaped), sl__law_where_shaped⟩)
    (c__law_where_shaped : PySem.W.codeIn K cd__law_where_shaped "_law_where_shaped" = true)
    (k__law_where_shaped : PySem.W.keepIn K (.ref f__law_where_shaped) = true)
    (a__law_shaped : PySem.W.nsIn K mainGlobals "_law_shaped" = some (some (.ref f__law_shaped)))
    (l__law_shaped : K.lookup f__law_shaped = some ⟨oc__law_shaped, od__law_shaped, .func (PySem.W.fnOf "_law_shaped" "_law_shaped" (defArgs s__law_shaped) (defBody s__law_shaped) (defScope s__law_shaped) .none kV__law_shaped dc__law_shaped pm__law_shaped an__law_shaped cd__law_shaped ct__law_shaped), sl__law_shaped⟩)
    (c__law_shaped : PySem.W.codeIn K cd__law_shaped "_law_shaped" = true)
    (k__law_shaped : PySem.W.keepIn K (.ref f__law_shaped) = true)
    (a__law_counted : PySem.W.nsIn K mainGlobals "_law_counted" = some (some (.ref f__law_counted)))
    (l__law_counted : K.lookup f__law_counted = some ⟨oc__law_counted, od__law_counted, .func (PySem.W.fnOf "_law_counted" "_law_counted" (defArgs s__law_counted) (defBody s__law_counted) (defScope s__law_counted) .none kV__law_counted dc__law_counted pm__law_counted an__law_counted cd__law_counted ct__law_counted), sl__law_counted⟩)
    (c__law_counted : PySem.W.codeIn K cd__law_counted "_law_counted" = true)
    (k__law_counted : PySem.W.keepIn K (.ref f__law_counted) = true)
    (a_law : PySem.W.nsIn K mainGlobals "law" = some (some (.ref f_law)))
    (l_law : K.lookup f_law = some ⟨oc_law, od_law, .func (PySem.W.fnOf "law" "law" (defArgs s_law) (defBody s_law) (defScope s_law) .none kV_law dc_law pm_law an_law cd_law ct_law), sl_law⟩)
    (c_law : PySem.W.codeIn K cd_law "law" = true)
    (k_law : PySem.W.keepIn K (.ref f_law) = true)
    (z_enumerate : PySem.W.nsIn K mainGlobals "enumerate" = some none)
    (z_sum : PySem.W.nsIn K mainGlobals "sum" = some none)
    (z_len : PySem.W.nsIn K mainGlobals "len" = some none)
    (z_int : PySem.W.nsIn K mainGlobals "int" = some none)
    (z_range : PySem.W.nsIn K mainGlobals "range" = some none)
    (z_str : PySem.W.nsIn K mainGlobals "str" = some none)
    (z_tuple : PySem.W.nsIn K mainGlobals "tuple" = some none)
    (z_isinstance : PySem.W.nsIn K mainGlobals "isinstance" = some none)
    (z_repr : PySem.W.nsIn K mainGlobals "repr" = some none)
    (z_bool : PySem.W.nsIn K mainGlobals "bool" = some none)
    (a_PLACES : PySem.W.nsIn K mainGlobals "PLACES" = some (some (.ref q_PLACES)))
    (l_PLACES : K.lookup q_PLACES = some ⟨.type "dict", none, .dict es_PLACES n_PLACES, #[]⟩)
    (k_PLACES : PySem.W.KeysLit w.params es_PLACES.toList)
    (o_PLACES : (q_PLACES == sysModules) = false)
    (t_PLACES : tblB K q_PLACES tb_PLACES = true)
    (m_PLACES : missB K q_PLACES ms_PLACES = true)
    (a_ASKS : PySem.W.nsIn K mainGlobals "ASKS" = some (some (.ref q_ASKS)))
    (l_ASKS : K.lookup q_ASKS = some ⟨.type "dict", none, .dict es_ASKS n_ASKS, #[]⟩)
    (k_ASKS : PySem.W.KeysLit w.params es_ASKS.toList)
    (o_ASKS : (q_ASKS == sysModules) = false)
    (t_ASKS : tblB K q_ASKS tb_ASKS = true)
    (m_ASKS : missB K q_ASKS ms_ASKS = true)
    (a_PARTS : PySem.W.nsIn K mainGlobals "PARTS" = some (some (.ref q_PARTS)))
    (l_PARTS : K.lookup q_PARTS = some ⟨.type "dict", none, .dict es_PARTS n_PARTS, #[]⟩)
    (k_PARTS : PySem.W.KeysLit w.params es_PARTS.toList)
    (o_PARTS : (q_PARTS == sysModules) = false)
    (t_PARTS : tblB K q_PARTS tb_PARTS = true)
    (m_PARTS : missB K q_PARTS ms_PARTS = true) :
    ∃ fd : FuncData, (∀ (s : Shared) (v : Value), BindsTo s fd ⟨[v], []⟩ [("_law_script", v)]) ∧ ∀ base : Heap, K.In base → base.Ns mainGlobals mg → GD.FnG l.prog w K mg base CX0 31 fa fd ["_law_script"] (spLaw K) := by
  have e := hfa.symm.trans (PySem.W.mg_of X G a_law)
  cases e
  have F_places_of := fun_mk (st := s_places_of) l_places_of c_places_of k_places_of
  have b_places_of := F_places_of.binds (ps := ["thing"]) fun _ _ _ _ _ _ us hl => match us, hl with | [_], _ => rfl
  have F_parts_of := fun_mk (st := s_parts_of) l_parts_of c_parts_of k_parts_of
  have b_parts_of := F_parts_of.binds (ps := ["thing"]) fun _ _ _ _ _ _ us hl => match us, hl with | [_], _ => rfl
  have F_paths := fun_mk (st := s_paths) l_paths c_paths k_paths
  have b_paths := F_paths.binds (ps := ["term"]) fun _ _ _ _ _ _ us hl => match us, hl with | [_], _ => rfl
  have F_parts_of_question := fun_mk (st := s_parts_of_question) l_parts_of_question c_parts_of_question k_parts_of_question
  have b_parts_of_question := F_parts_of_question.binds (ps := ["question"]) fun _ _ _ _ _ _ us hl => match us, hl with | [_], _ => rfl
  have F_own_terms := fun_mk (st := s_own_terms) l_own_terms c_own_terms k_own_terms
  have b_own_terms := F_own_terms.binds (ps := ["question"]) fun _ _ _ _ _ _ us hl => match us, hl with | [_], _ => rfl
  have F_weight_of := fun_mk (st := s_weight_of) l_weight_of c_weight_of k_weight_of
  have b_weight_of := F_weight_of.binds (ps := ["question"]) fun _ _ _ _ _ _ us hl => match us, hl with | [_], _ => rfl
  have F__law_draws := fun_mk (st := s__law_draws) l__law_draws c__law_draws k__law_draws
  have b__law_draws := F__law_draws.binds (ps := ["_law_cell"]) fun _ _ _ _ _ _ us hl => match us, hl with | [_], _ => rfl
  have F__law_next := fun_mk (st := s__law_next) l__law_next c__law_next k__law_next
  have b__law_next := F__law_next.binds (ps := ["_law_draws_here"]) fun _ _ _ _ _ _ us hl => match us, hl with | [_], _ => rfl
  have F__law_kind := fun_mk (st := s__law_kind) l__law_kind c__law_kind k__law_kind
  have b__law_kind := F__law_kind.binds (ps := ["_law_draws_here", "_law_tongue"]) fun _ _ _ _ _ _ us hl => match us, hl with | [_, _], _ => rfl
  have F__law_heads := fun_mk (st := s__law_heads) l__law_heads c__law_heads k__law_heads
  have b__law_heads := F__law_heads.binds (ps := ["_law_draws_here", "_law_tongue"]) fun _ _ _ _ _ _ us hl => match us, hl with | [_, _], _ => rfl
  have F__law_leaf := fun_mk (st := s__law_leaf) l__law_leaf c__law_leaf k__law_leaf
  have b__law_leaf := F__law_leaf.binds (ps := ["_law_draws_here", "_law_tongue", "_law_heads_here", "_law_kind_here"]) fun _ _ _ _ _ _ us hl => match us, hl with | [_, _, _, _], _ => rfl
  have F__law_term := fun_mk (st := s__law_term) l__law_term c__law_term k__law_term
  have b__law_term := F__law_term.binds (ps := ["_law_draws_here", "_law_tongue", "_law_heads_here", "_law_kind_here", "_law_deep"]) fun _ _ _ _ _ _ us hl => match us, hl with | [_, _, _, _, _], _ => rfl
  have F__law_condition := fun_mk (st := s__law_condition) l__law_condition c__law_condition k__law_condition
  have b__law_condition := F__law_condition.binds (ps := ["_law_draws_here", "_law_tongue", "_law_heads_here", "_law_deep"]) fun _ _ _ _ _ _ us hl => match us, hl with | [_, _, _, _], _ => rfl
  have F__law_odd_term := fun_mk (st := s__law_odd_term) l__law_odd_term c__law_odd_term k__law_odd_term
  have b__law_odd_term := F__law_odd_term.binds (ps := ["_law_draws_here", "_law_tongue", "_law_heads_here", "_law_kind_here"]) fun _ _ _ _ _ _ us hl => match us, hl with | [_, _, _, _], _ => rfl
  have F__law_odd := fun_mk (st := s__law_odd) l__law_odd c__law_odd k__law_odd
  have b__law_odd := F__law_odd.binds (ps := ["_law_draws_here", "_law_tongue", "_law_heads_here"]) fun _ _ _ _ _ _ us hl => match us, hl with | [_, _, _], _ => rfl
  have F__law_grouped := fun_mk (st := s__law_grouped) l__law_grouped c__law_grouped k__law_grouped
  have b__law_grouped := F__law_grouped.binds (ps := ["_law_draws_here", "_law_tongue", "_law_inner_here"]) fun _ _ _ _ _ _ us hl => match us, hl with | [_, _, _], _ => rfl
  have F__law_picked := fun_mk (st := s__law_picked) l__law_picked c__law_picked k__law_picked
  have b__law_picked := F__law_picked.binds (ps := ["_law_draws_here", "_law_tongue", "_law_inner_here"]) fun _ _ _ _ _ _ us hl => match us, hl with | [_, _, _], _ => rfl
  have F__law_sorted := fun_mk (st := s__law_sorted) l__law_sorted c__law_sorted k__law_sorted
  have b__law_sorted := F__law_sorted.binds (ps := ["_law_draws_here", "_law_tongue", "_law_inner_here"]) fun _ _ _ _ _ _ us hl => match us, hl with | [_, _, _], _ => rfl
  have F__law_inner := fun_mk (st := s__law_inner) l__law_inner c__law_inner k__law_inner
  have b__law_inner := F__law_inner.binds (ps := ["_law_draws_here", "_law_tongue", "_law_tables", "_law_a_name"]) fun _ _ _ _ _ _ us hl => match us, hl with | [_, _, _, _], _ => rfl
  have F__law_joined := fun_mk (st := s__law_joined) l__law_joined c__law_joined k__law_joined
  have b__law_joined := F__law_joined.binds (ps := ["_law_draws_here", "_law_tongue", "_law_one", "_law_other"]) fun _ _ _ _ _ _ us hl => match us, hl with | [_, _, _, _], _ => rfl
  have F__law_where_shaped := fun_mk (st := s__law_where_shaped) l__law_where_shaped c__law_where_shaped k__law_where_shaped
  have b__law_where_shaped := F__law_where_shaped.binds (ps := ["_law_draws_here", "_law_tongue", "_law_tables", "_law_inner_here", "_law_way"]) fun _ _ _ _ _ _ us hl => match us, hl with | [_, _, _, _, _], _ => rfl
  have F__law_shaped := fun_mk (st := s__law_shaped) l__law_shaped c__law_shaped k__law_shaped
  have b__law_shaped := F__law_shaped.binds (ps := ["_law_draws_here", "_law_tongue", "_law_tables"]) fun _ _ _ _ _ _ us hl => match us, hl with | [_, _, _], _ => rfl
  have F__law_counted := fun_mk (st := s__law_counted) l__law_counted c__law_counted k__law_counted
  have b__law_counted := F__law_counted.binds (ps := ["_law_thing"]) fun _ _ _ _ _ _ us hl => match us, hl with | [_], _ => rfl
  have F_law := fun_mk (st := s_law) l_law c_law k_law
  have b_law := F_law.binds (ps := ["_law_script"]) fun _ _ _ _ _ _ us hl => match us, hl with | [_], _ => rfl
  exact ⟨_, fun s v => .of_eq rfl, fun base _ _ => ok_law (T := { f_places_of := f_places_of, fd_places_of := PySem.W.fnOf "places_of" "places_of" (defArgs s_places_of) (defBody s_places_of) (defScope s_places_of) .none kV_places_of dc_places_of pm_places_of an_places_of cd_places_of ct_places_of, F_places_of := F_places_of, b_places_of := b_places_of, g_places_of := PySem.W.mg_of X G a_places_of, f_parts_of := f_parts_of, fd_parts_of := PySem.W.fnOf "parts_of" "parts_of" (defArgs s_parts_of) (defBody s_parts_of) (defScope s_parts_of) .none kV_parts_of dc_parts_of pm_parts_of an_parts_of cd_parts_of ct_parts_of, F_parts_of := F_parts_of, b_parts_of := b_parts_of, g_parts_of := PySem.W.mg_of X G a_parts_of, f_paths := f_paths, fd_paths := PySem.W.fnOf "paths" "paths" (defArgs s_paths) (defBody s_paths) (defScope s_paths) .none kV_paths dc_paths pm_paths an_paths cd_paths ct_paths, F_paths := F_paths, b_paths := b_paths, g_paths := PySem.W.mg_of X G a_paths, f_parts_of_question := f_parts_of_question, fd_parts_of_question := PySem.W.fnOf "parts_of_question" "parts_of_question" (defArgs s_parts_of_question) (defBody s_parts_of_question) (defScope s_parts_of_question) .none kV_parts_of_question dc_parts_of_question pm_parts_of_question an_parts_of_question cd_parts_of_question ct_parts_of_question, F_parts_of_question := F_parts_of_question, b_parts_of_question := b_parts_of_question, g_parts_of_question := PySem.W.mg_of X G a_parts_of_question, f_own_terms := f_own_terms, fd_own_terms := PySem.W.fnOf "own_terms" "own_terms" (defArgs s_own_terms) (defBody s_own_terms) (defScope s_own_terms) .none kV_own_terms dc_own_terms pm_own_terms an_own_terms cd_own_terms ct_own_terms, F_own_terms := F_own_terms, b_own_terms := b_own_terms, g_own_terms := PySem.W.mg_of X G a_own_terms, f_weight_of := f_weight_of, fd_weight_of := PySem.W.fnOf "weight_of" "weight_of" (defArgs s_weight_of) (defBody s_weight_of) (defScope s_weight_of) .none kV_weight_of dc_weight_of pm_weight_of an_weight_of cd_weight_of ct_weight_of, F_weight_of := F_weight_of, b_weight_of := b_weight_of, g_weight_of := PySem.W.mg_of X G a_weight_of, f__law_draws := f__law_draws, fd__law_draws := PySem.W.fnOf "_law_draws" "_law_draws" (defArgs s__law_draws) (defBody s__law_draws) (defScope s__law_draws) .none kV__law_draws dc__law_draws pm__law_draws an__law_draws cd__law_draws ct__law_draws, F__law_draws := F__law_draws, b__law_draws := b__law_draws, g__law_draws := PySem.W.mg_of X G a__law_draws, f__law_next := f__law_next, fd__law_next := PySem.W.fnOf "_law_next" "_law_next" (defArgs s__law_next) (defBody s__law_next) (defScope s__law_next) .none kV__law_next dc__law_next pm__law_next an__law_next cd__law_next ct__law_next, F__law_next := F__law_next, b__law_next := b__law_next, g__law_next := PySem.W.mg_of X G a__law_next, f__law_kind := f__law_kind, fd__law_kind := PySem.W.fnOf "_law_kind" "_law_kind" (defArgs s__law_kind) (defBody s__law_kind) (defScope s__law_kind) .none kV__law_kind dc__law_kind pm__law_kind an__law_kind cd__law_kind ct__law_kind, F__law_kind := F__law_kind, b__law_kind := b__law_kind, g__law_kind := PySem.W.mg_of X G a__law_kind, f__law_heads := f__law_heads, fd__law_heads := PySem.W.fnOf "_law_heads" "_law_heads" (defArgs s__law_heads) (defBody s__law_heads) (defScope s__law_heads) .none kV__law_heads dc__law_heads pm__law_heads an__law_heads cd__law_heads ct__law_heads, F__law_heads := F__law_heads, b__law_heads := b__law_heads, g__law_heads := PySem.W.mg_of X G a__law_heads, f__law_leaf := f__law_leaf, fd__law_leaf := PySem.W.fnOf "_law_leaf" "_law_leaf" (defArgs s__law_leaf) (defBody s__law_leaf) (defScope s__law_leaf) .none kV__law_leaf dc__law_leaf pm__law_leaf an__law_leaf cd__law_leaf ct__law_leaf, F__law_leaf := F__law_leaf, b__law_leaf := b__law_leaf, g__law_leaf := PySem.W.mg_of X G a__law_leaf, f__law_term := f__law_term, fd__law_term := PySem.W.fnOf "_law_term" "_law_term" (defArgs s__law_term) (defBody s__law_term) (defScope s__law_term) .none kV__law_term dc__law_term pm__law_term an__law_term cd__law_term ct__law_term, F__law_term := F__law_term, b__law_term := b__law_term, g__law_term := PySem.W.mg_of X G a__law_term, f__law_condition := f__law_condition, fd__law_condition := PySem.W.fnOf "_law_condition" "_law_condition" (defArgs s__law_condition) (defBody s__law_condition) (defScope s__law_condition) .none kV__law_condition dc__law_condition pm__law_condition an__law_condition cd__law_condition ct__law_condition, F__law_condition := F__law_condition, b__law_condition := b__law_condition, g__law_condition := PySem.W.mg_of X G a__law_condition, f__law_odd_term := f__law_odd_term, fd__law_odd_term := PySem.W.fnOf "_law_odd_term" "_law_odd_term" (defArgs s__law_odd_term) (defBody s__law_odd_term) (defScope s__law_odd_term) .none kV__law_odd_term dc__law_odd_term pm__law_odd_term an__law_odd_term cd__law_odd_term ct__law_odd_term, F__law_odd_term := F__law_odd_term, b__law_odd_term := b__law_odd_term, g__law_odd_term := PySem.W.mg_of X G a__law_odd_term, f__law_odd := f__law_odd, fd__law_odd := PySem.W.fnOf "_law_odd" "_law_odd" (defArgs s__law_odd) (defBody s__law_odd) (defScope s__law_odd) .none kV__law_odd dc__law_odd pm__law_odd an__law_odd cd__law_odd ct__law_odd, F__law_odd := F__law_odd, b__law_odd := b__law_odd, g__law_odd := PySem.W.mg_of X G a__law_odd, f__law_grouped := f__law_grouped, fd__law_grouped := PySem.W.fnOf "_law_grouped" "_law_grouped" (defArgs s__law_grouped) (defBody s__law_grouped) (defScope s__law_grouped) .none kV__law_grouped dc__law_grouped pm__law_grouped an__law_grouped cd__law_grouped ct__law_grouped, F__law_grouped := F__law_grouped, b__law_grouped := b__law_grouped, g__law_grouped := PySem.W.mg_of X G a__law_grouped, f__law_picked := f__law_picked, fd__law_picked := PySem.W.fnOf "_law_picked" "_law_picked" (defArgs s__law_picked) (defBody s__law_picked) (defScope s__law_picked) .none kV__law_picked dc__law_picked pm__law_picked an__law_picked cd__law_picked ct__law_picked, F__law_picked := F__law_picked, b__law_picked := b__law_picked, g__law_picked := PySem.W.mg_of X G a__law_picked, f__law_sorted := f__law_sorted, fd__law_sorted := PySem.W.fnOf "_law_sorted" "_law_sorted" (defArgs s__law_sorted) (defBody s__law_sorted) (defScope s__law_sorted) .none kV__law_sorted dc__law_sorted pm__law_sorted an__law_sorted cd__law_sorted ct__law_sorted, F__law_sorted := F__law_sorted, b__law_sorted := b__law_sorted, g__law_sorted := PySem.W.mg_of X G a__law_sorted, f__law_inner := f__law_inner, fd__law_inner := PySem.W.fnOf "_law_inner" "_law_inner" (defArgs s__law_inner) (defBody s__law_inner) (defScope s__law_inner) .none kV__law_inner dc__law_inner pm__law_inner an__law_inner cd__law_inner ct__law_inner, F__law_inner := F__law_inner, b__law_inner := b__law_inner, g__law_inner := PySem.W.mg_of X G a__law_inner, f__law_joined := f__law_joined, fd__law_joined := PySem.W.fnOf "_law_joined" "_law_joined" (defArgs s__law_joined) (defBody s__law_joined) (defScope s__law_joined) .none kV__law_joined dc__law_joined pm__law_joined an__law_joined cd__law_joined ct__law_joined, F__law_joined := F__law_joined, b__law_joined := b__law_joined, g__law_joined := PySem.W.mg_of X G a__law_joined, f__law_where_shaped := f__law_where_shaped, fd__law_where_shaped := PySem.W.fnOf "_law_where_shaped" "_law_where_shaped" (defArgs s__law_where_shaped) (defBody s__law_where_shaped) (defScope s__law_where_shaped) .none kV__law_where_shaped dc__law_where_shaped pm__law_where_shaped an__law_where_shaped cd__law_where_shaped ct__law_where_shaped, F__law_where_shaped := F__law_where_shaped, b__law_where_shaped := b__law_where_shaped, g__law_where_shaped := PySem.W.mg_of X G a__law_where_shaped, f__law_shaped := f__law_shaped, fd__law_shaped := PySem.W.fnOf "_law_shaped" "_law_shaped" (defArgs s__law_shaped) (defBody s__law_shaped) (defScope s__law_shaped) .none kV__law_shaped dc__law_shaped pm__law_shaped an__law_shaped cd__law_shaped ct__law_shaped, F__law_shaped := F__law_shaped, b__law_shaped := b__law_shaped, g__law_shaped := PySem.W.mg_of X G a__law_shaped, f__law_counted := f__law_counted, fd__law_counted := PySem.W.fnOf "_law_counted" "_law_counted" (defArgs s__law_counted) (defBody s__law_counted) (defScope s__law_counted) .none kV__law_counted dc__law_counted pm__law_counted an__law_counted cd__law_counted ct__law_counted, F__law_counted := F__law_counted, b__law_counted := b__law_counted, g__law_counted := PySem.W.mg_of X G a__law_counted, f_law := fa, fd_law := PySem.W.fnOf "law" "law" (defArgs s_law) (defBody s_law) (defScope s_law) .none kV_law dc_law pm_law an_law cd_law ct_law, F_law := F_law, b_law := b_law, g_law := PySem.W.mg_of X G a_law, z_enumerate := PySem.W.mg_none_of X G z_enumerate, z_sum := PySem.W.mg_none_of X G z_sum, z_len := PySem.W.mg_none_of X G z_len, z_int := PySem.W.mg_none_of X G z_int, z_range := PySem.W.mg_none_of X G z_range, z_str := PySem.W.mg_none_of X G z_str, z_tuple := PySem.W.mg_none_of X G z_tuple, z_isinstance := PySem.W.mg_none_of X G z_isinstance, z_repr := PySem.W.mg_none_of X G z_repr, z_bool := PySem.W.mg_none_of X G z_bool, a_PLACES := q_PLACES, g_PLACES := PySem.W.mg_of X G a_PLACES, es_PLACES := es_PLACES, n_PLACES := n_PLACES, l_PLACES := l_PLACES, k_PLACES := k_PLACES, W_PLACES := wdict_of l_PLACES k_PLACES o_PLACES t_PLACES m_PLACES (by decide +kernel), a_ASKS := q_ASKS, g_ASKS := PySem.W.mg_of X G a_ASKS, es_ASKS := es_ASKS, n_ASKS := n_ASKS, l_ASKS := l_ASKS, k_ASKS := k_ASKS, W_ASKS := wdict_of l_ASKS k_ASKS o_ASKS t_ASKS m_ASKS (by decide +kernel), a_PARTS := q_PARTS, g_PARTS := PySem.W.mg_of X G a_PARTS, es_PARTS := es_PARTS, n_PARTS := n_PARTS, l_PARTS := l_PARTS, k_PARTS := k_PARTS, W_PARTS := wdict_of l_PARTS k_PARTS o_PARTS t_PARTS m_PARTS (by decide +kernel) })⟩
end K60
open PySem PySem.W PyProof.Rows
set_option maxHeartbeats 0 in
theorem PySem.Challenge.cw_askford_k60_weights_holds : PySem.Challenge.rw_askford_k60_weights.Holds := by
  w_on; o_law; k_head; (case hw => w_witness2)
  k_fill
  refine GD.walk_ofG (l := PySem.Challenge.rw_askford_k60_weights) (n := 63) (k := 31) (x := "_law_script") (sp := fun w => K60.spLaw _) rfl (by decide) rfl ⟨rfl, by decide, by decide⟩ (fun w h Y => PySem.W.kIn_of Y) ?F (fun _ _ a ns hl _ hS => ⟨a, ns, rfl, hS, hl, fun _ => rfl⟩)
  case F =>
    intro w mg fa h KX G hmg
    refine' K60.all_mk KX G hmg ?a_places_of ?l_places_of ?c_places_of ?k_places_of ?a_parts_of ?l_parts_of ?c_parts_of ?k_parts_of ?a_paths ?l_paths ?c_paths ?k_paths ?a_parts_of_question ?l_parts_of_question ?c_parts_of_question ?k_parts_of_question ?a_own_terms ?l_own_terms ?c_own_terms ?k_own_terms ?a_weight_of ?l_weight_of ?c_weight_of ?k_weight_of ?a__law_draws ?l__law_draws ?c__law_draws ?k__law_draws ?a__law_next ?l__law_next ?c__law_next ?k__law_next ?a__law_kind ?l__law_kind ?c__law_kind ?k__law_kind ?a__law_heads ?l__law_heads ?c__law_heads ?k__law_heads ?a__law_leaf ?l__law_leaf ?c__law_leaf ?k__law_leaf ?a__law_term ?l__law_term ?c__law_term ?k__law_term ?a__law_condition ?l__law_condition ?c__law_condition ?k__law_condition ?a__law_odd_term ?l__law_odd_term ?c__law_odd_term ?k__law_odd_term ?a__law_odd ?l__law_odd ?c__law_odd ?k__law_odd ?a__law_grouped ?l__law_grouped ?c__law_grouped ?k__law_grouped ?a__law_picked ?l__law_picked ?c__law_picked ?k__law_picked ?a__law_sorted ?l__law_sorted ?c__law_sorted ?k__law_sorted ?a__law_inner ?l__law_inner ?c__law_inner ?k__law_inner ?a__law_joined ?l__law_joined ?c__law_joined ?k__law_joined ?a__law_where_shaped ?l__law_where_shaped ?c__law_where_shaped ?k__law_where_shaped ?a__law_shaped ?l__law_shaped ?c__law_shaped ?k__law_shaped ?a__law_counted ?l__law_counted ?c__law_counted ?k__law_counted ?a_law ?l_law ?c_law ?k_law ?z_enumerate ?z_sum ?z_len ?z_int ?z_range ?z_str ?z_tuple ?z_isinstance ?z_repr ?z_bool ?a_PLACES ?l_PLACES ?k_PLACES ?o_PLACES ?t_PLACES ?m_PLACES ?a_ASKS ?l_ASKS ?k_ASKS ?o_ASKS ?t_ASKS ?m_ASKS ?a_PARTS ?l_PARTS ?k_PARTS ?o_PARTS ?t_PARTS ?m_PARTS
    (case a_places_of => k_is)
    (case l_places_of => k_is)
    (case c_places_of => k_is)
    (case k_places_of => k_is)
    (case a_parts_of => k_is)
    (case l_parts_of => k_is)
    (case c_parts_of => k_is)
    (case k_parts_of => k_is)
    (case a_paths => k_is)
    (case l_paths => k_is)
    (case c_paths => k_is)
    (case k_paths => k_is)
    (case a_parts_of_question => k_is)
    (case l_parts_of_question => k_is)
    (case c_parts_of_question => k_is)
    (case k_parts_of_question => k_is)
    (case a_own_terms => k_is)
    (case l_own_terms => k_is)
    (case c_own_terms => k_is)
    (case k_own_terms => k_is)
    (case a_weight_of => k_is)
    (case l_weight_of => k_is)
    (case c_weight_of => k_is)
    (case k_weight_of => k_is)
    (case a__law_draws => k_is)
    (case l__law_draws => k_is)
    (case c__law_draws => k_is)
    (case k__law_draws => k_is)
    (case a__law_next => k_is)
    (case l__law_next => k_is)
    (case c__law_next => k_is)
    (case k__law_next => k_is)
    (case a__law_kind => k_is)
    (case l__law_kind => k_is)
    (case c__law_kind => k_is)
    (case k__law_kind => k_is)
    (case a__law_heads => k_is)
    (case l__law_heads => k_is)
    (case c__law_heads => k_is)
    (case k__law_heads => k_is)
    (case a__law_leaf => k_is)
    (case l__law_leaf => k_is)
    (case c__law_leaf => k_is)
    (case k__law_leaf => k_is)
    (case a__law_term => k_is)
    (case l__law_term => k_is)
    (case c__law_term => k_is)
    (case k__law_term => k_is)
    (case a__law_condition => k_is)
    (case l__law_condition => k_is)
    (case c__law_condition => k_is)
    (case k__law_condition => k_is)
    (case a__law_odd_term => k_is)
    (case l__law_odd_term => k_is)
    (case c__law_odd_term => k_is)
    (case k__law_odd_term => k_is)
    (case a__law_odd => k_is)
    (case l__law_odd => k_is)
    (case c__law_odd => k_is)
    (case k__law_odd => k_is)
    (case a__law_grouped => k_is)
    (case l__law_grouped => k_is)
    (case c__law_grouped => k_is)
    (case k__law_grouped => k_is)
    (case a__law_picked => k_is)
    (case l__law_picked => k_is)
    (case c__law_picked => k_is)
    (case k__law_picked => k_is)
    (case a__law_sorted => k_is)
    (case l__law_sorted => k_is)
    (case c__law_sorted => k_is)
    (case k__law_sorted => k_is)
    (case a__law_inner => k_is)
    (case l__law_inner => k_is)
    (case c__law_inner => k_is)
    (case k__law_inner => k_is)
    (case a__law_joined => k_is)
    (case l__law_joined => k_is)
    (case c__law_joined => k_is)
    (case k__law_joined => k_is)
    (case a__law_where_shaped => k_is)
    (case l__law_where_shaped => k_is)
    (case c__law_where_shaped => k_is)
    (case k__law_where_shaped => k_is)
    (case a__law_shaped => k_is)
    (case l__law_shaped => k_is)
    (case c__law_shaped => k_is)
    (case k__law_shaped => k_is)
    (case a__law_counted => k_is)
    (case l__law_counted => k_is)
    (case c__law_counted => k_is)
    (case k__law_counted => k_is)
    (case a_law => k_is)
    (case l_law => k_is)
    (case c_law => k_is)
    (case k_law => k_is)
    (case z_enumerate => k_is)
    (case z_sum => k_is)
    (case z_len => k_is)
    (case z_int => k_is)
    (case z_range => k_is)
    (case z_str => k_is)
    (case z_tuple => k_is)
    (case z_isinstance => k_is)
    (case z_repr => k_is)
    (case z_bool => k_is)
    (case a_PLACES => k_is)
    (case l_PLACES => k_is)
    (case k_PLACES => k_keys)
    (case o_PLACES => kernel_rfl)
    (case t_PLACES => kernel_rfl)
    (case m_PLACES => kernel_rfl)
    (case a_ASKS => k_is)
    (case l_ASKS => k_is)
    (case k_ASKS => k_keys)
    (case o_ASKS => kernel_rfl)
    (case t_ASKS => kernel_rfl)
    (case m_ASKS => kernel_rfl)
    (case a_PARTS => k_is)
    (case l_PARTS => k_is)
    (case k_PARTS => k_keys)
    (case o_PARTS => kernel_rfl)
    (case t_PARTS => kernel_rfl)
    (case m_PARTS => kernel_rfl)
