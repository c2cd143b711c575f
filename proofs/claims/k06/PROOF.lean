import PyProof.Rows.All
import Wide.All
import OpenK.AllK
import Wide.FinOn
import HandS.ForMost
import HandS.ForExc
import HandS.More
import HandS.Wide
import HandS.Property
import HandS.Star
import HandS.ClsMeth
import HandS.SlotsOwn
import HandS.IsInst
import HandS.Defaults
import HandS.RaiseMore
import HandS.EndBits
import HandS.Style
import HandS.Head0
import HandS.Head1
import HandS.Head2
import HandS.HeadEnd
import HandS.HeadHook1
import HandS.HeadHook2
import HandS.HeadHook3
import HandS.HeadHook4
import HandS.HeadNt
import HandS.HeadWalk
import HandS.Walk
import HandS.Evl
import HandS.TryOnly
import PySem.Challenge.RW_carpets_k06_orders_and_multiples
set_option Elab.async false
set_option linter.all false
set_option maxRecDepth 100000
set_option maxHeartbeats 4000000
namespace Z
open PySem PySem.Spec PyProof.Rows L2
/-! ### heaps: a frozen part F of H; what goes on -/
structure Go (ms : List Addr) (F H F' H' : Hp) : Prop where
  ff : Same F F'
  fh : Same F' H'
  mu : ∀ a o, a ∉ ms → F a = none → H a = some o → F' a = none ∧ H' a = some o
section
variable {ms ms' : List Addr} {F H F1 H1 F2 H2 : Hp} {p a : Addr} {o : HO} {K : PySem.W.Frag} {xs : List V}
theorem Go.refl (h : Same F H) : Go ms F H F H := ⟨Same.refl _, h, fun _ _ _ h1 h2 => ⟨h1, h2⟩⟩
theorem Go.trans (x : Go ms F H F1 H1) (y : Go ms F1 H1 F2 H2) : Go ms F H F2 H2 :=
  ⟨x.ff.trans y.ff, y.fh, fun a o hm h1 h2 => let ⟨a1, a2⟩ := x.mu a o hm h1 h2; y.mu a o hm a1 a2⟩
theorem Go.sub (x : Go ms F H F1 H1) (h : ∀ a ∈ ms, a ∈ ms') : Go ms' F H F1 H1 := ⟨x.ff, x.fh, fun a o hm => x.mu a o fun z => hm (h a z)⟩
theorem Go.nil (x : Go [] F H F1 H1) : Go ms F H F1 H1 := x.sub fun _ h => nomatch h
/-- a new object, frozen -/
theorem Go.new (h : Same F H) (hp : H p = none) : Go ms F H (upd F p o) (upd H p o) := by
  refine ⟨fun a u e => ?_, fun a u e => ?_, fun a u _ h1 h2 => ?_⟩
  · rw [upd_ne (ne_of_none (h a u e) hp)]; exact e
  · by_cases ha : a = p
    · subst ha; rw [upd_same] at e ⊢; exact e
    · rw [upd_ne ha] at e ⊢; exact h a u e
  · have ha := ne_of_none h2 hp
    exact ⟨by rw [upd_ne ha]; exact h1, by rw [upd_ne ha]; exact h2⟩
/-- a new object that may change -/
theorem Go.newM (h : Same F H) (hp : H p = none) : Go ms F H F (upd H p o) := by
  refine ⟨Same.refl _, fun a u e => ?_, fun a u _ h1 h2 => ⟨h1, ?_⟩⟩
  · rw [upd_ne (ne_of_none (h a u e) hp)]; exact h a u e
  · rw [upd_ne (ne_of_none h2 hp)]; exact h2
/-- a store -/
theorem Go.put (h : Same F H) (hp : F p = none) : Go [p] F H F (upd H p o) := by
  refine ⟨Same.refl _, fun a u e => ?_, fun a u hm h1 h2 => ⟨h1, ?_⟩⟩
  · rw [upd_ne (ne_of_none e hp)]; exact h a u e
  · rw [upd_ne (fun z => hm (by rw [z]; exact List.mem_cons_self))]; exact h2
/-- an object that was changed is frozen from now on -/
theorem Go.freeze (h : Same F H) (hp : F p = none) (e : H p = some o) : Go [p] F H (upd F p o) H := by
  refine ⟨fun a u z => ?_, fun a u z => ?_, fun a u hm h1 h2 => ⟨?_, h2⟩⟩
  · rw [upd_ne (ne_of_none z hp)]; exact z
  · by_cases ha : a = p
    · subst ha; rw [upd_same] at z; rw [e]; exact z
    · rw [upd_ne ha] at z; exact h a u z
  · rw [upd_ne (fun z => hm (by rw [z]; exact List.mem_cons_self))]; exact h1
theorem same_none {F H : Hp} {p : Addr} (h : Same F H) (e : H p = none) : F p = none := h.free e
/-- drop from ms what was free at the start -/
theorem Go.drop (x : Go (p :: ms) F H F1 H1) (hp : H p = none) : Go ms F H F1 H1 :=
  ⟨x.ff, x.fh, fun a o hm h1 h2 => x.mu a o (fun z => by
    rcases List.mem_cons.mp z with e | e
    · rw [e, hp] at h2; cases h2
    · exact hm e) h1 h2⟩
theorem sqT (s : Same F H) (h : SqT K F a xs) : SqT K H a xs := by
  rcases h with (h | ⟨o, h⟩) | h
  · exact .inl (.inl (s _ _ h))
  · exact .inl (.inr ⟨o, s _ _ h⟩)
  · exact .inr h
theorem sqL (s : Same F H) (h : SqL K F a xs) : SqL K H a xs := s.seq h
mutual
theorem dp_mono {F H : Hp} (s : Same F H) : ∀ (d : PyData) (v : V), Dp K F v d → Dp K H v d
  | .none, _, h => by cases h; exact .non
  | .bool b, _, h => by cases h; exact .bl b
  | .int i, _, h => by cases h; exact .int i
  | .str x, _, h => by cases h; exact .str x
  | .list ds, _, h => by
    cases h with
    | lst h1 h2 => exact .lst (sqL s h1) (dpAll_mono s ds _ h2)
  | .tuple ds, _, h => by
    cases h with
    | tup h1 h2 => exact .tup (sqT s h1) (dpAll_mono s ds _ h2)
  | .dict _, _, h => by cases h
theorem dpAll_mono {F H : Hp} (s : Same F H) : ∀ (ds : List PyData) (vs : List V), DpAll K F vs ds → DpAll K H vs ds
  | [], _, h => by cases h; exact .nil
  | d :: ds, _, h => by
    cases h with
    | cons h1 h2 => exact .cons (dp_mono s d _ h1) (dpAll_mono s ds _ h2)
end
end
/-! ### calls by positional promises -/
section
variable {X : Cx} {CX : CXT} {k : Nat} {f C p g : Addr} {sp : Sp} {E : XK} {x m : Str} {p0 pos apos : Pos} {e o a b : Expr} {es : List Expr} {ta tb : TE} {t : TA}
def tFn (sp : Sp) (E : XK) (t : TA) : TE := fun σ H Q => t σ H fun vs H1 => sp vs H1 Q E
theorem zcall (F : FnR X.prog X.w X.K X.mg X.base CX k f sp) (hr : Room k X.A) (hg : Gl X x) (hm : X.mg x = some (.ref f)) (hk : PySem.W.keepIn X.K (.ref f) = true) (hx : Passes CX X E)
    (ha : PA X (e :: es) t) (hdb : (x == ("__debug__" : Str)) = false := by decide) (he : starEach (e :: es) X.env = (false, eval e X.env) :: starEach es X.env := by rfl) (hpl : (backTo pos (starEach es X.env)).any (·.1) = false := by rfl) :
    PE X (.Call (.Name x p0) (e :: es) [] pos) (tFn sp E t) := by
  refine ⟨fun pins s σ H Q I h => ?_⟩
  refine wpAny_Call_Name_kw (ld_glob I hg hm ?_ hdb)
  refine PySem.W.callWith_K (h₀ := X.base) I.ok.mod.kin hk (thn (ha.run pos pins s σ H _ I h) fun us s1 ⟨vs, H1, I1, r, q⟩ => ⟨I1.kIn, ?_⟩) he hpl
  exact wpAny_call (run_fnR F hr hx I1 r q)
theorem zcall0 (F : FnR X.prog X.w X.K X.mg X.base CX k f sp) (hr : Room k X.A) (hg : Gl X x) (hm : X.mg x = some (.ref f)) (hk : PySem.W.keepIn X.K (.ref f) = true) (hx : Passes CX X E)
    (hdb : (x == ("__debug__" : Str)) = false := by decide) : PE X (.Call (.Name x p0) [] [] pos) (tFn sp E tNil) := by
  refine ⟨fun pins s σ H Q I h => ?_⟩
  refine wpAny_Call_Name_kw (ld_glob I hg hm ?_ hdb)
  exact PySem.W.callWith_K0 I.kIn hk (wpAny_call (run_fnR (us := []) F hr hx I .nil h))
theorem zmeth0 {pl : Sem Bool} (he : PE X o ta) (c : Cls X.K C) (hm : Meth X.K C m f) (F : FnR X.prog X.w X.K X.mg X.base CX k f sp) (hr : Room k X.A) (hx : Passes CX X E)
    (ht : eval (.Call (.Attribute o m apos) [] [] pos) X.env = (do
      let ov ← eval o X.env
      standAt apos.atName
      let (f, first) ← holding [ov] (getMethod ov m pl)
      callWith pos f first (backTo pos (starEach [] X.env)) (backToKw pos (keywordEach [] X.env))) := by rfl) :
    PE X (.Call (.Attribute o m apos) [] [] pos) (tMethR C m sp E ta tNil) := by
  refine ⟨fun pins s σ H Q I h => ?_⟩
  refine PySem.W.methodCall_KW (pl := pl) (thn (he.run pins s σ H _ I h) fun u s1 ⟨x, H1, I1, rx, a, dx, fs, ex, ea, l, q⟩ => ?_) ht
  subst ex
  obtain rfl : u = Value.ref a := rx
  refine getmeth_ok I1 ea c hm l ?_
  exact PySem.W.callWith_K0 (first := [.ref a]) I1.kIn hm.kp (wpAny_call (run_fnR (us := [.ref a]) (vs := [.ref a]) F hr hx I1 (.cons rfl .nil) q))
/-- o.f, a property -/
def tPropR (C : Addr) (sp : Sp) (E : XK) (ta : TE) : TE := fun σ H Q => ta σ H fun x H1 => ∃ a dx fs, x = .ref a ∧ H1 a = some (.ins C dx fs) ∧ sp [.ref a] H1 Q E
theorem zprop (he : PE X e ta) (c : Cls X.K C) (hp : PropOf X.K C m p g) (F : FnR X.prog X.w X.K X.mg X.base CX k g sp) (hr : Room (k + 1) X.A) (hx : Passes CX X.nox E)
    (hab : attributeBase e m X.env (eval e X.env) = eval e X.env := by rfl) : PE X (.Attribute e m pos) (tPropR C sp E ta) := by
  refine ⟨fun pins s σ H Q I h => ?_⟩
  refine attr_of hab (thn (he.run pins s σ H _ I h) fun u s1 ⟨x, H1, I1, rx, a, dx, fs, ex, ea, q⟩ => ?_)
  subst ex
  obtain rfl : u = Value.ref a := rx
  obtain ⟨mA, O, _, _, _, _⟩ := ins_get I1.hok ea
  obtain ⟨od, J, _⟩ := O.look
  obtain ⟨rest, hrec⟩ := hp.rec_
  have I2 := I1.tok (s1.toks + 1)
  have hc : (PySem.W.clsIn X.K C).isSome = true := by
    obtain ⟨cd, hc, _⟩ := PySem.W.any_some c.hd
    rw [hc]
    rfl
  refine PySem.W.get_bind I1.kIn J (PySem.W.plainGet_of (c.get m)).1 (PySem.W.findObj_data hc hp.at_ hp.get hp.tak) (PySem.W.plainGet_of (c.get m)).2 (wpAny_call (PySem.W.prop_get (s := { s1 with toks := s1.toks + 1 }) I1.kIn hrec ?_))
  refine codeAny_mono (F X.A.in1 X.stack { s1 with toks := s1.toks + 1 } H1 [.ref a] [.ref a] Q E hr.in1 I2.env0.in1 (.cons rfl .nil) q) fun r s' hq => ?_
  cases r with
  | error er => exact False.elim (hx pins σ H1 { s1 with toks := s1.toks + 1 } er s' (I2.wish _) hq)
  | ok fl =>
    cases fl with
    | ret u =>
      obtain ⟨v, H', I3, rv, q3⟩ := I2.after hq
      show wpAny _ _ (handedOut u) _ _ _
      rw [PySem.W.handedOut_of (handed_of rv)]
      exact wpAny_pure ⟨v, H', I3, rv, q3⟩
    | next => exact False.elim hq
    | brk => exact False.elim hq
    | cont => exact False.elim hq
/-- x in o, o of an own class -/
def rInO (neg : Bool) (C : Addr) (sp : Sp) (E : XK) : R2 := fun x y H Q => ∃ a dx fs, y = .ref a ∧ H a = some (.ins C dx fs) ∧ sp [.ref a, x] H (fun v H' => ∃ b, v = .bl b ∧ Q (.bl (if neg then !b else b)) H') E
theorem op_inO (hs : PySem.W.findIn X.K (.ref C) "__contains__" = some (some (.ref g))) (hf : PySem.W.isFn X.K (.ref g) = true) (F : FnR X.prog X.w X.K X.mg X.base CX k g sp) (hr : Room k X.A) (hx : Passes CX X E) : OpR X (compareOp .In) (rInO false C sp E) := by
  intro pins s σ H x y v u Q I rx ry h
  obtain ⟨a, dx, fs, rfl, ea, q⟩ := h
  cases (show u = Value.ref a from ry)
  obtain ⟨mA, O, _, _, _, _⟩ := ins_get I.hok ea
  obtain ⟨od, J, _⟩ := O.look
  obtain ⟨m, hF⟩ := I.fr
  refine PySem.W.in_K hF I.ok.mod.kin J hs hf ?_
  refine wpAny_mono (wpAny_call (run_fnR (us := [.ref a, v]) (vs := [.ref a, x]) F hr hx I (.cons rfl (.cons rx .nil)) q)) (fun w s' z => ?_) fun _ _ x => x
  obtain ⟨z', H', I', rz, b, rfl, qz⟩ := z
  cases (show w = Value.bool b from rz)
  exact wpAny_truthy_bool ⟨.bl b, H', I', rfl, qz⟩
theorem op_notInO (hs : PySem.W.findIn X.K (.ref C) "__contains__" = some (some (.ref g))) (hf : PySem.W.isFn X.K (.ref g) = true) (F : FnR X.prog X.w X.K X.mg X.base CX k g sp) (hr : Room k X.A) (hx : Passes CX X E) : OpR X (compareOp .NotIn) (rInO true C sp E) := by
  intro pins s σ H x y v u Q I rx ry h
  obtain ⟨a, dx, fs, rfl, ea, q⟩ := h
  cases (show u = Value.ref a from ry)
  obtain ⟨mA, O, _, _, _, _⟩ := ins_get I.hok ea
  obtain ⟨od, J, _⟩ := O.look
  obtain ⟨m, hF⟩ := I.fr
  refine PySem.W.notIn_K hF I.ok.mod.kin J hs hf ?_
  refine wpAny_mono (wpAny_call (run_fnR (us := [.ref a, v]) (vs := [.ref a, x]) F hr hx I (.cons rfl (.cons rx .nil)) q)) (fun w s' z => ?_) fun _ _ x => x
  obtain ⟨z', H', I', rz, b, rfl, qz⟩ := z
  cases (show w = Value.bool b from rz)
  exact wpAny_truthy_bool ⟨.bl (!b), H', I', rfl, qz⟩
end
/-! ### floor division of great numbers, any sign -/
def CDivZ (_ j : Int) : Prop := j ≠ 0 ∧ j.natAbs.log2 < 9000
theorem op_fdivZ {X : Cx} : OpR X (binaryOp .FloorDiv) (rI CDivZ fun i j => .int (i.fdiv j)) := opI fun i j _ _ _ _ _ hc q =>
  floordiv_int hc.1 q (.inl (PyProof.noPylong_of_log2 hc.2))
end Z
namespace Z
open PySem PySem.Spec PyProof.Rows L2
section
variable {X : Cx} {CX : CXT} {k : Nat} {f C p g : Addr} {sp : Sp} {E : XK} {x m : Str} {p0 pos apos : Pos} {e o a b : Expr} {es : List Expr} {ta tb : TE} {t : TA}
/-- the left one of an own class, its == or != by the own __eq__ -/
def rEqO (neg : Bool) (K : PySem.W.Frag) (C : Addr) (sp : Sp) (E : XK) : R2 := fun x y H Q => ∃ a dx fs t, x = .ref a ∧ H a = some (.ins C dx fs) ∧ TyX K H y t ∧ PySem.W.notFirst K C t = true ∧ sp [.ref a, y] H (fun v H' => ∃ b, v = .bl b ∧ Q (.bl (if neg then !b else b)) H') E
theorem op_eqO (hs : PySem.W.findIn X.K (.ref C) "__eq__" = some (some (.ref g))) (hf : PySem.W.isFn X.K (.ref g) = true) (F : FnR X.prog X.w X.K X.mg X.base CX k g sp) (hr : Room k X.A) (hx : Passes CX X E) : OpR X (compareOp .Eq) (rEqO false X.K C sp E) := by
  intro pins s σ H x y v u Q I rx ry h
  obtain ⟨a, dx, fs, t, rfl, ea, ty, hn, q⟩ := h
  cases (show v = Value.ref a from rx)
  obtain ⟨mA, O, _, _, _, _⟩ := ins_get I.hok ea
  obtain ⟨od, J, _⟩ := O.look
  obtain ⟨m, hF⟩ := I.fr
  obtain ⟨P, kx, hP, _⟩ := kit_of I ry ty
  refine PySem.W.cmp_K (op := .Eq) (tb := t) hr.units0 hF I.ok.mod.kin J (kx.ty _ _ I.kIn hP) hn hs hf ?_
  refine wpAny_mono (wpAny_call (run_fnR (us := [.ref a, u]) (vs := [.ref a, y]) F hr hx I (.cons rfl (.cons ry .nil)) q)) (fun w s' z => ?_) fun _ _ x => x
  obtain ⟨z', H', I', rz, b, rfl, qz⟩ := z
  cases (show w = Value.bool b from rz)
  exact ⟨.bl b, H', I', rfl, qz⟩
theorem ne_try {A : Around} {s : Shared} {E' : Value → Shared → Prop} {xa : Addr} {ox : Obj} {od : Option Obj} {bv : Value} {Q : Option Value → Shared → Prop} (hu : A.units + 1 < cLine) (KX : X.K.In s.heap) (J : PySem.W.InstAt s.heap xa ox C od)
    (hne : PySem.W.findIn X.K (.ref C) "__ne__" = some (some (.builtin "object.__ne__"))) (hsub : PySem.W.mroIn X.K C (.type "object") = some true)
    (hs : PySem.W.findIn X.K (.ref C) "__eq__" = some (some (.ref g))) (hf : PySem.W.isFn X.K (.ref g) = true)
    (h : codeAny (model X.prog X.w) A.in1 (.call (.ref g) ⟨[.ref xa, bv], []⟩) (fun r s' => match r with | .ok (.ret v) => ∃ b, v = .bool b ∧ Q (some (.bool (!b))) s' | .ok _ => False | .error e => E' e s') s) : wpAny (model X.prog X.w) A (tryCompare (.ref xa) "__ne__" bv) Q E' s := by
  have FB := PySem.F.cmp_object
  have fin : wpAny (model X.prog X.w) A (call (.builtin "object.__ne__") ([.ref xa] ++ [bv])) (fun v s' => ∃ b, v = .bool b ∧ Q (some (.bool b)) s') E' s := by
    have hi : PySem.W.Looks (model X.prog X.w) s.heap (isInstance (.ref xa) (.type "object")) true := J.type.andThen (PySem.W.looks_mroIn KX hsub)
    refine wpAny_call (codeAny_call_builtin FB.ne.plain F.cmpEntry_ne (PySem.W.check_slot F.cmpKind_ne F.cmpSplit_ne hi (F.cmpArgs_ne _ _) ?_))
    unfold Builtin.«object.__ne__»
    repeat (first | with_reducible refine wpAny_cRoomFor hu ?_ | with_reducible refine PySem.W.ifBound_K KX J hs hf ?_ | wp_step)
    refine codeAny_mono h fun r s' hv => ?_
    cases r with
    | error e => exact hv
    | ok fl =>
      cases fl with
      | ret v =>
        obtain ⟨b, rfl, q⟩ := hv
        refine wpAny_bind (wpAny_truthy_bool ?_)
        exact wpAny_pure ⟨_, rfl, q⟩
      | next => exact hv
      | brk => exact hv
      | cont => exact hv
  unfold tryCompare
  simp only [callSpecialIfBound?, bindSpecialIfBound?]
  refine wpAny_bind (wpAny_holding (wpAny_bind (wpAny_bind (wpAny_bind (J.type.here ((PySem.W.looks_findIn KX hne).here ?_))))))
  simp only [FB.ne.bind]
  refine wpAny_bind (wpAny_askSetting (wpAny_ite ?_))
  have fin2 : wpAny (model X.prog X.w) A (call (.builtin "object.__ne__") ([.ref xa] ++ [bv]) >>= fun v => pure (some v)) (fun r s' => ∃ b, r = some (.bool b) ∧ Q (some (.bool b)) s') E' s :=
    wpAny_bind (wpAny_mono fin (fun v s' ⟨b, e, q⟩ => wpAny_pure ⟨b, by rw [e], q⟩) fun _ _ z => z)
  have go : ∀ {r : Option Value} {s' : Shared}, (∃ b, r = some (.bool b) ∧ Q (some (.bool b)) s') → wpAny (model X.prog X.w) A (match r with | some .notImplemented | none => pure none | some v => pure (some v)) Q E' s' := fun {r s'} ⟨b, e, q⟩ => by
    subst e
    exact wpAny_pure q
  split
  · refine wpAny_bind (wpAny_pure (wpAny_pure ?_))
    exact wpAny_mono fin2 (fun r s' z => go z) fun _ _ z => z
  · refine wpAny_tryCatch (wpAny_bind (wpAny_pure (wpAny_pure ?_)))
    exact wpAny_mono fin2 (fun r s' z => go z) fun _ _ z => z
theorem op_neO (hne : PySem.W.findIn X.K (.ref C) "__ne__" = some (some (.builtin "object.__ne__"))) (hsub : PySem.W.mroIn X.K C (.type "object") = some true) (hs : PySem.W.findIn X.K (.ref C) "__eq__" = some (some (.ref g))) (hf : PySem.W.isFn X.K (.ref g) = true)
    (F : FnR X.prog X.w X.K X.mg X.base CX k g sp) (hr : Room (k + 1) X.A) (hx : Passes CX X E) : OpR X (compareOp .NotEq) (rEqO true X.K C sp E) := by
  intro pins s σ H x y v u Q I rx ry h
  obtain ⟨a, dx, fs, t, rfl, ea, ty, hn, q⟩ := h
  cases (show v = Value.ref a from rx)
  obtain ⟨mA, O, _, _, _, _⟩ := ins_get I.hok ea
  obtain ⟨od, J, _⟩ := O.look
  obtain ⟨P, kx, hP, _⟩ := kit_of I ry ty
  have one : wpAny (model X.prog X.w) X.A (tryCompare (.ref a) "__ne__" u) (fun r s' => ∃ b, r = some b ∧ EP X pins σ Q b s') X.xe s := by
    refine ne_try (hu_of hr) I.kIn J hne hsub hs hf ?_
    refine codeAny_mono (SlX.run_at (us := [.ref a, u]) (ws := [.ref a, y]) F hr.in1 I.env0.in1 hx I (.cons rfl (.cons ry .nil)) q) fun r s' z => ?_
    cases r with
    | error e => exact z
    | ok fl =>
      cases fl with
      | ret w =>
        obtain ⟨z', H', I', rz, b, rfl, qz⟩ := z
        cases (show w = Value.bool b from rz)
        exact ⟨b, rfl, _, rfl, .bl (!b), H', I', rfl, qz⟩
      | next => exact z
      | brk => exact z
      | cont => exact z
  show wpAny (model X.prog X.w) X.A (richCompare .NotEq (.ref a) u) (EP X pins σ Q) X.xe s
  unfold richCompare
  simp only [oneThing_ref]
  refine wpAny_holding (wpAny_bind (wpAny_cRoomFor hr.units0 ?_))
  refine wpAny_bind (J.type.here (wpAny_bind ((kx.ty _ _ I.kIn hP).here ?_)))
  split
  · rename_i q
    have e : PySem.W.subIn X.K t (.ref C) = some false := by
      rcases Bool.or_eq_true_iff.mp hn with e | e
      · rw [beq_iff_eq.mp e] at q; simp at q
      · exact beq_iff_eq.mp e
    refine wpAny_bind ((PySem.W.looks_subIn I.kIn e).here ?_)
    simp only [Bool.false_eq_true, if_false]
    refine wpAny_bind (wpAny_mono one (fun r s' z => ?_) fun _ _ e => e)
    obtain ⟨v, rfl, hq⟩ := z
    exact wpAny_pure hq
  · refine wpAny_bind (wpAny_pure ?_)
    simp only [Bool.false_eq_true, if_false]
    refine wpAny_bind (wpAny_mono one (fun r s' z => ?_) fun _ _ e => e)
    obtain ⟨v, rfl, hq⟩ := z
    exact wpAny_pure hq
/-- a op b, both of an own class -/
def rBinO (C : Addr) (sp : Sp) (E : XK) : R2 := fun x y H Q => ∃ a dx fs b dy gs, x = .ref a ∧ y = .ref b ∧ H a = some (.ins C dx fs) ∧ H b = some (.ins C dy gs) ∧ sp [.ref a, .ref b] H Q E
theorem op_binO {op : Operator} (hc : PySem.W.selfFirst X.K C = true) (hs : PySem.W.findIn X.K (.ref C) (PySem.dunder op.info.2) = some (some (.ref g))) (hf : PySem.W.isFn X.K (.ref g) = true)
    (F : FnR X.prog X.w X.K X.mg X.base CX k g sp) (hr : Room k X.A) (hx : Passes CX X E) : OpR X (binaryOp op) (rBinO C sp E) := by
  intro pins s σ H x y v u Q I rx ry h
  obtain ⟨a, dx, fs, b, dy, gs, rfl, rfl, ea, eb, q⟩ := h
  cases (show v = Value.ref a from rx)
  cases (show u = Value.ref b from ry)
  obtain ⟨mA, O, _, _, _, _⟩ := ins_get I.hok ea
  obtain ⟨od, J, _⟩ := O.look
  obtain ⟨mB, O', _, _, _, _⟩ := ins_get I.hok eb
  obtain ⟨od', J', _⟩ := O'.look
  obtain ⟨m, hF⟩ := I.fr
  refine PySem.W.binop_K hF I.ok.mod.kin J J'.type hc hs hf ?_
  refine wpAny_mono (wpAny_call (run_fnR (us := [.ref a, .ref b]) (vs := [.ref a, .ref b]) F hr hx I (.cons rfl (.cons rfl .nil)) q)) (fun w s' z => ?_) fun _ _ x => x
  obtain ⟨z', H', I', rz, qz⟩ := z
  exact SlX.cmpback rz ⟨z', H', I', rz, qz⟩
end
end Z
namespace Z
open PySem PySem.Spec PyProof.Rows L2
abbrev Frg := PySem.W.Frag
/-- what is asked of the written part: Bools, defs, tables with text keys, the defs whose tables of code objects are left out -/
structure Ask where
  fs : List (Frg → Bool)
  fn : List He5.DefA
  ts : List He.Tab
  tf : List (Frg → Addr)
def cdAt (K : Frg) (f : Addr) : Addr := match K.lookup f with
  | some ⟨_, _, .func fd, _⟩ => (match fd.code with
    | .ref c => c
    | _ => 0)
  | _ => 0
def tabsB (g : Addr → Option Obj) (tf : List (Frg → Addr)) (K : Frg) : Bool := tf.all fun p => PySem.W.codeHdIn K (cdAt K (p K)) (He.tabOf K (cdAt K (p K))) && (match g (He.tabOf K (cdAt K (p K))) with
  | some o => He.emptyTab o
  | none => false)
abbrev AlZ : Type := (Bool × List He.FnW) × (List (Option (List (Option (Str × Int)))) × Bool)
def obsZ (q : Ask) (K : Frg) (b : Bool) : AlZ := (((q.fs.all fun f => f K) && q.fn.all fun d => d.ok K, q.fn.map fun d => He5.fnA K (d.at_ K)), (q.ts.map fun t => He.dicW K (t.1 K), b))
def valZ (q : Ask) (w : World) : AlZ := ((true, q.fn.map He5.DefA.val), (q.ts.map fun t => some (He.keysIn w.params t.2), true))
structure Says (q : Ask) (w : World) (h : Heap) (K : Frg) : Prop where
  fact : ∀ f ∈ q.fs, f K = true
  dok : ∀ d ∈ q.fn, d.ok K = true
  dval : q.fn.map (fun d => He5.fnA K (d.at_ K)) = q.fn.map He5.DefA.val
  tval : q.ts.map (fun t => He.dicW K (t.1 K)) = q.ts.map fun t => some (He.keysIn w.params t.2)
  hd : ∀ p ∈ q.tf, PySem.W.codeHdIn K (cdAt K (p K)) (He.tabOf K (cdAt K (p K))) = true
  out : ∀ p ∈ q.tf, K.lookup (He.tabOf K (cdAt K (p K))) = none
  empty : ∀ p ∈ q.tf, h.get? (He.tabOf K (cdAt K (p K))) = some { cls := .none, data := .fields #[] }
def KZ (g : Addr → Option Obj) (n : Nat) : Frg := He.frT g (He5.asA g n)
def obsG (n : Nat) (q : Ask) (g : Addr → Option Obj) : AlZ := obsZ q (KZ g n) (tabsB g q.tf (KZ g n))
theorem says_of {n : Nat} {q : Ask} {w : World} {h : Heap} (e : obsG n q h.get? = valZ q w) : Says q w h (KZ h.get? n) := by
  have e1 : ((q.fs.all fun f => f (KZ h.get? n)) && q.fn.all fun d => d.ok (KZ h.get? n)) = true := congrArg (fun z : AlZ => z.1.1) e
  have e2 : q.fn.map (fun d => He5.fnA (KZ h.get? n) (d.at_ (KZ h.get? n))) = q.fn.map He5.DefA.val := congrArg (fun z : AlZ => z.1.2) e
  have e3 : q.ts.map (fun t => He.dicW (KZ h.get? n) (t.1 (KZ h.get? n))) = q.ts.map fun t => some (He.keysIn w.params t.2) := congrArg (fun z : AlZ => z.2.1) e
  have e4 : tabsB h.get? q.tf (KZ h.get? n) = true := congrArg (fun z : AlZ => z.2.2) e
  obtain ⟨h1, h2⟩ := He.ba e1
  have key : ∀ p ∈ q.tf, PySem.W.codeHdIn (KZ h.get? n) (cdAt (KZ h.get? n) (p (KZ h.get? n))) (He.tabOf (KZ h.get? n) (cdAt (KZ h.get? n) (p (KZ h.get? n)))) = true ∧ ∃ o, h.get? (He.tabOf (KZ h.get? n) (cdAt (KZ h.get? n) (p (KZ h.get? n)))) = some o ∧ He.emptyTab o = true := fun p hp => by
    obtain ⟨h3, h4⟩ := He.ba (List.all_eq_true.mp e4 p hp)
    refine ⟨h3, ?_⟩
    cases z : h.get? (He.tabOf (KZ h.get? n) (cdAt (KZ h.get? n) (p (KZ h.get? n)))) with
    | none => rw [z] at h4; cases h4
    | some o => rw [z] at h4; exact ⟨o, rfl, h4⟩
  exact ⟨fun f hf => List.all_eq_true.mp h1 f hf, fun d hd => List.all_eq_true.mp h2 d hd, e2, e3, fun p hp => (key p hp).1, fun p hp => by
    obtain ⟨_, o, z, y⟩ := key p hp
    exact He.frT_none z y, fun p hp => by
    obtain ⟨_, o, z, y⟩ := key p hp
    rw [z, He.emptyTab_eq y]⟩
def hookZ (n : Nat) (q : Ask) : PySem.W.Hook where
  α := AlZ
  obs := fun s => obsG n q s.heap.get?
  val := fun w => valZ q w
  says := fun w h => ∃ K : Frg, K.In h ∧ Says q w h K
  of := fun _ _ e => ⟨_, He.frT_in, says_of e⟩
  keeps := fun _ _ _ ⟨K, hK, c⟩ k => ⟨K, PySem.W.Frag.In.keeps hK k, ⟨c.fact, c.dok, c.dval, c.tval, c.hd, c.out, fun p hp => k _ _ (c.empty p hp)⟩⟩
theorem obsG_eq {n : Nat} {q : Ask} {g : Addr → Option Obj} {s : Shared} (h : ∀ a, g a = s.heap.get? a) : obsG n q g = (hookZ n q).obs s := by
  have e : g = s.heap.get? := funext h
  rw [e] <;> rfl
section
variable {q : Ask} {w : World} {h : Heap} {K : Frg}
theorem Says.at (c : Says q w h K) (i : Nat) {f : Frg → Bool} (e : q.fs[i]? = some f := by rfl) : f K = true := c.fact f (List.mem_of_getElem? e)
theorem Says.df (c : Says q w h K) (i : Nat) {d : He5.DefA} (e : q.fn[i]? = some d := by rfl) : ∃ fd, L2.FunD K d.name d.qual d.params d.body d.scope (d.dvs K) (d.kws K) (d.at_ K) fd := by
  have e2 : (q.fn.map fun d => He5.fnA K (d.at_ K))[i]? = (q.fn.map He5.DefA.val)[i]? := by rw [c.dval]
  rw [List.getElem?_map, List.getElem?_map, e] at e2
  exact He5.DefA.funD (Option.some.inj e2) (c.dok d (List.mem_of_getElem? e))
theorem Says.tb (c : Says q w h K) (i : Nat) {t : He.Tab} (e : q.ts[i]? = some t := by rfl) : ∃ es n, KDict K w (t.1 K) es n := by
  have e2 : (q.ts.map fun t => He.dicW K (t.1 K))[i]? = (q.ts.map fun t => some (He.keysIn w.params t.2))[i]? := by rw [c.tval]
  rw [List.getElem?_map, List.getElem?_map, e] at e2
  exact He.dicW_ok (Option.some.inj e2)
end
/-! ### Bools and what they tell -/
def bGlo (x : Str) : Frg → Bool := fun K => (He.Fa.glo x).ok K
def bFree (x : Str) : Frg → Bool := fun K => (He.Fa.free x).ok K
def bInt (x : Str) (i : Int) : Frg → Bool := fun K => (He.Fa.int x i).ok K
def bStr (x z : Str) : Frg → Bool := fun K => (He.Fa.str x z).ok K
def bCls (x : Str) : Frg → Bool := fun K => (He.Fa.cls x).ok K
def bNo (x f : Str) : Frg → Bool := fun K => (He.Fa.noat x f).ok K
def bMeth (x m : Str) : Frg → Bool := fun K => (He.Fa.meth x m).ok K
def bMk (x : Str) : Frg → Bool := fun K => (He.Fa.mkr x).ok K
def bKeep (x : Str) : Frg → Bool := fun K => (He.Fa.keep x).ok K
/-- what == and isinstance ask of an own class -/
structure Own (K : Frg) (C : Addr) : Prop where
  sf : PySem.W.selfFirst K C = true
  ne : PySem.W.findIn K (.ref C) "__ne__" = some (some (.builtin "object.__ne__"))
  ob : PySem.W.mroIn K C (.type "object") = some true
  ha : PySem.W.findIn K (.ref C) "__class__" = some (some (.builtin "object.__class__"))
  hn : PySem.W.specialIn K (.builtin "object.__class__") "__get__" = some (some (.builtin "getset_descriptor.__get__"))
  ht : PySem.W.takesIn K (.builtin "object.__class__") = some true
  ki : PySem.W.kitOne K (.ref C) (.ref C) = some true
  kb : ∀ t ∈ ["NoneType", "bool", "int", "str", "list", "tuple", "dict"], PySem.W.kitOne K (.type t) (.ref C) = some false
  kt : ∀ t ∈ ["bool", "int", "str", "list", "tuple", "dict"], PySem.W.kitOne K (.ref C) (.type t) = some false
  nf : ∀ t ∈ ["NoneType", "bool", "int", "str", "list", "tuple", "dict"], PySem.W.notFirst K C (.type t) = true
  cv : PySem.W.isClsIn K C = true
def bOwn (x : Str) : Frg → Bool := fun K => PySem.W.selfFirst K (He.ga K x) && (He.eqO (PySem.W.findIn K (.ref (He.ga K x)) "__ne__") (some (some (.builtin "object.__ne__"))) && (decide (PySem.W.mroIn K (He.ga K x) (.type "object") = some true) &&
  (He.eqO (PySem.W.findIn K (.ref (He.ga K x)) "__class__") (some (some (.builtin "object.__class__"))) && (He.eqO (PySem.W.specialIn K (.builtin "object.__class__") "__get__") (some (some (.builtin "getset_descriptor.__get__"))) &&
  (decide (PySem.W.takesIn K (.builtin "object.__class__") = some true) && (decide (PySem.W.kitOne K (.ref (He.ga K x)) (.ref (He.ga K x)) = some true) &&
  ((["NoneType", "bool", "int", "str", "list", "tuple", "dict"].all fun t => decide (PySem.W.kitOne K (.type t) (.ref (He.ga K x)) = some false)) && ((["bool", "int", "str", "list", "tuple", "dict"].all fun t => decide (PySem.W.kitOne K (.ref (He.ga K x)) (.type t) = some false)) &&
  ((["NoneType", "bool", "int", "str", "list", "tuple", "dict"].all fun t => PySem.W.notFirst K (He.ga K x) (.type t)) && PySem.W.isClsIn K (He.ga K x))))))))))
theorem own_of {K : Frg} {x : Str} (h : bOwn x K = true) : Own K (He.ga K x) := by
  obtain ⟨h1, h⟩ := He.ba h
  obtain ⟨h2, h⟩ := He.ba h
  obtain ⟨h3, h⟩ := He.ba h
  obtain ⟨h4, h⟩ := He.ba h
  obtain ⟨h5, h⟩ := He.ba h
  obtain ⟨h6, h⟩ := He.ba h
  obtain ⟨h7, h⟩ := He.ba h
  obtain ⟨h8, h⟩ := He.ba h
  obtain ⟨h9, h⟩ := He.ba h
  obtain ⟨h10, h11⟩ := He.ba h
  exact ⟨h1, He.eqO_ok h2, of_decide_eq_true h3, He.eqO_ok h4, He.eqO_ok h5, of_decide_eq_true h6, of_decide_eq_true h7, fun t ht => of_decide_eq_true (List.all_eq_true.mp h8 t ht), fun t ht => of_decide_eq_true (List.all_eq_true.mp h9 t ht), fun t ht => List.all_eq_true.mp h10 t ht, h11⟩
/-- a property -/
def bProp (x f : Str) : Frg → Bool := fun K => He.eqO (PySem.W.findIn K (.ref (He.ga K x)) f) (some (some (.ref (He.ma K (He.ga K x) f)))) && (He.eqO (PySem.W.specialIn K (.ref (He.ma K (He.ga K x) f)) "__get__") (some (some (.builtin "property.__get__"))) &&
  (decide (PySem.W.takesIn K (.ref (He.ma K (He.ga K x) f)) = some true) && (match PySem.W.recIn K (He.ma K (He.ga K x) f) "property" with
    | some (.ref _ :: _) => true
    | _ => false)))
theorem prop_of {K : Frg} {x f : Str} (h : bProp x f K = true) : PropOf K (He.ga K x) f (He.ma K (He.ga K x) f) (He5.wf K (He.ga K x) "property" f) := by
  obtain ⟨h1, h⟩ := He.ba h
  obtain ⟨h2, h⟩ := He.ba h
  obtain ⟨h3, h4⟩ := He.ba h
  refine ⟨He.eqO_ok h1, He.eqO_ok h2, of_decide_eq_true h3, ?_⟩
  unfold He5.wf
  split at h4
  · rename_i f r e
    exact ⟨r, by rw [e]⟩
  · cases h4
section
variable {K : Frg} {h : Heap} {mg : Str → Option Value}
theorem glo_of (X : K.In h) (G : h.Ns mainGlobals mg) {x : Str} (c : bGlo x K = true) : mg x = some (.ref (He.ga K x)) := He.glo_ok X G c
theorem free_of (X : K.In h) (G : h.Ns mainGlobals mg) {x : Str} (c : bFree x K = true) : mg x = none := He.free_ok X G c
theorem int_of (X : K.In h) (G : h.Ns mainGlobals mg) {x : Str} {i : Int} (c : bInt x i K = true) : ∃ t, mg x = some (.int i t) := He.int_ok X G c
theorem str_of (X : K.In h) (G : h.Ns mainGlobals mg) {x z : Str} (c : bStr x z K = true) : ∃ t, mg x = some (.str z t) := He.str_ok X G c
theorem cls_of {x : Str} (c : bCls x K = true) : Cls K (He.ga K x) := He.cls_ok c
theorem no_of {x f : Str} (c : bNo x f K = true) : NoAttr K (He.ga K x) f := He.noat_ok c
theorem meth_of {x m : Str} (c : bMeth x m K = true) : Meth K (He.ga K x) m (He.ma K (He.ga K x) m) := He.meth_ok c
theorem mk_of {x : Str} (c : bMk x K = true) : Mk K (He.ga K x) (He.ma K (He.ga K x) "__init__") := He.mkr_ok c
theorem keep_of {x : Str} (c : bKeep x K = true) : PySem.W.keepIn K (.ref (He.ga K x)) = true := He.keep_ok c
end
/-! ### a def by its text -/
section
variable {P : Program} {w : World} {K : Frg} {mg : Str → Option Value} {base : Heap}
abbrev DefAt (K : Frg) (x qual : Str) (st : Stmt) (f : Addr) : Prop := ∃ fd, L2.FunD K x qual (defArgs st) (defBody st) (defScope st) [] [] f fd
theorem zfn {x qual : Str} {st : Stmt} {f : Addr} {N ps : List Str} {k : Nat} {sp : Sp} (F : DefAt K x qual st f) (S : FnScope N ps (defScope st)) (len : ∀ vs H Q E, sp vs H Q E → vs.length = ps.length)
    (hb : ∀ (kV doc pm : Value) (an : Option Addr) (cdv ct : Value) (us : List Value), us.length = ps.length → bindArgs (PySem.W.fnOf x qual (defArgs st) (defBody st) (defScope st) .none kV doc pm an cdv ct) ⟨us, []⟩ = pure (ps.zip us))
    (hbody : ∀ (cdv : Value) (A : Around) (outer : List Env) (s : Shared) (H : Hp) (vs : List V) (Q : VK) (E : XK), Room k (A.deeper (envOfC qual (defScope st) s.heap.objs.size f cdv)) → sp vs H Q E →
      ∃ t, PSs (cxOf (L2.CX P w) P w K mg base N qual (defScope st) f cdv A outer s H E) (defBody st) t ∧ t { nx := fun _ H' => Q .non H', rt := Q } (start N vs) H) : FnR P w K mg base (L2.CX P w) (k + 1) f sp := by
  obtain ⟨fd, F⟩ := F
  have B : Binds K fd ps [] := F.bindsN hb
  exact ((FunD.ok F S len hbody).raw B .nil).imp fun vs H Q E h => by rw [List.append_nil]; exact h
end
def Sp0 (P : Hp → VK → XK → Prop) : Sp := fun vs H Q E => vs = [] ∧ P H Q E
def Sp1 (P : V → Hp → VK → XK → Prop) : Sp := fun vs H Q E => ∃ a, vs = [a] ∧ P a H Q E
def Sp2 (P : V → V → Hp → VK → XK → Prop) : Sp := fun vs H Q E => ∃ a b, vs = [a, b] ∧ P a b H Q E
def Sp3 (P : V → V → V → Hp → VK → XK → Prop) : Sp := fun vs H Q E => ∃ a b c, vs = [a, b, c] ∧ P a b c H Q E
def Sp4 (P : V → V → V → V → Hp → VK → XK → Prop) : Sp := fun vs H Q E => ∃ a b c d, vs = [a, b, c, d] ∧ P a b c d H Q E
theorem len0 {P} : ∀ vs H Q E, Sp0 P vs H Q E → vs.length = 0 := fun _ _ _ _ ⟨e, _⟩ => by rw [e]; rfl
theorem len1 {P} : ∀ vs H Q E, Sp1 P vs H Q E → vs.length = 1 := fun _ _ _ _ ⟨_, e, _⟩ => by rw [e]; rfl
theorem len2 {P} : ∀ vs H Q E, Sp2 P vs H Q E → vs.length = 2 := fun _ _ _ _ ⟨_, _, e, _⟩ => by rw [e]; rfl
theorem len3 {P} : ∀ vs H Q E, Sp3 P vs H Q E → vs.length = 3 := fun _ _ _ _ ⟨_, _, _, e, _⟩ => by rw [e]; rfl
theorem len4 {P} : ∀ vs H Q E, Sp4 P vs H Q E → vs.length = 4 := fun _ _ _ _ ⟨_, _, _, _, e, _⟩ => by rw [e]; rfl
end Z
namespace Z
open PySem PySem.Spec PyProof.Rows L2
/-- a new object at p: what is behind -/
def New (H : Hp) (o : HO) (Q : Addr → Hp → Prop) : Prop := ∀ p H2, H p = none → H2 = upd H p o → Q p H2
theorem New.run {H : Hp} {o : HO} {Q : Addr → Hp → Prop} (h : New H o Q) : ∀ p, H p = none → Q p (upd H p o) := fun p hp => h p _ hp rfl
/-- a store -/
def Put (H : Hp) (p : Addr) (o : HO) (Q : Hp → Prop) : Prop := ∀ H2, H2 = upd H p o → Q H2
theorem Put.run {H : Hp} {p : Addr} {o : HO} {Q : Hp → Prop} (h : Put H p o Q) : Q (upd H p o) := h _ rfl
section
variable {ms : List Addr} {F H H2 : Hp} {p : Addr} {o : HO}
theorem newE (hs : Same F H) (hp : H p = none) (e : H2 = upd H p o) : ∃ F2, Go [] F H F2 H2 ∧ F2 p = some o ∧ H2 p = some o := ⟨upd F p o, by rw [e]; exact Go.new hs hp, upd_same, by rw [e]; exact upd_same⟩
theorem newM (hs : Same F H) (hp : H p = none) (e : H2 = upd H p o) : Go [] F H F H2 ∧ F p = none ∧ H2 p = some o := ⟨by rw [e]; exact Go.newM hs hp, same_none hs hp, by rw [e]; exact upd_same⟩
theorem putM (hs : Same F H) (hp : F p = none) (e : H2 = upd H p o) : Go [p] F H F H2 ∧ H2 p = some o := ⟨by rw [e]; exact Go.put hs hp, by rw [e]; exact upd_same⟩
end
section
variable {X : Cx} {e a b : Expr} {es : List Expr} {t t' te tb : TE} {ta : TA} {pos : Pos}
theorem pe_imp (h : PE X e t) (f : ∀ σ H Q, t' σ H Q → t σ H Q) : PE X e t' := ⟨fun pins s σ H Q I z => h.run pins s σ H Q I (f σ H Q z)⟩
def wkA (t : TA) : TA := fun σ H Q => ∃ Q0, t σ H Q0 ∧ ∀ xs H1, Q0 xs H1 → Q xs H1
theorem pa_wk (h : PA X es ta) : PA X es (wkA ta) := ⟨fun pos pins s σ H Q I ⟨Q0, z, f⟩ => thn (h.run pos pins s σ H Q0 I z) fun us s1 ⟨xs, H1, I1, r, q⟩ => ⟨xs, H1, I1, r, f xs H1 q⟩⟩
def wkE (t : TE) : TE := fun σ H Q => ∃ Q0, t σ H Q0 ∧ ∀ x H1, Q0 x H1 → Q x H1
theorem pe_wk (h : PE X e t) : PE X e (wkE t) := ⟨fun pins s σ H Q I ⟨Q0, z, f⟩ => thn (h.run pins s σ H Q0 I z) fun us s1 ⟨xs, H1, I1, r, q⟩ => ⟨xs, H1, I1, r, f xs H1 q⟩⟩
def tTupZ (t : TA) : TE := fun σ H Q => t σ H fun xs H1 => xs.length ≤ sizeLine ∧ New H1 (.tup xs) fun p H2 => Q (.ref p) H2
def tLstZ (t : TA) : TE := fun σ H Q => t σ H fun xs H1 => xs.length ≤ sizeLine ∧ New H1 (.lst xs) fun p H2 => Q (.ref p) H2
theorem pe_tupZ {x1} (h : PA X es ta) : PE X (.Tuple es x1 pos) (tTupZ ta) := pe_imp (pe_tup (pa_wk h)) fun _ _ _ z => ⟨_, z, fun _ _ q => ⟨q.1, q.2.run⟩⟩
theorem pe_lstZ (h : PA X es ta) : PE X (.List es pos) (tLstZ ta) := pe_imp (pe_lst (pa_wk h)) fun _ _ _ z => ⟨_, z, fun _ _ q => ⟨q.1, q.2.run⟩⟩
theorem op_imp {f : Value → Value → Sem Value} {r r' : R2} (h : OpR X f r) (g : ∀ x y H Q, r' x y H Q → r x y H Q) : OpR X f r' := fun pins s σ H x y v u Q I rx ry z => h pins s σ H x y v u Q I rx ry (g x y H Q z)
theorem call_imp {f : Value} {r r' : List V → Hp → VK → Prop} (h : CallR X f r) (g : ∀ xs H Q, r' xs H Q → r xs H Q) : CallR X f r' := fun pins s σ H xs us Q I rx z => h pins s σ H xs us Q I rx (g xs H Q z)
theorem mt_imp {id : String} {r r' : V → List V → Hp → VK → Prop} (h : MtR X id r) (g : ∀ x xs H Q, r' x xs H Q → r x xs H Q) : MtR X id r' := fun pins s σ H x xs v us Q I rx rs z => h pins s σ H x xs v us Q I rx rs (g x xs H Q z)
def rCatZ : R2 := fun x y H Q => ∃ l b xs zs, x = .ref l ∧ y = .ref b ∧ H l = some (.lst xs) ∧ H b = some (.lst zs) ∧ xs.length + zs.length ≤ sizeLine ∧ New H (.lst (xs ++ zs)) fun p H2 => Q (.ref p) H2
theorem op_catZ : OpR X (binaryOp .Add) rCatZ := op_imp op_cat fun _ _ _ _ ⟨l, b, xs, zs, e1, e2, h1, h2, hz, n⟩ => ⟨l, b, xs, zs, e1, e2, h1, h2, hz, n.run⟩
def rRepZ : R2 := fun x y H Q => ∃ l k xs, x = .ref l ∧ y = .int k ∧ H l = some (.lst xs) ∧ -(2 ^ 63) ≤ k ∧ k < 2 ^ 63 ∧ xs.length * k.toNat ≤ sizeLine ∧ New H (.lst (List.replicate k.toNat xs).flatten) fun p H2 => Q (.ref p) H2
def rListZ (K : Frg) : List V → Hp → VK → Prop := fun xs H Q => ∃ p ys, xs = [.ref p] ∧ (SqL K H p ys ∨ SqT K H p ys) ∧ New H (.lst ys) fun l H2 => Q (.ref l) H2
theorem call_listZ : CallR X (.type "list") (rListZ X.K) := call_imp call_list_of fun _ _ _ ⟨p, ys, e, h, n⟩ => ⟨p, ys, e, h, n.run⟩
/-- tuple(xs), xs a list -/
def rTupleZ (K : Frg) : List V → Hp → VK → Prop := fun xs H Q => ∃ p ys, xs = [.ref p] ∧ SqL K H p ys ∧ New H (.tup ys) fun l H2 => Q (.ref l) H2
theorem call_tupleZ : CallR X (.type "tuple") (rTupleZ X.K) := call_imp call_tuple_of fun _ _ _ ⟨p, ys, e, h, n⟩ => ⟨p, ys, e, .inl ⟨h, n.run⟩⟩
def rSlLZ (K : Frg) : V → Option Int → Option Int → Hp → VK → Prop := fun x lo hi H Q => ∃ a xs, x = .ref a ∧ SqL K H a xs ∧ New H (.lst (cutV xs lo hi)) fun p H2 => Q (.ref p) H2
theorem sl_listZ : L2.SlR X (rSlLZ X.K) := fun pins s σ H x v vl vu lo hi sl Q I rx hs pl pu ⟨a, xs, e, h, n⟩ => sl_list pins s σ H x v vl vu lo hi sl Q I rx hs pl pu ⟨a, xs, e, h, n.run⟩
def rAppZ : V → List V → Hp → VK → Prop := fun x vs H Q => ∃ l xs y, x = .ref l ∧ vs = [y] ∧ H l = some (.lst xs) ∧ xs.length < sizeLine ∧ Put H l (.lst (xs ++ [y])) fun H2 => Q .non H2
theorem mt_appZ : MtR X "list.append" rAppZ := mt_imp mt_append fun _ _ _ _ ⟨l, xs, y, e1, e2, h, hz, n⟩ => ⟨l, xs, y, e1, e2, h, hz, n.run⟩
def rSetLZ : TSet := fun o i v H Q => ∃ p xs k j, o = .ref p ∧ i = .int k ∧ H p = some (.lst xs) ∧ ixN xs.length k = some j ∧ Put H p (.lst (xs.set j v)) Q
theorem set_listZ : PSet X rSetLZ := fun pins s σ H o i v ov iv vv Q I ro ri rv ⟨p, xs, k, j, e1, e2, h, hj, n⟩ => set_list pins s σ H o i v ov iv vv Q I ro ri rv ⟨p, xs, k, j, e1, e2, h, hj, n.run⟩
theorem pe_globI {x : Str} {i : Int} (hg : Gl X x) (h : ∃ t, X.mg x = some (.int i t)) (hd : (x == ("__debug__" : Str)) = false := by decide) : PE X (.Name x pos) (tC (.int i)) := let ⟨t, q⟩ := h; pe_glob hg q ⟨t, rfl⟩ hd
theorem pe_globS {x z : Str} (hg : Gl X x) (h : ∃ t, X.mg x = some (.str z t)) (hd : (x == ("__debug__" : Str)) = false := by decide) : PE X (.Name x pos) (tC (.str z)) := let ⟨t, q⟩ := h; pe_glob hg q ⟨t, rfl⟩ hd
/-- making an instance, by what the maker promises -/
theorem zmake {CX : CXT} {k : Nat} {f C : Addr} {x : Str} {p : Pos} {spI spM : Sp} {E : XK} (mk : ∀ vs H Q, spM vs H Q E → ∀ x dx, H x = none → H dx = none → dx ≠ x → spI (.ref x :: vs) (upd (upd H dx (.own x)) x (.ins C dx [])) (fun v H2 => v = .non ∧ Q (.ref x) H2) E)
    (M : Mk X.K C f) (F : FnR X.prog X.w X.K X.mg X.base CX k f spI) (hr : Room (k + 1) X.A) (hg : Gl X x) (hm : X.mg x = some (.ref C)) (hx : Passes CX X E) (ha : PA X (e :: es) ta) (hdb : (x == ("__debug__" : Str)) = false := by decide)
    (he : starEach (e :: es) X.env = (false, eval e X.env) :: starEach es X.env := by rfl) (hpl : (backTo pos (starEach es X.env)).any (·.1) = false := by rfl) : PE X (.Call (.Name x p) (e :: es) [] pos) (tFn spM E ta) :=
  pe_imp (StX.pe_makeR M F hr hg hm hx (pa_wk ha) hdb he hpl) fun _ _ Q z => ⟨_, z, fun vs H1 q => mk vs H1 Q q⟩
end
/-- a statement and what follows, with a word between them -/
def tCutZ (t u : TS) : TS := fun D σ H => ∃ Mid : L2.St → Hp → Prop, t { D with nx := Mid } σ H ∧ ∀ σ' H', Mid σ' H' → u D σ' H'
theorem zcut {X : Cx} {st : Stmt} {rest : List Stmt} {t u : TS} (h1 : PS X st t) (h2 : PSs X rest u) : PSs X (st :: rest) (tCutZ t u) := by
  have w : PS X st (fun D σ H => ∃ Mid : L2.St → Hp → Prop, t { D with nx := Mid } σ H ∧ ∀ σ' H', Mid σ' H' → D.nx σ' H') := ⟨fun pins s σ H D I ⟨Mid, z, f⟩ => thn (h1.run pins s σ H _ I z) fun fl s' q => by
    cases fl with
    | next => obtain ⟨σ', H', I', q'⟩ := q; exact ⟨σ', H', I', f _ _ q'⟩
    | brk => exact q
    | cont => exact q
    | ret v => exact q⟩
  exact ⟨fun pins s σ H D I ⟨Mid, z, f⟩ => (pss_cons w h2).run pins s σ H D I ⟨Mid, z, f⟩⟩
theorem lenOk {α : Type} {xs : List α} (h : Nat.ble xs.length 1000 = true) : xs.length ≤ sizeLine := Nat.le_trans (Nat.le_of_ble_eq_true h) (by decide)
end Z
namespace Z
open PySem PySem.Spec PyProof.Rows L2
theorem tyT {K : Frg} {H : Hp} {a : Addr} {xs : List V} (h : SqT K H a xs) : TyX K H (.ref a) (.type "tuple") := by
  rcases h with (h | ⟨o, h⟩) | ⟨o, its, n, h1, h2, _⟩
  · exact .base (.tup h)
  · exact .fTuple h
  · exact .kTuple h1 h2
theorem tyL {K : Frg} {H : Hp} {a : Addr} {xs : List V} (h : SqL K H a xs) : TyX K H (.ref a) (.type "list") := by
  rcases h with (h | ⟨o, h⟩) | ⟨o, its, n, h1, h2, _⟩
  · exact .base (.lst h)
  · exact .base (.frz h)
  · exact .kList h1 h2
theorem tyI {K : Frg} {H : Hp} (i : Int) : TyX K H (.int i) (.type "int") := .base (.int i)
theorem tyO {K : Frg} {H : Hp} {C a dx : Addr} {fs : List (Str × V)} (c : Cls K C) (o : Own K C) (h : H a = some (.ins C dx fs)) : TyX K H (.ref a) (.ref C) := .base (.ins h c o.ha o.hn o.ht o.ob)
/-- the reading of a comprehension behind its source -/
def LcR (J : It) (g : TG) (tt : TT) (te : TE) (vs : List Nat) (σ : L2.St) (H1 : Hp) (Q : VK) : Prop := ∀ D, H1 D = none → ∃ W : Nat → Nat → Hp → Prop, (∃ m, W 0 m (upd H1 D (.lst []))) ∧ ∀ i m H, W i m H →
  (J.stop i H ∧ Q (.ref D) H) ∨ (J.go i H ∧ ∃ Nx : Hp → Prop, (∀ H', Nx H' → ∃ m', m' < m ∧ W (i + 1) m' H') ∧ ∀ x H', J.yld i H x H' → g x (wipe σ vs) H' fun σ2 H2 => wipe σ2 vs = wipe σ vs ∧ tt σ2 H2 fun b H3 =>
    if b = true then te σ2 H3 fun y H4 => ∃ acc, H4 D = some (.lst acc) ∧ acc.length < sizeLine ∧ Nx (upd H4 D (.lst (acc ++ [y]))) else Nx H3)
def tLcZ (wi : TI) (g : TG) (tt : TT) (te : TE) (vs : List Nat) : TE := fun σ H Q => wi σ H fun J H1 => LcR J g tt te vs σ H1 Q
theorem tLcZ_eq : @tLcZ = @tLc := rfl
theorem pe_lcZ {X : Cx} {e : Expr} {wi : TI} {g : TG} {tt : TT} {te : TE} {vs : List Nat} (h : PE X e (tLc wi g tt te vs)) : PE X e (tLcZ wi g tt te vs) := h
theorem ps_lcZ {X : Cx} {s : Stmt} {wi : TI} {g g2 : TG} {tt : TT} {te : TE} {vs : List Nat} (h : PS X s (tAsg (tLc wi g tt te vs) g2)) : PS X s (tAsg (tLcZ wi g tt te vs) g2) := h
/-- a comprehension, by what holds of the items made so far -/
theorem lc_go {J : It} {n : Nat} {G : Hp → Prop} {Y : Nat → Hp → V → Hp → Prop} (w : Walk J n G Y) {g : TG} {tt : TT} {te : TE} {vs : List Nat} {σ : L2.St} {F H : Hp} {ms : List Addr} {Q : VK} (hs : Same F H) (hm : ∀ a ∈ ms, H a ≠ none) (M : Hp → Hp → Prop) (m0 : M F H)
    (mst : ∀ D F1 H1 F2 H2, H D = none → M F1 H1 → Go [D] F1 H1 F2 H2 → M F2 H2) (hG : ∀ F1 H1, Go ms F H F1 H1 → M F1 H1 → G H1) (I : Nat → List V → Hp → Prop) (i0 : I 0 [] F) (im : ∀ i acc F1 F2, Same F1 F2 → I i acc F1 → I i acc F2) (hn : n ≤ 100000)
    (turn : ∀ i x acc F1 H1 H1', i < n → acc.length ≤ i → I i acc F1 → Go ms F H F1 H1 → M F1 H1 → Y i H1 x H1' → ∀ (Kp : V → Hp → Prop) (Sk : Hp → Prop), (∀ y F2 H2, Go ms F1 H1 F2 H2 → M F2 H2 → I (i + 1) (acc ++ [y]) F2 → Kp y H2) →
      (∀ F2 H2, Go ms F1 H1 F2 H2 → M F2 H2 → I (i + 1) acc F2 → Sk H2) → g x (wipe σ vs) H1' fun σ2 H2 => wipe σ2 vs = wipe σ vs ∧ tt σ2 H2 fun b H3 => if b = true then te σ2 H3 Kp else Sk H3)
    (fin : ∀ D ys F' H', Go ms F H F' H' → M F' H' → F' D = some (.lst ys) → ys.length ≤ n → I n ys F' → Q (.ref D) H') :
    LcR J g tt te vs σ H Q := by
  intro D hD
  have hsz : (100000 : Nat) < sizeLine := by decide
  have dm : D ∉ ms := fun z => hm D z hD
  have st : ∀ {F2 H2 : Hp} {acc : List V}, Go ms F H F2 H2 → M F2 H2 → F2 D = none → ∀ o, Go ms F H F2 (upd H2 D o) ∧ M F2 (upd H2 D o) := fun {F2 H2 acc} gg m fd o => by
    have p : Go [D] F2 H2 F2 (upd H2 D o) := Go.put gg.fh fd
    have p2 : Go (D :: ms) F2 H2 F2 (upd H2 D o) := p.sub fun a ha => by
      rcases List.mem_cons.mp ha with e | e
      · rw [e]; exact List.mem_cons_self
      · cases e
    have g2 : Go (D :: ms) F H F2 H2 := gg.sub fun a ha => List.mem_cons_of_mem _ ha
    exact ⟨(g2.trans p2).drop hD, mst D _ _ _ _ hD m p⟩
  refine lc_it w (fun i H' => ∃ F' acc, Go ms F H F' H' ∧ M F' H' ∧ F' D = none ∧ H' D = some (.lst acc) ∧ acc.length ≤ i ∧ I i acc F') ?_ (fun i H' _ ⟨F', acc, g1, m1, _⟩ => hG F' H' g1 m1) ?_ ?_
  · have fd := same_none hs hD
    obtain ⟨a, b⟩ := st (acc := []) (Go.refl hs) m0 fd (.lst [])
    exact ⟨F, [], a, b, fd, upd_same, Nat.le_refl _, i0⟩
  · rintro i x H1 H1' hi ⟨F1, acc, g1, m1, fd, hd, hl, hI⟩ hy
    refine turn i x acc F1 H1 H1' hi hl hI g1 m1 hy _ _ (fun y F2 H2 g2 m2 I2 => ?_) fun F2 H2 g2 m2 I2 => ?_
    · have key : F2 D = none ∧ H2 D = some (.lst acc) := g2.mu D _ dm fd hd
      obtain ⟨a, b⟩ := st (acc := acc) (g1.trans g2) m2 key.1 (.lst (acc ++ [y]))
      refine ⟨acc, key.2, by omega, F2, acc ++ [y], a, b, key.1, upd_same, ?_, I2⟩
      rw [List.length_append]
      show acc.length + 1 ≤ i + 1
      omega
    · have key : F2 D = none ∧ H2 D = some (.lst acc) := g2.mu D _ dm fd hd
      exact ⟨F2, acc, g1.trans g2, m2, key.1, key.2, by omega, I2⟩
  · rintro H' ⟨F', acc, g1, m1, fd, hd, hl, hI⟩
    have fz : Go [D] F' H' (upd F' D (.lst acc)) H' := Go.freeze g1.fh fd hd
    have g2 : Go (D :: ms) F H (upd F' D (.lst acc)) H' := (g1.sub fun a ha => List.mem_cons_of_mem _ ha).trans (fz.sub fun a ha => by
      rcases List.mem_cons.mp ha with e | e
      · rw [e]; exact List.mem_cons_self
      · cases e)
    exact fin D acc _ H' (g2.drop hD) (mst D _ _ _ _ hD m1 fz) upd_same hl (im _ _ _ _ fz.ff hI)
/-- law's promise -/
def spLaw (K : Frg) : Sp := Sp1 fun a H Q _ => ∃ (s : Addr) (ns : List Int), a = .ref s ∧ ns.length ≤ 63 ∧ SqL K H s (ns.map V.int) ∧ ∀ H', Q (.bl true) H'
def LawOk (P : Program) (w : World) (K : Frg) (mg : Str → Option Value) (k : Nat) (f : Addr) (x : Str) (sp : Sp) : Prop :=
  ∃ fd : FuncData, (∀ (s : Shared) (u : Value), BindsTo s fd ⟨[u], []⟩ [(x, u)]) ∧ ∀ base : Heap, FnOk P w K mg base (L2.CX P w) k f fd [x] sp
theorem zlaw {P : Program} {w : World} {K : Frg} {mg : Str → Option Value} {x qual px : Str} {st : Stmt} {f : Addr} {N : List Str} {k : Nat} {sp : Sp} (F : DefAt K x qual st f) (S : FnScope N [px] (defScope st)) (len : ∀ vs H Q E, sp vs H Q E → vs.length = 1)
    (hb : ∀ (kV doc pm : Value) (an : Option Addr) (cdv ct : Value) (us : List Value), us.length = 1 → bindArgs (PySem.W.fnOf x qual (defArgs st) (defBody st) (defScope st) .none kV doc pm an cdv ct) ⟨us, []⟩ = pure ([px].zip us))
    (hbody : ∀ (base : Heap) (cdv : Value) (A : Around) (outer : List Env) (s : Shared) (H : Hp) (vs : List V) (Q : VK) (E : XK), Room k (A.deeper (envOfC qual (defScope st) s.heap.objs.size f cdv)) → sp vs H Q E →
      ∃ t, PSs (cxOf (L2.CX P w) P w K mg base N qual (defScope st) f cdv A outer s H E) (defBody st) t ∧ t { nx := fun _ H' => Q .non H', rt := Q } (start N vs) H) : LawOk P w K mg (k + 1) f px sp := by
  obtain ⟨fd, F⟩ := F
  exact ⟨fd, fun s v => FunD.bindsA (ps := [px]) F hb s [v] rfl, fun base => FunD.ok F S len (hbody base)⟩
theorem cx_no {P : World → Program} (w : World) (H : Hp) (s : Shared) (e : Value) (s' : Shared) (h : L2.CX (P w) w [] H s (fun _ _ _ => False) e s') : False := by
  obtain ⟨_, _, _, _, _, _, _, _, _, _, _, _, z⟩ := h
  exact z
end Z
namespace Z
open PySem PySem.Spec PyProof.Rows L2
theorem blF {c : Prop} [Decidable c] (h : ¬ c) : V.bl (decide c) = .bl false := by rw [decide_eq_false h]
theorem blT {c : Prop} [Decidable c] (h : c) : V.bl (decide c) = .bl true := by rw [decide_eq_true h]
/-! ### what is_integer, is_place tell -/
theorem tyX_mono {K : Frg} {F H : Hp} (s : Same F H) {x : V} {t : Value} (h : TyX K F x t) : TyX K H x t := by
  cases h with
  | base b =>
    refine .base ?_
    cases b with
    | non => exact .non
    | bl y => exact .bl y
    | int i => exact .int i
    | str y => exact .str y
    | flt y => exact .flt y
    | lst e => exact .lst (s _ _ e)
    | frz e => exact .frz (s _ _ e)
    | tup e => exact .tup (s _ _ e)
    | dK e => exact .dK (s _ _ e)
    | dT e => exact .dT (s _ _ e)
    | ins e a b c d f => exact .ins (s _ _ e) a b c d f
  | byt b => exact .byt b
  | set e => exact .set (s _ _ e)
  | kList e c => exact .kList e c
  | kTuple e c => exact .kTuple e c
  | kDict e c => exact .kDict e c
  | fTuple e => exact .fTuple (s _ _ e)
  | fDict e => exact .fDict (s _ _ e)
def IntQ (K : Frg) (H : Hp) (v : V) (b : Bool) : Prop := ∃ t b1 b2, TyX K H v t ∧ PySem.W.kitOne K t (.type "int") = some b1 ∧ (b1 = true → PySem.W.kitOne K t (.type "bool") = some b2) ∧ b = (b1 && !b2)
theorem intQ_mono {K : Frg} {F H : Hp} (s : Same F H) {v : V} {b : Bool} (h : IntQ K F v b) : IntQ K H v b := by
  obtain ⟨t, b1, b2, ty, r⟩ := h
  exact ⟨t, b1, b2, tyX_mono s ty, r⟩
theorem intQ_int {K : Frg} {H : Hp} (i : Int) : IntQ K H (.int i) true := ⟨_, true, false, tyI i, kit_ty (by decide +kernel), fun _ => kit_ty (by decide +kernel), rfl⟩
def PlaceQ (K : Frg) (F : Hp) (a : V) (b : Bool) : Prop := (∃ t, TyX K F a t ∧ PySem.W.kitOne K t (.type "tuple") = some false ∧ b = false) ∨ (∃ p xs, a = .ref p ∧ SqT K F p xs ∧ xs.length ≠ 2 ∧ b = false) ∨
  (∃ p u v bu bv, a = .ref p ∧ SqT K F p [u, v] ∧ IntQ K F u bu ∧ IntQ K F v bv ∧ b = (bu && bv))
theorem placeQ {K : Frg} {F : Hp} {p : Addr} {x y : Int} (h : SqT K F p [.int x, .int y]) : PlaceQ K F (.ref p) true := .inr (.inr ⟨p, _, _, true, true, rfl, h, intQ_int x, intQ_int y, rfl⟩)
def spIsInt (K : Frg) : Sp := Sp1 fun a H Q _ => ∃ b, IntQ K H a b ∧ Q (.bl b) H
def spIsPlace (K : Frg) : Sp := Sp1 fun a H Q _ => ∃ F b, Same F H ∧ PlaceQ K F a b ∧ ∀ F' H', Go [] F H F' H' → Q (.bl b) H'
def spChkPlace (K : Frg) : Sp := Sp1 fun a H Q _ => ∃ F, Same F H ∧ PlaceQ K F a true ∧ ∀ F' H', Go [] F H F' H' → Q .non H'
def optV : Option Int → V
  | none => .non
  | some m => .int m
def spChkNum (K : Frg) : Sp := Sp3 fun a b c H Q _ => ∃ (v lo : Int) (hi : Option Int), a = .int v ∧ b = .int lo ∧ c = optV hi ∧ lo ≤ v ∧ (∀ m, hi = some m → v ≤ m) ∧ Q .non H
def spGcd : Sp := Sp2 fun a b H Q _ => ∃ x y : Int, a = .int x ∧ b = .int y ∧ Q (.int (Int.gcd x y)) H
theorem gcd_emod (x y : Int) : Int.gcd y x = Int.gcd y (x % y) := by
  have h := Int.gcd_add_mul_right_right y (x % y) (x / y)
  rw [show x % y + x / y * y = x from by rw [Int.mul_comm]; exact Int.emod_add_mul_ediv x y] at h
  exact h
def numsOk : V → V → V → Bool
  | .int a, .int b, .int c => decide (1 ≤ c) && (decide (0 ≤ b) && decide (b < a))
  | _, _, _ => false
def spAreNum (K : Frg) : Sp := Sp1 fun q H Q _ => ∃ F p u v x bu bv bx, q = .ref p ∧ Same F H ∧ SqT K F p [u, v, x] ∧ IntQ K F u bu ∧ IntQ K F v bv ∧ IntQ K F x bx ∧ ((bu && (bv && bx)) = true → ∃ a b c : Int, u = .int a ∧ v = .int b ∧ x = .int c) ∧
  ∀ F' H', Go [] F H F' H' → Q (.bl ((bu && (bv && bx)) && numsOk u v x)) H'
end Z
namespace MN
/-- the place of the cell -/
def low (a b c x y : Int) : Int × Int := ((x - y / c * b) % a, y - y / c * c)
/-- a shift of the net -/
def InN (a b c x y : Int) : Prop := ∃ m k : Int, x = m * a + k * b ∧ y = k * c
theorem inN_add {a b c x y x' y' : Int} (h : InN a b c x y) (h' : InN a b c x' y') : InN a b c (x + x') (y + y') := by
  obtain ⟨m, k, h1, h2⟩ := h
  obtain ⟨m', k', h3, h4⟩ := h'
  exact ⟨m + m', k + k', by grind, by grind⟩
theorem inN_neg {a b c x y : Int} (h : InN a b c x y) : InN a b c (-x) (-y) := by
  obtain ⟨m, k, h1, h2⟩ := h
  exact ⟨-m, -k, by grind, by grind⟩
theorem inN_sub {a b c x y x' y' : Int} (h : InN a b c x y) (h' : InN a b c x' y') : InN a b c (x - x') (y - y') := by
  obtain ⟨m, k, h1, h2⟩ := h
  obtain ⟨m', k', h3, h4⟩ := h'
  exact ⟨m - m', k - k', by grind, by grind⟩
theorem inN_zero {a b c : Int} : InN a b c 0 0 := ⟨0, 0, by grind, by grind⟩
theorem inN_mul {a b c x y : Int} (n : Int) (h : InN a b c x y) : InN a b c (n * x) (n * y) := by
  obtain ⟨m, k, h1, h2⟩ := h
  exact ⟨n * m, n * k, by grind, by grind⟩
theorem low_in (a b c x y : Int) : InN a b c (x - (low a b c x y).1) (y - (low a b c x y).2) := by
  refine ⟨(x - y / c * b) / a, y / c, ?_, ?_⟩
  · show x - (x - y / c * b) % a = _
    have := Int.emod_add_mul_ediv (x - y / c * b) a
    grind
  · show y - (y - y / c * c) = _
    grind
theorem low_rng {a b c x y : Int} (ha : 0 < a) (hc : 0 < c) : 0 ≤ (low a b c x y).1 ∧ (low a b c x y).1 < a ∧ 0 ≤ (low a b c x y).2 ∧ (low a b c x y).2 < c := by
  have h1 := Int.emod_nonneg (x - y / c * b) (show a ≠ 0 by omega)
  have h2 := Int.emod_lt_of_pos (x - y / c * b) ha
  have h3 := Int.emod_nonneg y (show c ≠ 0 by omega)
  have h4 := Int.emod_lt_of_pos y hc
  have h5 := Int.emod_add_mul_ediv y c
  have e : y - y / c * c = y % c := by grind
  refine ⟨h1, h2, ?_, ?_⟩
  · show 0 ≤ y - y / c * c
    omega
  · show y - y / c * c < c
    omega
/-- within the cell only (0, 0) belongs to the net -/
theorem in_cell {a b c x y : Int} (ha : 0 < a) (hc : 0 < c) (h : InN a b c x y) (hx : -a < x ∧ x < a) (hy : -c < y ∧ y < c) : x = 0 ∧ y = 0 := by
  obtain ⟨m, k, h1, h2⟩ := h
  have hk : k = 0 := by
    rcases Int.lt_trichotomy k 0 with z | z | z
    · have : k * c ≤ -1 * c := Int.mul_le_mul_of_nonneg_right (by omega) (by omega)
      omega
    · exact z
    · have : 1 * c ≤ k * c := Int.mul_le_mul_of_nonneg_right (by omega) (by omega)
      omega
  subst hk
  have hm : m = 0 := by
    rcases Int.lt_trichotomy m 0 with z | z | z
    · have : m * a ≤ -1 * a := Int.mul_le_mul_of_nonneg_right (by omega) (by omega)
      omega
    · exact z
    · have : 1 * a ≤ m * a := Int.mul_le_mul_of_nonneg_right (by omega) (by omega)
      omega
  subst hm
  exact ⟨by omega, by omega⟩
/-- two places have the same place of the cell exactly if they differ by a shift -/
theorem low_eq {a b c x y x' y' : Int} (ha : 0 < a) (hc : 0 < c) : low a b c x y = low a b c x' y' ↔ InN a b c (x - x') (y - y') := by
  have h1 := low_in a b c x y
  have h2 := low_in a b c x' y'
  have r1 := low_rng (b := b) (x := x) (y := y) ha hc
  have r2 := low_rng (b := b) (x := x') (y := y') ha hc
  constructor
  · intro e
    rw [e] at h1
    have := inN_sub h1 h2
    have e1 : x - (low a b c x' y').1 - (x' - (low a b c x' y').1) = x - x' := by omega
    have e2 : y - (low a b c x' y').2 - (y' - (low a b c x' y').2) = y - y' := by omega
    rw [e1, e2] at this
    exact this
  · intro h
    have h3 := inN_sub (inN_sub h h1) (inN_neg h2)
    have e1 : x - x' - (x - (low a b c x y).1) - -(x' - (low a b c x' y').1) = (low a b c x y).1 - (low a b c x' y').1 := by omega
    have e2 : y - y' - (y - (low a b c x y).2) - -(y' - (low a b c x' y').2) = (low a b c x y).2 - (low a b c x' y').2 := by omega
    rw [e1, e2] at h3
    obtain ⟨z1, z2⟩ := in_cell ha hc h3 (by omega) (by omega)
    exact Prod.ext (by omega) (by omega)
theorem low_zero {a b c x y : Int} (ha : 0 < a) (hc : 0 < c) : low a b c x y = (0, 0) ↔ InN a b c x y := by
  have e : low a b c 0 0 = (0, 0) := by simp [low]
  rw [← e, low_eq ha hc]
  simp
theorem low_self {a b c x y : Int} (hx : 0 ≤ x ∧ x < a) (hy : 0 ≤ y ∧ y < c) : low a b c x y = (x, y) := by
  have h : y / c = 0 := Int.ediv_eq_zero_of_lt hy.1 hy.2
  unfold low
  rw [h]
  have : (x - 0 * b) % a = x := by rw [show x - 0 * b = x by omega]; exact Int.emod_eq_of_lt hx.1 hx.2
  rw [this]
  simp
/-! ### the order of a shift -/
theorem dvd_gcd {c y n : Int} (hc : 0 < c) : c ∣ n * y ↔ (c / (Int.gcd c y : Int)) ∣ n := by
  have g0 : (Int.gcd c y : Int) ≠ 0 := by
    have := Int.gcd_pos_of_ne_zero_left y (show c ≠ 0 by omega)
    omega
  have e : (Int.gcd c y : Int) * (c / (Int.gcd c y : Int)) = c := Int.mul_ediv_cancel' (Int.gcd_dvd_left c y)
  have h := Int.mul_dvd_mul_iff_left (b := c / (Int.gcd c y : Int)) (c := n) g0
  rw [e] at h
  rw [Int.mul_comm n y, ← Int.dvd_gcd_mul_iff_dvd_mul, h]
def rowsZ (c y : Int) : Int := c / (Int.gcd c y : Int)
def rightZ (b c x y : Int) : Int := rowsZ c y * x - rowsZ c y * y / c * b
def orderZ (a b c x y : Int) : Int := rowsZ c y * (a / (Int.gcd a (rightZ b c x y) : Int))
theorem rows_pos {c y : Int} (hc : 0 < c) : 0 < rowsZ c y := by
  have g0 := Int.gcd_pos_of_ne_zero_left y (show c ≠ 0 by omega)
  have e : (Int.gcd c y : Int) * (c / (Int.gcd c y : Int)) = c := Int.mul_ediv_cancel' (Int.gcd_dvd_left c y)
  unfold rowsZ
  rcases Int.lt_trichotomy (c / (Int.gcd c y : Int)) 0 with z | z | z
  · have : (Int.gcd c y : Int) * (c / (Int.gcd c y : Int)) < 0 := Int.mul_neg_of_pos_of_neg (by omega) z
    omega
  · rw [z] at e; omega
  · exact z
theorem order_pos {a b c x y : Int} (ha : 0 < a) (hc : 0 < c) : 0 < orderZ a b c x y := Int.mul_pos (rows_pos hc) (rows_pos (y := rightZ b c x y) ha)
theorem rows_dvd {c y : Int} (hc : 0 < c) : rowsZ c y ∣ c := ⟨(Int.gcd c y : Int), (Int.ediv_mul_cancel (Int.gcd_dvd_left c y)).symm⟩
theorem order_dvd {a b c x y : Int} (ha : 0 < a) (hc : 0 < c) : orderZ a b c x y ∣ a * c := by
  rw [Int.mul_comm a c]
  exact Int.mul_dvd_mul (rows_dvd hc) (rows_dvd (y := rightZ b c x y) ha)
theorem inN_iff {a b c x y : Int} (hc : 0 < c) : InN a b c x y ↔ c ∣ y ∧ a ∣ x - y / c * b := by
  constructor
  · rintro ⟨m, k, h1, h2⟩
    have : y / c = k := by rw [h2]; exact Int.mul_ediv_cancel k (by omega)
    refine ⟨⟨k, by rw [h2, Int.mul_comm]⟩, m, ?_⟩
    rw [this]
    grind
  · rintro ⟨⟨k, h1⟩, m, h2⟩
    have : y / c = k := by rw [h1]; exact Int.mul_ediv_cancel_left k (by omega)
    rw [this] at h2
    exact ⟨m, k, by grind, by grind⟩
theorem order_iff {a b c x y : Int} (ha : 0 < a) (hc : 0 < c) (n : Int) : InN a b c (n * x) (n * y) ↔ orderZ a b c x y ∣ n := by
  have r0 := rows_pos (y := y) hc
  have key : ∀ m : Int, a ∣ rowsZ c y * m * x - rowsZ c y * m * y / c * b ↔ (a / (Int.gcd a (rightZ b c x y) : Int)) ∣ m := by
    intro m
    have hr : c ∣ rowsZ c y * y := (dvd_gcd hc).mpr (Int.dvd_refl _)
    have e : rowsZ c y * m * x - rowsZ c y * m * y / c * b = m * rightZ b c x y := by
      have e1 : rowsZ c y * m * y / c = m * (rowsZ c y * y / c) := by
        rw [show rowsZ c y * m * y = m * (rowsZ c y * y) by grind]
        exact Int.mul_ediv_assoc m hr
      rw [e1]
      unfold rightZ
      grind
    rw [e]
    exact dvd_gcd ha
  rw [inN_iff hc]
  constructor
  · rintro ⟨h1, h2⟩
    obtain ⟨m, rfl⟩ := (dvd_gcd hc).mp h1
    have h3 : a ∣ rowsZ c y * m * x - rowsZ c y * m * y / c * b := h2
    exact Int.mul_dvd_mul (Int.dvd_refl _) ((key m).mp h3)
  · rintro ⟨m, rfl⟩
    have hm : orderZ a b c x y * m = rowsZ c y * (a / (Int.gcd a (rightZ b c x y) : Int) * m) := by unfold orderZ; grind
    rw [hm]
    exact ⟨(dvd_gcd hc).mpr ⟨_, rfl⟩, (key _).mpr ⟨m, rfl⟩⟩
theorem order_neg {a b c x y : Int} (ha : 0 < a) (hc : 0 < c) : orderZ a b c (-x) (-y) = orderZ a b c x y := by
  have p1 := order_pos (b := b) (x := x) (y := y) ha hc
  have p2 := order_pos (b := b) (x := -x) (y := -y) ha hc
  have key : ∀ n : Int, orderZ a b c (-x) (-y) ∣ n ↔ orderZ a b c x y ∣ n := by
    intro n
    rw [← order_iff ha hc, ← order_iff ha hc]
    constructor
    · intro h
      have := inN_neg h
      rw [show -(n * -x) = n * x by grind, show -(n * -y) = n * y by grind] at this
      exact this
    · intro h
      have := inN_neg h
      rw [show -(n * x) = n * -x by grind, show -(n * y) = n * -y by grind] at this
      exact this
  have h1 := Int.le_of_dvd p1 ((key _).mpr (Int.dvd_refl _))
  have h2 := Int.le_of_dvd p2 ((key _).mp (Int.dvd_refl _))
  omega
theorem scaled_in {a b c f : Int} (ha : 0 < a) (hc : 0 < c) (hf : 0 < f) (h1 : 1 < a) : ¬ InN (a * f) (b * f) (c * f) f 0 := by
  rintro ⟨m, k, e1, e2⟩
  have h0 : 0 < c * f := Int.mul_pos hc hf
  have k0 : k = 0 := by
    rcases Int.mul_eq_zero.mp e2.symm with h | h
    · exact h
    · omega
  subst k0
  have e3 : (m * a) * f = 1 * f := by grind
  have e4 := Int.eq_of_mul_eq_mul_right (by omega) e3
  have := Int.le_of_dvd (by omega) (⟨m, by grind⟩ : a ∣ 1)
  omega
theorem scaled_order {a b c f : Int} (ha : 0 < a) (hc : 0 < c) (hf : 0 < f) : orderZ (a * f) (b * f) (c * f) a 0 = f := by
  have h0 : 0 < c * f := Int.mul_pos hc hf
  have h1 : 0 < a * f := Int.mul_pos ha hf
  have key : ∀ n, orderZ (a * f) (b * f) (c * f) a 0 ∣ n ↔ f ∣ n := by
    intro n
    rw [← order_iff h1 h0]
    constructor
    · rintro ⟨m, k, e1, e2⟩
      have k0 : k = 0 := by
        rcases Int.mul_eq_zero.mp (show k * (c * f) = 0 by omega) with h | h
        · exact h
        · omega
      subst k0
      have e3 : n * a = (f * m) * a := by grind
      exact ⟨m, Int.eq_of_mul_eq_mul_right (by omega) e3⟩
    · rintro ⟨m, rfl⟩
      exact ⟨m, 0, by grind, by grind⟩
  exact Int.dvd_antisymm (Int.le_of_lt (order_pos h1 h0)) (Int.le_of_lt hf) ((key f).mpr (Int.dvd_refl f)) ((key _).mp (Int.dvd_refl _))
end MN
namespace Z
open PySem PySem.Spec PyProof.Rows L2
/-! ### sizes -/
def Sz (n : Nat) (x : Int) : Prop := x.natAbs < 2 ^ n
theorem Sz.mono {a b : Nat} {x : Int} (h : Sz a x) (hl : a ≤ b) : Sz b x := Nat.lt_of_lt_of_le h (Nat.pow_le_pow_right (by decide) hl)
theorem sz_mul {a b : Nat} {x y : Int} (h : Sz a x) (h' : Sz b y) : Sz (a + b) (x * y) := wide_lt h h'
theorem sz_add {a : Nat} {x y : Int} (h : Sz a x) (h' : Sz a y) : Sz (a + 1) (x + y) := by
  have h1 := Int.natAbs_add_le x y
  have h2 : x.natAbs < 2 ^ a := h
  have h3 : y.natAbs < 2 ^ a := h'
  show (x + y).natAbs < 2 ^ (a + 1)
  rw [Nat.pow_succ]
  omega
theorem sz_neg {a : Nat} {x : Int} (h : Sz a x) : Sz a (-x) := by
  show (-x).natAbs < 2 ^ a
  rw [Int.natAbs_neg]
  exact h
theorem sz_sub {a : Nat} {x y : Int} (h : Sz a x) (h' : Sz a y) : Sz (a + 1) (x - y) := by
  rw [Int.sub_eq_add_neg]
  exact sz_add h (sz_neg h')
theorem sz_div {a : Nat} {x : Int} (y : Int) (h : Sz a x) : Sz a (x / y) := Nat.lt_of_le_of_lt (Int.natAbs_ediv_le_natAbs x y) h
theorem sz_le {a : Nat} {x y : Int} (h0 : 0 ≤ x) (h1 : x ≤ y) (h : Sz a y) : Sz a x := Nat.lt_of_le_of_lt (by omega) h
theorem sz_mod {a : Nat} {x y : Int} (h : Sz a y) (hy : 0 < y) : Sz a (x % y) := sz_le (Int.emod_nonneg x (by omega)) (Int.le_of_lt (Int.emod_lt_of_pos x hy)) h
theorem mulOk {x y : Int} (h : Sz 5000 x) (h' : Sz 5000 y) : CMulW x y := wide_mul h h' (by decide) (by decide) (by decide)
theorem divOk {x y : Int} (h : 0 < y) (h' : Sz 5000 y) : CDivW x y := wide_div h h' (by decide) (by decide)
theorem sz_of {x b : Int} {n : Nat} (h0 : -b < x) (h1 : x < b) (hb : Sz n b) : Sz n x := Nat.lt_of_le_of_lt (by omega) hb
/-! ### tuples of ints compared -/
section
variable {K : Frg} {H : Hp} {p q : Addr} {a b c d e f : Int} {Q : VK}
theorem eq_T2 : PyData.eqv (.tuple [.int a, .int b]) (.tuple [.int c, .int d]) = decide (a = c ∧ b = d) := by
  simp only [PyData.eqv, PyData.eqvAll, Bool.and_true]
  by_cases h1 : a = c <;> by_cases h2 : b = d <;> simp [h1, h2]
theorem eq_T3 : PyData.eqv (.tuple [.int a, .int b, .int c]) (.tuple [.int d, .int e, .int f]) = decide (a = d ∧ b = e ∧ c = f) := by
  simp only [PyData.eqv, PyData.eqvAll, Bool.and_true]
  by_cases h1 : a = d <;> by_cases h2 : b = e <;> by_cases h3 : c = f <;> simp [h1, h2, h3]
theorem dp2 (h : SqT K H p [.int a, .int b]) : Dp K H (.ref p) (.tuple [.int a, .int b]) := .tup h (.cons (.int a) (.cons (.int b) .nil))
theorem dp3 (h : SqT K H p [.int a, .int b, .int c]) : Dp K H (.ref p) (.tuple [.int a, .int b, .int c]) := .tup h (.cons (.int a) (.cons (.int b) (.cons (.int c) .nil)))
theorem sh2 : SeqAt.shaped (.tuple [.int a, .int b]) = true := by rfl
theorem sh3 : SeqAt.shaped (.tuple [.int a, .int b, .int c]) = true := by rfl
theorem rEqT2 (h : SqT K H p [.int a, .int b]) (h' : SqT K H q [.int c, .int d]) (k : Q (.bl (decide (a = c ∧ b = d))) H) : rEqD K (.ref p) (.ref q) H Q := ⟨_, _, dp2 h, dp2 h', sh2, sh2, by rw [eq_T2]; exact k⟩
theorem rNeT2 (h : SqT K H p [.int a, .int b]) (h' : SqT K H q [.int c, .int d]) (k : Q (.bl (!decide (a = c ∧ b = d))) H) : rNeD K (.ref p) (.ref q) H Q := ⟨_, _, dp2 h, dp2 h', sh2, sh2, by rw [eq_T2]; exact k⟩
theorem rEqT3 (h : SqT K H p [.int a, .int b, .int c]) (h' : SqT K H q [.int d, .int e, .int f]) (k : Q (.bl (decide (a = d ∧ b = e ∧ c = f))) H) : rEqD K (.ref p) (.ref q) H Q := ⟨_, _, dp3 h, dp3 h', sh3, sh3, by rw [eq_T3]; exact k⟩
theorem rNeT3 (h : SqT K H p [.int a, .int b, .int c]) (h' : SqT K H q [.int d, .int e, .int f]) (k : Q (.bl (!decide (a = d ∧ b = e ∧ c = f))) H) : rNeD K (.ref p) (.ref q) H Q := ⟨_, _, dp3 h, dp3 h', sh3, sh3, by rw [eq_T3]; exact k⟩
end
/-! ### nets -/
def netF (q : Addr) : List (Str × V) := [("own_numbers", .ref q)]
structure NetIs (C : Addr) (F : Hp) (x : Addr) (a b c : Int) : Prop where
  at_ : ∃ dx q, F x = some (.ins C dx (netF q)) ∧ F q = some (.tup [.int a, .int b, .int c])
  hc : 1 ≤ c
  hb : 0 ≤ b
  ba : b < a
  sa : Sz 1000 a
  sc : Sz 1000 c
theorem NetIs.mono {C : Addr} {F H : Hp} {x : Addr} {a b c : Int} (n : NetIs C F x a b c) (s : Same F H) : NetIs C H x a b c := by
  obtain ⟨⟨dx, q, h1, h2⟩, r1, r2, r3, r4, r5⟩ := n
  exact ⟨⟨dx, q, s _ _ h1, s _ _ h2⟩, r1, r2, r3, r4, r5⟩
theorem NetIs.sb {C : Addr} {F : Hp} {x : Addr} {a b c : Int} (n : NetIs C F x a b c) : Sz 1000 b := sz_le n.hb (Int.le_of_lt n.ba) n.sa
theorem NetIs.ha {C : Addr} {F : Hp} {x : Addr} {a b c : Int} (n : NetIs C F x a b c) : 0 < a := by have := n.hb; have := n.ba; omega
def spNetInit (C : Addr) : Sp := Sp4 fun s u v w H Q _ => ∃ F x dx a b c, s = .ref x ∧ u = .int a ∧ v = .int b ∧ w = .int c ∧ Same F H ∧ F x = none ∧ H x = some (.ins C dx []) ∧ 1 ≤ c ∧ 0 ≤ b ∧ b < a ∧
  ∀ F' H' q, Go [x] F H F' H' → F' x = none → H' x = some (.ins C dx (netF q)) → F' q = some (.tup [.int a, .int b, .int c]) → Q .non H'
def spNetMk (C : Addr) : Sp := Sp3 fun u v w H Q _ => ∃ F a b c, u = .int a ∧ v = .int b ∧ w = .int c ∧ Same F H ∧ 1 ≤ c ∧ 0 ≤ b ∧ b < a ∧ Sz 1000 a ∧ Sz 1000 c ∧ ∀ x F' H', Go [] F H F' H' → NetIs C F' x a b c → Q (.ref x) H'
theorem mkNet {C : Addr} {E : XK} (vs : List V) (H : Hp) (Q : VK) (h : spNetMk C vs H Q E) : ∀ x dx, H x = none → H dx = none → dx ≠ x → spNetInit C (.ref x :: vs) (upd (upd H dx (.own x)) x (.ins C dx [])) (fun v H2 => v = .non ∧ Q (.ref x) H2) E := by
  obtain ⟨_, _, _, rfl, F, a, b, c, rfl, rfl, rfl, hs, hc, hb, ba, sa, sc, k⟩ := h
  intro x dx nx nd ne
  have g1 : Go [] F H F (upd H dx (.own x)) := Go.newM hs nd
  have nx1 : (upd H dx (.own x)) x = none := by rw [upd_ne (Ne.symm ne)]; exact nx
  have g2 : Go [] F (upd H dx (.own x)) F (upd (upd H dx (.own x)) x (.ins C dx [])) := Go.newM g1.fh nx1
  have fx : F x = none := same_none hs nx
  refine ⟨_, _, _, _, rfl, F, x, dx, a, b, c, rfl, rfl, rfl, rfl, g2.fh, fx, upd_same, hc, hb, ba, fun F' H' q g3 fx' hx' hq => ⟨rfl, ?_⟩⟩
  have g4 : Go [x] F' H' (upd F' x (.ins C dx (netF q))) H' := Go.freeze g3.fh fx' hx'
  have g5 : Go [x] F H (upd F' x (.ins C dx (netF q))) H' := ((g1.trans g2).nil.trans g3).trans g4
  exact k x _ H' (g5.drop nx) ⟨⟨dx, q, upd_same, g4.ff _ _ hq⟩, hc, hb, ba, sa, sc⟩
def spNumbers (C : Addr) : Sp := Sp1 fun s H Q _ => ∃ F x a b c, s = .ref x ∧ Same F H ∧ NetIs C F x a b c ∧ ∀ q, F q = some (.tup [.int a, .int b, .int c]) → Q (.ref q) H
def spSize (C : Addr) : Sp := Sp1 fun s H Q _ => ∃ x a b c, s = .ref x ∧ NetIs C H x a b c ∧ Q (.int (a * c)) H
def spSpan (C : Addr) : Sp := Sp1 fun s H Q _ => ∃ F x a b c, s = .ref x ∧ Same F H ∧ NetIs C F x a b c ∧ ∀ l p1 p2 F' H', Go [] F H F' H' → F' l = some (.lst [.ref p1, .ref p2]) → F' p1 = some (.tup [.int a, .int 0]) → F' p2 = some (.tup [.int b, .int c]) → Q (.ref l) H'
def spCell (K : Frg) (C : Addr) : Sp := Sp2 fun s p H Q _ => ∃ F x a b c pl px py, s = .ref x ∧ p = .ref pl ∧ Same F H ∧ NetIs C F x a b c ∧ SqT K F pl [.int px, .int py] ∧ Sz 2000 px ∧ Sz 2000 py ∧
  ∀ r F' H', Go [] F H F' H' → F' r = some (.tup [.int (MN.low a b c px py).1, .int (MN.low a b c px py).2]) → Q (.ref r) H'
def InQ (K : Frg) (F : Hp) (a b c : Int) (v : V) (r : Bool) : Prop := (PlaceQ K F v false ∧ r = false) ∨ ∃ p x y, v = .ref p ∧ SqT K F p [.int x, .int y] ∧ Sz 2000 x ∧ Sz 2000 y ∧ r = decide (MN.low a b c x y = (0, 0))
def spContains (K : Frg) (C : Addr) : Sp := Sp2 fun s v H Q _ => ∃ F x a b c r, s = .ref x ∧ Same F H ∧ NetIs C F x a b c ∧ InQ K F a b c v r ∧ ∀ F' H', Go [] F H F' H' → Q (.bl r) H'
def EqQ (K : Frg) (C : Addr) (H : Hp) (a b c : Int) (v : V) (r : Bool) : Prop := (∃ t, TyX K H v t ∧ PySem.W.kitOne K t (.ref C) = some false ∧ r = false) ∨ ∃ y a' b' c', v = .ref y ∧ NetIs C H y a' b' c' ∧ r = decide (a = a' ∧ b = b' ∧ c = c')
def spEqN (K : Frg) (C : Addr) : Sp := Sp2 fun s v H Q _ => ∃ x a b c r, s = .ref x ∧ NetIs C H x a b c ∧ EqQ K C H a b c v r ∧ Q (.bl r) H
def spOrder (K : Frg) (C : Addr) : Sp := Sp2 fun s p H Q _ => ∃ F x a b c pl px py, s = .ref x ∧ p = .ref pl ∧ Same F H ∧ NetIs C F x a b c ∧ SqT K F pl [.int px, .int py] ∧ Sz 1000 px ∧ Sz 1000 py ∧
  ∀ F' H', Go [] F H F' H' → Q (.int (MN.orderZ a b c px py)) H'
def spWithin (C : Addr) : Sp := Sp2 fun s o H Q _ => ∃ F x a b c y p q r, s = .ref x ∧ o = .ref y ∧ Same F H ∧ NetIs C F x a b c ∧ NetIs C F y p q r ∧
  ∀ F' H', Go [] F H F' H' → Q (.bl (decide (MN.low p q r a 0 = (0, 0)) && decide (MN.low p q r b c = (0, 0)))) H'
def spScaled (C : Addr) : Sp := Sp2 fun s v H Q _ => ∃ F x a b c f, s = .ref x ∧ v = .int f ∧ Same F H ∧ NetIs C F x a b c ∧ 1 ≤ f ∧ Sz 1000 (a * f) ∧ Sz 1000 (c * f) ∧ Sz 1000 f ∧
  ∀ y F' H', Go [] F H F' H' → NetIs C F' y (a * f) (b * f) (c * f) → Q (.ref y) H'
end Z
namespace Z
open PySem PySem.Spec PyProof.Rows L2
/-- the tape: a list that changes -/
def TapeV (K : Frg) (F : Hp) (xs : List V) : Prop := ∃ (c : Addr) (ns : List Int) (i b r : Int), xs = [.ref c, .int i, .int b, .int r] ∧ SqL K F c (ns.map V.int) ∧ 0 ≤ i ∧ 0 ≤ b ∧ 0 ≤ r ∧ r < 2147483647
structure Tape (K : Frg) (F H : Hp) (t : Addr) : Prop where
  fr : F t = none
  at_ : ∃ xs, H t = some (.lst xs) ∧ TapeV K F xs
theorem Tape.go {K : Frg} {F H F' H' : Hp} {t : Addr} {ms : List Addr} (x : Tape K F H t) (g : Go ms F H F' H') (hm : t ∉ ms) : Tape K F' H' t := by
  obtain ⟨h1, xs, h2, c, ns, i, b, r, e, h3, h4⟩ := x
  obtain ⟨a1, a2⟩ := g.mu t _ hm h1 h2
  exact ⟨a1, xs, a2, c, ns, i, b, r, e, sqL g.ff h3, h4⟩
theorem Tape.go0 {K : Frg} {F H F' H' : Hp} {t : Addr} (x : Tape K F H t) (g : Go [] F H F' H') : Tape K F' H' t := x.go g (by simp)
theorem Tape.ne {K : Frg} {F H : Hp} {t : Addr} (x : Tape K F H t) : H t ≠ none := by
  obtain ⟨_, xs, h, _⟩ := x
  rw [h]
  exact fun z => nomatch z
def spDraw (K : Frg) : Sp := Sp2 fun a b H Q _ => ∃ F t many, a = .ref t ∧ b = .int many ∧ Same F H ∧ Tape K F H t ∧ 0 < many ∧ many.natAbs.log2 < 9000 ∧
  ∀ d H', 0 ≤ d → d < many → Go [t] F H F H' → Tape K F H' t → Q (.int d) H'
def spTape (K : Frg) : Sp := Sp1 fun a H Q _ => ∃ (F : Hp) (s : Addr) (ns : List Int), a = .ref s ∧ Same F H ∧ SqL K F s (ns.map V.int) ∧ ∀ t F' H', Go [] F H F' H' → Tape K F' H' t → Q (.ref t) H'
def spGreat (K : Frg) : Sp := Sp2 fun a b H Q _ => ∃ F t size, a = .ref t ∧ b = .int size ∧ Same F H ∧ Tape K F H t ∧ 60 ≤ size ∧ Sz 1000 size ∧
  ∀ d F' H', -size < d → d < size → Go [t] F H F' H' → Tape K F' H' t → Q (.int d) H'
def spPlace (K : Frg) : Sp := Sp1 fun a H Q _ => ∃ F t, a = .ref t ∧ Same F H ∧ Tape K F H t ∧
  ∀ p x y F' H', Go [t] F H F' H' → Tape K F' H' t → F' p = some (.tup [.int x, .int y]) → Sz 100 x → Sz 100 y → Q (.ref p) H'
def spLow (K : Frg) : Sp := Sp2 fun n p H Q _ => ∃ F nl pl a b c x y, n = .ref nl ∧ p = .ref pl ∧ Same F H ∧ SqT K F nl [.int a, .int b, .int c] ∧ SqT K F pl [.int x, .int y] ∧ 1 ≤ c ∧ 0 ≤ b ∧ b < a ∧ Sz 1000 a ∧ Sz 1000 c ∧ Sz 2000 x ∧ Sz 2000 y ∧
  ∀ r F' H', Go [] F H F' H' → F' r = some (.tup [.int (MN.low a b c x y).1, .int (MN.low a b c x y).2]) → Q (.ref r) H'
def spNet (K : Frg) : Sp := Sp2 fun a b H Q _ => ∃ F t most, a = .ref t ∧ b = .int most ∧ Same F H ∧ Tape K F H t ∧ 0 < most ∧ Sz 1000 most ∧
  ∀ p a b c F' H', Go [t] F H F' H' → Tape K F' H' t → F' p = some (.tup [.int a, .int b, .int c]) → 0 ≤ b → b < a → 1 ≤ c → a * c ≤ most → Q (.ref p) H'
theorem sz_lit {n : Nat} {x : Int} (h : Nat.blt x.natAbs (2 ^ n) = true) : Sz n x := Nat.le_of_ble_eq_true h
theorem szLog {x : Int} (h : Sz 8000 x) : x.natAbs.log2 < 9000 := Nat.lt_of_lt_of_le (PySem.Flt.log2_lt_of (by decide) h) (by decide)
theorem atI_mem {xs : List V} {k : Int} (h0 : 0 ≤ k) (h1 : k < xs.length) : ∃ v, atI xs k = some v ∧ v ∈ xs := by
  obtain ⟨j, rfl⟩ := Int.eq_ofNat_of_zero_le h0
  have hj : j < xs.length := by omega
  exact ⟨xs[j], atI_nat (List.getElem?_eq_getElem hj), List.getElem_mem hj⟩
theorem cut_ints (ns : List Int) (lo hi : Option Int) : ∃ ms : List Int, cutV (ns.map V.int) lo hi = ms.map V.int := by
  unfold cutV
  rw [← List.map_drop, ← List.map_take]
  exact ⟨_, rfl⟩
def spSteps (K : Frg) : Sp := Sp2 fun n p H Q _ => ∃ F nl pl a b c x y, n = .ref nl ∧ p = .ref pl ∧ Same F H ∧ SqT K F nl [.int a, .int b, .int c] ∧ SqT K F pl [.int x, .int y] ∧ 1 ≤ c ∧ 0 ≤ b ∧ b < a ∧ Sz 1000 a ∧ Sz 1000 c ∧ Sz 2000 x ∧ Sz 2000 y ∧
  ∀ F' H', Go [] F H F' H' → Q (.int (MN.orderZ a b c x y)) H'
theorem ixT {K : Frg} {H : Hp} {p : Addr} {xs : List V} {i : Int} {v : V} {Q : VK} (h : SqT K H p xs) (e : atI xs i = some v) (k : Q v H) : rIxT K (.ref p) (.int i) H Q := ⟨p, xs, i, v, rfl, rfl, h, e, k⟩
theorem ixL {K : Frg} {H : Hp} {p : Addr} {xs : List V} {i : Int} {v : V} {Q : VK} (h : SqL K H p xs) (e : atI xs i = some v) (k : Q v H) : rIxL K (.ref p) (.int i) H Q := ⟨p, xs, i, v, rfl, rfl, h, e, k⟩
end Z
section
open PySem PySem.Spec PyProof.Rows L2 Z
local macro_rules | `(tactic| walk_at "s0") => `(tactic| first | assumption | exact SqT.of (by assumption) | exact SqL.of (by assumption))
local macro_rules | `(tactic| walk_at "s1") => `(tactic| first | assumption | exact SqT.of (by assumption) | exact SqL.of (by assumption) | exact sqT (Go.ff (by assumption)) (by walk_at "s0") | exact sqL (Go.ff (by assumption)) (by walk_at "s0"))
local macro_rules | `(tactic| walk_at "s2") => `(tactic| first | assumption | exact SqT.of (by assumption) | exact SqL.of (by assumption) | exact sqT (Go.ff (by assumption)) (by walk_at "s1") | exact sqL (Go.ff (by assumption)) (by walk_at "s1"))
local macro_rules | `(tactic| walk_at "s3") => `(tactic| first | assumption | exact SqT.of (by assumption) | exact SqL.of (by assumption) | exact sqT (Go.ff (by assumption)) (by walk_at "s2") | exact sqL (Go.ff (by assumption)) (by walk_at "s2"))
local macro_rules | `(tactic| walk_at "s4") => `(tactic| first | assumption | exact SqT.of (by assumption) | exact SqL.of (by assumption) | exact sqT (Go.ff (by assumption)) (by walk_at "s3") | exact sqL (Go.ff (by assumption)) (by walk_at "s3"))
local macro_rules | `(tactic| walk_at "s5") => `(tactic| first | assumption | exact SqT.of (by assumption) | exact SqL.of (by assumption) | exact sqT (Go.ff (by assumption)) (by walk_at "s4") | exact sqL (Go.ff (by assumption)) (by walk_at "s4"))
local macro_rules | `(tactic| walk_at "s6") => `(tactic| first | assumption | exact SqT.of (by assumption) | exact SqL.of (by assumption) | exact sqT (Go.ff (by assumption)) (by walk_at "s5") | exact sqL (Go.ff (by assumption)) (by walk_at "s5"))
local macro_rules | `(tactic| walk_at "s7") => `(tactic| first | assumption | exact SqT.of (by assumption) | exact SqL.of (by assumption) | exact sqT (Go.ff (by assumption)) (by walk_at "s6") | exact sqL (Go.ff (by assumption)) (by walk_at "s6"))
local macro_rules | `(tactic| walk_at "s8") => `(tactic| first | assumption | exact SqT.of (by assumption) | exact SqL.of (by assumption) | exact sqT (Go.ff (by assumption)) (by walk_at "s7") | exact sqL (Go.ff (by assumption)) (by walk_at "s7"))
local macro_rules | `(tactic| walk_at "s9") => `(tactic| first | assumption | exact SqT.of (by assumption) | exact SqL.of (by assumption) | exact sqT (Go.ff (by assumption)) (by walk_at "s8") | exact sqL (Go.ff (by assumption)) (by walk_at "s8"))
local macro_rules | `(tactic| walk_at "s10") => `(tactic| first | assumption | exact SqT.of (by assumption) | exact SqL.of (by assumption) | exact sqT (Go.ff (by assumption)) (by walk_at "s9") | exact sqL (Go.ff (by assumption)) (by walk_at "s9"))
local macro_rules | `(tactic| walk_at "sq") => `(tactic| first | assumption | exact SqT.of (by assumption) | exact SqL.of (by assumption) | exact sqT (Go.fh (by assumption)) (by walk_at "s10") | exact sqL (Go.fh (by assumption)) (by walk_at "s10") | exact sqT (F := _) (by assumption) (by walk_at "s10") | exact sqL (F := _) (by assumption) (by walk_at "s10"))
local macro_rules | `(tactic| walk_at "c") => `(tactic| ((try dsimp only); first | omega | assumption | exact ⟨by omega, by assumption⟩ | exact ⟨by assumption, by assumption⟩ | exact Or.inl ⟨by decide, by decide⟩ | exact Or.inr ⟨by decide, by decide⟩ | exact ⟨by decide, by decide, by decide⟩ | exact ⟨by decide, by decide⟩))
local macro_rules | `(tactic| walk_at "z") => `(tactic| repeat (first | refine ⟨_, rfl, ?_⟩ | refine ⟨_, _, rfl, rfl, ?_⟩ | refine ⟨_, _, _, _, rfl, rfl, by walk_at "sq", rfl, ?_⟩ | refine ⟨_, _, rfl, Or.inl (by walk_at "sq"), ?_⟩ | refine ⟨_, _, rfl, Or.inr (by walk_at "sq"), ?_⟩ | refine ⟨_, _, rfl, by walk_at "sq", rfl, ?_⟩ | refine ⟨rfl, ?_⟩ | refine And.intro (by walk_at "c") ?_ | refine ⟨lenOk rfl, ?_⟩ | refine ⟨_, _, rfl, ?_⟩))
namespace K06
open PySem PySem.Spec PyProof.Rows L2 Z
def topS (i : Nat) : Stmt := PySem.Challenge.pw_carpets_k06_orders_and_multiples.main.body.getD i (.Pass ⟨0, 0, 0, 0⟩)
abbrev s_is_integer : Stmt := (topS 7)
abbrev N_is_integer : List Str := ["value"]
abbrev ps_is_integer : List Str := ["value"]
theorem sc_is_integer : FnScope N_is_integer ps_is_integer (defScope s_is_integer) := ⟨rfl, rfl, rfl, by decide +kernel, rfl, by decide +kernel, by decide +kernel⟩
abbrev s_is_place : Stmt := (topS 8)
abbrev N_is_place : List Str := ["value", "number"]
abbrev ps_is_place : List Str := ["value"]
theorem sc_is_place : FnScope N_is_place ps_is_place (defScope s_is_place) := ⟨rfl, rfl, rfl, by decide +kernel, rfl, by decide +kernel, by decide +kernel⟩
abbrev s_check_place : Stmt := (topS 9)
abbrev N_check_place : List Str := ["value"]
abbrev ps_check_place : List Str := ["value"]
theorem sc_check_place : FnScope N_check_place ps_check_place (defScope s_check_place) := ⟨rfl, rfl, rfl, by decide +kernel, rfl, by decide +kernel, by decide +kernel⟩
abbrev s_check_number : Stmt := (topS 10)
abbrev N_check_number : List Str := ["value", "low", "high"]
abbrev ps_check_number : List Str := ["value", "low", "high"]
theorem sc_check_number : FnScope N_check_number ps_check_number (defScope s_check_number) := ⟨rfl, rfl, rfl, by decide +kernel, rfl, by decide +kernel, by decide +kernel⟩
abbrev s_greatest_divisor : Stmt := (topS 11)
abbrev N_greatest_divisor : List Str := ["one", "other"]
abbrev ps_greatest_divisor : List Str := ["one", "other"]
theorem sc_greatest_divisor : FnScope N_greatest_divisor ps_greatest_divisor (defScope s_greatest_divisor) := ⟨rfl, rfl, rfl, by decide +kernel, rfl, by decide +kernel, by decide +kernel⟩
abbrev s_are_numbers : Stmt := (topS 18)
abbrev N_are_numbers : List Str := ["numbers", "a", "b", "c", "number"]
abbrev ps_are_numbers : List Str := ["numbers"]
theorem sc_are_numbers : FnScope N_are_numbers ps_are_numbers (defScope s_are_numbers) := ⟨rfl, rfl, rfl, by decide +kernel, rfl, by decide +kernel, by decide +kernel⟩
abbrev s_Net_UinitU : Stmt := (inClass (topS 20) 0)
abbrev N_Net_UinitU : List Str := ["self", "a", "b", "c"]
abbrev ps_Net_UinitU : List Str := ["self", "a", "b", "c"]
theorem sc_Net_UinitU : FnScope N_Net_UinitU ps_Net_UinitU (defScope s_Net_UinitU) := ⟨rfl, rfl, rfl, by decide +kernel, rfl, by decide +kernel, by decide +kernel⟩
abbrev s_Net_numbers : Stmt := (inClass (topS 20) 3)
abbrev N_Net_numbers : List Str := ["self"]
abbrev ps_Net_numbers : List Str := ["self"]
theorem sc_Net_numbers : FnScope N_Net_numbers ps_Net_numbers (defScope s_Net_numbers) := ⟨rfl, rfl, rfl, by decide +kernel, rfl, by decide +kernel, by decide +kernel⟩
abbrev s_Net_size : Stmt := (inClass (topS 20) 4)
abbrev N_Net_size : List Str := ["self"]
abbrev ps_Net_size : List Str := ["self"]
theorem sc_Net_size : FnScope N_Net_size ps_Net_size (defScope s_Net_size) := ⟨rfl, rfl, rfl, by decide +kernel, rfl, by decide +kernel, by decide +kernel⟩
abbrev s_Net_spanning : Stmt := (inClass (topS 20) 5)
abbrev N_Net_spanning : List Str := ["self", "a", "b", "c"]
abbrev ps_Net_spanning : List Str := ["self"]
theorem sc_Net_spanning : FnScope N_Net_spanning ps_Net_spanning (defScope s_Net_spanning) := ⟨rfl, rfl, rfl, by decide +kernel, rfl, by decide +kernel, by decide +kernel⟩
abbrev s_Net_place_in_cell : Stmt := (inClass (topS 20) 6)
abbrev N_Net_place_in_cell : List Str := ["self", "place", "a", "b", "c", "rows"]
abbrev ps_Net_place_in_cell : List Str := ["self", "place"]
theorem sc_Net_place_in_cell : FnScope N_Net_place_in_cell ps_Net_place_in_cell (defScope s_Net_place_in_cell) := ⟨rfl, rfl, rfl, by decide +kernel, rfl, by decide +kernel, by decide +kernel⟩
abbrev s_Net_UcontainsU : Stmt := (inClass (topS 20) 7)
abbrev N_Net_UcontainsU : List Str := ["self", "value"]
abbrev ps_Net_UcontainsU : List Str := ["self", "value"]
theorem sc_Net_UcontainsU : FnScope N_Net_UcontainsU ps_Net_UcontainsU (defScope s_Net_UcontainsU) := ⟨rfl, rfl, rfl, by decide +kernel, rfl, by decide +kernel, by decide +kernel⟩
abbrev s_Net_UeqU : Stmt := (inClass (topS 20) 11)
abbrev N_Net_UeqU : List Str := ["self", "other"]
abbrev ps_Net_UeqU : List Str := ["self", "other"]
theorem sc_Net_UeqU : FnScope N_Net_UeqU ps_Net_UeqU (defScope s_Net_UeqU) := ⟨rfl, rfl, rfl, by decide +kernel, rfl, by decide +kernel, by decide +kernel⟩
abbrev s_Net_order : Stmt := (inClass (topS 20) 14)
abbrev N_Net_order : List Str := ["self", "shift", "a", "b", "c", "rows", "right"]
abbrev ps_Net_order : List Str := ["self", "shift"]
theorem sc_Net_order : FnScope N_Net_order ps_Net_order (defScope s_Net_order) := ⟨rfl, rfl, rfl, by decide +kernel, rfl, by decide +kernel, by decide +kernel⟩
abbrev s_Net_is_within : Stmt := (inClass (topS 20) 17)
abbrev N_Net_is_within : List Str := ["self", "other", "one", "two"]
abbrev ps_Net_is_within : List Str := ["self", "other"]
theorem sc_Net_is_within : FnScope N_Net_is_within ps_Net_is_within (defScope s_Net_is_within) := ⟨rfl, rfl, rfl, by decide +kernel, rfl, by decide +kernel, by decide +kernel⟩
abbrev s_Net_scaled : Stmt := (inClass (topS 20) 18)
abbrev N_Net_scaled : List Str := ["self", "factor", "a", "b", "c"]
abbrev ps_Net_scaled : List Str := ["self", "factor"]
theorem sc_Net_scaled : FnScope N_Net_scaled ps_Net_scaled (defScope s_Net_scaled) := ⟨rfl, rfl, rfl, by decide +kernel, rfl, by decide +kernel, by decide +kernel⟩
abbrev s__law_tape : Stmt := (topS 22)
abbrev N__law_tape : List Str := ["_law_script"]
abbrev ps__law_tape : List Str := ["_law_script"]
theorem sc__law_tape : FnScope N__law_tape ps__law_tape (defScope s__law_tape) := ⟨rfl, rfl, rfl, by decide +kernel, rfl, by decide +kernel, by decide +kernel⟩
abbrev s__law_draw : Stmt := (topS 23)
abbrev N__law_draw : List Str := ["_law_tape_here", "_law_many", "_law_digit", "_law_cell", "_law_near"]
abbrev ps__law_draw : List Str := ["_law_tape_here", "_law_many"]
theorem sc__law_draw : FnScope N__law_draw ps__law_draw (defScope s__law_draw) := ⟨rfl, rfl, rfl, by decide +kernel, rfl, by decide +kernel, by decide +kernel⟩
abbrev s__law_great : Stmt := (topS 24)
abbrev N__law_great : List Str := ["_law_tape_here", "_law_size", "_law_high", "_law_value"]
abbrev ps__law_great : List Str := ["_law_tape_here", "_law_size"]
theorem sc__law_great : FnScope N__law_great ps__law_great (defScope s__law_great) := ⟨rfl, rfl, rfl, by decide +kernel, rfl, by decide +kernel, by decide +kernel⟩
abbrev s__law_place : Stmt := (topS 25)
abbrev N__law_place : List Str := ["_law_tape_here"]
abbrev ps__law_place : List Str := ["_law_tape_here"]
theorem sc__law_place : FnScope N__law_place ps__law_place (defScope s__law_place) := ⟨rfl, rfl, rfl, by decide +kernel, rfl, by decide +kernel, by decide +kernel⟩
abbrev s__law_low : Stmt := (topS 26)
abbrev N__law_low : List Str := ["_law_net_here", "_law_place_here", "_law_times"]
abbrev ps__law_low : List Str := ["_law_net_here", "_law_place_here"]
theorem sc__law_low : FnScope N__law_low ps__law_low (defScope s__law_low) := ⟨rfl, rfl, rfl, by decide +kernel, rfl, by decide +kernel, by decide +kernel⟩
abbrev s__law_net : Stmt := (topS 27)
abbrev N__law_net : List Str := ["_law_tape_here", "_law_most", "_law_wide"]
abbrev ps__law_net : List Str := ["_law_tape_here", "_law_most"]
theorem sc__law_net : FnScope N__law_net ps__law_net (defScope s__law_net) := ⟨rfl, rfl, rfl, by decide +kernel, rfl, by decide +kernel, by decide +kernel⟩
abbrev s__law_steps : Stmt := (topS 28)
abbrev N__law_steps : List Str := ["_law_net_here", "_law_place_here", "_law_low_here", "_law_here", "_law_many"]
abbrev ps__law_steps : List Str := ["_law_net_here", "_law_place_here"]
theorem sc__law_steps : FnScope N__law_steps ps__law_steps (defScope s__law_steps) := ⟨rfl, rfl, rfl, by decide +kernel, rfl, by decide +kernel, by decide +kernel⟩
abbrev s_law : Stmt := (topS 29)
abbrev N_law : List Str := ["_law_script", "_law_tape_here", "_law_turn", "_law_net_here", "_law_made", "_law_one", "_law_many", "_law_factor", "_law_larger", "_law_number"]
abbrev ps_law : List Str := ["_law_script"]
theorem sc_law : FnScope N_law ps_law (defScope s_law) := ⟨rfl, rfl, rfl, by decide +kernel, rfl, by decide +kernel, by decide +kernel⟩
structure Tx (K : Frg) (mg : Str → Option Value) : Prop where
  b_abs : mg "abs" = none
  b_all : mg "all" = none
  b_bool : mg "bool" = none
  b_int : mg "int" = none
  b_isinstance : mg "isinstance" = none
  b_len : mg "len" = none
  b_list : mg "list" = none
  b_range : mg "range" = none
  b_repr : mg "repr" = none
  b_tuple : mg "tuple" = none
  cl_Net : Cls K (He.ga K "Net")
  g_Net : mg "Net" = some (.ref (He.ga K "Net"))
  g__law_draw : mg "_law_draw" = some (.ref (He.ga K "_law_draw"))
  g__law_great : mg "_law_great" = some (.ref (He.ga K "_law_great"))
  g__law_low : mg "_law_low" = some (.ref (He.ga K "_law_low"))
  g__law_net : mg "_law_net" = some (.ref (He.ga K "_law_net"))
  g__law_place : mg "_law_place" = some (.ref (He.ga K "_law_place"))
  g__law_steps : mg "_law_steps" = some (.ref (He.ga K "_law_steps"))
  g__law_tape : mg "_law_tape" = some (.ref (He.ga K "_law_tape"))
  g_are_numbers : mg "are_numbers" = some (.ref (He.ga K "are_numbers"))
  g_check_number : mg "check_number" = some (.ref (He.ga K "check_number"))
  g_check_place : mg "check_place" = some (.ref (He.ga K "check_place"))
  g_greatest_divisor : mg "greatest_divisor" = some (.ref (He.ga K "greatest_divisor"))
  g_is_integer : mg "is_integer" = some (.ref (He.ga K "is_integer"))
  g_is_place : mg "is_place" = some (.ref (He.ga K "is_place"))
  g_law : mg "law" = some (.ref (He.ga K "law"))
  k__law_draw : PySem.W.keepIn K (.ref (He.ga K "_law_draw")) = true
  k__law_great : PySem.W.keepIn K (.ref (He.ga K "_law_great")) = true
  k__law_low : PySem.W.keepIn K (.ref (He.ga K "_law_low")) = true
  k__law_net : PySem.W.keepIn K (.ref (He.ga K "_law_net")) = true
  k__law_place : PySem.W.keepIn K (.ref (He.ga K "_law_place")) = true
  k__law_steps : PySem.W.keepIn K (.ref (He.ga K "_law_steps")) = true
  k__law_tape : PySem.W.keepIn K (.ref (He.ga K "_law_tape")) = true
  k_are_numbers : PySem.W.keepIn K (.ref (He.ga K "are_numbers")) = true
  k_check_number : PySem.W.keepIn K (.ref (He.ga K "check_number")) = true
  k_check_place : PySem.W.keepIn K (.ref (He.ga K "check_place")) = true
  k_greatest_divisor : PySem.W.keepIn K (.ref (He.ga K "greatest_divisor")) = true
  k_is_integer : PySem.W.keepIn K (.ref (He.ga K "is_integer")) = true
  k_is_place : PySem.W.keepIn K (.ref (He.ga K "is_place")) = true
  m_Net_UcontainsU : Meth K (He.ga K "Net") "__contains__" (He.ma K (He.ga K "Net") "__contains__")
  m_Net_UeqU : Meth K (He.ga K "Net") "__eq__" (He.ma K (He.ga K "Net") "__eq__")
  m_Net_is_within : Meth K (He.ga K "Net") "is_within" (He.ma K (He.ga K "Net") "is_within")
  m_Net_order : Meth K (He.ga K "Net") "order" (He.ma K (He.ga K "Net") "order")
  m_Net_place_in_cell : Meth K (He.ga K "Net") "place_in_cell" (He.ma K (He.ga K "Net") "place_in_cell")
  m_Net_scaled : Meth K (He.ga K "Net") "scaled" (He.ma K (He.ga K "Net") "scaled")
  m_Net_spanning : Meth K (He.ga K "Net") "spanning" (He.ma K (He.ga K "Net") "spanning")
  mk_Net : Mk K (He.ga K "Net") (He.ma K (He.ga K "Net") "__init__")
  na_Net_own_numbers : NoAttr K (He.ga K "Net") "own_numbers"
  ow_Net : Own K (He.ga K "Net")
  p_Net_numbers : PropOf K (He.ga K "Net") "numbers" (He.ma K (He.ga K "Net") "numbers") (He5.wf K (He.ga K "Net") "property" "numbers")
  p_Net_size : PropOf K (He.ga K "Net") "size" (He.ma K (He.ga K "Net") "size") (He5.wf K (He.ga K "Net") "property" "size")
  d_is_integer : DefAt K "is_integer" "is_integer" s_is_integer (He.ga K "is_integer")
  d_is_place : DefAt K "is_place" "is_place" s_is_place (He.ga K "is_place")
  d_check_place : DefAt K "check_place" "check_place" s_check_place (He.ga K "check_place")
  d_check_number : DefAt K "check_number" "check_number" s_check_number (He.ga K "check_number")
  d_greatest_divisor : DefAt K "greatest_divisor" "greatest_divisor" s_greatest_divisor (He.ga K "greatest_divisor")
  d_are_numbers : DefAt K "are_numbers" "are_numbers" s_are_numbers (He.ga K "are_numbers")
  d_Net_UinitU : DefAt K "__init__" "Net.__init__" s_Net_UinitU (He.ma K (He.ga K "Net") "__init__")
  d_Net_numbers : DefAt K "numbers" "Net.numbers" s_Net_numbers (He5.wf K (He.ga K "Net") "property" "numbers")
  d_Net_size : DefAt K "size" "Net.size" s_Net_size (He5.wf K (He.ga K "Net") "property" "size")
  d_Net_spanning : DefAt K "spanning" "Net.spanning" s_Net_spanning (He.ma K (He.ga K "Net") "spanning")
  d_Net_place_in_cell : DefAt K "place_in_cell" "Net.place_in_cell" s_Net_place_in_cell (He.ma K (He.ga K "Net") "place_in_cell")
  d_Net_UcontainsU : DefAt K "__contains__" "Net.__contains__" s_Net_UcontainsU (He.ma K (He.ga K "Net") "__contains__")
  d_Net_UeqU : DefAt K "__eq__" "Net.__eq__" s_Net_UeqU (He.ma K (He.ga K "Net") "__eq__")
  d_Net_order : DefAt K "order" "Net.order" s_Net_order (He.ma K (He.ga K "Net") "order")
  d_Net_is_within : DefAt K "is_within" "Net.is_within" s_Net_is_within (He.ma K (He.ga K "Net") "is_within")
  d_Net_scaled : DefAt K "scaled" "Net.scaled" s_Net_scaled (He.ma K (He.ga K "Net") "scaled")
  d__law_tape : DefAt K "_law_tape" "_law_tape" s__law_tape (He.ga K "_law_tape")
  d__law_draw : DefAt K "_law_draw" "_law_draw" s__law_draw (He.ga K "_law_draw")
  d__law_great : DefAt K "_law_great" "_law_great" s__law_great (He.ga K "_law_great")
  d__law_place : DefAt K "_law_place" "_law_place" s__law_place (He.ga K "_law_place")
  d__law_low : DefAt K "_law_low" "_law_low" s__law_low (He.ga K "_law_low")
  d__law_net : DefAt K "_law_net" "_law_net" s__law_net (He.ga K "_law_net")
  d__law_steps : DefAt K "_law_steps" "_law_steps" s__law_steps (He.ga K "_law_steps")
  d_law : DefAt K "law" "law" s_law (He.ga K "law")
end K06
namespace K06
open PySem PySem.Spec PyProof.Rows L2 Z
section
variable {P : Program} {w : World} {K : Frg} {mg : Str → Option Value} {base : Heap}
theorem ok_is_integer (T : Tx K mg) : FnR P w K mg base (L2.CX P w) 1 (He.ga K "is_integer") (spIsInt K) := by
  refine zfn T.d_is_integer sc_is_integer len1 (fun _ _ _ _ _ _ us hl => match us, hl with | [_], _ => rfl) (fun cdv A outer s H vs Q E hr h => ?_)
  obtain ⟨_, rfl, b, ⟨t, b1, b2, ty, h1, h2, rfl⟩, k⟩ := h
  refine ⟨_, PSs.nox (pss_one (ps_ret (pe_and (pe_callB call_isi (by rfl) T.b_isinstance (by decide +kernel) (pa_cons (pv 0) (pa_cons (pe_bltn (v := .ty "int") rfl T.b_int (by decide +kernel) rfl) pa_nil))) (pe_one (pe_not (pe_callB call_isi (by rfl) T.b_isinstance (by decide +kernel) (pa_cons (pv 0) (pa_cons (pe_bltn (v := .ty "bool") rfl T.b_bool (by decide +kernel) rfl) pa_nil)))))))), ?_⟩
  refine ⟨_, rfl, _, _, t, _, b1, rfl, .ty _, ty, h1, b1, rfl, ?_⟩
  cases b1 with
  | true => exact iteT ⟨_, rfl, _, _, t, _, b2, rfl, .ty _, ty, h2 rfl, _, rfl, k⟩
  | false => exact iteF k
end
end K06
namespace K06
open PySem PySem.Spec PyProof.Rows L2 Z
section
variable {P : Program} {w : World} {K : Frg} {mg : Str → Option Value} {base : Heap}
theorem ok_is_place (T : Tx K mg) : FnR P w K mg base (L2.CX P w) 3 (He.ga K "is_place") (spIsPlace K) := by
  refine zfn T.d_is_place sc_is_place len1 (fun _ _ _ _ _ _ us hl => match us, hl with | [_], _ => rfl) (fun cdv A outer s H vs Q E hr h => ?_)
  obtain ⟨_, rfl, F, b, hs, hp, k⟩ := h
  refine ⟨_, PSs.nox (pss_one (ps_ret (pe_and (pe_callB call_isi (by rfl) T.b_isinstance (by decide +kernel) (pa_cons (pv 0) (pa_cons (pe_bltn (v := .ty "tuple") rfl T.b_tuple (by decide +kernel) rfl) pa_nil))) (pe_and (pe_cmpR op_eq (pe_callB call_len_seq (by rfl) T.b_len (by decide +kernel) (pa_cons (pv 0) pa_nil)) pe_int (nomark _)) (pe_one (pe_callB (cr_all rfl) (by rfl) T.b_all (by decide +kernel) (pa_cons (pe_lcZ (pe_lc (own := [("number", 1)]) (g := gName 1) rfl sc_is_place.nd (pi_tup (pv 0)) (blkOk_by (own := [("number", 1)]) (N := N_is_place) (sc := defScope s_is_place) (by decide +kernel)) (fun _ _ _ _ _ => (pg_name (i := 1) sc_is_place.nd rfl (by first | exact Or.inl rfl | exact Or.inr rfl))) (fun _ _ _ _ _ => pts_nil) (fun _ _ _ _ _ => (zcall (ok_is_integer T) (hr.mono (by decide)) rfl T.g_is_integer T.k_is_integer passL (pa_cons (pv 1) pa_nil))))) pa_nil))))))), ?_⟩
  rcases hp with ⟨t, ty, h1, rfl⟩ | ⟨p, xs, rfl, hx, hl, rfl⟩ | ⟨p, u, v, bu, bv, rfl, hx, hu, hv, rfl⟩
  · exact ⟨_, rfl, _, _, t, _, false, rfl, .ty _, tyX_mono hs ty, h1, false, rfl, iteF (k F H (Go.refl hs))⟩
  · have hxH := sqT hs hx
    refine ⟨_, rfl, _, _, _, _, true, rfl, .ty _, tyT hxH, kit_ty (by decide +kernel), true, rfl, iteT ?_⟩
    refine ⟨_, rfl, _, _, rfl, .inr hxH, rfl, false, blF ?_, iteF (k F H (Go.refl hs))⟩
    intro z
    injection z with z
    omega
  · have hxH := sqT hs hx
    refine ⟨_, rfl, _, _, _, _, true, rfl, .ty _, tyT hxH, kit_ty (by decide +kernel), true, rfl, iteT ?_⟩
    refine ⟨_, rfl, _, _, rfl, .inr hxH, rfl, true, rfl, iteT ?_⟩
    refine ⟨_, rfl, _, rfl, ⟨_, hxH⟩, ?_⟩
    refine lc_go (walk_tup (K := K)) hs (fun _ h => nomatch h) (ms := []) (fun _ _ => True) trivial (fun _ _ _ _ _ _ _ _ => trivial) (fun F1 H1 g _ => sqT g.fh (sqT g.ff hx)) (fun i acc F1 => acc = ([bu, bv].take i).map V.bl) rfl (fun _ _ _ _ _ h => h) (by show 2 ≤ 100000; decide) ?_ ?_
    · rintro i x acc F1 H1 H1' hi hl rfl g1 _ ⟨rfl, hxi⟩ Kp Sk kp sk
      refine ⟨rfl, ?_⟩
      refine ⟨_, rfl, ?_⟩
      match i, hi, hxi with
      | 0, _, e =>
        cases e
        exact ⟨_, rfl, bu, intQ_mono (g1.ff.trans g1.fh) hu, kp _ F1 _ (Go.refl g1.fh) trivial rfl⟩
      | 1, _, e =>
        cases e
        exact ⟨_, rfl, bv, intQ_mono (g1.ff.trans g1.fh) hv, kp _ F1 _ (Go.refl g1.fh) trivial rfl⟩
      | i + 2, h, _ => exact absurd h (by show ¬ i + 2 < 2; omega)
    · rintro D ys F' H' g1 _ hD _ rfl
      refine ⟨D, [bu, bv], rfl, sqL g1.fh (SqL.of hD), ?_⟩
      have e : ([bu, bv].all id) = (bu && bv) := by simp
      rw [e]
      exact k F' H' g1
end
end K06
namespace K06
open PySem PySem.Spec PyProof.Rows L2 Z
section
variable {P : Program} {w : World} {K : Frg} {mg : Str → Option Value} {base : Heap}
theorem ok_check_place (T : Tx K mg) : FnR P w K mg base (L2.CX P w) 5 (He.ga K "check_place") (spChkPlace K) := by
  refine zfn T.d_check_place sc_check_place len1 (fun _ _ _ _ _ _ us hl => match us, hl with | [_], _ => rfl) (fun cdv A outer s H vs Q E hr h => ?_)
  obtain ⟨_, rfl, F, hs, hp, k⟩ := h
  refine ⟨_, PSs.nox (pss_one (ps_if (pt_not (pt_val (zcall (ok_is_place T) (hr.mono (by decide)) rfl T.g_is_place T.k_is_place passL (pa_cons (pv 0) pa_nil))))
    (pss_one ps_never)
    pss_nil)), ?_⟩
  refine ⟨_, rfl, _, rfl, F, true, hs, hp, fun F' H' g => ⟨true, rfl, iteF (k F' H' g)⟩⟩
end
end K06
namespace K06
open PySem PySem.Spec PyProof.Rows L2 Z
section
variable {P : Program} {w : World} {K : Frg} {mg : Str → Option Value} {base : Heap}
theorem ok_check_number (T : Tx K mg) : FnR P w K mg base (L2.CX P w) 3 (He.ga K "check_number") (spChkNum K) := by
  refine zfn T.d_check_number sc_check_number len3 (fun _ _ _ _ _ _ us hl => match us, hl with | [_, _, _], _ => rfl) (fun cdv A outer s H vs Q E hr h => ?_)
  obtain ⟨_, _, _, rfl, v, lo, hi, rfl, rfl, rfl, h1, h2, k⟩ := h
  refine ⟨_, PSs.nox (pss_one (ps_if (PW.pt (pw_or (pt_not (pt_val (zcall (ok_is_integer T) (hr.mono (by decide)) rfl T.g_is_integer T.k_is_integer passL (pa_cons (pv 0) pa_nil)))) (pw_or (pt_cmpR op_lt (pv 0) (pv 1) (nomark _)) (pw_or1 (PW.pt (pw_and (pt_cmpR op_notN (pv 2) pe_non (nomark _)) (pw_and1 (pt_cmpR op_gt (pv 0) (pv 2) (nomark _)))))))))
    (pss_one ps_never)
    pss_nil)), ?_⟩
  refine ⟨_, rfl, _, rfl, true, intQ_int v, true, rfl, iteF ?_⟩
  refine ⟨_, rfl, _, rfl, _, _, rfl, rfl, false, blF (by omega), iteF ?_⟩
  · cases hi with
    | none => exact ⟨_, rfl, rfl, false, rfl, iteF (iteF k)⟩
    | some m =>
      have h3 : v ≤ m := h2 m rfl
      refine ⟨_, rfl, rfl, true, rfl, iteT ?_⟩
      refine ⟨_, rfl, _, rfl, _, _, rfl, rfl, false, blF (by omega), iteF k⟩
end
end K06
namespace K06
open PySem PySem.Spec PyProof.Rows L2 Z
section
variable {P : Program} {w : World} {K : Frg} {mg : Str → Option Value} {base : Heap}
theorem ok_greatest_divisor (T : Tx K mg) : FnR P w K mg base (L2.CX P w) 1 (He.ga K "greatest_divisor") spGcd := by
  refine zfn T.d_greatest_divisor sc_greatest_divisor len2 (fun _ _ _ _ _ _ us hl => match us, hl with | [_, _], _ => rfl) (fun cdv A outer s H vs Q E hr h => ?_)
  obtain ⟨_, _, rfl, x, y, rfl, rfl, k⟩ := h
  refine ⟨_, PSs.nox (pss_cons (ps_par (i := 0) (j := 1) (by rfl) sc_greatest_divisor.nd rfl rfl (by decide) rfl rfl (pa_cons (pe_callB call_abs (by rfl) T.b_abs (by decide +kernel) (pa_cons (pv 0) pa_nil)) (pa_cons (pe_callB call_abs (by rfl) T.b_abs (by decide +kernel) (pa_cons (pv 1) pa_nil)) pa_nil)) (by rfl))
  (pss_cons (ps_while PassesOwn.never (pt_cmpR op_gt (pv 1) pe_int (nomark _))
    (pss_one (ps_par (i := 0) (j := 1) (by rfl) sc_greatest_divisor.nd rfl rfl (by decide) rfl rfl (pa_cons (pv 1) (pa_cons (pe_op op_mod (pv 0) (pv 1)) pa_nil)) (by rfl))))
  (pss_one (ps_ret (pv 0))))), ?_⟩
  walk_at "z"
  refine ⟨fun m σ' H' => ∃ x' y' : Int, σ' = [some (V.int x'), some (V.int y')] ∧ H' = H ∧ 0 ≤ x' ∧ 0 ≤ y' ∧ m = y'.toNat ∧ Int.gcd x' y' = Int.gcd x y, ⟨_, _, _, rfl, rfl, ?_, ?_, rfl, ?_⟩, ?_⟩
  · split <;> omega
  · split <;> omega
  · have e : ∀ z : Int, (if z < 0 then -z else z) = (z.natAbs : Int) := fun z => by split <;> omega
    show Int.gcd (if x < 0 then -x else x) (if y < 0 then -y else y) = Int.gcd x y
    rw [e, e, Int.gcd_eq_natAbs_gcd_natAbs, Int.gcd_eq_natAbs_gcd_natAbs]
    simp
  · rintro m σ' H' ⟨x', y', rfl, rfl, hx, hy, rfl, hg⟩
    walk_at "z"
    refine ite2 (fun ht => ?_) (fun ht => ?_)
    · have hy0 : 0 < y' := of_decide_eq_true ht
      refine ⟨fun σ2 H2 => σ2 = [some (V.int y'), some (V.int (x' % y'))] ∧ H2 = H', ?_, ?_⟩
      · rintro σ2 H2 ⟨rfl, rfl⟩
        have h1 := Int.emod_lt_of_pos x' hy0
        have h2 := Int.emod_nonneg x' (show y' ≠ 0 by omega)
        refine ⟨(x' % y').toNat, by omega, y', x' % y', rfl, rfl, hy, h2, rfl, ?_⟩
        rw [← gcd_emod, Int.gcd_comm y' x']
        exact hg
      · walk_at "z"
        rfl
    · have hy0 : y' = 0 := by
        have := of_decide_eq_false (Bool.eq_false_iff.mpr ht)
        omega
      subst hy0
      walk_at "z"
      have e : (x' : Int) = ((Int.gcd x y : Nat) : Int) := by
        rw [← hg, Int.gcd_zero_right]
        omega
      show Q (V.int x') H'
      rw [e]
      exact k
end
end K06
namespace K06
open PySem PySem.Spec PyProof.Rows L2 Z
section
variable {P : Program} {w : World} {K : Frg} {mg : Str → Option Value} {base : Heap}
theorem ok_are_numbers (T : Tx K mg) : FnR P w K mg base (L2.CX P w) 3 (He.ga K "are_numbers") (spAreNum K) := by
  refine zfn T.d_are_numbers sc_are_numbers len1 (fun _ _ _ _ _ _ us hl => match us, hl with | [_], _ => rfl) (fun cdv A outer s H vs Q E hr h => ?_)
  obtain ⟨_, rfl, F, p, u, v, x, bu, bv, bx, rfl, hs, hp, hu, hv, hx, hi, k⟩ := h
  refine ⟨_, PSs.nox (pss_cons (ps_if (pt_not (pt_val (pe_callB (cr_all rfl) (by rfl) T.b_all (by decide +kernel) (pa_cons (pe_lcZ (pe_lc (own := [("number", 4)]) (g := gName 4) rfl sc_are_numbers.nd (pi_tup (pv 0)) (blkOk_by (own := [("number", 4)]) (N := N_are_numbers) (sc := defScope s_are_numbers) (by decide +kernel)) (fun _ _ _ _ _ => (pg_name (i := 4) sc_are_numbers.nd rfl (by first | exact Or.inl rfl | exact Or.inr rfl))) (fun _ _ _ _ _ => pts_nil) (fun _ _ _ _ _ => (zcall (ok_is_integer T) (hr.mono (by decide)) rfl T.g_is_integer T.k_is_integer passL (pa_cons (pv 4) pa_nil))))) pa_nil))))
    (pss_one (ps_ret pe_bl))
    pss_nil)
  (pss_cons (ps_asg (pv 0) (pg_tup rfl (pgs_cons (pg_name (i := 1) sc_are_numbers.nd rfl (by first | exact Or.inl rfl | exact Or.inr rfl)) (pgs_cons (pg_name (i := 2) sc_are_numbers.nd rfl (by first | exact Or.inl rfl | exact Or.inr rfl)) (pgs_cons (pg_name (i := 3) sc_are_numbers.nd rfl (by first | exact Or.inl rfl | exact Or.inr rfl)) pgs_nil)))))
  (pss_one (ps_ret (pe_and (pe_cmpR op_ge (pv 3) pe_int (nomark _)) (pe_one (pe_chain op_le op_lt pe_int (pv 2) (pv 1)))))))), ?_⟩
  have hpH := sqT hs hp
  refine ⟨_, rfl, _, rfl, ⟨_, hpH⟩, ?_⟩
  refine lc_go (walk_tup (K := K)) hs (fun _ h => nomatch h) (ms := []) (fun _ _ => True) trivial (fun _ _ _ _ _ _ _ _ => trivial) (fun F1 H1 g _ => sqT g.fh (sqT g.ff hp)) (fun i acc F1 => acc = ([bu, bv, bx].take i).map V.bl) rfl (fun _ _ _ _ _ h => h) (by show 3 ≤ 100000; decide) ?_ ?_
  · rintro i y acc F1 H1 H1' hi hl rfl g1 _ ⟨rfl, hxi⟩ Kp Sk kp sk
    refine ⟨rfl, ?_⟩
    refine ⟨_, rfl, ?_⟩
    match i, hi, hxi with
    | 0, _, e =>
      cases e
      exact ⟨_, rfl, bu, intQ_mono (g1.ff.trans g1.fh) hu, kp _ F1 _ (Go.refl g1.fh) trivial rfl⟩
    | 1, _, e =>
      cases e
      exact ⟨_, rfl, bv, intQ_mono (g1.ff.trans g1.fh) hv, kp _ F1 _ (Go.refl g1.fh) trivial rfl⟩
    | 2, _, e =>
      cases e
      exact ⟨_, rfl, bx, intQ_mono (g1.ff.trans g1.fh) hx, kp _ F1 _ (Go.refl g1.fh) trivial rfl⟩
    | i + 3, h, _ => exact absurd h (by show ¬ i + 3 < 3; omega)
  · rintro D ys F' H' g1 _ hD _ rfl
    refine ⟨D, [bu, bv, bx], rfl, sqL g1.fh (SqL.of hD), ?_⟩
    have e : ([bu, bv, bx].all id) = (bu && (bv && bx)) := by simp
    rw [e]
    refine ⟨_, rfl, ?_⟩
    cases hb : (bu && (bv && bx)) with
    | false =>
      refine iteT ?_
      rw [hb] at k
      exact k F' H' g1
    | true =>
      obtain ⟨a, b, c, rfl, rfl, rfl⟩ := hi hb
      have hpH' : SqT K H' p [.int a, .int b, .int c] := sqT g1.fh (sqT g1.ff hp)
      refine iteF ?_
      refine ⟨_, rfl, _, _, rfl, hpH', rfl, _, _, rfl, _, _, rfl, _, _, rfl, rfl, ?_⟩
      have k2 : Q (.bl (true && numsOk (.int a) (.int b) (.int c))) H' := by
        have := k F' H' g1
        rw [hb] at this
        exact this
      refine ⟨_, rfl, _, _, rfl, rfl, _, rfl, ite2 (fun hc => ?_) (fun hc => ?_)⟩
      · have hc1 : 1 ≤ c := of_decide_eq_true hc
        refine ⟨_, rfl, _, _, rfl, rfl, _, rfl, ite2 (fun hb0 => ?_) (fun hb0 => ?_)⟩
        · have hb1 : 0 ≤ b := of_decide_eq_true hb0
          refine ⟨_, rfl, _, _, rfl, rfl, ?_⟩
          have e2 : (true && numsOk (.int a) (.int b) (.int c)) = decide (b < a) := by
            unfold numsOk
            simp [hc1, hb1]
          rw [e2] at k2
          exact k2
        · have hb1 : ¬ 0 ≤ b := of_decide_eq_false (Bool.eq_false_iff.mpr hb0)
          have e2 : (true && numsOk (.int a) (.int b) (.int c)) = false := by
            unfold numsOk
            simp [hb1]
          rw [e2] at k2
          exact k2
      · have hc1 : ¬ 1 ≤ c := of_decide_eq_false (Bool.eq_false_iff.mpr hc)
        have e2 : (true && numsOk (.int a) (.int b) (.int c)) = false := by
          unfold numsOk
          simp [hc1]
        rw [e2] at k2
        exact k2
end
end K06
namespace K06
open PySem PySem.Spec PyProof.Rows L2 Z
section
variable {P : Program} {w : World} {K : Frg} {mg : Str → Option Value} {base : Heap}
theorem ok_Net_UinitU (T : Tx K mg) : FnR P w K mg base (L2.CX P w) 5 (He.ma K (He.ga K "Net") "__init__") (spNetInit (He.ga K "Net")) := by
  refine zfn T.d_Net_UinitU sc_Net_UinitU len4 (fun _ _ _ _ _ _ us hl => match us, hl with | [_, _, _, _], _ => rfl) (fun cdv A outer s H vs Q E hr h => ?_)
  obtain ⟨_, _, _, _, rfl, F, x, dx, a, b, c, rfl, rfl, rfl, rfl, hs, fx, hx, hc, hb, ba, k⟩ := h
  refine ⟨_, PSs.nox (pss_cons (ps_if (pt_not (pt_val (zcall (ok_are_numbers T) (hr.mono (by decide)) rfl T.g_are_numbers T.k_are_numbers passL (pa_cons (pe_tupZ (pa_cons (pv 1) (pa_cons (pv 2) (pa_cons (pv 3) pa_nil)))) pa_nil))))
    (pss_one ps_never)
    pss_nil)
  (pss_one (ps_fld (pv 0) (pe_tupZ (pa_cons (pv 1) (pa_cons (pv 2) (pa_cons (pv 3) pa_nil)))) rfl))), ?_⟩
  walk_at "z"
  intro p1 H1 hp1 e1
  obtain ⟨F1, g1, q1, _⟩ := newE hs hp1 e1
  obtain ⟨fx1, hx1⟩ := g1.mu x _ (by simp) fx hx
  refine ⟨_, rfl, F1, p1, _, _, _, true, true, true, rfl, g1.fh, SqT.of q1, intQ_int _, intQ_int _, intQ_int _, fun _ => ⟨a, b, c, rfl, rfl, rfl⟩, fun F2 H2 g2 => ?_⟩
  have e : ((true && (true && true)) && numsOk (.int a) (.int b) (.int c)) = true := by
    simp [numsOk, hc, hb, ba]
  rw [e]
  obtain ⟨fx2, hx2⟩ := g2.mu x _ (by simp) fx1 hx1
  refine ⟨true, rfl, ?_⟩
  walk_at "z"
  intro p3 H3 hp3 e3
  obtain ⟨F3, g3, q3, _⟩ := newE g2.fh hp3 e3
  obtain ⟨fx3, hx3⟩ := g3.mu x _ (by simp) fx2 hx2
  refine ⟨_, rfl, x, _, dx, [], rfl, hx3, T.cl_Net, T.na_Net_own_numbers, by decide, ?_⟩
  exact k F3 _ p3 (((g1.trans g2).trans g3).nil.trans (Go.put g3.fh fx3)) fx3 upd_same q3
theorem mk_Net {E : XK} (T : Tx K mg) (vs : List V) (H : Hp) (Q : VK) (h : spNetMk (He.ga K "Net") vs H Q E) : ∀ x dx, H x = none → H dx = none → dx ≠ x → spNetInit (He.ga K "Net") (.ref x :: vs) (upd (upd H dx (.own x)) x (.ins (He.ga K "Net") dx [])) (fun v H2 => v = .non ∧ Q (.ref x) H2) E := mkNet vs H Q h
end
end K06
namespace K06
open PySem PySem.Spec PyProof.Rows L2 Z
section
variable {P : Program} {w : World} {K : Frg} {mg : Str → Option Value} {base : Heap}
theorem ok_Net_numbers (T : Tx K mg) : FnR P w K mg base (L2.CX P w) 1 (He5.wf K (He.ga K "Net") "property" "numbers") (spNumbers (He.ga K "Net")) := by
  refine zfn T.d_Net_numbers sc_Net_numbers len1 (fun _ _ _ _ _ _ us hl => match us, hl with | [_], _ => rfl) (fun cdv A outer s H vs Q E hr h => ?_)
  obtain ⟨_, rfl, F, x, a, b, c, rfl, hs, ⟨⟨dx, q, hx, hq⟩, _⟩, k⟩ := h
  refine ⟨_, PSs.nox (pss_one (ps_ret (pe_fld (pv 0) rfl))), ?_⟩
  exact ⟨_, rfl, x, _, dx, _, _, rfl, hs _ _ hx, T.cl_Net, T.na_Net_own_numbers, rfl, k q hq⟩
end
end K06
namespace K06
open PySem PySem.Spec PyProof.Rows L2 Z
section
variable {P : Program} {w : World} {K : Frg} {mg : Str → Option Value} {base : Heap}
theorem ok_Net_size (T : Tx K mg) : FnR P w K mg base (L2.CX P w) 1 (He5.wf K (He.ga K "Net") "property" "size") (spSize (He.ga K "Net")) := by
  refine zfn T.d_Net_size sc_Net_size len1 (fun _ _ _ _ _ _ us hl => match us, hl with | [_], _ => rfl) (fun cdv A outer s H vs Q E hr h => ?_)
  obtain ⟨_, rfl, x, a, b, c, rfl, ⟨⟨dx, q, hx, hq⟩, hc, hb, ba, sa, sc⟩, k⟩ := h
  refine ⟨_, PSs.nox (pss_one (ps_ret (pe_op op_mulW (pe_ix ix_tup (pe_fld (pv 0) rfl) pe_int (fun _ _ => rfl)) (pe_ix ix_tup (pe_fld (pv 0) rfl) pe_int (fun _ _ => rfl))))), ?_⟩
  refine ⟨_, rfl, x, _, dx, _, _, rfl, hx, T.cl_Net, T.na_Net_own_numbers, rfl, ?_⟩
  refine ⟨_, _, _, _, rfl, rfl, SqT.of hq, rfl, ?_⟩
  refine ⟨_, rfl, x, _, dx, _, _, rfl, hx, T.cl_Net, T.na_Net_own_numbers, rfl, ?_⟩
  exact ⟨_, _, _, _, rfl, rfl, SqT.of hq, rfl, _, _, rfl, rfl, mulOk (sa.mono (by decide)) (sc.mono (by decide)), k⟩
end
end K06
namespace K06
open PySem PySem.Spec PyProof.Rows L2 Z
section
variable {P : Program} {w : World} {K : Frg} {mg : Str → Option Value} {base : Heap}
theorem ok_Net_spanning (T : Tx K mg) : FnR P w K mg base (L2.CX P w) 1 (He.ma K (He.ga K "Net") "spanning") (spSpan (He.ga K "Net")) := by
  refine zfn T.d_Net_spanning sc_Net_spanning len1 (fun _ _ _ _ _ _ us hl => match us, hl with | [_], _ => rfl) (fun cdv A outer s H vs Q E hr h => ?_)
  obtain ⟨_, rfl, F, x, a, b, c, rfl, hs, ⟨⟨dx, q, hx, hq⟩, hc, hb, ba, sa, sc⟩, k⟩ := h
  refine ⟨_, PSs.nox (pss_cons (ps_asg (pe_fld (pv 0) rfl) (pg_tup rfl (pgs_cons (pg_name (i := 1) sc_Net_spanning.nd rfl (by first | exact Or.inl rfl | exact Or.inr rfl)) (pgs_cons (pg_name (i := 2) sc_Net_spanning.nd rfl (by first | exact Or.inl rfl | exact Or.inr rfl)) (pgs_cons (pg_name (i := 3) sc_Net_spanning.nd rfl (by first | exact Or.inl rfl | exact Or.inr rfl)) pgs_nil)))))
  (pss_one (ps_ret (pe_lstZ (pa_cons (pe_tupZ (pa_cons (pv 1) (pa_cons pe_int pa_nil))) (pa_cons (pe_tupZ (pa_cons (pv 2) (pa_cons (pv 3) pa_nil))) pa_nil)))))), ?_⟩
  refine ⟨_, rfl, x, _, dx, _, _, rfl, hs _ _ hx, T.cl_Net, T.na_Net_own_numbers, rfl, ?_⟩
  have hqH : SqT K H q [.int a, .int b, .int c] := SqT.of (hs _ _ hq)
  walk_at "z"
  intro p1 H1 hp1 e1
  obtain ⟨F1, g1, q1, _⟩ := newE hs hp1 e1
  walk_at "z"
  intro p2 H2 hp2 e2
  obtain ⟨F2, g2, q2, _⟩ := newE g1.fh hp2 e2
  walk_at "z"
  intro p3 H3 hp3 e3
  obtain ⟨F3, g3, q3, _⟩ := newE g2.fh hp3 e3
  exact k p3 p1 p2 F3 H3 ((g1.trans g2).trans g3) q3 (g3.ff _ _ (g2.ff _ _ q1)) (g3.ff _ _ q2)
end
end K06
namespace K06
open PySem PySem.Spec PyProof.Rows L2 Z
section
variable {P : Program} {w : World} {K : Frg} {mg : Str → Option Value} {base : Heap}
theorem ok_Net_place_in_cell (T : Tx K mg) : FnR P w K mg base (L2.CX P w) 1 (He.ma K (He.ga K "Net") "place_in_cell") (spCell K (He.ga K "Net")) := by
  refine zfn T.d_Net_place_in_cell sc_Net_place_in_cell len2 (fun _ _ _ _ _ _ us hl => match us, hl with | [_, _], _ => rfl) (fun cdv A outer s H vs Q E hr h => ?_)
  obtain ⟨_, _, rfl, F, x, a, b, c, pl, px, py, rfl, rfl, hs, N, hp, zx, zy, k⟩ := h
  obtain ⟨⟨dx, q, hx, hq⟩, hc, hb, ba, sa, sc⟩ := id N
  refine ⟨_, PSs.nox (pss_cons (ps_asg (pe_fld (pv 0) rfl) (pg_tup rfl (pgs_cons (pg_name (i := 2) sc_Net_place_in_cell.nd rfl (by first | exact Or.inl rfl | exact Or.inr rfl)) (pgs_cons (pg_name (i := 3) sc_Net_place_in_cell.nd rfl (by first | exact Or.inl rfl | exact Or.inr rfl)) (pgs_cons (pg_name (i := 4) sc_Net_place_in_cell.nd rfl (by first | exact Or.inl rfl | exact Or.inr rfl)) pgs_nil)))))
  (pss_cons (ps_set (i := 5) sc_Net_place_in_cell.nd rfl (by first | exact Or.inl rfl | exact Or.inr rfl) (pe_op op_fdivW (pe_ix ix_tup (pv 1) pe_int (fun _ _ => rfl)) (pv 4)))
  (pss_one (ps_ret (pe_tupZ (pa_cons (pe_op op_mod (pe_op op_sub (pe_ix ix_tup (pv 1) pe_int (fun _ _ => rfl)) (pe_op op_mulW (pv 5) (pv 3))) (pv 2)) (pa_cons (pe_op op_sub (pe_ix ix_tup (pv 1) pe_int (fun _ _ => rfl)) (pe_op op_mulW (pv 5) (pv 4))) pa_nil))))))), ?_⟩
  refine ⟨_, rfl, x, _, dx, _, _, rfl, hs _ _ hx, T.cl_Net, T.na_Net_own_numbers, rfl, ?_⟩
  have hqH : SqT K H q [.int a, .int b, .int c] := SqT.of (hs _ _ hq)
  have hpH := sqT hs hp
  have c1 : CDivW py c := divOk (by omega) (sc.mono (by decide))
  have c2 : CMulW (py / c) b := mulOk ((sz_div c zy).mono (by decide)) (N.sb.mono (by decide))
  have c3 : CMulW (py / c) c := mulOk ((sz_div c zy).mono (by decide)) (sc.mono (by decide))
  have ha := N.ha
  walk_at "z"
  intro p1 H1 hp1 e1
  obtain ⟨F1, g1, q1, _⟩ := newE hs hp1 e1
  exact k p1 F1 H1 g1 q1
end
end K06
namespace K06
open PySem PySem.Spec PyProof.Rows L2 Z
section
variable {P : Program} {w : World} {K : Frg} {mg : Str → Option Value} {base : Heap}
theorem ok_Net_UcontainsU (T : Tx K mg) : FnR P w K mg base (L2.CX P w) 5 (He.ma K (He.ga K "Net") "__contains__") (spContains K (He.ga K "Net")) := by
  refine zfn T.d_Net_UcontainsU sc_Net_UcontainsU len2 (fun _ _ _ _ _ _ us hl => match us, hl with | [_, _], _ => rfl) (fun cdv A outer s H vs Q E hr h => ?_)
  obtain ⟨_, _, rfl, F, x, a, b, c, r, rfl, hs, N, hv, k⟩ := h
  refine ⟨_, PSs.nox (pss_one (ps_ret (pe_and (zcall (ok_is_place T) (hr.mono (by decide)) rfl T.g_is_place T.k_is_place passL (pa_cons (pv 1) pa_nil)) (pe_one (pe_cmpR (op_eqD hr.units) (pe_methR (pv 0) T.cl_Net T.m_Net_place_in_cell (ok_Net_place_in_cell T) (hr.mono (by decide)) passL (pa_cons (pv 1) pa_nil)) (pe_tupZ (pa_cons pe_int (pa_cons pe_int pa_nil))) (nomark _)))))), ?_⟩
  rcases hv with ⟨hp, rfl⟩ | ⟨p, px, py, rfl, hp, zx, zy, rfl⟩
  · exact ⟨_, rfl, _, rfl, F, false, hs, hp, fun F' H' g => ⟨false, rfl, k F' H' g⟩⟩
  · refine ⟨_, rfl, _, rfl, F, true, hs, placeQ hp, fun F1 H1 g1 => ⟨true, rfl, ?_⟩⟩
    obtain ⟨⟨dx, q, hx, hq⟩, _⟩ := id (N.mono (g1.ff.trans g1.fh))
    refine ⟨_, rfl, x, dx, _, rfl, hx, rfl, _, rfl, ?_⟩
    refine ⟨_, _, rfl, F1, x, a, b, c, p, px, py, rfl, rfl, g1.fh, N.mono g1.ff, sqT g1.ff hp, zx, zy, fun r2 F2 H2 g2 q2 => ?_⟩
    walk_at "z"
    intro p3 H3 hp3 e3
    obtain ⟨F3, g3, q3, _⟩ := newE g2.fh hp3 e3
    refine rEqT2 (SqT.of (g3.fh _ _ (g3.ff _ _ q2))) (SqT.of (g3.fh _ _ q3)) ?_
    have e : decide ((MN.low a b c px py).1 = 0 ∧ (MN.low a b c px py).2 = 0) = decide (MN.low a b c px py = (0, 0)) := by
      congr 1
      exact propext ⟨fun h => Prod.ext h.1 h.2, fun h => by rw [h]; exact ⟨rfl, rfl⟩⟩
    rw [e]
    exact k F3 H3 ((g1.trans g2).trans g3)
end
end K06
namespace K06
open PySem PySem.Spec PyProof.Rows L2 Z
section
variable {P : Program} {w : World} {K : Frg} {mg : Str → Option Value} {base : Heap}
theorem ok_Net_UeqU (T : Tx K mg) : FnR P w K mg base (L2.CX P w) 1 (He.ma K (He.ga K "Net") "__eq__") (spEqN K (He.ga K "Net")) := by
  refine zfn T.d_Net_UeqU sc_Net_UeqU len2 (fun _ _ _ _ _ _ us hl => match us, hl with | [_, _], _ => rfl) (fun cdv A outer s H vs Q E hr h => ?_)
  obtain ⟨_, _, rfl, x, a, b, c, r, rfl, N, hv, k⟩ := h
  refine ⟨_, PSs.nox (pss_one (ps_ret (pe_and (pe_callB call_isi (by rfl) T.b_isinstance (by decide +kernel) (pa_cons (pv 1) (pa_cons (pe_glob (v := .ref _) rfl T.g_Net rfl) pa_nil))) (pe_one (pe_cmpR (op_eqD hr.units) (pe_fld (pv 0) rfl) (pe_fld (pv 1) rfl) (nomark _)))))), ?_⟩
  rcases hv with ⟨t, ty, hk, rfl⟩ | ⟨y, a', b', c', rfl, N', rfl⟩
  · exact ⟨_, rfl, _, _, t, _, false, rfl, .own _, ty, hk, false, rfl, k⟩
  · obtain ⟨⟨dx, q, hx, hq⟩, _⟩ := id N
    obtain ⟨⟨dx', q', hx', hq'⟩, _⟩ := id N'
    refine ⟨_, rfl, _, _, _, _, true, rfl, .own _, tyO T.cl_Net T.ow_Net hx', T.ow_Net.ki, true, rfl, ?_⟩
    refine ⟨_, rfl, x, _, dx, _, _, rfl, hx, T.cl_Net, T.na_Net_own_numbers, rfl, ?_⟩
    refine ⟨_, rfl, y, _, dx', _, _, rfl, hx', T.cl_Net, T.na_Net_own_numbers, rfl, ?_⟩
    exact rEqT3 (SqT.of hq) (SqT.of hq') k
end
end K06
namespace K06
open PySem PySem.Spec PyProof.Rows L2 Z
section
variable {P : Program} {w : World} {K : Frg} {mg : Str → Option Value} {base : Heap}
theorem ok_Net_order (T : Tx K mg) : FnR P w K mg base (L2.CX P w) 7 (He.ma K (He.ga K "Net") "order") (spOrder K (He.ga K "Net")) := by
  refine zfn T.d_Net_order sc_Net_order len2 (fun _ _ _ _ _ _ us hl => match us, hl with | [_, _], _ => rfl) (fun cdv A outer s H vs Q E hr h => ?_)
  obtain ⟨_, _, rfl, F, x, a, b, c, pl, px, py, rfl, rfl, hs, N, hp, zx, zy, k⟩ := h
  refine ⟨_, PSs.nox (pss_cons (ps_expr (zcall (ok_check_place T) (hr.mono (by decide)) rfl T.g_check_place T.k_check_place passL (pa_cons (pv 1) pa_nil)))
  (pss_cons (ps_asg (pe_fld (pv 0) rfl) (pg_tup rfl (pgs_cons (pg_name (i := 2) sc_Net_order.nd rfl (by first | exact Or.inl rfl | exact Or.inr rfl)) (pgs_cons (pg_name (i := 3) sc_Net_order.nd rfl (by first | exact Or.inl rfl | exact Or.inr rfl)) (pgs_cons (pg_name (i := 4) sc_Net_order.nd rfl (by first | exact Or.inl rfl | exact Or.inr rfl)) pgs_nil)))))
  (pss_cons (ps_set (i := 5) sc_Net_order.nd rfl (by first | exact Or.inl rfl | exact Or.inr rfl) (pe_op op_fdivW (pv 4) (zcall (ok_greatest_divisor T) (hr.mono (by decide)) rfl T.g_greatest_divisor T.k_greatest_divisor passL (pa_cons (pv 4) (pa_cons (pe_ix ix_tup (pv 1) pe_int (fun _ _ => rfl)) pa_nil)))))
  (pss_cons (ps_set (i := 6) sc_Net_order.nd rfl (by first | exact Or.inl rfl | exact Or.inr rfl) (pe_op op_sub (pe_op op_mulW (pv 5) (pe_ix ix_tup (pv 1) pe_int (fun _ _ => rfl))) (pe_op op_mulW (pe_op op_fdivW (pe_op op_mulW (pv 5) (pe_ix ix_tup (pv 1) pe_int (fun _ _ => rfl))) (pv 4)) (pv 3))))
  (pss_one (ps_ret (pe_op op_mulW (pv 5) (pe_op op_fdivW (pv 2) (zcall (ok_greatest_divisor T) (hr.mono (by decide)) rfl T.g_greatest_divisor T.k_greatest_divisor passL (pa_cons (pv 2) (pa_cons (pv 6) pa_nil))))))))))), ?_⟩
  refine ⟨_, rfl, _, rfl, F, hs, placeQ hp, fun F1 H1 g1 => ?_⟩
  obtain ⟨⟨dx, q, hx, hq⟩, hc, hb, ba, sa, sc⟩ := id (N.mono (g1.ff.trans g1.fh))
  refine ⟨_, rfl, x, _, dx, _, _, rfl, hx, T.cl_Net, T.na_Net_own_numbers, rfl, ?_⟩
  have hqH : SqT K H1 q [.int a, .int b, .int c] := SqT.of hq
  have hpH : SqT K H1 pl [.int px, .int py] := sqT g1.fh (sqT g1.ff hp)
  have ha := N.ha
  have g0 : (0 : Int) < (Int.gcd c py : Int) := by
    have := Int.gcd_pos_of_ne_zero_left py (show c ≠ 0 by omega)
    omega
  have gle : ((Int.gcd c py : Nat) : Int) ≤ c := Int.gcd_le_left py (by omega)
  have c1 : CDivW c (Int.gcd c py : Int) := divOk g0 ((sz_le (by omega) gle sc).mono (by decide))
  have zr : Sz 1000 (MN.rowsZ c py) := sz_div _ sc
  have c2 : CMulW (MN.rowsZ c py) px := mulOk (zr.mono (by decide)) (zx.mono (by decide))
  have c3 : CMulW (MN.rowsZ c py) py := mulOk (zr.mono (by decide)) (zy.mono (by decide))
  have c4 : CDivW (MN.rowsZ c py * py) c := divOk (by omega) (sc.mono (by decide))
  have z5 : Sz 2000 (MN.rowsZ c py * py / c) := sz_div _ (sz_mul zr zy)
  have c5 : CMulW (MN.rowsZ c py * py / c) b := mulOk (z5.mono (by decide)) (N.sb.mono (by decide))
  walk_at "z"
  have h1 : (0 : Int) < (Int.gcd a (MN.rightZ b c px py) : Int) := by
    have := Int.gcd_pos_of_ne_zero_left (MN.rightZ b c px py) (show a ≠ 0 by omega)
    omega
  have hle : ((Int.gcd a (MN.rightZ b c px py) : Nat) : Int) ≤ a := Int.gcd_le_left _ ha
  have c6 : CDivW a (Int.gcd a (MN.rightZ b c px py) : Int) := divOk h1 ((sz_le (by omega) hle sa).mono (by decide))
  have c7 : CMulW (MN.rowsZ c py) (a / (Int.gcd a (MN.rightZ b c px py) : Int)) := mulOk (zr.mono (by decide)) ((sz_div _ sa).mono (by decide))
  exact ⟨c6, _, _, rfl, rfl, c7, k F1 H1 g1⟩
end
end K06
namespace K06
open PySem PySem.Spec PyProof.Rows L2 Z
section
variable {P : Program} {w : World} {K : Frg} {mg : Str → Option Value} {base : Heap}
theorem ok_Net_is_within (T : Tx K mg) : FnR P w K mg base (L2.CX P w) 7 (He.ma K (He.ga K "Net") "is_within") (spWithin (He.ga K "Net")) := by
  refine zfn T.d_Net_is_within sc_Net_is_within len2 (fun _ _ _ _ _ _ us hl => match us, hl with | [_, _], _ => rfl) (fun cdv A outer s H vs Q E hr h => ?_)
  obtain ⟨_, _, rfl, F, x, a, b, c, y, p, q, r, rfl, rfl, hs, N, N', k⟩ := h
  refine ⟨_, PSs.nox (pss_cons (ps_asg (zmeth0 (pv 0) T.cl_Net T.m_Net_spanning (ok_Net_spanning T) (hr.mono (by decide)) passL) (pg_lst rfl (pgs_cons (pg_name (i := 2) sc_Net_is_within.nd rfl (by first | exact Or.inl rfl | exact Or.inr rfl)) (pgs_cons (pg_name (i := 3) sc_Net_is_within.nd rfl (by first | exact Or.inl rfl | exact Or.inr rfl)) pgs_nil))))
  (pss_one (ps_ret (pe_and (pe_cmpR (op_inO (C := He.ga K "Net") T.m_Net_UcontainsU.at_ T.m_Net_UcontainsU.fn (ok_Net_UcontainsU T) (hr.mono (by decide)) passL) (pv 2) (pv 1) rfl) (pe_one (pe_cmpR (op_inO (C := He.ga K "Net") T.m_Net_UcontainsU.at_ T.m_Net_UcontainsU.fn (ok_Net_UcontainsU T) (hr.mono (by decide)) passL) (pv 3) (pv 1) rfl)))))), ?_⟩
  obtain ⟨⟨dx, qx, hx, _⟩, _⟩ := id (N.mono hs)
  refine ⟨_, rfl, x, dx, _, rfl, hx, rfl, _, rfl, F, x, a, b, c, rfl, hs, N, fun l p1 p2 F1 H1 g1 hl h1 h2 => ?_⟩
  have hlH : SqL K H1 l [.ref p1, .ref p2] := SqL.of (g1.fh _ _ hl)
  refine ⟨_, _, rfl, hlH, rfl, _, _, rfl, _, _, rfl, rfl, _, rfl, _, rfl, ?_⟩
  have N1 := N'.mono g1.ff
  obtain ⟨⟨dy, qy, hy, _⟩, _⟩ := id (N1.mono g1.fh)
  have z0 : Sz 2000 (0 : Int) := Sz.mono (a := 100) (Nat.le_of_ble_eq_true rfl) (by decide)
  refine ⟨_, dy, _, rfl, hy, _, _, rfl, F1, y, p, q, r, _, rfl, g1.fh, N1, .inr ⟨p1, a, 0, rfl, SqT.of h1, N.sa.mono (by decide), z0, rfl⟩, fun F2 H2 g2 => ⟨_, rfl, _, rfl, ?_⟩⟩
  cases e1 : decide (MN.low p q r a 0 = (0, 0)) with
  | false =>
    have k2 := k F2 H2 (g1.trans g2)
    rw [e1] at k2
    exact k2
  | true =>
    have N2 := N1.mono g2.ff
    obtain ⟨⟨dy, qy, hy, _⟩, _⟩ := id (N2.mono g2.fh)
    refine ⟨_, rfl, _, rfl, _, dy, _, rfl, hy, _, _, rfl, F2, y, p, q, r, _, rfl, g2.fh, N2, .inr ⟨p2, b, c, rfl, SqT.of (g2.ff _ _ h2), N.sb.mono (by decide), N.sc.mono (by decide), rfl⟩, fun F3 H3 g3 => ⟨_, rfl, ?_⟩⟩
    have k2 := k F3 H3 ((g1.trans g2).trans g3)
    rw [e1] at k2
    exact k2
end
end K06
namespace K06
open PySem PySem.Spec PyProof.Rows L2 Z
section
variable {P : Program} {w : World} {K : Frg} {mg : Str → Option Value} {base : Heap}
theorem ok_Net_scaled (T : Tx K mg) : FnR P w K mg base (L2.CX P w) 7 (He.ma K (He.ga K "Net") "scaled") (spScaled (He.ga K "Net")) := by
  refine zfn T.d_Net_scaled sc_Net_scaled len2 (fun _ _ _ _ _ _ us hl => match us, hl with | [_, _], _ => rfl) (fun cdv A outer s H vs Q E hr h => ?_)
  obtain ⟨_, _, rfl, F, x, a, b, c, f, rfl, rfl, hs, N, hf, s1, s2, s3, k⟩ := h
  refine ⟨_, PSs.nox (pss_cons (ps_expr (zcall (ok_check_number T) (hr.mono (by decide)) rfl T.g_check_number T.k_check_number passL (pa_cons (pv 1) (pa_cons pe_int (pa_cons pe_non pa_nil)))))
  (pss_cons (ps_asg (pe_fld (pv 0) rfl) (pg_tup rfl (pgs_cons (pg_name (i := 2) sc_Net_scaled.nd rfl (by first | exact Or.inl rfl | exact Or.inr rfl)) (pgs_cons (pg_name (i := 3) sc_Net_scaled.nd rfl (by first | exact Or.inl rfl | exact Or.inr rfl)) (pgs_cons (pg_name (i := 4) sc_Net_scaled.nd rfl (by first | exact Or.inl rfl | exact Or.inr rfl)) pgs_nil)))))
  (pss_one (ps_ret (zmake (mk_Net T) T.mk_Net (ok_Net_UinitU T) (hr.mono (by decide)) rfl T.g_Net passL (pa_cons (pe_op op_mulW (pv 2) (pv 1)) (pa_cons (pe_op op_mulW (pv 3) (pv 1)) (pa_cons (pe_op op_mulW (pv 4) (pv 1)) pa_nil)))))))), ?_⟩
  obtain ⟨⟨dx, q, hx, hq⟩, hc, hb, ba, sa, sc⟩ := id (N.mono hs)
  refine ⟨_, rfl, _, _, _, rfl, f, 1, none, rfl, rfl, rfl, hf, (fun m hm => (nomatch hm)), ?_⟩
  refine ⟨_, rfl, x, _, dx, _, _, rfl, hx, T.cl_Net, T.na_Net_own_numbers, rfl, ?_⟩
  have hqH : SqT K H q [.int a, .int b, .int c] := SqT.of hq
  have c1 : CMulW a f := mulOk (sa.mono (by decide)) (s3.mono (by decide))
  have c2 : CMulW b f := mulOk (N.sb.mono (by decide)) (s3.mono (by decide))
  have c3 : CMulW c f := mulOk (sc.mono (by decide)) (s3.mono (by decide))
  walk_at "z"
  refine ⟨_, _, _, rfl, F, _, _, _, rfl, rfl, rfl, hs, ?_, ?_, ?_, s1, s2, fun y F' H' g n => k y F' H' g n⟩
  · have := Int.mul_le_mul hc hf (by omega) (by omega)
    omega
  · exact Int.mul_nonneg hb (by omega)
  · exact Int.mul_lt_mul_of_pos_right ba (by omega)
end
end K06
namespace K06
open PySem PySem.Spec PyProof.Rows L2 Z
section
variable {P : Program} {w : World} {K : Frg} {mg : Str → Option Value} {base : Heap}
theorem ok__law_tape (T : Tx K mg) : FnR P w K mg base (L2.CX P w) 1 (He.ga K "_law_tape") (spTape K) := by
  refine zfn T.d__law_tape sc__law_tape len1 (fun _ _ _ _ _ _ us hl => match us, hl with | [_], _ => rfl) (fun cdv A outer s H vs Q E hr h => ?_)
  obtain ⟨_, rfl, F, s, ns, rfl, hs, hS, k⟩ := h
  refine ⟨_, PSs.nox (pss_one (ps_ret (pe_lstZ (pa_cons (pe_callTy call_listZ (by rfl) T.b_list (by decide +kernel) (pa_cons (pe_slice sl_listZ (pv 0) po_none (po_some pe_int)) pa_nil)) (pa_cons pe_int (pa_cons pe_int (pa_cons pe_int pa_nil))))))), ?_⟩
  have hSH := sqL hs hS
  refine ⟨_, rfl, _, rfl, _, _, rfl, hSH, ?_⟩
  intro p1 H1 hp1 e1
  obtain ⟨F1, g1, q1, r1⟩ := newE hs hp1 e1
  obtain ⟨ms, em⟩ := cut_ints ns none (some 63)
  rw [em] at q1 r1
  refine ⟨_, _, rfl, .inl (SqL.of r1), ?_⟩
  intro p2 H2 hp2 e2
  obtain ⟨F2, g2, q2, r2⟩ := newE g1.fh hp2 e2
  walk_at "z"
  intro p3 H3 hp3 e3
  obtain ⟨g3, f3, r3⟩ := newM g2.fh hp3 e3
  exact k p3 F2 H3 ((g1.trans g2).trans g3) ⟨f3, _, r3, p2, ms, 0, 0, 17, rfl, SqL.of q2, by decide, by decide, by decide, by decide⟩
end
end K06
namespace K06
open PySem PySem.Spec PyProof.Rows L2 Z
section
variable {P : Program} {w : World} {K : Frg} {mg : Str → Option Value} {base : Heap}
theorem ok__law_draw (T : Tx K mg) : FnR P w K mg base (L2.CX P w) 1 (He.ga K "_law_draw") (spDraw K) := by
  refine zfn T.d__law_draw sc__law_draw len2 (fun _ _ _ _ _ _ us hl => match us, hl with | [_, _], _ => rfl) (fun cdv A outer s H vs Q E hr h => ?_)
  obtain ⟨_, _, rfl, F, t, many, rfl, rfl, hs, ⟨ft, xs, ht, c, ns, i, b, r, rfl, hc, hi, hb, hr0, hr1⟩, hm0, hm1, k⟩ := h
  refine ⟨_, PSs.nox (pss_cons (ps_if (pt_cmpR op_gt (pe_ix ix_list (pv 0) pe_int (fun _ _ => rfl)) pe_int (nomark _))
    (pss_cons (ps_set (i := 2) sc__law_draw.nd rfl (by first | exact Or.inl rfl | exact Or.inr rfl) (pe_op op_mod (pe_ix ix_list (pv 0) pe_int (fun _ _ => rfl)) (pv 1)))
  (pss_cons (ps_asg (pe_op op_fdivW (pe_ix ix_list (pv 0) pe_int (fun _ _ => rfl)) (pv 1)) (pg_sub (pv 0) pe_int set_listZ))
  (pss_one (ps_ret (pv 2)))))
    pss_nil)
  (pss_cons (ps_set (i := 3) sc__law_draw.nd rfl (by first | exact Or.inl rfl | exact Or.inr rfl) pe_int)
  (zcut (ps_if (pt_cmpR op_lt (pe_ix ix_list (pv 0) pe_int (fun _ _ => rfl)) (pe_callB call_len_seq (by rfl) T.b_len (by decide +kernel) (pa_cons (pe_ix ix_list (pv 0) pe_int (fun _ _ => rfl)) pa_nil)) (nomark _))
    (pss_one (ps_set (i := 3) sc__law_draw.nd rfl (by first | exact Or.inl rfl | exact Or.inr rfl) (pe_ix ix_list (pe_ix ix_list (pv 0) pe_int (fun _ _ => rfl)) (pe_ix ix_list (pv 0) pe_int (fun _ _ => rfl)) (fun _ _ => rfl))))
    pss_nil)
  (pss_cons (ps_asg (pe_op op_add (pe_ix ix_list (pv 0) pe_int (fun _ _ => rfl)) pe_int) (pg_sub (pv 0) pe_int set_listZ))
  (pss_cons (ps_if (pt_cmpR op_ge (pv 3) (pe_op op_pow pe_int pe_int) (nomark _))
    (pss_cons (ps_asg (pe_op op_fdivW (pv 3) (pv 1)) (pg_sub (pv 0) pe_int set_listZ))
  (pss_one (ps_ret (pe_op op_mod (pv 3) (pv 1)))))
    pss_nil)
  (pss_cons (ps_set (i := 4) sc__law_draw.nd rfl (by first | exact Or.inl rfl | exact Or.inr rfl) (pe_op op_add (pe_op op_add (pe_op op_mod (pv 3) pe_int) (pe_op op_mul pe_int (pe_ix ix_list (pv 0) pe_int (fun _ _ => rfl)))) pe_int))
  (pss_cons (ps_asg (pe_op op_mod (pe_op op_add (pe_op op_mul (pe_ix ix_list (pv 0) pe_int (fun _ _ => rfl)) pe_int) (pv 4)) pe_int) (pg_sub (pv 0) pe_int set_listZ))
  (pss_one (ps_ret (pe_op op_mod (pe_op op_mod (pe_op op_pow (pe_ix ix_list (pv 0) pe_int (fun _ _ => rfl)) pe_int) pe_int) (pv 1))))))))))), ?_⟩
  have hT := SqL.of (K := K) ht
  walk_at "z"
  refine ite2 (fun hb0 => ?_) (fun hb0 => ?_)
  · walk_at "z"
    intro H1 e1
    obtain ⟨g1, q1⟩ := putM hs ft e1
    walk_at "z"
    have hb1 : (0 : Int) < b := of_decide_eq_true hb0
    exact k _ _ (Int.emod_nonneg _ (by omega)) (Int.emod_lt_of_pos _ hm0) g1 ⟨ft, _, q1, c, ns, i, b / many, r, rfl, hc, hi, Int.ediv_nonneg hb (by omega), hr0, hr1⟩
  · have hcH := sqL hs hc
    refine ⟨fun σ' H' => ∃ cell : Int, σ' = [some (.ref t), some (.int many), none, some (.int cell), none] ∧ H' = H, ?_, ?_⟩
    · walk_at "z"
      refine ite2 (fun hlt => ?_) (fun _ => ⟨0, rfl, rfl⟩)
      have hl : i < ((ns.map V.int).length : Int) := of_decide_eq_true hlt
      walk_at "z"
      obtain ⟨j, rfl⟩ := Int.eq_ofNat_of_zero_le hi
      have hj : j < ns.length := by simpa using hl
      refine ⟨_, _, _, _, rfl, rfl, hcH, atI_nat (by rw [List.getElem?_map, List.getElem?_eq_getElem hj]; rfl), _, rfl, rfl⟩
    · rintro σ' H' ⟨cell, rfl, rfl⟩
      walk_at "z"
      intro H1 e1
      obtain ⟨g1, q1⟩ := putM hs ft e1
      have hT1 : SqL K H1 t [V.ref c, V.int (i + 1), V.int b, V.int r] := SqL.of q1
      have hx1 : H1 t = some (.lst [V.ref c, V.int (i + 1), V.int b, V.int r]) := q1
      have hi1 : 0 ≤ i + 1 := by omega
      walk_at "z"
      refine ite2 (fun hge => ?_) (fun _ => ?_)
      · walk_at "z"
        intro H2 e2
        obtain ⟨g2, q2⟩ := putM g1.fh ft e2
        walk_at "z"
        have hc0 : (0 : Int) ≤ cell := by
          have := of_decide_eq_true hge
          have h3 : (10 : Int) ^ (Int.toNat 18) = 1000000000000000000 := by decide
          rw [h3] at this
          omega
        exact k _ _ (Int.emod_nonneg _ (by omega)) (Int.emod_lt_of_pos _ hm0) (g1.trans g2) ⟨ft, _, q2, c, ns, i + 1, cell / many, r, rfl, hc, hi1, Int.ediv_nonneg hc0 (by omega), hr0, hr1⟩
      · walk_at "z"
        intro H2 e2
        obtain ⟨g2, q2⟩ := putM g1.fh ft e2
        replace q2 : H2 t = some (.lst [V.ref c, V.int (i + 1), V.int b, V.int ((r * 48271 + (cell % 2147483647 + 7919 * (i + 1) + 11)) % 2147483647)]) := q2
        generalize hrr : (r * 48271 + (cell % 2147483647 + 7919 * (i + 1) + 11)) % 2147483647 = r2 at q2
        have hr2 : 0 ≤ r2 ∧ r2 < 2147483647 := by omega
        have hT2 : SqL K H2 t [V.ref c, V.int (i + 1), V.int b, V.int r2] := SqL.of q2
        walk_at "z"
        refine And.intro ⟨by decide, by decide, by have := hr2; omega⟩ ?_
        walk_at "z"
        exact k _ _ (Int.emod_nonneg _ (by omega)) (Int.emod_lt_of_pos _ hm0) (g1.trans g2) ⟨ft, _, q2, c, ns, i + 1, b, r2, rfl, hc, hi1, hb, hr2.1, hr2.2⟩
end
end K06
namespace K06
open PySem PySem.Spec PyProof.Rows L2 Z
section
variable {P : Program} {w : World} {K : Frg} {mg : Str → Option Value} {base : Heap}
theorem ok__law_great (T : Tx K mg) : FnR P w K mg base (L2.CX P w) 3 (He.ga K "_law_great") (spGreat K) := by
  refine zfn T.d__law_great sc__law_great len2 (fun _ _ _ _ _ _ us hl => match us, hl with | [_, _], _ => rfl) (fun cdv A outer s H vs Q E hr h => ?_)
  obtain ⟨_, _, rfl, F, t, size, rfl, rfl, hs, tp, hz, sz, k⟩ := h
  refine ⟨_, PSs.nox (pss_cons (ps_set (i := 2) sc__law_great.nd rfl (by first | exact Or.inl rfl | exact Or.inr rfl) (pe_op op_add (pe_op op_mulW (zcall (ok__law_draw T) (hr.mono (by decide)) rfl T.g__law_draw T.k__law_draw passL (pa_cons (pv 0) (pa_cons (pe_op op_pow pe_int pe_int) pa_nil))) (pe_op op_pow pe_int pe_int)) (pe_op op_mulW (zcall (ok__law_draw T) (hr.mono (by decide)) rfl T.g__law_draw T.k__law_draw passL (pa_cons (pv 0) (pa_cons (pe_op op_pow pe_int pe_int) pa_nil))) (pe_op op_pow pe_int pe_int))))
  (pss_cons (ps_set (i := 3) sc__law_great.nd rfl (by first | exact Or.inl rfl | exact Or.inr rfl) (pe_ix ix_list (pe_lstZ (pa_cons (zcall (ok__law_draw T) (hr.mono (by decide)) rfl T.g__law_draw T.k__law_draw passL (pa_cons (pv 0) (pa_cons pe_int pa_nil))) (pa_cons (zcall (ok__law_draw T) (hr.mono (by decide)) rfl T.g__law_draw T.k__law_draw passL (pa_cons (pv 0) (pa_cons pe_int pa_nil))) (pa_cons (pe_op op_mod (pe_op op_add (pv 2) (zcall (ok__law_draw T) (hr.mono (by decide)) rfl T.g__law_draw T.k__law_draw passL (pa_cons (pv 0) (pa_cons (pe_op op_pow pe_int pe_int) pa_nil)))) (pv 1)) pa_nil)))) (zcall (ok__law_draw T) (hr.mono (by decide)) rfl T.g__law_draw T.k__law_draw passL (pa_cons (pv 0) (pa_cons pe_int pa_nil))) (fun _ _ => rfl)))
  (pss_one (ps_ret (pe_op op_mulW (pv 3) (pe_ix ix_list (pe_lstZ (pa_cons pe_int (pa_cons (pe_un un_neg pe_int) pa_nil))) (zcall (ok__law_draw T) (hr.mono (by decide)) rfl T.g__law_draw T.k__law_draw passL (pa_cons (pv 0) (pa_cons pe_int pa_nil))) (fun _ _ => rfl))))))), ?_⟩
  have n9 : (10 : Int) ^ (Int.toNat 9) = 1000000000 := by decide
  have n18 : (10 : Int) ^ (Int.toNat 18) = 1000000000000000000 := by decide
  have c9 : Sz 100 ((10 : Int) ^ (Int.toNat 9)) := sz_lit (by decide)
  have c18 : Sz 100 ((10 : Int) ^ (Int.toNat 18)) := sz_lit (by decide)
  walk_at "z"
  refine ⟨F, t, _, rfl, rfl, hs, tp, by rw [n9]; decide, szLog (c9.mono (by decide)), fun d1 H1 a1 b1 g1 t1 => ?_⟩
  have z1 : Sz 100 d1 := sz_of (by omega) b1 c9
  have m1 : CMulW d1 ((10 : Int) ^ (Int.toNat 18)) := mulOk (z1.mono (by decide)) (c18.mono (by decide))
  walk_at "z"
  refine ⟨F, t, _, rfl, rfl, g1.fh, t1, by rw [n9]; decide, szLog (c9.mono (by decide)), fun d2 H2 a2 b2 g2 t2 => ?_⟩
  have z2 : Sz 100 d2 := sz_of (by omega) b2 c9
  have m2 : CMulW d2 ((10 : Int) ^ (Int.toNat 9)) := mulOk (z2.mono (by decide)) (c9.mono (by decide))
  walk_at "z"
  refine ⟨F, t, _, rfl, rfl, g2.fh, t2, by decide, by decide, fun d3 H3 a3 b3 g3 t3 => ?_⟩
  walk_at "z"
  refine ⟨F, t, _, rfl, rfl, g3.fh, t3, by decide, by decide, fun d4 H4 a4 b4 g4 t4 => ?_⟩
  walk_at "z"
  refine ⟨F, t, _, rfl, rfl, g4.fh, t4, by rw [n9]; decide, szLog (c9.mono (by decide)), fun d5 H5 a5 b5 g5 t5 => ?_⟩
  have hsz : 0 < size := by omega
  walk_at "z"
  have hv5 : 0 ≤ ((d1 * (10 : Int) ^ (Int.toNat 18) + d2 * (10 : Int) ^ (Int.toNat 9) + d5) % size) ∧ ((d1 * (10 : Int) ^ (Int.toNat 18) + d2 * (10 : Int) ^ (Int.toNat 9) + d5) % size) < size := ⟨Int.emod_nonneg _ (by omega), Int.emod_lt_of_pos _ hsz⟩
  intro p6 H6 hp6 e6
  obtain ⟨F6, g6, q6, r6⟩ := newE g5.fh hp6 e6
  have t6 := t5.go0 g6
  walk_at "z"
  refine ⟨F6, t, _, rfl, rfl, g6.fh, t6, by decide, by decide, fun d7 H7 a7 b7 g7 t7 => ?_⟩
  obtain ⟨v, ev, mv⟩ := atI_mem (xs := [V.int d3, V.int d4, V.int ((d1 * (10 : Int) ^ (Int.toNat 18) + d2 * (10 : Int) ^ (Int.toNat 9) + d5) % size)]) a7 b7
  have hv : ∃ n : Int, v = .int n ∧ 0 ≤ n ∧ n < size := by
    rcases List.mem_cons.mp mv with e | mv
    · exact ⟨d3, e, a3, by omega⟩
    rcases List.mem_cons.mp mv with e | mv
    · exact ⟨d4, e, a4, by omega⟩
    rcases List.mem_cons.mp mv with e | mv
    · exact ⟨_, e, hv5.1, hv5.2⟩
    cases mv
  obtain ⟨n, rfl, n0, n1⟩ := hv
  refine ⟨_, _, _, _, rfl, rfl, SqL.of (g7.fh _ _ q6), ev, ?_⟩
  walk_at "z"
  intro p8 H8 hp8 e8
  obtain ⟨F8, g8, q8, r8⟩ := newE g7.fh hp8 e8
  have t8 := t7.go0 g8
  walk_at "z"
  refine ⟨F8, t, _, rfl, rfl, g8.fh, t8, by decide, by decide, fun d9 H9 a9 b9 g9 t9 => ?_⟩
  obtain ⟨u, eu, mu⟩ := atI_mem (xs := [V.int 1, V.int (-1)]) a9 b9
  have hu : ∃ m : Int, u = .int m ∧ (m = 1 ∨ m = -1) := by
    rcases List.mem_cons.mp mu with e | mu
    · exact ⟨1, e, .inl rfl⟩
    rcases List.mem_cons.mp mu with e | mu
    · exact ⟨-1, e, .inr rfl⟩
    cases mu
  obtain ⟨m, rfl, hm⟩ := hu
  have sn : Sz 1000 n := sz_le n0 (Int.le_of_lt n1) sz
  have sm : Sz 100 m := by
    rcases hm with rfl | rfl
    · exact sz_lit (by decide)
    · exact sz_lit (by decide)
  refine ⟨_, _, _, _, rfl, rfl, SqL.of (g9.fh _ _ q8), eu, _, _, rfl, rfl, mulOk (sn.mono (by decide)) (sm.mono (by decide)), ?_⟩
  have gg : Go [t] F H F8 H9 := ((((((g1.trans g2).trans g3).trans g4).trans g5).trans g6.nil).trans g7).trans (g8.nil.trans g9)
  rcases hm with rfl | rfl
  · exact k _ F8 H9 (by show -size < n * 1; omega) (by show n * 1 < size; omega) gg t9
  · exact k _ F8 H9 (by show -size < n * -1; omega) (by show n * -1 < size; omega) gg t9
end
end K06
namespace K06
open PySem PySem.Spec PyProof.Rows L2 Z
section
variable {P : Program} {w : World} {K : Frg} {mg : Str → Option Value} {base : Heap}
theorem ok__law_place (T : Tx K mg) : FnR P w K mg base (L2.CX P w) 5 (He.ga K "_law_place") (spPlace K) := by
  refine zfn T.d__law_place sc__law_place len1 (fun _ _ _ _ _ _ us hl => match us, hl with | [_], _ => rfl) (fun cdv A outer s H vs Q E hr h => ?_)
  obtain ⟨_, rfl, F, t, rfl, hs, tp, k⟩ := h
  refine ⟨_, PSs.nox (pss_one (ps_ret (pe_tupZ (pa_cons (zcall (ok__law_great T) (hr.mono (by decide)) rfl T.g__law_great T.k__law_great passL (pa_cons (pv 0) (pa_cons (pe_op op_pow pe_int pe_int) pa_nil))) (pa_cons (zcall (ok__law_great T) (hr.mono (by decide)) rfl T.g__law_great T.k__law_great passL (pa_cons (pv 0) (pa_cons (pe_op op_pow pe_int pe_int) pa_nil))) pa_nil))))), ?_⟩
  have n26 : (10 : Int) ^ (Int.toNat 26) = 100000000000000000000000000 := by decide
  have c26 : Sz 100 ((10 : Int) ^ (Int.toNat 26)) := sz_lit (by decide)
  walk_at "z"
  refine ⟨F, t, _, rfl, rfl, hs, tp, by rw [n26]; decide, c26.mono (by decide), fun x F1 H1 x0 x1 g1 t1 => ?_⟩
  walk_at "z"
  refine ⟨F1, t, _, rfl, rfl, g1.fh, t1, by rw [n26]; decide, c26.mono (by decide), fun y F2 H2 y0 y1 g2 t2 => ?_⟩
  walk_at "z"
  intro p3 H3 hp3 e3
  obtain ⟨F3, g3, q3, r3⟩ := newE g2.fh hp3 e3
  exact k p3 x y F3 H3 ((g1.trans g2).trans g3.nil) (t2.go0 g3) q3 (sz_of x0 x1 c26) (sz_of y0 y1 c26)
end
end K06
namespace K06
open PySem PySem.Spec PyProof.Rows L2 Z
section
variable {P : Program} {w : World} {K : Frg} {mg : Str → Option Value} {base : Heap}
theorem ok__law_low (T : Tx K mg) : FnR P w K mg base (L2.CX P w) 1 (He.ga K "_law_low") (spLow K) := by
  refine zfn T.d__law_low sc__law_low len2 (fun _ _ _ _ _ _ us hl => match us, hl with | [_, _], _ => rfl) (fun cdv A outer s H vs Q E hr h => ?_)
  obtain ⟨_, _, rfl, F, nl, pl, a, b, c, px, py, rfl, rfl, hs, hn, hp, hc, hb, ba, sa, sc, zx, zy, k⟩ := h
  refine ⟨_, PSs.nox (pss_cons (ps_set (i := 2) sc__law_low.nd rfl (by first | exact Or.inl rfl | exact Or.inr rfl) (pe_op op_fdivW (pe_ix ix_tup (pv 1) pe_int (fun _ _ => rfl)) (pe_ix ix_tup (pv 0) pe_int (fun _ _ => rfl))))
  (pss_one (ps_ret (pe_tupZ (pa_cons (pe_op op_mod (pe_op op_sub (pe_ix ix_tup (pv 1) pe_int (fun _ _ => rfl)) (pe_op op_mulW (pv 2) (pe_ix ix_tup (pv 0) pe_int (fun _ _ => rfl)))) (pe_ix ix_tup (pv 0) pe_int (fun _ _ => rfl))) (pa_cons (pe_op op_sub (pe_ix ix_tup (pv 1) pe_int (fun _ _ => rfl)) (pe_op op_mulW (pv 2) (pe_ix ix_tup (pv 0) pe_int (fun _ _ => rfl)))) pa_nil)))))), ?_⟩
  have hnH := sqT hs hn
  have hpH := sqT hs hp
  have sb : Sz 1000 b := sz_le hb (Int.le_of_lt ba) sa
  have c1 : CDivW py c := divOk (by omega) (sc.mono (by decide))
  have c2 : CMulW (py / c) b := mulOk ((sz_div c zy).mono (by decide)) (sb.mono (by decide))
  have c3 : CMulW (py / c) c := mulOk ((sz_div c zy).mono (by decide)) (sc.mono (by decide))
  have ha : 0 < a := by omega
  walk_at "z"
  intro p1 H1 hp1 e1
  obtain ⟨F1, g1, q1, _⟩ := newE hs hp1 e1
  exact k p1 F1 H1 g1 q1
end
end K06
namespace K06
open PySem PySem.Spec PyProof.Rows L2 Z
section
variable {P : Program} {w : World} {K : Frg} {mg : Str → Option Value} {base : Heap}
theorem ok__law_net (T : Tx K mg) : FnR P w K mg base (L2.CX P w) 3 (He.ga K "_law_net") (spNet K) := by
  refine zfn T.d__law_net sc__law_net len2 (fun _ _ _ _ _ _ us hl => match us, hl with | [_, _], _ => rfl) (fun cdv A outer s H vs Q E hr h => ?_)
  obtain ⟨_, _, rfl, F, t, most, rfl, rfl, hs, tp, hm, sm, k⟩ := h
  refine ⟨_, PSs.nox (pss_cons (ps_set (i := 2) sc__law_net.nd rfl (by first | exact Or.inl rfl | exact Or.inr rfl) (pe_op op_add pe_int (zcall (ok__law_draw T) (hr.mono (by decide)) rfl T.g__law_draw T.k__law_draw passL (pa_cons (pv 0) (pa_cons (pv 1) pa_nil)))))
  (pss_one (ps_ret (pe_tupZ (pa_cons (pv 2) (pa_cons (zcall (ok__law_draw T) (hr.mono (by decide)) rfl T.g__law_draw T.k__law_draw passL (pa_cons (pv 0) (pa_cons (pv 2) pa_nil))) (pa_cons (pe_op op_add pe_int (zcall (ok__law_draw T) (hr.mono (by decide)) rfl T.g__law_draw T.k__law_draw passL (pa_cons (pv 0) (pa_cons (pe_op op_fdivW (pv 1) (pv 2)) pa_nil)))) pa_nil))))))), ?_⟩
  walk_at "z"
  refine ⟨F, t, _, rfl, rfl, hs, tp, hm, szLog (sm.mono (by decide)), fun d1 H1 a1 b1 g1 t1 => ?_⟩
  have z1 : Sz 1000 (1 + d1) := sz_le (by omega) (by omega) sm
  have w0 : 0 < 1 + d1 := by omega
  walk_at "z"
  refine ⟨F, t, _, rfl, rfl, g1.fh, t1, w0, szLog (z1.mono (by decide)), fun d2 H2 a2 b2 g2 t2 => ?_⟩
  have c1 : CDivW most (1 + d1) := divOk w0 (z1.mono (by decide))
  walk_at "z"
  have hq : 0 < most / (1 + d1) := Int.lt_of_lt_of_le (by decide) (Int.le_ediv_of_mul_le (a := 1) w0 (by omega))
  refine ⟨F, t, _, rfl, rfl, g2.fh, t2, hq, szLog ((sz_div _ sm).mono (by decide)), fun d3 H3 a3 b3 g3 t3 => ?_⟩
  walk_at "z"
  intro p4 H4 hp4 e4
  obtain ⟨F4, g4, q4, r4⟩ := newE g3.fh hp4 e4
  refine k p4 _ _ _ F4 H4 (((g1.trans g2).trans g3).trans g4.nil) (t3.go0 g4) q4 a2 b2 (by omega) ?_
  have h1 : (1 + d1) * (1 + d3) ≤ (1 + d1) * (most / (1 + d1)) := Int.mul_le_mul_of_nonneg_left (by omega) (by omega)
  have h2 := Int.mul_ediv_self_le (x := most) (k := 1 + d1) (by omega)
  omega
end
end K06
namespace K06
open PySem PySem.Spec PyProof.Rows L2 Z
section
variable {P : Program} {w : World} {K : Frg} {mg : Str → Option Value} {base : Heap}
theorem ok__law_steps (T : Tx K mg) : FnR P w K mg base (L2.CX P w) 3 (He.ga K "_law_steps") (spSteps K) := by
  refine zfn T.d__law_steps sc__law_steps len2 (fun _ _ _ _ _ _ us hl => match us, hl with | [_, _], _ => rfl) (fun cdv A outer s H vs Q E hr h => ?_)
  obtain ⟨_, _, rfl, F, nl, pl, a, b, c, px, py, rfl, rfl, hs, hn, hp, hc, hb, ba, sa, sc, zx, zy, k⟩ := h
  refine ⟨_, PSs.nox (pss_cons (ps_set (i := 2) sc__law_steps.nd rfl (by first | exact Or.inl rfl | exact Or.inr rfl) (zcall (ok__law_low T) (hr.mono (by decide)) rfl T.g__law_low T.k__law_low passL (pa_cons (pv 0) (pa_cons (pv 1) pa_nil))))
  (pss_cons (ps_par (i := 3) (j := 4) (by rfl) sc__law_steps.nd rfl rfl (by decide) rfl rfl (pa_cons (pv 2) (pa_cons pe_int pa_nil)) (by rfl))
  (pss_cons (ps_while PassesOwn.never (pt_cmpR (op_neD hr.units) (pv 3) (pe_tupZ (pa_cons pe_int (pa_cons pe_int pa_nil))) (nomark _))
    (pss_one (ps_par (i := 3) (j := 4) (by rfl) sc__law_steps.nd rfl rfl (by decide) rfl rfl (pa_cons (zcall (ok__law_low T) (hr.mono (by decide)) rfl T.g__law_low T.k__law_low passL (pa_cons (pv 0) (pa_cons (pe_tupZ (pa_cons (pe_op op_add (pe_ix ix_tup (pv 3) pe_int (fun _ _ => rfl)) (pe_ix ix_tup (pv 2) pe_int (fun _ _ => rfl))) (pa_cons (pe_op op_add (pe_ix ix_tup (pv 3) pe_int (fun _ _ => rfl)) (pe_ix ix_tup (pv 2) pe_int (fun _ _ => rfl))) pa_nil))) pa_nil))) (pa_cons (pe_op op_add (pv 4) pe_int) pa_nil)) (by rfl))))
  (pss_one (ps_ret (pv 4)))))), ?_⟩
  have ha : 0 < a := by omega
  have hc0 : 0 < c := by omega
  walk_at "z"
  refine ⟨F, nl, pl, a, b, c, px, py, rfl, rfl, hs, hn, hp, hc, hb, ba, sa, sc, zx, zy, fun lo F1 H1 g1 q1 => ?_⟩
  walk_at "z"
  have o0 : 0 < MN.orderZ a b c px py := MN.order_pos ha hc0
  refine ⟨fun m σ' H' => ∃ (F' : Hp) (h : Addr) (n : Int), σ' = [some (V.ref nl), some (V.ref pl), some (V.ref lo), some (V.ref h), some (V.int n)] ∧ Go [] F H F' H' ∧ F' lo = some (.tup [V.int (MN.low a b c px py).1, V.int (MN.low a b c px py).2]) ∧
    F' h = some (.tup [V.int (MN.low a b c (n * px) (n * py)).1, V.int (MN.low a b c (n * px) (n * py)).2]) ∧ 1 ≤ n ∧ n ≤ MN.orderZ a b c px py ∧ m = (MN.orderZ a b c px py - n).toNat, ⟨_, F1, lo, 1, rfl, g1, q1, by rw [Int.one_mul, Int.one_mul]; exact q1, by decide, by omega, rfl⟩, ?_⟩
  rintro m σ' H' ⟨F2, h, n, rfl, g2, ql, qh, n1, n2, rfl⟩
  walk_at "z"
  intro p3 H3 hp3 e3
  obtain ⟨F3, g3, q3, _⟩ := newE g2.fh hp3 e3
  refine rNeT2 (SqT.of (g3.fh _ _ (g3.ff _ _ qh))) (SqT.of (g3.fh _ _ q3)) ⟨_, rfl, ?_⟩
  have zz : decide ((MN.low a b c (n * px) (n * py)).1 = 0 ∧ (MN.low a b c (n * px) (n * py)).2 = 0) = decide (MN.orderZ a b c px py ∣ n) := by
    congr 1
    rw [← MN.order_iff ha hc0 n, ← MN.low_zero ha hc0]
    exact propext ⟨fun h => Prod.ext h.1 h.2, fun h => by rw [h]; exact ⟨rfl, rfl⟩⟩
  rw [zz]
  by_cases hd : MN.orderZ a b c px py ∣ n
  · rw [decide_eq_true hd]
    have e : n = MN.orderZ a b c px py := by
      have := Int.le_of_dvd (by omega) hd
      omega
    walk_at "z"
    show Q (.int n) H3
    rw [e]
    exact k F3 H3 (g2.trans g3)
  · rw [decide_eq_false hd]
    have hne : n ≠ MN.orderZ a b c px py := fun e => hd (by rw [e]; exact Int.dvd_refl _)
    refine ⟨fun σ2 H2 => ∃ (F' : Hp) (h : Addr), σ2 = [some (V.ref nl), some (V.ref pl), some (V.ref lo), some (V.ref h), some (V.int (n + 1))] ∧ Go [] F H F' H2 ∧ F' lo = some (.tup [V.int (MN.low a b c px py).1, V.int (MN.low a b c px py).2]) ∧
      F' h = some (.tup [V.int (MN.low a b c ((n + 1) * px) ((n + 1) * py)).1, V.int (MN.low a b c ((n + 1) * px) ((n + 1) * py)).2]), ?_, ?_⟩
    · rintro σ2 H2 ⟨F4, h4, rfl, g4, ql4, qh4⟩
      exact ⟨_, by omega, F4, h4, n + 1, rfl, g4, ql4, qh4, by omega, by omega, rfl⟩
    · have hT1 : SqT K H3 h [V.int (MN.low a b c (n * px) (n * py)).1, V.int (MN.low a b c (n * px) (n * py)).2] := SqT.of (g3.fh _ _ (g3.ff _ _ qh))
      have hT2 : SqT K H3 lo [V.int (MN.low a b c px py).1, V.int (MN.low a b c px py).2] := SqT.of (g3.fh _ _ (g3.ff _ _ ql))
      walk_at "z"
      intro p5 H5 hp5 e5
      obtain ⟨F5, g5, q5, _⟩ := newE g3.fh hp5 e5
      have r1 := MN.low_rng (b := b) (x := n * px) (y := n * py) ha hc0
      have r2 := MN.low_rng (b := b) (x := px) (y := py) ha hc0
      have s1 : Sz 1001 ((MN.low a b c (n * px) (n * py)).1 + (MN.low a b c px py).1) := sz_add (sz_le r1.1 (by omega) sa) (sz_le r2.1 (by omega) sa)
      have s2 : Sz 1001 ((MN.low a b c (n * px) (n * py)).2 + (MN.low a b c px py).2) := sz_add (sz_le r1.2.2.1 (by omega) sc) (sz_le r2.2.2.1 (by omega) sc)
      walk_at "z"
      refine ⟨F5, nl, p5, a, b, c, _, _, rfl, rfl, g5.fh, sqT ((g2.ff.trans g3.ff).trans g5.ff) hn, SqT.of q5, hc, hb, ba, sa, sc, s1.mono (by decide), s2.mono (by decide), fun r6 F6 H6 g6 q6 => ?_⟩
      walk_at "z"
      have el : MN.low a b c ((MN.low a b c (n * px) (n * py)).1 + (MN.low a b c px py).1) ((MN.low a b c (n * px) (n * py)).2 + (MN.low a b c px py).2) = MN.low a b c ((n + 1) * px) ((n + 1) * py) := by
        rw [MN.low_eq ha hc0]
        have i1 := MN.inN_neg (MN.inN_add (MN.low_in a b c (n * px) (n * py)) (MN.low_in a b c px py))
        have e1 : -(n * px - (MN.low a b c (n * px) (n * py)).1 + (px - (MN.low a b c px py).1)) = (MN.low a b c (n * px) (n * py)).1 + (MN.low a b c px py).1 - (n + 1) * px := by grind
        have e2 : -(n * py - (MN.low a b c (n * px) (n * py)).2 + (py - (MN.low a b c px py).2)) = (MN.low a b c (n * px) (n * py)).2 + (MN.low a b c px py).2 - (n + 1) * py := by grind
        rw [e1, e2] at i1
        exact i1
      rw [el] at q6
      exact ⟨F6, r6, rfl, ((g2.trans g3).trans g5).trans g6, g6.ff _ _ (g5.ff _ _ (g3.ff _ _ ql)), q6⟩
end
end K06
namespace K06
open PySem PySem.Spec PyProof.Rows L2 Z
section
variable {P : Program} {w : World} {K : Frg} {mg : Str → Option Value} {base : Heap}
local macro_rules | `(tactic| walk_at "y") => `(tactic| repeat (first | refine ⟨_, rfl, ?_⟩ | refine ⟨_, _, rfl, rfl, ?_⟩ | refine ⟨_, _, rfl, Or.inl (by walk_at "sq"), ?_⟩ | refine ⟨_, _, rfl, Or.inr (by walk_at "sq"), ?_⟩ | refine ⟨rfl, ?_⟩ | refine And.intro (by walk_at "c") ?_ | refine ⟨lenOk rfl, ?_⟩ | refine ⟨_, _, rfl, ?_⟩))
theorem ok_law (T : Tx K mg) : LawOk P w K mg 9 (He.ga K "law") "_law_script" (spLaw K) := by
  refine zlaw T.d_law sc_law len1 (fun _ _ _ _ _ _ us hl => match us, hl with | [_], _ => rfl) (fun base cdv A outer s H vs Q E hr h => ?_)
  obtain ⟨_, rfl, s, ns, rfl, hl, hS, k⟩ := h
  refine ⟨_, PSs.nox (pss_cons (ps_set (i := 1) sc_law.nd rfl (by first | exact Or.inl rfl | exact Or.inr rfl) (zcall (ok__law_tape T) (hr.mono (by decide)) rfl T.g__law_tape T.k__law_tape passL (pa_cons (pv 0) pa_nil)))
  (pss_cons (ps_for PassesOwn.never rfl (pi_range1 (by rfl) T.b_range (pa_cons pe_int pa_nil)) (pg_name (i := 2) sc_law.nd rfl (by first | exact Or.inl rfl | exact Or.inr rfl))
    (pss_cons (ps_set (i := 3) sc_law.nd rfl (by first | exact Or.inl rfl | exact Or.inr rfl) (zcall (ok__law_net T) (hr.mono (by decide)) rfl T.g__law_net T.k__law_net passL (pa_cons (pv 1) (pa_cons pe_int pa_nil))))
  (pss_cons (ps_set (i := 4) sc_law.nd rfl (by first | exact Or.inl rfl | exact Or.inr rfl) (zmake (mk_Net T) T.mk_Net (ok_Net_UinitU T) (hr.mono (by decide)) rfl T.g_Net passL (pa_cons (pe_ix ix_tup (pv 3) pe_int (fun _ _ => rfl)) (pa_cons (pe_ix ix_tup (pv 3) pe_int (fun _ _ => rfl)) (pa_cons (pe_ix ix_tup (pv 3) pe_int (fun _ _ => rfl)) pa_nil)))))
  (pss_cons (ps_for PassesOwn.never rfl (pi_list (pe_lstZ (pa_cons (zcall (ok__law_place T) (hr.mono (by decide)) rfl T.g__law_place T.k__law_place passL (pa_cons (pv 1) pa_nil)) (pa_cons (zcall (ok__law_place T) (hr.mono (by decide)) rfl T.g__law_place T.k__law_place passL (pa_cons (pv 1) pa_nil)) (pa_cons (pe_tupZ (pa_cons pe_int (pa_cons pe_int pa_nil))) (pa_cons (pe_tupZ (pa_cons pe_int (pa_cons pe_int pa_nil))) (pa_cons (pe_tupZ (pa_cons pe_int (pa_cons pe_int pa_nil))) pa_nil))))))) (pg_name (i := 5) sc_law.nd rfl (by first | exact Or.inl rfl | exact Or.inr rfl))
    (pss_cons (ps_set (i := 6) sc_law.nd rfl (by first | exact Or.inl rfl | exact Or.inr rfl) (zcall (ok__law_steps T) (hr.mono (by decide)) rfl T.g__law_steps T.k__law_steps passL (pa_cons (pv 3) (pa_cons (pv 5) pa_nil))))
  (pss_cons (ps_if (PW.pt (pw_or (pt_cmpR op_ne (pe_callB SkE.call_repr_int (by rfl) T.b_repr (by decide +kernel) (pa_cons (pe_methR (pv 4) T.cl_Net T.m_Net_order (ok_Net_order T) (hr.mono (by decide)) passL (pa_cons (pv 5) pa_nil)) pa_nil)) (pe_callB SkE.call_repr_int (by rfl) T.b_repr (by decide +kernel) (pa_cons (pv 6) pa_nil)) (nomark _)) (pw_or1 (pt_cmpR op_ne (pe_op op_mod (zprop (pv 4) T.cl_Net T.p_Net_size (ok_Net_size T) (hr.mono (by decide)) passL) (pv 6)) pe_int (nomark _)))))
    (pss_one (ps_ret pe_bl))
    pss_nil)
  (pss_cons (ps_if (pt_cmpR (op_notInO (C := He.ga K "Net") T.m_Net_UcontainsU.at_ T.m_Net_UcontainsU.fn (ok_Net_UcontainsU T) (hr.mono (by decide)) passL) (pe_tupZ (pa_cons (pe_op op_mulW (pe_ix ix_tup (pv 5) pe_int (fun _ _ => rfl)) (pv 6)) (pa_cons (pe_op op_mulW (pe_ix ix_tup (pv 5) pe_int (fun _ _ => rfl)) (pv 6)) pa_nil))) (pv 4) rfl)
    (pss_one (ps_ret pe_bl))
    pss_nil)
  (pss_one (ps_if (pt_cmpR op_ne (pe_methR (pv 4) T.cl_Net T.m_Net_order (ok_Net_order T) (hr.mono (by decide)) passL (pa_cons (pe_tupZ (pa_cons (pe_op op_sub pe_int (pe_ix ix_tup (pv 5) pe_int (fun _ _ => rfl))) (pa_cons (pe_op op_sub pe_int (pe_ix ix_tup (pv 5) pe_int (fun _ _ => rfl))) pa_nil))) pa_nil)) (pv 6) (nomark _))
    (pss_one (ps_ret pe_bl))
    pss_nil))))))
  (pss_cons (ps_set (i := 7) sc_law.nd rfl (by first | exact Or.inl rfl | exact Or.inr rfl) (pe_op op_add pe_int (pe_ix ix_list (pe_lstZ (pa_cons (zcall (ok__law_draw T) (hr.mono (by decide)) rfl T.g__law_draw T.k__law_draw passL (pa_cons (pv 1) (pa_cons pe_int pa_nil))) (pa_cons (pe_op op_mulW (zcall (ok__law_draw T) (hr.mono (by decide)) rfl T.g__law_draw T.k__law_draw passL (pa_cons (pv 1) (pa_cons (pe_op op_pow pe_int pe_int) pa_nil))) (pe_op op_pow pe_int pe_int)) pa_nil))) (zcall (ok__law_draw T) (hr.mono (by decide)) rfl T.g__law_draw T.k__law_draw passL (pa_cons (pv 1) (pa_cons pe_int pa_nil))) (fun _ _ => rfl))))
  (pss_cons (ps_set (i := 8) sc_law.nd rfl (by first | exact Or.inl rfl | exact Or.inr rfl) (pe_methR (pv 4) T.cl_Net T.m_Net_scaled (ok_Net_scaled T) (hr.mono (by decide)) passL (pa_cons (pv 7) pa_nil)))
  (pss_cons (ps_if (PW.pt (pw_or (pt_cmpR (op_neD hr.units) (zprop (pv 8) T.cl_Net T.p_Net_numbers (ok_Net_numbers T) (hr.mono (by decide)) passL) (pe_callTy call_tupleZ (by rfl) T.b_tuple (by decide +kernel) (pa_cons (pe_lcZ (pe_lc (own := [("_law_number", 9)]) (g := gName 9) rfl sc_law.nd (pi_tup (pv 3)) (blkOk_by (own := [("_law_number", 9)]) (N := N_law) (sc := defScope s_law) (by decide +kernel)) (fun _ _ _ _ _ => (pg_name (i := 9) sc_law.nd rfl (by first | exact Or.inl rfl | exact Or.inr rfl))) (fun _ _ _ _ _ => pts_nil) (fun _ _ _ _ _ => (pe_op op_mulW (pv 9) (pv 7))))) pa_nil)) (nomark _)) (pw_or1 (pt_not (pt_val (pe_methR (pv 8) T.cl_Net T.m_Net_is_within (ok_Net_is_within T) (hr.mono (by decide)) passL (pa_cons (pv 4) pa_nil)))))))
    (pss_one (ps_ret pe_bl))
    pss_nil)
  (pss_cons (ps_if (pt_cmpR op_ne (zprop (pv 8) T.cl_Net T.p_Net_size (ok_Net_size T) (hr.mono (by decide)) passL) (pe_op op_mulW (pe_op op_mulW (zprop (pv 4) T.cl_Net T.p_Net_size (ok_Net_size T) (hr.mono (by decide)) passL) (pv 7)) (pv 7)) (nomark _))
    (pss_one (ps_ret pe_bl))
    pss_nil)
  (zcut (ps_if (PW.pt (pw_and (pt_cmpR op_gt (pe_ix ix_tup (pv 3) pe_int (fun _ _ => rfl)) pe_int (nomark _)) (pw_and1 (pt_cmpR (op_inO (C := He.ga K "Net") T.m_Net_UcontainsU.at_ T.m_Net_UcontainsU.fn (ok_Net_UcontainsU T) (hr.mono (by decide)) passL) (pe_tupZ (pa_cons (pv 7) (pa_cons pe_int pa_nil))) (pv 8) rfl))))
    (pss_one (ps_ret pe_bl))
    pss_nil)
  (pss_one (ps_if (PW.pt (pw_or (pt_cmpR (op_neD hr.units) (zprop (pv 4) T.cl_Net T.p_Net_numbers (ok_Net_numbers T) (hr.mono (by decide)) passL) (pv 3) (nomark _)) (pw_or (pt_cmpR op_ne (pe_methR (pv 8) T.cl_Net T.m_Net_order (ok_Net_order T) (hr.mono (by decide)) passL (pa_cons (pe_tupZ (pa_cons (pe_ix ix_tup (pv 3) pe_int (fun _ _ => rfl)) (pa_cons pe_int pa_nil))) pa_nil)) (pv 7) (nomark _)) (pw_or1 (pt_cmpR (op_neO (C := He.ga K "Net") T.ow_Net.ne T.ow_Net.ob T.m_Net_UeqU.at_ T.m_Net_UeqU.fn (ok_Net_UeqU T) (hr.mono (by decide)) passL) (pe_methR (pv 4) T.cl_Net T.m_Net_scaled (ok_Net_scaled T) (hr.mono (by decide)) passL (pa_cons pe_int pa_nil)) (pv 4) (nomark _))))))
    (pss_one (ps_ret pe_bl))
    pss_nil)))))))))))
  (pss_one (ps_ret pe_bl)))), ?_⟩
  walk_at "z"
  refine ⟨H, s, ns, rfl, Same.refl _, hS, fun t F1 H1 g1 t1 => ?_⟩
  refine ⟨4, rfl, by decide, by decide, ?_⟩
  refine for_range (lo := 0) (n := 4) (fun i σ' H' => ∃ (F' : Hp) (o2 o3 o4 o5 o6 o7 o8 o9 : Option V), σ' = [some (V.ref s), some (V.ref t), o2, o3, o4, o5, o6, o7, o8, o9] ∧ Same F' H' ∧ Tape K F' H' t)
    ⟨F1, _, _, _, _, _, _, _, _, rfl, g1.fh, t1⟩ ?_ (fun σ' H' _ => k H')
  rintro i σ' H2 hi ⟨F2, o2, o3, o4, o5, o6, o7, o8, o9, rfl, hs2, t2⟩
  walk_at "z"
  refine ⟨F2, t, 40, rfl, rfl, hs2, t2, by decide, (sz_lit (n := 100) (by decide)).mono (by decide), fun pn a b c F3 H3 g3 t3 qn hb ba hc hm => ?_⟩
  have ha : 0 < a := by omega
  have hc0 : 0 < c := by omega
  have a40 : a ≤ 40 := by
    have := Int.mul_le_mul_of_nonneg_left hc (show 0 ≤ a by omega)
    omega
  have c40 : c ≤ 40 := by
    have := Int.mul_le_mul_of_nonneg_right (show 1 ≤ a by omega) (show 0 ≤ c by omega)
    omega
  have sa : Sz 100 a := sz_of (b := 41) (by omega) (by omega) (sz_lit (by decide))
  have sc : Sz 100 c := sz_of (b := 41) (by omega) (by omega) (sz_lit (by decide))
  walk_at "z"
  refine ⟨_, _, _, rfl, F3, a, b, c, rfl, rfl, rfl, g3.fh, hc, hb, ba, sa.mono (by decide), sc.mono (by decide), fun x F4 H4 g4 N4 => ?_⟩
  have t4 := t3.go0 g4
  walk_at "z"
  refine ⟨F4, t, rfl, g4.fh, t4, fun p5 x5 y5 F5 H5 g5 t5 q5 zx5 zy5 => ?_⟩
  walk_at "z"
  refine ⟨F5, t, rfl, g5.fh, t5, fun p6 x6 y6 F6 H6 g6 t6 q6 zx6 zy6 => ?_⟩
  walk_at "z"
  intro p7 H7 hp7 e7
  obtain ⟨F7, g7, q7, _⟩ := newE g6.fh hp7 e7
  walk_at "z"
  intro p8 H8 hp8 e8
  obtain ⟨F8, g8, q8, _⟩ := newE g7.fh hp8 e8
  walk_at "z"
  intro p9 H9 hp9 e9
  obtain ⟨F9, g9, q9, _⟩ := newE g8.fh hp9 e9
  walk_at "z"
  intro p10 H10 hp10 e10
  obtain ⟨F10, g10, q10, r10⟩ := newE g9.fh hp10 e10
  have g610 : Go [] F6 H6 F10 H10 := ((g7.trans g8).trans g9).trans g10
  have t10 := t6.go0 g610
  have N10 : NetIs (He.ga K "Net") F10 x a b c := N4.mono ((g5.ff.trans g6.ff).trans g610.ff)
  have qn10 : F10 pn = some (.tup [V.int a, V.int b, V.int c]) := g610.ff _ _ (g6.ff _ _ (g5.ff _ _ (g4.ff _ _ qn)))
  have all : ∀ v ∈ [V.ref p5, V.ref p6, V.ref p7, V.ref p8, V.ref p9], ∃ p u w, v = .ref p ∧ F10 p = some (.tup [V.int u, V.int w]) ∧ Sz 100 u ∧ Sz 100 w := by
    intro v hv
    have l0 : Sz 100 (0 : Int) := sz_lit (by decide)
    have l1 : Sz 100 (1 : Int) := sz_lit (by decide)
    rcases List.mem_cons.mp hv with rfl | hv
    · exact ⟨p5, x5, y5, rfl, g610.ff _ _ (g6.ff _ _ q5), zx5, zy5⟩
    rcases List.mem_cons.mp hv with rfl | hv
    · exact ⟨p6, x6, y6, rfl, g610.ff _ _ q6, zx6, zy6⟩
    rcases List.mem_cons.mp hv with rfl | hv
    · exact ⟨p7, 0, 0, rfl, g10.ff _ _ (g9.ff _ _ (g8.ff _ _ q7)), l0, l0⟩
    rcases List.mem_cons.mp hv with rfl | hv
    · exact ⟨p8, 1, 0, rfl, g10.ff _ _ (g9.ff _ _ q8), l1, l0⟩
    rcases List.mem_cons.mp hv with rfl | hv
    · exact ⟨p9, 0, 1, rfl, g10.ff _ _ q9, l0, l1⟩
    cases hv
  refine ⟨_, rfl, ⟨_, SqL.of r10⟩, ?_⟩
  refine for_list (K := K) (xs := [V.ref p5, V.ref p6, V.ref p7, V.ref p8, V.ref p9]) (fun j σ' H' => ∃ (F' : Hp) (o5 o6 : Option V), σ' = [some (V.ref s), some (V.ref t), some (V.int (0 + (i : Int))), some (V.ref pn), some (V.ref x), o5, o6, o7, o8, o9] ∧ Go [] F10 H10 F' H')
    ⟨F10, _, _, rfl, Go.refl g10.fh⟩ (fun i σ' H' _ ⟨F', _, _, _, g⟩ => SqL.of (g.fh _ _ (g.ff _ _ q10))) ?_ ?_
  · rintro j v σ' H11 hv ⟨F11, o5', o6', rfl, g11⟩
    obtain ⟨p, u, w, rfl, qp, zu, zw⟩ := all v (List.mem_of_getElem? hv)
    have N11 := N10.mono g11.ff
    have o0 : 0 < MN.orderZ a b c u w := MN.order_pos ha hc0
    have od : MN.orderZ a b c u w ∣ a * c := MN.order_dvd ha hc0
    have ol : MN.orderZ a b c u w ≤ 40 := Int.le_trans (Int.le_of_dvd (Int.mul_pos ha hc0) od) hm
    have so : Sz 100 (MN.orderZ a b c u w) := sz_of (b := 41) (by omega) (by omega) (sz_lit (by decide))
    have lo : (MN.orderZ a b c u w).natAbs.log2 < 1920 := Nat.lt_of_lt_of_le (PySem.Flt.log2_lt_of (by decide) so) (by decide)
    walk_at "y"
    refine ⟨F11, pn, p, a, b, c, u, w, rfl, rfl, g11.fh, SqT.of (g11.ff _ _ qn10), SqT.of (g11.ff _ _ qp), hc, hb, ba, sa.mono (by decide), sc.mono (by decide), zu.mono (by decide), zw.mono (by decide), fun F12 H12 g12 => ?_⟩
    have N12 := N11.mono g12.ff
    have qp12 : F12 p = some (.tup [V.int u, V.int w]) := g12.ff _ _ (g11.ff _ _ qp)
    obtain ⟨⟨dx, q, hx, _⟩, _⟩ := id (N12.mono g12.fh)
    walk_at "y"
    refine ⟨x, dx, _, rfl, hx, rfl, ?_⟩
    walk_at "y"
    refine ⟨F12, x, a, b, c, p, u, w, rfl, rfl, g12.fh, N12, SqT.of qp12, zu.mono (by decide), zw.mono (by decide), fun F13 H13 g13 => ?_⟩
    have N13 := N12.mono g13.ff
    have qp13 := g13.ff _ _ qp12
    obtain ⟨⟨dx, q, hx, _⟩, _⟩ := id (N13.mono g13.fh)
    walk_at "y"
    refine iteNS rfl ?_
    refine ⟨_, rfl, x, dx, _, rfl, hx, _, rfl, x, a, b, c, rfl, N13.mono g13.fh, ?_⟩
    walk_at "y"
    refine iteNS (by show V.int (a * c % MN.orderZ a b c u w) = V.int 0; rw [Int.emod_eq_zero_of_dvd od]) ?_
    have m1 : CMulW u (MN.orderZ a b c u w) := mulOk (zu.mono (by decide)) (so.mono (by decide))
    have m2 : CMulW w (MN.orderZ a b c u w) := mulOk (zw.mono (by decide)) (so.mono (by decide))
    have qpH : SqT K H13 p [V.int u, V.int w] := SqT.of (g13.fh _ _ qp13)
    walk_at "y"
    refine ⟨_, _, _, _, rfl, rfl, qpH, rfl, ?_⟩
    walk_at "y"
    refine ⟨_, _, _, _, rfl, rfl, qpH, rfl, ?_⟩
    walk_at "y"
    intro p14 H14 hp14 e14
    obtain ⟨F14, g14, q14, _⟩ := newE g13.fh hp14 e14
    have N14 := N13.mono g14.ff
    obtain ⟨⟨dx, q, hx, _⟩, _⟩ := id (N14.mono g14.fh)
    have i1 : MN.low a b c (u * MN.orderZ a b c u w) (w * MN.orderZ a b c u w) = (0, 0) := by
      rw [MN.low_zero ha hc0, Int.mul_comm u, Int.mul_comm w, MN.order_iff ha hc0]
      exact Int.dvd_refl _
    walk_at "y"
    refine ⟨x, dx, _, rfl, hx, _, _, rfl, F14, x, a, b, c, true, rfl, g14.fh, N14, .inr ⟨p14, _, _, rfl, SqT.of q14, (sz_mul zu so).mono (by decide), (sz_mul zw so).mono (by decide), (decide_eq_true i1).symm⟩, fun F15 H15 g15 => ⟨true, rfl, ?_⟩⟩
    have N15 := N14.mono g15.ff
    have qp15 := g15.ff _ _ (g14.ff _ _ qp13)
    obtain ⟨⟨dx, q, hx, _⟩, _⟩ := id (N15.mono g15.fh)
    have qpH5 : SqT K H15 p [V.int u, V.int w] := SqT.of (g15.fh _ _ qp15)
    walk_at "y"
    refine ⟨x, dx, _, rfl, hx, rfl, ?_⟩
    walk_at "y"
    refine ⟨_, _, _, _, rfl, rfl, qpH5, rfl, ?_⟩
    walk_at "y"
    refine ⟨_, _, _, _, rfl, rfl, qpH5, rfl, ?_⟩
    walk_at "y"
    intro p16 H16 hp16 e16
    obtain ⟨F16, g16, q16, _⟩ := newE g15.fh hp16 e16
    have z0 : Sz 100 (0 : Int) := sz_lit (by decide)
    walk_at "y"
    refine ⟨F16, x, a, b, c, p16, 0 - u, 0 - w, rfl, rfl, g16.fh, N15.mono g16.ff, SqT.of q16, (sz_sub z0 zu).mono (by decide), (sz_sub z0 zw).mono (by decide), fun F17 H17 g17 => ?_⟩
    have en : MN.orderZ a b c (0 - u) (0 - w) = MN.orderZ a b c u w := by
      rw [show (0 : Int) - u = -u by omega, show (0 : Int) - w = -w by omega]
      exact MN.order_neg ha hc0
    rw [en]
    walk_at "y"
    refine iteNS rfl ?_
    exact ⟨F17, _, _, rfl, (((((g11.trans g12).trans g13).trans g14).trans g15).trans g16).trans g17⟩
  · rintro σ' H11 ⟨F11, o5', o6', rfl, g11⟩
    have t11 := t10.go0 g11
    have N11 := N10.mono g11.ff
    have qn11 := g11.ff _ _ qn10
    have n9 : (10 : Int) ^ (Int.toNat 9) = 1000000000 := by decide
    have n11 : (10 : Int) ^ (Int.toNat 11) = 100000000000 := by decide
    have c9 : Sz 100 ((10 : Int) ^ (Int.toNat 9)) := sz_lit (by decide)
    have c11 : Sz 100 ((10 : Int) ^ (Int.toNat 11)) := sz_lit (by decide)
    walk_at "y"
    refine ⟨F11, t, 5, rfl, rfl, g11.fh, t11, by decide, by decide, fun d1 H12 a1 b1 g12 t12 => ?_⟩
    walk_at "y"
    refine ⟨F11, t, _, rfl, rfl, g12.fh, t12, by rw [n9]; decide, szLog (c9.mono (by decide)), fun d2 H13 a2 b2 g13 t13 => ?_⟩
    have m1 : CMulW d2 ((10 : Int) ^ (Int.toNat 11)) := mulOk ((sz_of (by omega) b2 c9).mono (by decide)) (c11.mono (by decide))
    walk_at "y"
    intro p14 H14 hp14 e14
    obtain ⟨F14, g14, q14, _⟩ := newE g13.fh hp14 e14
    have t14 := t13.go0 g14
    walk_at "y"
    refine ⟨F14, t, 2, rfl, rfl, g14.fh, t14, by decide, by decide, fun d3 H15 a3 b3 g15 t15 => ?_⟩
    obtain ⟨v, ev, mv⟩ := atI_mem (xs := [V.int d1, V.int (d2 * (10 : Int) ^ (Int.toNat 11))]) a3 b3
    have hv : ∃ n : Int, v = .int n ∧ 0 ≤ n ∧ n < 1000000000000000000000 := by
      rcases List.mem_cons.mp mv with e | mv
      · exact ⟨d1, e, a1, by omega⟩
      rcases List.mem_cons.mp mv with e | mv
      · refine ⟨_, e, ?_, ?_⟩
        · rw [n11]; omega
        · rw [n11]; rw [n9] at b2; omega
      cases mv
    obtain ⟨n, rfl, n0, nb⟩ := hv
    refine ⟨_, _, _, _, rfl, rfl, SqL.of (g15.fh _ _ q14), ev, ?_⟩
    obtain ⟨f, hf⟩ : ∃ f, f = 1 + n := ⟨_, rfl⟩
    have f1 : 1 ≤ f := by omega
    have sf : Sz 100 f := sz_of (b := 10000000000000000000000) (by omega) (by omega) (sz_lit (by decide))
    have N15 := N11.mono g14.ff
    have qn15 := g14.ff _ _ qn11
    obtain ⟨⟨dx, q, hx, _⟩, _⟩ := id (N15.mono g15.fh)
    walk_at "y"
    have ef : (fun i j : Int => V.int (i + j)) 1 n = V.int f := by rw [hf]
    simp only [ef]
    refine ⟨x, dx, _, rfl, hx, rfl, ?_⟩
    walk_at "y"
    refine ⟨F14, x, a, b, c, f, rfl, rfl, g15.fh, N15, f1, (sz_mul sa sf).mono (by decide), (sz_mul sc sf).mono (by decide), sf.mono (by decide), fun y F16 H16 g16 M16 => ?_⟩
    have N16 := N15.mono g16.ff
    have qn16 := g16.ff _ _ qn15
    obtain ⟨⟨dy, qy, hy, hqy⟩, _⟩ := id (M16.mono g16.fh)
    have fa : 0 < a * f := Int.mul_pos ha (by omega)
    have fc : 0 < c * f := Int.mul_pos hc0 (by omega)
    walk_at "y"
    refine ⟨y, dy, _, rfl, hy, _, rfl, F16, y, _, _, _, rfl, g16.fh, M16, fun qq hqq => ?_⟩
    have qnH : SqT K H16 pn [V.int a, V.int b, V.int c] := SqT.of (g16.fh _ _ qn16)
    refine ⟨_, rfl, _, rfl, ⟨_, qnH⟩, ?_⟩
    refine lc_go (walk_tup (K := K)) g16.fh (fun _ h => nomatch h) (ms := []) (fun _ _ => True) trivial (fun _ _ _ _ _ _ _ _ => trivial) (fun F1 H1 g _ => SqT.of (g.fh _ _ (g.ff _ _ qn16))) (fun i acc F1 => acc = ([a * f, b * f, c * f].take i).map V.int) rfl (fun _ _ _ _ _ h => h) (by show 3 ≤ 100000; decide) ?_ ?_
    · rintro i y acc F1 H1 H1' hi hl rfl g1 _ ⟨rfl, hxi⟩ Kp Sk kp sk
      have sb : Sz 100 b := sz_le hb (Int.le_of_lt ba) sa
      refine ⟨rfl, ?_⟩
      refine ⟨_, rfl, ?_⟩
      match i, hi, hxi with
      | 0, _, e =>
        cases e
        exact ⟨_, rfl, _, _, rfl, rfl, mulOk (sa.mono (by decide)) (sf.mono (by decide)), kp _ F1 _ (Go.refl g1.fh) trivial rfl⟩
      | 1, _, e =>
        cases e
        exact ⟨_, rfl, _, _, rfl, rfl, mulOk (sb.mono (by decide)) (sf.mono (by decide)), kp _ F1 _ (Go.refl g1.fh) trivial rfl⟩
      | 2, _, e =>
        cases e
        exact ⟨_, rfl, _, _, rfl, rfl, mulOk (sc.mono (by decide)) (sf.mono (by decide)), kp _ F1 _ (Go.refl g1.fh) trivial rfl⟩
      | i + 3, h, _ => exact absurd h (by show ¬ i + 3 < 3; omega)
    · rintro D ys F17 H17 g17 _ hD _ rfl
      refine ⟨_, _, rfl, SqL.of (g17.fh _ _ hD), ?_⟩
      intro p18 H18 hp18 e18
      obtain ⟨F18, g18, q18, r18⟩ := newE g17.fh hp18 e18
      have M18 := (M16.mono g17.ff).mono g18.ff
      have N18 := (N16.mono g17.ff).mono g18.ff
      have qn18 := g18.ff _ _ (g17.ff _ _ qn16)
      have q17 := g18.ff _ _ (g17.ff _ _ hqq)
      refine rNeT3 (SqT.of (g18.fh _ _ q17)) (SqT.of r18) ⟨_, rfl, ?_⟩
      refine iteNS ⟨rfl, rfl, rfl⟩ ?_
      obtain ⟨⟨dy, qy, hy, _⟩, _⟩ := id (M18.mono g18.fh)
      walk_at "y"
      refine ⟨y, dy, _, rfl, hy, rfl, ?_⟩
      walk_at "y"
      have w1 : decide (MN.low a b c (a * f) 0 = (0, 0)) = true := decide_eq_true ((MN.low_zero ha hc0).mpr ⟨f, 0, by grind, by grind⟩)
      have w2 : decide (MN.low a b c (b * f) (c * f) = (0, 0)) = true := decide_eq_true ((MN.low_zero ha hc0).mpr ⟨0, f, by grind, by grind⟩)
      refine ⟨F18, y, _, _, _, x, a, b, c, rfl, rfl, g18.fh, M18, N18, fun F19 H19 g19 => ?_⟩
      rw [w1, w2]
      refine ⟨true, rfl, ?_⟩
      have M19 := M18.mono g19.ff
      have N19 := N18.mono g19.ff
      have qn19 := g19.ff _ _ qn18
      obtain ⟨⟨dy, qy, hy, _⟩, _⟩ := id (M19.mono g19.fh)
      obtain ⟨⟨dx, qx, hx, _⟩, _⟩ := id (N19.mono g19.fh)
      walk_at "y"
      refine ⟨y, dy, _, rfl, hy, _, rfl, y, _, _, _, rfl, M19.mono g19.fh, ?_⟩
      walk_at "y"
      refine ⟨x, dx, _, rfl, hx, _, rfl, x, _, _, _, rfl, N19.mono g19.fh, ?_⟩
      have m3 : CMulW (a * c) f := mulOk ((sz_mul sa sc).mono (by decide)) (sf.mono (by decide))
      have m4 : CMulW (a * c * f) f := mulOk ((sz_mul (sz_mul sa sc) sf).mono (by decide)) (sf.mono (by decide))
      walk_at "y"
      refine iteNS (by show V.int (a * f * (c * f)) = V.int (a * c * f * f); exact congrArg V.int (by grind)) ?_
      have qnH9 : SqT K H19 pn [V.int a, V.int b, V.int c] := SqT.of (g19.fh _ _ qn19)
      have z0 : Sz 100 (0 : Int) := sz_lit (by decide)
      have t19 := (((t15.go0 g16).go0 g17).go0 g18).go0 g19
      refine ⟨fun σ' H' => σ' = [some (V.ref s), some (V.ref t), some (V.int (0 + (i : Int))), some (V.ref pn), some (V.ref x), o5', o6', some (V.int f), some (V.ref y), o9] ∧ ∃ F', Go [] F19 H19 F' H', ?_, ?_⟩
      · refine ⟨_, rfl, _, _, _, _, rfl, rfl, qnH9, rfl, ?_⟩
        walk_at "y"
        refine ite2 (fun h => ?_) (fun h => ?_)
        · walk_at "y"
          intro p20 H20 hp20 e20
          obtain ⟨F20, g20, q20, _⟩ := newE g19.fh hp20 e20
          have M20 := M19.mono g20.ff
          obtain ⟨⟨dy, qy, hy, _⟩, _⟩ := id (M20.mono g20.fh)
          have ni : ¬ MN.low (a * f) (b * f) (c * f) f 0 = (0, 0) := fun e => MN.scaled_in ha hc0 (by omega) (of_decide_eq_true h) ((MN.low_zero fa fc).mp e)
          refine ⟨_, rfl, y, dy, _, rfl, hy, _, _, rfl, F20, y, _, _, _, false, rfl, g20.fh, M20, .inr ⟨p20, _, _, rfl, SqT.of q20, sf.mono (by decide), z0.mono (by decide), (decide_eq_false ni).symm⟩, fun F21 H21 g21 => ⟨false, rfl, _, rfl, ?_⟩⟩
          exact iteF ⟨rfl, F21, g20.trans g21⟩
        · exact iteF ⟨rfl, F19, Go.refl g19.fh⟩
      · rintro _ H20 ⟨rfl, F20, g20⟩
        have M20 := M19.mono g20.ff
        have N20 := N19.mono g20.ff
        have t20 := t19.go0 g20
        have qn20 := g20.ff _ _ qn19
        obtain ⟨⟨dx, qx, hx, _⟩, _⟩ := id (N20.mono g20.fh)
        obtain ⟨⟨dy, qy, hy, _⟩, _⟩ := id (M20.mono g20.fh)
        have qnH20 : SqT K H20 pn [V.int a, V.int b, V.int c] := SqT.of (g20.fh _ _ qn20)
        refine ⟨_, rfl, x, dx, _, rfl, hx, _, rfl, F20, x, a, b, c, rfl, g20.fh, N20, fun q2 hq2 => ⟨_, rfl, ?_⟩⟩
        refine rNeT3 (SqT.of (g20.fh _ _ hq2)) qnH20 ⟨_, rfl, iteNS ⟨rfl, rfl, rfl⟩ ?_⟩
        refine ⟨_, rfl, y, dy, _, rfl, hy, rfl, ?_⟩
        refine ⟨_, rfl, _, _, _, _, rfl, rfl, qnH20, rfl, ?_⟩
        walk_at "y"
        intro p21 H21 hp21 e21
        obtain ⟨F21, g21, q21, _⟩ := newE g20.fh hp21 e21
        walk_at "y"
        refine ⟨F21, y, _, _, _, p21, a, 0, rfl, rfl, g21.fh, M20.mono g21.ff, SqT.of q21, sa.mono (by decide), z0.mono (by decide), fun F22 H22 g22 => ?_⟩
        rw [MN.scaled_order ha hc0 (by omega)]
        have N22 := (N20.mono g21.ff).mono g22.ff
        obtain ⟨⟨dx, qx, hx, _⟩, _⟩ := id (N22.mono g22.fh)
        have o1 : Sz 100 (1 : Int) := sz_lit (by decide)
        walk_at "y"
        refine iteNS rfl ?_
        refine ⟨_, rfl, x, dx, _, rfl, hx, rfl, ?_⟩
        walk_at "y"
        refine ⟨F22, x, a, b, c, 1, rfl, rfl, g22.fh, N22, by decide, (sz_mul sa o1).mono (by decide), (sz_mul sc o1).mono (by decide), o1.mono (by decide), fun z F23 H23 g23 Z23 => ?_⟩
        have N23 := N22.mono g23.ff
        have t23 := ((t20.go0 g21).go0 g22).go0 g23
        obtain ⟨⟨dx, qx, hx, _⟩, _⟩ := id (N23.mono g23.fh)
        obtain ⟨⟨dz, qz, hz, _⟩, _⟩ := id (Z23.mono g23.fh)
        refine ⟨_, rfl, z, dz, _, _, rfl, hz, tyO T.cl_Net T.ow_Net hx, by simp [PySem.W.notFirst], _, _, rfl, z, _, _, _, true, rfl, Z23.mono g23.fh, .inr ⟨x, a, b, c, rfl, N23.mono g23.fh, (decide_eq_true ⟨by omega, by omega, by omega⟩).symm⟩, true, rfl, _, rfl, ?_⟩
        exact iteF ⟨F23, _, _, _, _, _, _, _, _, rfl, g23.fh, t23⟩
end
end K06
namespace K06
open PySem PySem.Spec PyProof.Rows L2 Z
def fs : List (Frg → Bool) := [bFree "abs", bFree "all", bFree "bool", bFree "int", bFree "isinstance", bFree "len", bFree "list", bFree "range", bFree "repr", bFree "tuple", bCls "Net", bGlo "Net", bGlo "_law_draw", bGlo "_law_great", bGlo "_law_low", bGlo "_law_net", bGlo "_law_place", bGlo "_law_steps", bGlo "_law_tape", bGlo "are_numbers", bGlo "check_number", bGlo "check_place", bGlo "greatest_divisor", bGlo "is_integer", bGlo "is_place", bGlo "law", bKeep "_law_draw", bKeep "_law_great", bKeep "_law_low", bKeep "_law_net", bKeep "_law_place", bKeep "_law_steps", bKeep "_law_tape", bKeep "are_numbers", bKeep "check_number", bKeep "check_place", bKeep "greatest_divisor", bKeep "is_integer", bKeep "is_place", bMeth "Net" "__contains__", bMeth "Net" "__eq__", bMeth "Net" "is_within", bMeth "Net" "order", bMeth "Net" "place_in_cell", bMeth "Net" "scaled", bMeth "Net" "spanning", bMk "Net", bNo "Net" "own_numbers", bOwn "Net", bProp "Net" "numbers", bProp "Net" "size"]
def fn : List He5.DefA := [⟨fun K => (He.ga K "is_integer"), "is_integer", "is_integer", defArgs s_is_integer, defBody s_is_integer, defScope s_is_integer, [], []⟩, ⟨fun K => (He.ga K "is_place"), "is_place", "is_place", defArgs s_is_place, defBody s_is_place, defScope s_is_place, [], []⟩, ⟨fun K => (He.ga K "check_place"), "check_place", "check_place", defArgs s_check_place, defBody s_check_place, defScope s_check_place, [], []⟩, ⟨fun K => (He.ga K "check_number"), "check_number", "check_number", defArgs s_check_number, defBody s_check_number, defScope s_check_number, [], []⟩, ⟨fun K => (He.ga K "greatest_divisor"), "greatest_divisor", "greatest_divisor", defArgs s_greatest_divisor, defBody s_greatest_divisor, defScope s_greatest_divisor, [], []⟩, ⟨fun K => (He.ga K "are_numbers"), "are_numbers", "are_numbers", defArgs s_are_numbers, defBody s_are_numbers, defScope s_are_numbers, [], []⟩, ⟨fun K => (He.ma K (He.ga K "Net") "__init__"), "__init__", "Net.__init__", defArgs s_Net_UinitU, defBody s_Net_UinitU, defScope s_Net_UinitU, [], []⟩, ⟨fun K => (He5.wf K (He.ga K "Net") "property" "numbers"), "numbers", "Net.numbers", defArgs s_Net_numbers, defBody s_Net_numbers, defScope s_Net_numbers, [], []⟩, ⟨fun K => (He5.wf K (He.ga K "Net") "property" "size"), "size", "Net.size", defArgs s_Net_size, defBody s_Net_size, defScope s_Net_size, [], []⟩, ⟨fun K => (He.ma K (He.ga K "Net") "spanning"), "spanning", "Net.spanning", defArgs s_Net_spanning, defBody s_Net_spanning, defScope s_Net_spanning, [], []⟩, ⟨fun K => (He.ma K (He.ga K "Net") "place_in_cell"), "place_in_cell", "Net.place_in_cell", defArgs s_Net_place_in_cell, defBody s_Net_place_in_cell, defScope s_Net_place_in_cell, [], []⟩, ⟨fun K => (He.ma K (He.ga K "Net") "__contains__"), "__contains__", "Net.__contains__", defArgs s_Net_UcontainsU, defBody s_Net_UcontainsU, defScope s_Net_UcontainsU, [], []⟩, ⟨fun K => (He.ma K (He.ga K "Net") "__eq__"), "__eq__", "Net.__eq__", defArgs s_Net_UeqU, defBody s_Net_UeqU, defScope s_Net_UeqU, [], []⟩, ⟨fun K => (He.ma K (He.ga K "Net") "order"), "order", "Net.order", defArgs s_Net_order, defBody s_Net_order, defScope s_Net_order, [], []⟩, ⟨fun K => (He.ma K (He.ga K "Net") "is_within"), "is_within", "Net.is_within", defArgs s_Net_is_within, defBody s_Net_is_within, defScope s_Net_is_within, [], []⟩, ⟨fun K => (He.ma K (He.ga K "Net") "scaled"), "scaled", "Net.scaled", defArgs s_Net_scaled, defBody s_Net_scaled, defScope s_Net_scaled, [], []⟩, ⟨fun K => (He.ga K "_law_tape"), "_law_tape", "_law_tape", defArgs s__law_tape, defBody s__law_tape, defScope s__law_tape, [], []⟩, ⟨fun K => (He.ga K "_law_draw"), "_law_draw", "_law_draw", defArgs s__law_draw, defBody s__law_draw, defScope s__law_draw, [], []⟩, ⟨fun K => (He.ga K "_law_great"), "_law_great", "_law_great", defArgs s__law_great, defBody s__law_great, defScope s__law_great, [], []⟩, ⟨fun K => (He.ga K "_law_place"), "_law_place", "_law_place", defArgs s__law_place, defBody s__law_place, defScope s__law_place, [], []⟩, ⟨fun K => (He.ga K "_law_low"), "_law_low", "_law_low", defArgs s__law_low, defBody s__law_low, defScope s__law_low, [], []⟩, ⟨fun K => (He.ga K "_law_net"), "_law_net", "_law_net", defArgs s__law_net, defBody s__law_net, defScope s__law_net, [], []⟩, ⟨fun K => (He.ga K "_law_steps"), "_law_steps", "_law_steps", defArgs s__law_steps, defBody s__law_steps, defScope s__law_steps, [], []⟩, ⟨fun K => (He.ga K "law"), "law", "law", defArgs s_law, defBody s_law, defScope s_law, [], []⟩]
def ask : Ask := ⟨fs, fn, [], []⟩
theorem tx_of {w : World} {h : Heap} {K : Frg} {mg : Str → Option Value} (X : K.In h) (G : h.Ns mainGlobals mg) (c : Says ask w h K) : Tx K mg where
  b_abs := free_of X G (c.at 0)
  b_all := free_of X G (c.at 1)
  b_bool := free_of X G (c.at 2)
  b_int := free_of X G (c.at 3)
  b_isinstance := free_of X G (c.at 4)
  b_len := free_of X G (c.at 5)
  b_list := free_of X G (c.at 6)
  b_range := free_of X G (c.at 7)
  b_repr := free_of X G (c.at 8)
  b_tuple := free_of X G (c.at 9)
  cl_Net := cls_of (c.at 10)
  g_Net := glo_of X G (c.at 11)
  g__law_draw := glo_of X G (c.at 12)
  g__law_great := glo_of X G (c.at 13)
  g__law_low := glo_of X G (c.at 14)
  g__law_net := glo_of X G (c.at 15)
  g__law_place := glo_of X G (c.at 16)
  g__law_steps := glo_of X G (c.at 17)
  g__law_tape := glo_of X G (c.at 18)
  g_are_numbers := glo_of X G (c.at 19)
  g_check_number := glo_of X G (c.at 20)
  g_check_place := glo_of X G (c.at 21)
  g_greatest_divisor := glo_of X G (c.at 22)
  g_is_integer := glo_of X G (c.at 23)
  g_is_place := glo_of X G (c.at 24)
  g_law := glo_of X G (c.at 25)
  k__law_draw := keep_of (c.at 26)
  k__law_great := keep_of (c.at 27)
  k__law_low := keep_of (c.at 28)
  k__law_net := keep_of (c.at 29)
  k__law_place := keep_of (c.at 30)
  k__law_steps := keep_of (c.at 31)
  k__law_tape := keep_of (c.at 32)
  k_are_numbers := keep_of (c.at 33)
  k_check_number := keep_of (c.at 34)
  k_check_place := keep_of (c.at 35)
  k_greatest_divisor := keep_of (c.at 36)
  k_is_integer := keep_of (c.at 37)
  k_is_place := keep_of (c.at 38)
  m_Net_UcontainsU := meth_of (c.at 39)
  m_Net_UeqU := meth_of (c.at 40)
  m_Net_is_within := meth_of (c.at 41)
  m_Net_order := meth_of (c.at 42)
  m_Net_place_in_cell := meth_of (c.at 43)
  m_Net_scaled := meth_of (c.at 44)
  m_Net_spanning := meth_of (c.at 45)
  mk_Net := mk_of (c.at 46)
  na_Net_own_numbers := no_of (c.at 47)
  ow_Net := own_of (c.at 48)
  p_Net_numbers := prop_of (c.at 49)
  p_Net_size := prop_of (c.at 50)
  d_is_integer := c.df 0
  d_is_place := c.df 1
  d_check_place := c.df 2
  d_check_number := c.df 3
  d_greatest_divisor := c.df 4
  d_are_numbers := c.df 5
  d_Net_UinitU := c.df 6
  d_Net_numbers := c.df 7
  d_Net_size := c.df 8
  d_Net_spanning := c.df 9
  d_Net_place_in_cell := c.df 10
  d_Net_UcontainsU := c.df 11
  d_Net_UeqU := c.df 12
  d_Net_order := c.df 13
  d_Net_is_within := c.df 14
  d_Net_scaled := c.df 15
  d__law_tape := c.df 16
  d__law_draw := c.df 17
  d__law_great := c.df 18
  d__law_place := c.df 19
  d__law_low := c.df 20
  d__law_net := c.df 21
  d__law_steps := c.df 22
  d_law := c.df 23
abbrev R : PySem.W.OpenRow := PySem.W.OpenLaw.row PySem.Challenge.rw_carpets_k06_orders_and_multiples
abbrev hk : PySem.W.Hook := hookZ 6 ask
def ob (s : PySem.W.SharedT) : AlZ := obsG 6 ask (HandSHeadRun.getT s)
theorem ob_eq (s : PySem.W.SharedT) : ob s = hk.obs s.abs := obsG_eq (HandSHeadRun.getT_eq s)
def loose : List Str := (["_wall", "CarpetError", "InvalidNet", "InvalidPlace", "InvalidNumber", "is_integer", "is_place", "check_place", "check_number", "greatest_divisor", "bezout", "MATRICES", "turned", "form_of", "are_numbers", "common_numbers", "Net", "_law_tape", "_law_draw", "_law_great", "_law_place", "_law_low", "_law_net", "_law_steps"] : List Str)
abbrev qv : Program := PySem.W.view R.prog [29]
theorem run (w : World) : HandSHeadRun.RunEq R qv hk ob 6000 loose w := by
  refine PySem.W.byRow2 "special-get-raises" (P := fun w => HandSHeadRun.RunEq R qv hk ob 6000 loose w) (fun w => ?_) (fun w => ?_) w
  · intro os; kernel_rfl
  · intro os; kernel_rfl
end K06
namespace K06
open PySem PySem.Spec PyProof.Rows L2 Z
theorem facts {P : Program} {w : World} {K : Frg} {h : Heap} {mg : Str → Option Value} {f : Addr} (X : K.In h) (G : h.Ns mainGlobals mg) (hfa : mg ("law" : Str) = some (.ref f)) (c : Says ask w h K) : LawOk P w K mg 9 f "_law_script" (spLaw K) := by
  have T := tx_of X G c
  have e2 : f = He.ga K "law" := by
    have e3 := hfa.symm.trans T.g_law
    injection e3 with e4
    injection e4
  rw [e2]
  exact ok_law T
end K06
end
open PySem PySem.W PySem.Calls PyProof.Rows
theorem PySem.Challenge.cw_carpets_k06_orders_and_multiples_holds : PySem.Challenge.rw_carpets_k06_orders_and_multiples.Holds := by
  w_on; o_law
  refine HandSHeadRun.head_any (r := K06.R) (q := K06.qv) (H := K06.hk) (ob := K06.ob) (M := 6000) (loose := K06.loose) (d := HandSHeadRun.topDef K06.R.prog 29) (kwd := []) K06.ob_eq
    (by kernel_rfl) (fun s => by kernel_rfl) K06.run (by kernel_rfl) (by kernel_rfl) (by kernel_rfl) (by rfl) (by first | assumption | decide +kernel) (by decide +kernel) ⟨rfl, rfl, rfl, rfl, rfl, by decide +kernel⟩ ?hw ?hc
  case hw => w_witness2
  case hc =>
    refine LamX.walk_ofTsE (l := PySem.Challenge.rw_carpets_k06_orders_and_multiples) (n := 63) (k := 9) (x := "_law_script") (CX := fun w => L2.CX PySem.Challenge.rw_carpets_k06_orders_and_multiples.prog w) rfl (by decide) (by kernel_rfl) ⟨rfl, by decide, by decide⟩ ?F (Z.cx_no (P := fun _ => PySem.Challenge.rw_carpets_k06_orders_and_multiples.prog))
    intro w mg fa h Y G hmg0
    obtain ⟨K, KX, c⟩ := Y
    have hmg : mg ("law" : PySem.Str) = some (.ref fa) := by
      have e : (HandSHeadRun.topDef K06.R.prog 29).name = ("law" : PySem.Str) := by kernel_rfl
      rw [← e]
      exact hmg0
    obtain ⟨fd, hb, hF⟩ := K06.facts (P := PySem.Challenge.rw_carpets_k06_orders_and_multiples.prog) (w := w) KX G hmg c
    exact ⟨K, KX, fd, [], Z.spLaw K, (fun _ hp => (List.not_mem_nil hp).elim), (fun _ hp => (List.not_mem_nil hp).elim), (fun _ hp => (List.not_mem_nil hp).elim), hb, fun H a ns hl _ _ hS => ⟨_, rfl, a, ns, rfl, hl, hS, fun _ => rfl⟩, fun base _ _ _ => hF base⟩
