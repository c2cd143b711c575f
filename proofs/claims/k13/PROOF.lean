import PyProof.Rows.All
import Wide.All
import OpenK.AllK
import Wide.FinOn
import HandS.ForMost
import HandS.ForExc
import HandS.More
import HandS.Wide
import HandS.Property
import HandS.Star
import HandS.ClsMeth
import HandS.SlotsOwn
import HandS.IsInst
import HandS.Defaults
import HandS.RaiseMore
import HandS.EndBits
import HandS.Style
import HandS.Head0
import HandS.Head1
import HandS.Head2
import HandS.HeadEnd
import HandS.HeadHook1
import HandS.HeadHook2
import HandS.HeadHook3
import HandS.HeadHook4
import HandS.HeadNt
import HandS.HeadWalk
import HandS.Walk
import HandS.Evl
import HandS.TryOnly
import KE.KOpsOwn
import HandS.EndTab
import HandS.Deep
import HandS.WideMore
import KE.KAssignIn
import HandS.Text
import PyProof.ReprBulk
import PyProof.ReprRoads
import KE.KDictWalk
import HandS.Iter
import HandS.FStr
import PyProof.FString
import PyProof.FString4
import KE.GoesEnum
import HandS.MakeKwOnly
import PySem.Challenge.RW_carpets_k13_carpets_moved
set_option Elab.async false
set_option linter.all false
set_option maxRecDepth 100000
set_option maxHeartbeats 4000000
namespace Z
open PySem PySem.Spec PyProof.Rows L2
/-! ### heaps: a frozen part F of H; what goes on -/
structure Go (ms : List Addr) (F H F' H' : Hp) : Prop where
  ff : Same F F'
  fh : Same F' H'
  mu : ∀ a o, a ∉ ms → F a = none → H a = some o → F' a = none ∧ H' a = some o
section
variable {ms ms' : List Addr} {F H F1 H1 F2 H2 : Hp} {p a : Addr} {o : HO} {K : PySem.W.Frag} {xs : List V}
theorem Go.refl (h : Same F H) : Go ms F H F H := ⟨Same.refl _, h, fun _ _ _ h1 h2 => ⟨h1, h2⟩⟩
theorem Go.trans (x : Go ms F H F1 H1) (y : Go ms F1 H1 F2 H2) : Go ms F H F2 H2 :=
  ⟨x.ff.trans y.ff, y.fh, fun a o hm h1 h2 => let ⟨a1, a2⟩ := x.mu a o hm h1 h2; y.mu a o hm a1 a2⟩
theorem Go.sub (x : Go ms F H F1 H1) (h : ∀ a ∈ ms, a ∈ ms') : Go ms' F H F1 H1 := ⟨x.ff, x.fh, fun a o hm => x.mu a o fun z => hm (h a z)⟩
theorem Go.nil (x : Go [] F H F1 H1) : Go ms F H F1 H1 := x.sub fun _ h => nomatch h
/-- a new object, frozen -/
theorem Go.new (h : Same F H) (hp : H p = none) : Go ms F H (upd F p o) (upd H p o) := by
  refine ⟨fun a u e => ?_, fun a u e => ?_, fun a u _ h1 h2 => ?_⟩
  · rw [upd_ne (ne_of_none (h a u e) hp)]; exact e
  · by_cases ha : a = p
    · subst ha; rw [upd_same] at e ⊢; exact e
    · rw [upd_ne ha] at e ⊢; exact h a u e
  · have ha := ne_of_none h2 hp
    exact ⟨by rw [upd_ne ha]; exact h1, by rw [upd_ne ha]; exact h2⟩
/-- a new object that may change -/
theorem Go.newM (h : Same F H) (hp : H p = none) : Go ms F H F (upd H p o) := by
  refine ⟨Same.refl _, fun a u e => ?_, fun a u _ h1 h2 => ⟨h1, ?_⟩⟩
  · rw [upd_ne (ne_of_none (h a u e) hp)]; exact h a u e
  · rw [upd_ne (ne_of_none h2 hp)]; exact h2
/-- a store -/
theorem Go.put (h : Same F H) (hp : F p = none) : Go [p] F H F (upd H p o) := by
  refine ⟨Same.refl _, fun a u e => ?_, fun a u hm h1 h2 => ⟨h1, ?_⟩⟩
  · rw [upd_ne (ne_of_none e hp)]; exact h a u e
  · rw [upd_ne (fun z => hm (by rw [z]; exact List.mem_cons_self))]; exact h2
/-- an object that was changed is frozen from now on -/
theorem Go.freeze (h : Same F H) (hp : F p = none) (e : H p = some o) : Go [p] F H (upd F p o) H := by
  refine ⟨fun a u z => ?_, fun a u z => ?_, fun a u hm h1 h2 => ⟨?_, h2⟩⟩
  · rw [upd_ne (ne_of_none z hp)]; exact z
  · by_cases ha : a = p
    · subst ha; rw [upd_same] at z; rw [e]; exact z
    · rw [upd_ne ha] at z; exact h a u z
  · rw [upd_ne (fun z => hm (by rw [z]; exact List.mem_cons_self))]; exact h1
theorem same_none {F H : Hp} {p : Addr} (h : Same F H) (e : H p = none) : F p = none := h.free e
/-- drop from ms what was free at the start -/
theorem Go.drop (x : Go (p :: ms) F H F1 H1) (hp : H p = none) : Go ms F H F1 H1 :=
  ⟨x.ff, x.fh, fun a o hm h1 h2 => x.mu a o (fun z => by
    rcases List.mem_cons.mp z with e | e
    · rw [e, hp] at h2; cases h2
    · exact hm e) h1 h2⟩
theorem sqT (s : Same F H) (h : SqT K F a xs) : SqT K H a xs := by
  rcases h with (h | ⟨o, h⟩) | h
  · exact .inl (.inl (s _ _ h))
  · exact .inl (.inr ⟨o, s _ _ h⟩)
  · exact .inr h
theorem sqL (s : Same F H) (h : SqL K F a xs) : SqL K H a xs := s.seq h
mutual
theorem dp_mono {F H : Hp} (s : Same F H) : ∀ (d : PyData) (v : V), Dp K F v d → Dp K H v d
  | .none, _, h => by cases h; exact .non
  | .bool b, _, h => by cases h; exact .bl b
  | .int i, _, h => by cases h; exact .int i
  | .str x, _, h => by cases h; exact .str x
  | .list ds, _, h => by
    cases h with
    | lst h1 h2 => exact .lst (sqL s h1) (dpAll_mono s ds _ h2)
  | .tuple ds, _, h => by
    cases h with
    | tup h1 h2 => exact .tup (sqT s h1) (dpAll_mono s ds _ h2)
  | .dict _, _, h => by cases h
theorem dpAll_mono {F H : Hp} (s : Same F H) : ∀ (ds : List PyData) (vs : List V), DpAll K F vs ds → DpAll K H vs ds
  | [], _, h => by cases h; exact .nil
  | d :: ds, _, h => by
    cases h with
    | cons h1 h2 => exact .cons (dp_mono s d _ h1) (dpAll_mono s ds _ h2)
end
end
/-! ### calls by positional promises -/
section
variable {X : Cx} {CX : CXT} {k : Nat} {f C p g : Addr} {sp : Sp} {E : XK} {x m : Str} {p0 pos apos : Pos} {e o a b : Expr} {es : List Expr} {ta tb : TE} {t : TA}
def tFn (sp : Sp) (E : XK) (t : TA) : TE := fun σ H Q => t σ H fun vs H1 => sp vs H1 Q E
theorem zcall (F : FnR X.prog X.w X.K X.mg X.base CX k f sp) (hr : Room k X.A) (hg : Gl X x) (hm : X.mg x = some (.ref f)) (hk : PySem.W.keepIn X.K (.ref f) = true) (hx : Passes CX X E)
    (ha : PA X (e :: es) t) (hdb : (x == ("__debug__" : Str)) = false := by decide) (he : starEach (e :: es) X.env = (false, eval e X.env) :: starEach es X.env := by rfl) (hpl : (backTo pos (starEach es X.env)).any (·.1) = false := by rfl) :
    PE X (.Call (.Name x p0) (e :: es) [] pos) (tFn sp E t) := by
  refine ⟨fun pins s σ H Q I h => ?_⟩
  refine wpAny_Call_Name_kw (ld_glob I hg hm ?_ hdb)
  refine PySem.W.callWith_K (h₀ := X.base) I.ok.mod.kin hk (thn (ha.run pos pins s σ H _ I h) fun us s1 ⟨vs, H1, I1, r, q⟩ => ⟨I1.kIn, ?_⟩) he hpl
  exact wpAny_call (run_fnR F hr hx I1 r q)
theorem zcall0 (F : FnR X.prog X.w X.K X.mg X.base CX k f sp) (hr : Room k X.A) (hg : Gl X x) (hm : X.mg x = some (.ref f)) (hk : PySem.W.keepIn X.K (.ref f) = true) (hx : Passes CX X E)
    (hdb : (x == ("__debug__" : Str)) = false := by decide) : PE X (.Call (.Name x p0) [] [] pos) (tFn sp E tNil) := by
  refine ⟨fun pins s σ H Q I h => ?_⟩
  refine wpAny_Call_Name_kw (ld_glob I hg hm ?_ hdb)
  exact PySem.W.callWith_K0 I.kIn hk (wpAny_call (run_fnR (us := []) F hr hx I .nil h))
theorem zmeth0 {pl : Sem Bool} (he : PE X o ta) (c : Cls X.K C) (hm : Meth X.K C m f) (F : FnR X.prog X.w X.K X.mg X.base CX k f sp) (hr : Room k X.A) (hx : Passes CX X E)
    (ht : eval (.Call (.Attribute o m apos) [] [] pos) X.env = (do
      let ov ← eval o X.env
      standAt apos.atName
      let (f, first) ← holding [ov] (getMethod ov m pl)
      callWith pos f first (backTo pos (starEach [] X.env)) (backToKw pos (keywordEach [] X.env))) := by rfl) :
    PE X (.Call (.Attribute o m apos) [] [] pos) (tMethR C m sp E ta tNil) := by
  refine ⟨fun pins s σ H Q I h => ?_⟩
  refine PySem.W.methodCall_KW (pl := pl) (thn (he.run pins s σ H _ I h) fun u s1 ⟨x, H1, I1, rx, a, dx, fs, ex, ea, l, q⟩ => ?_) ht
  subst ex
  obtain rfl : u = Value.ref a := rx
  refine getmeth_ok I1 ea c hm l ?_
  exact PySem.W.callWith_K0 (first := [.ref a]) I1.kIn hm.kp (wpAny_call (run_fnR (us := [.ref a]) (vs := [.ref a]) F hr hx I1 (.cons rfl .nil) q))
/-- o.f, a property -/
def tPropR (C : Addr) (sp : Sp) (E : XK) (ta : TE) : TE := fun σ H Q => ta σ H fun x H1 => ∃ a dx fs, x = .ref a ∧ H1 a = some (.ins C dx fs) ∧ sp [.ref a] H1 Q E
theorem zprop (he : PE X e ta) (c : Cls X.K C) (hp : PropOf X.K C m p g) (F : FnR X.prog X.w X.K X.mg X.base CX k g sp) (hr : Room (k + 1) X.A) (hx : Passes CX X.nox E)
    (hab : attributeBase e m X.env (eval e X.env) = eval e X.env := by rfl) : PE X (.Attribute e m pos) (tPropR C sp E ta) := by
  refine ⟨fun pins s σ H Q I h => ?_⟩
  refine attr_of hab (thn (he.run pins s σ H _ I h) fun u s1 ⟨x, H1, I1, rx, a, dx, fs, ex, ea, q⟩ => ?_)
  subst ex
  obtain rfl : u = Value.ref a := rx
  obtain ⟨mA, O, _, _, _, _⟩ := ins_get I1.hok ea
  obtain ⟨od, J, _⟩ := O.look
  obtain ⟨rest, hrec⟩ := hp.rec_
  have I2 := I1.tok (s1.toks + 1)
  have hc : (PySem.W.clsIn X.K C).isSome = true := by
    obtain ⟨cd, hc, _⟩ := PySem.W.any_some c.hd
    rw [hc]
    rfl
  refine PySem.W.get_bind I1.kIn J (PySem.W.plainGet_of (c.get m)).1 (PySem.W.findObj_data hc hp.at_ hp.get hp.tak) (PySem.W.plainGet_of (c.get m)).2 (wpAny_call (PySem.W.prop_get (s := { s1 with toks := s1.toks + 1 }) I1.kIn hrec ?_))
  refine codeAny_mono (F X.A.in1 X.stack { s1 with toks := s1.toks + 1 } H1 [.ref a] [.ref a] Q E hr.in1 I2.env0.in1 (.cons rfl .nil) q) fun r s' hq => ?_
  cases r with
  | error er => exact False.elim (hx pins σ H1 { s1 with toks := s1.toks + 1 } er s' (I2.wish _) hq)
  | ok fl =>
    cases fl with
    | ret u =>
      obtain ⟨v, H', I3, rv, q3⟩ := I2.after hq
      show wpAny _ _ (handedOut u) _ _ _
      rw [PySem.W.handedOut_of (handed_of rv)]
      exact wpAny_pure ⟨v, H', I3, rv, q3⟩
    | next => exact False.elim hq
    | brk => exact False.elim hq
    | cont => exact False.elim hq
/-- x in o, o of an own class -/
def rInO (neg : Bool) (C : Addr) (sp : Sp) (E : XK) : R2 := fun x y H Q => ∃ a dx fs, y = .ref a ∧ H a = some (.ins C dx fs) ∧ sp [.ref a, x] H (fun v H' => ∃ b, v = .bl b ∧ Q (.bl (if neg then !b else b)) H') E
theorem op_inO (hs : PySem.W.findIn X.K (.ref C) "__contains__" = some (some (.ref g))) (hf : PySem.W.isFn X.K (.ref g) = true) (F : FnR X.prog X.w X.K X.mg X.base CX k g sp) (hr : Room k X.A) (hx : Passes CX X E) : OpR X (compareOp .In) (rInO false C sp E) := by
  intro pins s σ H x y v u Q I rx ry h
  obtain ⟨a, dx, fs, rfl, ea, q⟩ := h
  cases (show u = Value.ref a from ry)
  obtain ⟨mA, O, _, _, _, _⟩ := ins_get I.hok ea
  obtain ⟨od, J, _⟩ := O.look
  obtain ⟨m, hF⟩ := I.fr
  refine PySem.W.in_K hF I.ok.mod.kin J hs hf ?_
  refine wpAny_mono (wpAny_call (run_fnR (us := [.ref a, v]) (vs := [.ref a, x]) F hr hx I (.cons rfl (.cons rx .nil)) q)) (fun w s' z => ?_) fun _ _ x => x
  obtain ⟨z', H', I', rz, b, rfl, qz⟩ := z
  cases (show w = Value.bool b from rz)
  exact wpAny_truthy_bool ⟨.bl b, H', I', rfl, qz⟩
theorem op_notInO (hs : PySem.W.findIn X.K (.ref C) "__contains__" = some (some (.ref g))) (hf : PySem.W.isFn X.K (.ref g) = true) (F : FnR X.prog X.w X.K X.mg X.base CX k g sp) (hr : Room k X.A) (hx : Passes CX X E) : OpR X (compareOp .NotIn) (rInO true C sp E) := by
  intro pins s σ H x y v u Q I rx ry h
  obtain ⟨a, dx, fs, rfl, ea, q⟩ := h
  cases (show u = Value.ref a from ry)
  obtain ⟨mA, O, _, _, _, _⟩ := ins_get I.hok ea
  obtain ⟨od, J, _⟩ := O.look
  obtain ⟨m, hF⟩ := I.fr
  refine PySem.W.notIn_K hF I.ok.mod.kin J hs hf ?_
  refine wpAny_mono (wpAny_call (run_fnR (us := [.ref a, v]) (vs := [.ref a, x]) F hr hx I (.cons rfl (.cons rx .nil)) q)) (fun w s' z => ?_) fun _ _ x => x
  obtain ⟨z', H', I', rz, b, rfl, qz⟩ := z
  cases (show w = Value.bool b from rz)
  exact wpAny_truthy_bool ⟨.bl (!b), H', I', rfl, qz⟩
end
/-! ### floor division of great numbers, any sign -/
def CDivZ (_ j : Int) : Prop := j ≠ 0 ∧ j.natAbs.log2 < 9000
theorem op_fdivZ {X : Cx} : OpR X (binaryOp .FloorDiv) (rI CDivZ fun i j => .int (i.fdiv j)) := opI fun i j _ _ _ _ _ hc q =>
  floordiv_int hc.1 q (.inl (PyProof.noPylong_of_log2 hc.2))
end Z
namespace Z
open PySem PySem.Spec PyProof.Rows L2
section
variable {X : Cx} {CX : CXT} {k : Nat} {f C p g : Addr} {sp : Sp} {E : XK} {x m : Str} {p0 pos apos : Pos} {e o a b : Expr} {es : List Expr} {ta tb : TE} {t : TA}
/-- the left one of an own class, its == or != by the own __eq__ -/
def rEqO (neg : Bool) (K : PySem.W.Frag) (C : Addr) (sp : Sp) (E : XK) : R2 := fun x y H Q => ∃ a dx fs t, x = .ref a ∧ H a = some (.ins C dx fs) ∧ TyX K H y t ∧ PySem.W.notFirst K C t = true ∧ sp [.ref a, y] H (fun v H' => ∃ b, v = .bl b ∧ Q (.bl (if neg then !b else b)) H') E
theorem op_eqO (hs : PySem.W.findIn X.K (.ref C) "__eq__" = some (some (.ref g))) (hf : PySem.W.isFn X.K (.ref g) = true) (F : FnR X.prog X.w X.K X.mg X.base CX k g sp) (hr : Room k X.A) (hx : Passes CX X E) : OpR X (compareOp .Eq) (rEqO false X.K C sp E) := by
  intro pins s σ H x y v u Q I rx ry h
  obtain ⟨a, dx, fs, t, rfl, ea, ty, hn, q⟩ := h
  cases (show v = Value.ref a from rx)
  obtain ⟨mA, O, _, _, _, _⟩ := ins_get I.hok ea
  obtain ⟨od, J, _⟩ := O.look
  obtain ⟨m, hF⟩ := I.fr
  obtain ⟨P, kx, hP, _⟩ := kit_of I ry ty
  refine PySem.W.cmp_K (op := .Eq) (tb := t) hr.units0 hF I.ok.mod.kin J (kx.ty _ _ I.kIn hP) hn hs hf ?_
  refine wpAny_mono (wpAny_call (run_fnR (us := [.ref a, u]) (vs := [.ref a, y]) F hr hx I (.cons rfl (.cons ry .nil)) q)) (fun w s' z => ?_) fun _ _ x => x
  obtain ⟨z', H', I', rz, b, rfl, qz⟩ := z
  cases (show w = Value.bool b from rz)
  exact ⟨.bl b, H', I', rfl, qz⟩
theorem ne_try {A : Around} {s : Shared} {E' : Value → Shared → Prop} {xa : Addr} {ox : Obj} {od : Option Obj} {bv : Value} {Q : Option Value → Shared → Prop} (hu : A.units + 1 < cLine) (KX : X.K.In s.heap) (J : PySem.W.InstAt s.heap xa ox C od)
    (hne : PySem.W.findIn X.K (.ref C) "__ne__" = some (some (.builtin "object.__ne__"))) (hsub : PySem.W.mroIn X.K C (.type "object") = some true)
    (hs : PySem.W.findIn X.K (.ref C) "__eq__" = some (some (.ref g))) (hf : PySem.W.isFn X.K (.ref g) = true)
    (h : codeAny (model X.prog X.w) A.in1 (.call (.ref g) ⟨[.ref xa, bv], []⟩) (fun r s' => match r with | .ok (.ret v) => ∃ b, v = .bool b ∧ Q (some (.bool (!b))) s' | .ok _ => False | .error e => E' e s') s) : wpAny (model X.prog X.w) A (tryCompare (.ref xa) "__ne__" bv) Q E' s := by
  have FB := PySem.F.cmp_object
  have fin : wpAny (model X.prog X.w) A (call (.builtin "object.__ne__") ([.ref xa] ++ [bv])) (fun v s' => ∃ b, v = .bool b ∧ Q (some (.bool b)) s') E' s := by
    have hi : PySem.W.Looks (model X.prog X.w) s.heap (isInstance (.ref xa) (.type "object")) true := J.type.andThen (PySem.W.looks_mroIn KX hsub)
    refine wpAny_call (codeAny_call_builtin FB.ne.plain F.cmpEntry_ne (PySem.W.check_slot F.cmpKind_ne F.cmpSplit_ne hi (F.cmpArgs_ne _ _) ?_))
    unfold Builtin.«object.__ne__»
    repeat (first | with_reducible refine wpAny_cRoomFor hu ?_ | with_reducible refine PySem.W.ifBound_K KX J hs hf ?_ | wp_step)
    refine codeAny_mono h fun r s' hv => ?_
    cases r with
    | error e => exact hv
    | ok fl =>
      cases fl with
      | ret v =>
        obtain ⟨b, rfl, q⟩ := hv
        refine wpAny_bind (wpAny_truthy_bool ?_)
        exact wpAny_pure ⟨_, rfl, q⟩
      | next => exact hv
      | brk => exact hv
      | cont => exact hv
  unfold tryCompare
  simp only [callSpecialIfBound?, bindSpecialIfBound?]
  refine wpAny_bind (wpAny_holding (wpAny_bind (wpAny_bind (wpAny_bind (J.type.here ((PySem.W.looks_findIn KX hne).here ?_))))))
  simp only [FB.ne.bind]
  refine wpAny_bind (wpAny_askSetting (wpAny_ite ?_))
  have fin2 : wpAny (model X.prog X.w) A (call (.builtin "object.__ne__") ([.ref xa] ++ [bv]) >>= fun v => pure (some v)) (fun r s' => ∃ b, r = some (.bool b) ∧ Q (some (.bool b)) s') E' s :=
    wpAny_bind (wpAny_mono fin (fun v s' ⟨b, e, q⟩ => wpAny_pure ⟨b, by rw [e], q⟩) fun _ _ z => z)
  have go : ∀ {r : Option Value} {s' : Shared}, (∃ b, r = some (.bool b) ∧ Q (some (.bool b)) s') → wpAny (model X.prog X.w) A (match r with | some .notImplemented | none => pure none | some v => pure (some v)) Q E' s' := fun {r s'} ⟨b, e, q⟩ => by
    subst e
    exact wpAny_pure q
  split
  · refine wpAny_bind (wpAny_pure (wpAny_pure ?_))
    exact wpAny_mono fin2 (fun r s' z => go z) fun _ _ z => z
  · refine wpAny_tryCatch (wpAny_bind (wpAny_pure (wpAny_pure ?_)))
    exact wpAny_mono fin2 (fun r s' z => go z) fun _ _ z => z
theorem op_neO (hne : PySem.W.findIn X.K (.ref C) "__ne__" = some (some (.builtin "object.__ne__"))) (hsub : PySem.W.mroIn X.K C (.type "object") = some true) (hs : PySem.W.findIn X.K (.ref C) "__eq__" = some (some (.ref g))) (hf : PySem.W.isFn X.K (.ref g) = true)
    (F : FnR X.prog X.w X.K X.mg X.base CX k g sp) (hr : Room (k + 1) X.A) (hx : Passes CX X E) : OpR X (compareOp .NotEq) (rEqO true X.K C sp E) := by
  intro pins s σ H x y v u Q I rx ry h
  obtain ⟨a, dx, fs, t, rfl, ea, ty, hn, q⟩ := h
  cases (show v = Value.ref a from rx)
  obtain ⟨mA, O, _, _, _, _⟩ := ins_get I.hok ea
  obtain ⟨od, J, _⟩ := O.look
  obtain ⟨P, kx, hP, _⟩ := kit_of I ry ty
  have one : wpAny (model X.prog X.w) X.A (tryCompare (.ref a) "__ne__" u) (fun r s' => ∃ b, r = some b ∧ EP X pins σ Q b s') X.xe s := by
    refine ne_try (hu_of hr) I.kIn J hne hsub hs hf ?_
    refine codeAny_mono (SlX.run_at (us := [.ref a, u]) (ws := [.ref a, y]) F hr.in1 I.env0.in1 hx I (.cons rfl (.cons ry .nil)) q) fun r s' z => ?_
    cases r with
    | error e => exact z
    | ok fl =>
      cases fl with
      | ret w =>
        obtain ⟨z', H', I', rz, b, rfl, qz⟩ := z
        cases (show w = Value.bool b from rz)
        exact ⟨b, rfl, _, rfl, .bl (!b), H', I', rfl, qz⟩
      | next => exact z
      | brk => exact z
      | cont => exact z
  show wpAny (model X.prog X.w) X.A (richCompare .NotEq (.ref a) u) (EP X pins σ Q) X.xe s
  unfold richCompare
  simp only [oneThing_ref]
  refine wpAny_holding (wpAny_bind (wpAny_cRoomFor hr.units0 ?_))
  refine wpAny_bind (J.type.here (wpAny_bind ((kx.ty _ _ I.kIn hP).here ?_)))
  split
  · rename_i q
    have e : PySem.W.subIn X.K t (.ref C) = some false := by
      rcases Bool.or_eq_true_iff.mp hn with e | e
      · rw [beq_iff_eq.mp e] at q; simp at q
      · exact beq_iff_eq.mp e
    refine wpAny_bind ((PySem.W.looks_subIn I.kIn e).here ?_)
    simp only [Bool.false_eq_true, if_false]
    refine wpAny_bind (wpAny_mono one (fun r s' z => ?_) fun _ _ e => e)
    obtain ⟨v, rfl, hq⟩ := z
    exact wpAny_pure hq
  · refine wpAny_bind (wpAny_pure ?_)
    simp only [Bool.false_eq_true, if_false]
    refine wpAny_bind (wpAny_mono one (fun r s' z => ?_) fun _ _ e => e)
    obtain ⟨v, rfl, hq⟩ := z
    exact wpAny_pure hq
/-- a op b, both of an own class -/
def rBinO (C : Addr) (sp : Sp) (E : XK) : R2 := fun x y H Q => ∃ a dx fs b dy gs, x = .ref a ∧ y = .ref b ∧ H a = some (.ins C dx fs) ∧ H b = some (.ins C dy gs) ∧ sp [.ref a, .ref b] H Q E
theorem op_binO {op : Operator} (hc : PySem.W.selfFirst X.K C = true) (hs : PySem.W.findIn X.K (.ref C) (PySem.dunder op.info.2) = some (some (.ref g))) (hf : PySem.W.isFn X.K (.ref g) = true)
    (F : FnR X.prog X.w X.K X.mg X.base CX k g sp) (hr : Room k X.A) (hx : Passes CX X E) : OpR X (binaryOp op) (rBinO C sp E) := by
  intro pins s σ H x y v u Q I rx ry h
  obtain ⟨a, dx, fs, b, dy, gs, rfl, rfl, ea, eb, q⟩ := h
  cases (show v = Value.ref a from rx)
  cases (show u = Value.ref b from ry)
  obtain ⟨mA, O, _, _, _, _⟩ := ins_get I.hok ea
  obtain ⟨od, J, _⟩ := O.look
  obtain ⟨mB, O', _, _, _, _⟩ := ins_get I.hok eb
  obtain ⟨od', J', _⟩ := O'.look
  obtain ⟨m, hF⟩ := I.fr
  refine PySem.W.binop_K hF I.ok.mod.kin J J'.type hc hs hf ?_
  refine wpAny_mono (wpAny_call (run_fnR (us := [.ref a, .ref b]) (vs := [.ref a, .ref b]) F hr hx I (.cons rfl (.cons rfl .nil)) q)) (fun w s' z => ?_) fun _ _ x => x
  obtain ⟨z', H', I', rz, qz⟩ := z
  exact SlX.cmpback rz ⟨z', H', I', rz, qz⟩
end
end Z
namespace Z
open PySem PySem.Spec PyProof.Rows L2
abbrev Frg := PySem.W.Frag
/-- what is asked of the written part: Bools, defs, tables with text keys, the defs whose tables of code objects are left out -/
structure Ask where
  fs : List (Frg → Bool)
  fn : List He5.DefA
  ts : List He.Tab
  tf : List (Frg → Addr)
def cdAt (K : Frg) (f : Addr) : Addr := match K.lookup f with
  | some ⟨_, _, .func fd, _⟩ => (match fd.code with
    | .ref c => c
    | _ => 0)
  | _ => 0
def tabsB (g : Addr → Option Obj) (tf : List (Frg → Addr)) (K : Frg) : Bool := tf.all fun p => PySem.W.codeHdIn K (cdAt K (p K)) (He.tabOf K (cdAt K (p K))) && (match g (He.tabOf K (cdAt K (p K))) with
  | some o => He.emptyTab o
  | none => false)
abbrev AlZ : Type := (Bool × List He.FnW) × (List (Option (List (Option (Str × Int)))) × Bool)
def obsZ (q : Ask) (K : Frg) (b : Bool) : AlZ := (((q.fs.all fun f => f K) && q.fn.all fun d => d.ok K, q.fn.map fun d => He5.fnA K (d.at_ K)), (q.ts.map fun t => He.dicW K (t.1 K), b))
def valZ (q : Ask) (w : World) : AlZ := ((true, q.fn.map He5.DefA.val), (q.ts.map fun t => some (He.keysIn w.params t.2), true))
structure Says (q : Ask) (w : World) (h : Heap) (K : Frg) : Prop where
  fact : ∀ f ∈ q.fs, f K = true
  dok : ∀ d ∈ q.fn, d.ok K = true
  dval : q.fn.map (fun d => He5.fnA K (d.at_ K)) = q.fn.map He5.DefA.val
  tval : q.ts.map (fun t => He.dicW K (t.1 K)) = q.ts.map fun t => some (He.keysIn w.params t.2)
  hd : ∀ p ∈ q.tf, PySem.W.codeHdIn K (cdAt K (p K)) (He.tabOf K (cdAt K (p K))) = true
  out : ∀ p ∈ q.tf, K.lookup (He.tabOf K (cdAt K (p K))) = none
  empty : ∀ p ∈ q.tf, h.get? (He.tabOf K (cdAt K (p K))) = some { cls := .none, data := .fields #[] }
def KZ (g : Addr → Option Obj) (n : Nat) : Frg := He.frT g (mainGlobals :: (List.range n ++ [cStatics]))
def obsG (n : Nat) (q : Ask) (g : Addr → Option Obj) : AlZ := obsZ q (KZ g n) (tabsB g q.tf (KZ g n))
theorem says_of {n : Nat} {q : Ask} {w : World} {h : Heap} (e : obsG n q h.get? = valZ q w) : Says q w h (KZ h.get? n) := by
  have e1 : ((q.fs.all fun f => f (KZ h.get? n)) && q.fn.all fun d => d.ok (KZ h.get? n)) = true := congrArg (fun z : AlZ => z.1.1) e
  have e2 : q.fn.map (fun d => He5.fnA (KZ h.get? n) (d.at_ (KZ h.get? n))) = q.fn.map He5.DefA.val := congrArg (fun z : AlZ => z.1.2) e
  have e3 : q.ts.map (fun t => He.dicW (KZ h.get? n) (t.1 (KZ h.get? n))) = q.ts.map fun t => some (He.keysIn w.params t.2) := congrArg (fun z : AlZ => z.2.1) e
  have e4 : tabsB h.get? q.tf (KZ h.get? n) = true := congrArg (fun z : AlZ => z.2.2) e
  obtain ⟨h1, h2⟩ := He.ba e1
  have key : ∀ p ∈ q.tf, PySem.W.codeHdIn (KZ h.get? n) (cdAt (KZ h.get? n) (p (KZ h.get? n))) (He.tabOf (KZ h.get? n) (cdAt (KZ h.get? n) (p (KZ h.get? n)))) = true ∧ ∃ o, h.get? (He.tabOf (KZ h.get? n) (cdAt (KZ h.get? n) (p (KZ h.get? n)))) = some o ∧ He.emptyTab o = true := fun p hp => by
    obtain ⟨h3, h4⟩ := He.ba (List.all_eq_true.mp e4 p hp)
    refine ⟨h3, ?_⟩
    cases z : h.get? (He.tabOf (KZ h.get? n) (cdAt (KZ h.get? n) (p (KZ h.get? n)))) with
    | none => rw [z] at h4; cases h4
    | some o => rw [z] at h4; exact ⟨o, rfl, h4⟩
  exact ⟨fun f hf => List.all_eq_true.mp h1 f hf, fun d hd => List.all_eq_true.mp h2 d hd, e2, e3, fun p hp => (key p hp).1, fun p hp => by
    obtain ⟨_, o, z, y⟩ := key p hp
    exact He.frT_none z y, fun p hp => by
    obtain ⟨_, o, z, y⟩ := key p hp
    rw [z, He.emptyTab_eq y]⟩
def hookZ (n : Nat) (q : Ask) : PySem.W.Hook where
  α := AlZ
  obs := fun s => obsG n q s.heap.get?
  val := fun w => valZ q w
  says := fun w h => ∃ K : Frg, K.In h ∧ Says q w h K
  of := fun _ _ e => ⟨_, He.frT_in, says_of e⟩
  keeps := fun _ _ _ ⟨K, hK, c⟩ k => ⟨K, PySem.W.Frag.In.keeps hK k, ⟨c.fact, c.dok, c.dval, c.tval, c.hd, c.out, fun p hp => k _ _ (c.empty p hp)⟩⟩
theorem obsG_eq {n : Nat} {q : Ask} {g : Addr → Option Obj} {s : Shared} (h : ∀ a, g a = s.heap.get? a) : obsG n q g = (hookZ n q).obs s := by
  have e : g = s.heap.get? := funext h
  rw [e] <;> rfl
section
variable {q : Ask} {w : World} {h : Heap} {K : Frg}
theorem Says.at (c : Says q w h K) (i : Nat) {f : Frg → Bool} (e : q.fs[i]? = some f := by rfl) : f K = true := c.fact f (List.mem_of_getElem? e)
theorem Says.df (c : Says q w h K) (i : Nat) {d : He5.DefA} (e : q.fn[i]? = some d := by rfl) : ∃ fd, L2.FunD K d.name d.qual d.params d.body d.scope (d.dvs K) (d.kws K) (d.at_ K) fd := by
  have e2 : (q.fn.map fun d => He5.fnA K (d.at_ K))[i]? = (q.fn.map He5.DefA.val)[i]? := by rw [c.dval]
  rw [List.getElem?_map, List.getElem?_map, e] at e2
  exact He5.DefA.funD (Option.some.inj e2) (c.dok d (List.mem_of_getElem? e))
theorem Says.tb (c : Says q w h K) (i : Nat) {t : He.Tab} (e : q.ts[i]? = some t := by rfl) : ∃ es n, KDict K w (t.1 K) es n := by
  have e2 : (q.ts.map fun t => He.dicW K (t.1 K))[i]? = (q.ts.map fun t => some (He.keysIn w.params t.2))[i]? := by rw [c.tval]
  rw [List.getElem?_map, List.getElem?_map, e] at e2
  exact He.dicW_ok (Option.some.inj e2)
end
/-! ### Bools and what they tell -/
def bGlo (x : Str) : Frg → Bool := fun K => (He.Fa.glo x).ok K
def bFree (x : Str) : Frg → Bool := fun K => (He.Fa.free x).ok K
def bInt (x : Str) (i : Int) : Frg → Bool := fun K => (He.Fa.int x i).ok K
def bStr (x z : Str) : Frg → Bool := fun K => (He.Fa.str x z).ok K
def bCls (x : Str) : Frg → Bool := fun K => (He.Fa.cls x).ok K
def bNo (x f : Str) : Frg → Bool := fun K => (He.Fa.noat x f).ok K
def bMeth (x m : Str) : Frg → Bool := fun K => (He.Fa.meth x m).ok K
def bMk (x : Str) : Frg → Bool := fun K => (He.Fa.mkr x).ok K
def bKeep (x : Str) : Frg → Bool := fun K => (He.Fa.keep x).ok K
/-- what == and isinstance ask of an own class -/
structure Own (K : Frg) (C : Addr) : Prop where
  sf : PySem.W.selfFirst K C = true
  ne : PySem.W.findIn K (.ref C) "__ne__" = some (some (.builtin "object.__ne__"))
  ob : PySem.W.mroIn K C (.type "object") = some true
  ha : PySem.W.findIn K (.ref C) "__class__" = some (some (.builtin "object.__class__"))
  hn : PySem.W.specialIn K (.builtin "object.__class__") "__get__" = some (some (.builtin "getset_descriptor.__get__"))
  ht : PySem.W.takesIn K (.builtin "object.__class__") = some true
  ki : PySem.W.kitOne K (.ref C) (.ref C) = some true
  kb : ∀ t ∈ ["NoneType", "bool", "int", "str", "list", "tuple", "dict"], PySem.W.kitOne K (.type t) (.ref C) = some false
  kt : ∀ t ∈ ["bool", "int", "str", "list", "tuple", "dict"], PySem.W.kitOne K (.ref C) (.type t) = some false
  nf : ∀ t ∈ ["NoneType", "bool", "int", "str", "list", "tuple", "dict"], PySem.W.notFirst K C (.type t) = true
  cv : PySem.W.isClsIn K C = true
def bOwn (x : Str) : Frg → Bool := fun K => PySem.W.selfFirst K (He.ga K x) && (He.eqO (PySem.W.findIn K (.ref (He.ga K x)) "__ne__") (some (some (.builtin "object.__ne__"))) && (decide (PySem.W.mroIn K (He.ga K x) (.type "object") = some true) &&
  (He.eqO (PySem.W.findIn K (.ref (He.ga K x)) "__class__") (some (some (.builtin "object.__class__"))) && (He.eqO (PySem.W.specialIn K (.builtin "object.__class__") "__get__") (some (some (.builtin "getset_descriptor.__get__"))) &&
  (decide (PySem.W.takesIn K (.builtin "object.__class__") = some true) && (decide (PySem.W.kitOne K (.ref (He.ga K x)) (.ref (He.ga K x)) = some true) &&
  ((["NoneType", "bool", "int", "str", "list", "tuple", "dict"].all fun t => decide (PySem.W.kitOne K (.type t) (.ref (He.ga K x)) = some false)) && ((["bool", "int", "str", "list", "tuple", "dict"].all fun t => decide (PySem.W.kitOne K (.ref (He.ga K x)) (.type t) = some false)) &&
  ((["NoneType", "bool", "int", "str", "list", "tuple", "dict"].all fun t => PySem.W.notFirst K (He.ga K x) (.type t)) && PySem.W.isClsIn K (He.ga K x))))))))))
theorem own_of {K : Frg} {x : Str} (h : bOwn x K = true) : Own K (He.ga K x) := by
  obtain ⟨h1, h⟩ := He.ba h
  obtain ⟨h2, h⟩ := He.ba h
  obtain ⟨h3, h⟩ := He.ba h
  obtain ⟨h4, h⟩ := He.ba h
  obtain ⟨h5, h⟩ := He.ba h
  obtain ⟨h6, h⟩ := He.ba h
  obtain ⟨h7, h⟩ := He.ba h
  obtain ⟨h8, h⟩ := He.ba h
  obtain ⟨h9, h⟩ := He.ba h
  obtain ⟨h10, h11⟩ := He.ba h
  exact ⟨h1, He.eqO_ok h2, of_decide_eq_true h3, He.eqO_ok h4, He.eqO_ok h5, of_decide_eq_true h6, of_decide_eq_true h7, fun t ht => of_decide_eq_true (List.all_eq_true.mp h8 t ht), fun t ht => of_decide_eq_true (List.all_eq_true.mp h9 t ht), fun t ht => List.all_eq_true.mp h10 t ht, h11⟩
/-- a property -/
def bProp (x f : Str) : Frg → Bool := fun K => He.eqO (PySem.W.findIn K (.ref (He.ga K x)) f) (some (some (.ref (He.ma K (He.ga K x) f)))) && (He.eqO (PySem.W.specialIn K (.ref (He.ma K (He.ga K x) f)) "__get__") (some (some (.builtin "property.__get__"))) &&
  (decide (PySem.W.takesIn K (.ref (He.ma K (He.ga K x) f)) = some true) && (match PySem.W.recIn K (He.ma K (He.ga K x) f) "property" with
    | some (.ref _ :: _) => true
    | _ => false)))
theorem prop_of {K : Frg} {x f : Str} (h : bProp x f K = true) : PropOf K (He.ga K x) f (He.ma K (He.ga K x) f) (He5.wf K (He.ga K x) "property" f) := by
  obtain ⟨h1, h⟩ := He.ba h
  obtain ⟨h2, h⟩ := He.ba h
  obtain ⟨h3, h4⟩ := He.ba h
  refine ⟨He.eqO_ok h1, He.eqO_ok h2, of_decide_eq_true h3, ?_⟩
  unfold He5.wf
  split at h4
  · rename_i f r e
    exact ⟨r, by rw [e]⟩
  · cases h4
section
variable {K : Frg} {h : Heap} {mg : Str → Option Value}
theorem glo_of (X : K.In h) (G : h.Ns mainGlobals mg) {x : Str} (c : bGlo x K = true) : mg x = some (.ref (He.ga K x)) := He.glo_ok X G c
theorem free_of (X : K.In h) (G : h.Ns mainGlobals mg) {x : Str} (c : bFree x K = true) : mg x = none := He.free_ok X G c
theorem int_of (X : K.In h) (G : h.Ns mainGlobals mg) {x : Str} {i : Int} (c : bInt x i K = true) : ∃ t, mg x = some (.int i t) := He.int_ok X G c
theorem str_of (X : K.In h) (G : h.Ns mainGlobals mg) {x z : Str} (c : bStr x z K = true) : ∃ t, mg x = some (.str z t) := He.str_ok X G c
theorem cls_of {x : Str} (c : bCls x K = true) : Cls K (He.ga K x) := He.cls_ok c
theorem no_of {x f : Str} (c : bNo x f K = true) : NoAttr K (He.ga K x) f := He.noat_ok c
theorem meth_of {x m : Str} (c : bMeth x m K = true) : Meth K (He.ga K x) m (He.ma K (He.ga K x) m) := He.meth_ok c
theorem mk_of {x : Str} (c : bMk x K = true) : Mk K (He.ga K x) (He.ma K (He.ga K x) "__init__") := He.mkr_ok c
theorem keep_of {x : Str} (c : bKeep x K = true) : PySem.W.keepIn K (.ref (He.ga K x)) = true := He.keep_ok c
end
/-! ### a def by its text -/
section
variable {P : Program} {w : World} {K : Frg} {mg : Str → Option Value} {base : Heap}
abbrev DefAt (K : Frg) (x qual : Str) (st : Stmt) (f : Addr) : Prop := ∃ fd, L2.FunD K x qual (defArgs st) (defBody st) (defScope st) [] [] f fd
theorem zfn {x qual : Str} {st : Stmt} {f : Addr} {N ps : List Str} {k : Nat} {sp : Sp} (F : DefAt K x qual st f) (S : FnScope N ps (defScope st)) (len : ∀ vs H Q E, sp vs H Q E → vs.length = ps.length)
    (hb : ∀ (kV doc pm : Value) (an : Option Addr) (cdv ct : Value) (us : List Value), us.length = ps.length → bindArgs (PySem.W.fnOf x qual (defArgs st) (defBody st) (defScope st) .none kV doc pm an cdv ct) ⟨us, []⟩ = pure (ps.zip us))
    (hbody : ∀ (cdv : Value) (A : Around) (outer : List Env) (s : Shared) (H : Hp) (vs : List V) (Q : VK) (E : XK), Room k (A.deeper (envOfC qual (defScope st) s.heap.objs.size f cdv)) → sp vs H Q E →
      ∃ t, PSs (cxOf (L2.CX P w) P w K mg base N qual (defScope st) f cdv A outer s H E) (defBody st) t ∧ t { nx := fun _ H' => Q .non H', rt := Q } (start N vs) H) : FnR P w K mg base (L2.CX P w) (k + 1) f sp := by
  obtain ⟨fd, F⟩ := F
  have B : Binds K fd ps [] := F.bindsN hb
  exact ((FunD.ok F S len hbody).raw B .nil).imp fun vs H Q E h => by rw [List.append_nil]; exact h
end
def Sp0 (P : Hp → VK → XK → Prop) : Sp := fun vs H Q E => vs = [] ∧ P H Q E
def Sp1 (P : V → Hp → VK → XK → Prop) : Sp := fun vs H Q E => ∃ a, vs = [a] ∧ P a H Q E
def Sp2 (P : V → V → Hp → VK → XK → Prop) : Sp := fun vs H Q E => ∃ a b, vs = [a, b] ∧ P a b H Q E
def Sp3 (P : V → V → V → Hp → VK → XK → Prop) : Sp := fun vs H Q E => ∃ a b c, vs = [a, b, c] ∧ P a b c H Q E
def Sp4 (P : V → V → V → V → Hp → VK → XK → Prop) : Sp := fun vs H Q E => ∃ a b c d, vs = [a, b, c, d] ∧ P a b c d H Q E
theorem len0 {P} : ∀ vs H Q E, Sp0 P vs H Q E → vs.length = 0 := fun _ _ _ _ ⟨e, _⟩ => by rw [e]; rfl
theorem len1 {P} : ∀ vs H Q E, Sp1 P vs H Q E → vs.length = 1 := fun _ _ _ _ ⟨_, e, _⟩ => by rw [e]; rfl
theorem len2 {P} : ∀ vs H Q E, Sp2 P vs H Q E → vs.length = 2 := fun _ _ _ _ ⟨_, _, e, _⟩ => by rw [e]; rfl
theorem len3 {P} : ∀ vs H Q E, Sp3 P vs H Q E → vs.length = 3 := fun _ _ _ _ ⟨_, _, _, e, _⟩ => by rw [e]; rfl
theorem len4 {P} : ∀ vs H Q E, Sp4 P vs H Q E → vs.length = 4 := fun _ _ _ _ ⟨_, _, _, _, e, _⟩ => by rw [e]; rfl
end Z
namespace Z
open PySem PySem.Spec PyProof.Rows L2
/-- a new object at p: what is behind -/
def New (H : Hp) (o : HO) (Q : Addr → Hp → Prop) : Prop := ∀ p H2, H p = none → H2 = upd H p o → Q p H2
theorem New.run {H : Hp} {o : HO} {Q : Addr → Hp → Prop} (h : New H o Q) : ∀ p, H p = none → Q p (upd H p o) := fun p hp => h p _ hp rfl
/-- a store -/
def Put (H : Hp) (p : Addr) (o : HO) (Q : Hp → Prop) : Prop := ∀ H2, H2 = upd H p o → Q H2
theorem Put.run {H : Hp} {p : Addr} {o : HO} {Q : Hp → Prop} (h : Put H p o Q) : Q (upd H p o) := h _ rfl
section
variable {ms : List Addr} {F H H2 : Hp} {p : Addr} {o : HO}
theorem newE (hs : Same F H) (hp : H p = none) (e : H2 = upd H p o) : ∃ F2, Go [] F H F2 H2 ∧ F2 p = some o ∧ H2 p = some o := ⟨upd F p o, by rw [e]; exact Go.new hs hp, upd_same, by rw [e]; exact upd_same⟩
theorem newM (hs : Same F H) (hp : H p = none) (e : H2 = upd H p o) : Go [] F H F H2 ∧ F p = none ∧ H2 p = some o := ⟨by rw [e]; exact Go.newM hs hp, same_none hs hp, by rw [e]; exact upd_same⟩
theorem putM (hs : Same F H) (hp : F p = none) (e : H2 = upd H p o) : Go [p] F H F H2 ∧ H2 p = some o := ⟨by rw [e]; exact Go.put hs hp, by rw [e]; exact upd_same⟩
end
section
variable {X : Cx} {e a b : Expr} {es : List Expr} {t t' te tb : TE} {ta : TA} {pos : Pos}
theorem pe_imp (h : PE X e t) (f : ∀ σ H Q, t' σ H Q → t σ H Q) : PE X e t' := ⟨fun pins s σ H Q I z => h.run pins s σ H Q I (f σ H Q z)⟩
def wkA (t : TA) : TA := fun σ H Q => ∃ Q0, t σ H Q0 ∧ ∀ xs H1, Q0 xs H1 → Q xs H1
theorem pa_wk (h : PA X es ta) : PA X es (wkA ta) := ⟨fun pos pins s σ H Q I ⟨Q0, z, f⟩ => thn (h.run pos pins s σ H Q0 I z) fun us s1 ⟨xs, H1, I1, r, q⟩ => ⟨xs, H1, I1, r, f xs H1 q⟩⟩
def wkE (t : TE) : TE := fun σ H Q => ∃ Q0, t σ H Q0 ∧ ∀ x H1, Q0 x H1 → Q x H1
theorem pe_wk (h : PE X e t) : PE X e (wkE t) := ⟨fun pins s σ H Q I ⟨Q0, z, f⟩ => thn (h.run pins s σ H Q0 I z) fun us s1 ⟨xs, H1, I1, r, q⟩ => ⟨xs, H1, I1, r, f xs H1 q⟩⟩
def tTupZ (t : TA) : TE := fun σ H Q => t σ H fun xs H1 => xs.length ≤ sizeLine ∧ New H1 (.tup xs) fun p H2 => Q (.ref p) H2
def tLstZ (t : TA) : TE := fun σ H Q => t σ H fun xs H1 => xs.length ≤ sizeLine ∧ New H1 (.lst xs) fun p H2 => Q (.ref p) H2
theorem pe_tupZ {x1} (h : PA X es ta) : PE X (.Tuple es x1 pos) (tTupZ ta) := pe_imp (pe_tup (pa_wk h)) fun _ _ _ z => ⟨_, z, fun _ _ q => ⟨q.1, q.2.run⟩⟩
theorem pe_lstZ (h : PA X es ta) : PE X (.List es pos) (tLstZ ta) := pe_imp (pe_lst (pa_wk h)) fun _ _ _ z => ⟨_, z, fun _ _ q => ⟨q.1, q.2.run⟩⟩
theorem op_imp {f : Value → Value → Sem Value} {r r' : R2} (h : OpR X f r) (g : ∀ x y H Q, r' x y H Q → r x y H Q) : OpR X f r' := fun pins s σ H x y v u Q I rx ry z => h pins s σ H x y v u Q I rx ry (g x y H Q z)
theorem call_imp {f : Value} {r r' : List V → Hp → VK → Prop} (h : CallR X f r) (g : ∀ xs H Q, r' xs H Q → r xs H Q) : CallR X f r' := fun pins s σ H xs us Q I rx z => h pins s σ H xs us Q I rx (g xs H Q z)
theorem mt_imp {id : String} {r r' : V → List V → Hp → VK → Prop} (h : MtR X id r) (g : ∀ x xs H Q, r' x xs H Q → r x xs H Q) : MtR X id r' := fun pins s σ H x xs v us Q I rx rs z => h pins s σ H x xs v us Q I rx rs (g x xs H Q z)
def rCatZ : R2 := fun x y H Q => ∃ l b xs zs, x = .ref l ∧ y = .ref b ∧ H l = some (.lst xs) ∧ H b = some (.lst zs) ∧ xs.length + zs.length ≤ sizeLine ∧ New H (.lst (xs ++ zs)) fun p H2 => Q (.ref p) H2
theorem op_catZ : OpR X (binaryOp .Add) rCatZ := op_imp op_cat fun _ _ _ _ ⟨l, b, xs, zs, e1, e2, h1, h2, hz, n⟩ => ⟨l, b, xs, zs, e1, e2, h1, h2, hz, n.run⟩
def rRepZ : R2 := fun x y H Q => ∃ l k xs, x = .ref l ∧ y = .int k ∧ H l = some (.lst xs) ∧ -(2 ^ 63) ≤ k ∧ k < 2 ^ 63 ∧ xs.length * k.toNat ≤ sizeLine ∧ New H (.lst (List.replicate k.toNat xs).flatten) fun p H2 => Q (.ref p) H2
def rListZ (K : Frg) : List V → Hp → VK → Prop := fun xs H Q => ∃ p ys, xs = [.ref p] ∧ (SqL K H p ys ∨ SqT K H p ys) ∧ New H (.lst ys) fun l H2 => Q (.ref l) H2
theorem call_listZ : CallR X (.type "list") (rListZ X.K) := call_imp call_list_of fun _ _ _ ⟨p, ys, e, h, n⟩ => ⟨p, ys, e, h, n.run⟩
/-- tuple(xs), xs a list -/
def rTupleZ (K : Frg) : List V → Hp → VK → Prop := fun xs H Q => ∃ p ys, xs = [.ref p] ∧ SqL K H p ys ∧ New H (.tup ys) fun l H2 => Q (.ref l) H2
theorem call_tupleZ : CallR X (.type "tuple") (rTupleZ X.K) := call_imp call_tuple_of fun _ _ _ ⟨p, ys, e, h, n⟩ => ⟨p, ys, e, .inl ⟨h, n.run⟩⟩
def rSlLZ (K : Frg) : V → Option Int → Option Int → Hp → VK → Prop := fun x lo hi H Q => ∃ a xs, x = .ref a ∧ SqL K H a xs ∧ New H (.lst (cutV xs lo hi)) fun p H2 => Q (.ref p) H2
theorem sl_listZ : L2.SlR X (rSlLZ X.K) := fun pins s σ H x v vl vu lo hi sl Q I rx hs pl pu ⟨a, xs, e, h, n⟩ => sl_list pins s σ H x v vl vu lo hi sl Q I rx hs pl pu ⟨a, xs, e, h, n.run⟩
def rAppZ : V → List V → Hp → VK → Prop := fun x vs H Q => ∃ l xs y, x = .ref l ∧ vs = [y] ∧ H l = some (.lst xs) ∧ xs.length < sizeLine ∧ Put H l (.lst (xs ++ [y])) fun H2 => Q .non H2
theorem mt_appZ : MtR X "list.append" rAppZ := mt_imp mt_append fun _ _ _ _ ⟨l, xs, y, e1, e2, h, hz, n⟩ => ⟨l, xs, y, e1, e2, h, hz, n.run⟩
def rSetLZ : TSet := fun o i v H Q => ∃ p xs k j, o = .ref p ∧ i = .int k ∧ H p = some (.lst xs) ∧ ixN xs.length k = some j ∧ Put H p (.lst (xs.set j v)) Q
theorem set_listZ : PSet X rSetLZ := fun pins s σ H o i v ov iv vv Q I ro ri rv ⟨p, xs, k, j, e1, e2, h, hj, n⟩ => set_list pins s σ H o i v ov iv vv Q I ro ri rv ⟨p, xs, k, j, e1, e2, h, hj, n.run⟩
theorem pe_globI {x : Str} {i : Int} (hg : Gl X x) (h : ∃ t, X.mg x = some (.int i t)) (hd : (x == ("__debug__" : Str)) = false := by decide) : PE X (.Name x pos) (tC (.int i)) := let ⟨t, q⟩ := h; pe_glob hg q ⟨t, rfl⟩ hd
theorem pe_globS {x z : Str} (hg : Gl X x) (h : ∃ t, X.mg x = some (.str z t)) (hd : (x == ("__debug__" : Str)) = false := by decide) : PE X (.Name x pos) (tC (.str z)) := let ⟨t, q⟩ := h; pe_glob hg q ⟨t, rfl⟩ hd
/-- making an instance, by what the maker promises -/
theorem zmake {CX : CXT} {k : Nat} {f C : Addr} {x : Str} {p : Pos} {spI spM : Sp} {E : XK} (mk : ∀ vs H Q, spM vs H Q E → ∀ x dx, H x = none → H dx = none → dx ≠ x → spI (.ref x :: vs) (upd (upd H dx (.own x)) x (.ins C dx [])) (fun v H2 => v = .non ∧ Q (.ref x) H2) E)
    (M : Mk X.K C f) (F : FnR X.prog X.w X.K X.mg X.base CX k f spI) (hr : Room (k + 1) X.A) (hg : Gl X x) (hm : X.mg x = some (.ref C)) (hx : Passes CX X E) (ha : PA X (e :: es) ta) (hdb : (x == ("__debug__" : Str)) = false := by decide)
    (he : starEach (e :: es) X.env = (false, eval e X.env) :: starEach es X.env := by rfl) (hpl : (backTo pos (starEach es X.env)).any (·.1) = false := by rfl) : PE X (.Call (.Name x p) (e :: es) [] pos) (tFn spM E ta) :=
  pe_imp (StX.pe_makeR M F hr hg hm hx (pa_wk ha) hdb he hpl) fun _ _ Q z => ⟨_, z, fun vs H1 q => mk vs H1 Q q⟩
end
/-- a statement and what follows, with a word between them -/
def tCutZ (t u : TS) : TS := fun D σ H => ∃ Mid : L2.St → Hp → Prop, t { D with nx := Mid } σ H ∧ ∀ σ' H', Mid σ' H' → u D σ' H'
theorem zcut {X : Cx} {st : Stmt} {rest : List Stmt} {t u : TS} (h1 : PS X st t) (h2 : PSs X rest u) : PSs X (st :: rest) (tCutZ t u) := by
  have w : PS X st (fun D σ H => ∃ Mid : L2.St → Hp → Prop, t { D with nx := Mid } σ H ∧ ∀ σ' H', Mid σ' H' → D.nx σ' H') := ⟨fun pins s σ H D I ⟨Mid, z, f⟩ => thn (h1.run pins s σ H _ I z) fun fl s' q => by
    cases fl with
    | next => obtain ⟨σ', H', I', q'⟩ := q; exact ⟨σ', H', I', f _ _ q'⟩
    | brk => exact q
    | cont => exact q
    | ret v => exact q⟩
  exact ⟨fun pins s σ H D I ⟨Mid, z, f⟩ => (pss_cons w h2).run pins s σ H D I ⟨Mid, z, f⟩⟩
theorem lenOk {α : Type} {xs : List α} (h : Nat.ble xs.length 1000 = true) : xs.length ≤ sizeLine := Nat.le_trans (Nat.le_of_ble_eq_true h) (by decide)
end Z
namespace Z
open PySem PySem.Spec PyProof.Rows L2
theorem tyT {K : Frg} {H : Hp} {a : Addr} {xs : List V} (h : SqT K H a xs) : TyX K H (.ref a) (.type "tuple") := by
  rcases h with (h | ⟨o, h⟩) | ⟨o, its, n, h1, h2, _⟩
  · exact .base (.tup h)
  · exact .fTuple h
  · exact .kTuple h1 h2
theorem tyL {K : Frg} {H : Hp} {a : Addr} {xs : List V} (h : SqL K H a xs) : TyX K H (.ref a) (.type "list") := by
  rcases h with (h | ⟨o, h⟩) | ⟨o, its, n, h1, h2, _⟩
  · exact .base (.lst h)
  · exact .base (.frz h)
  · exact .kList h1 h2
theorem tyI {K : Frg} {H : Hp} (i : Int) : TyX K H (.int i) (.type "int") := .base (.int i)
theorem tyO {K : Frg} {H : Hp} {C a dx : Addr} {fs : List (Str × V)} (c : Cls K C) (o : Own K C) (h : H a = some (.ins C dx fs)) : TyX K H (.ref a) (.ref C) := .base (.ins h c o.ha o.hn o.ht o.ob)
/-- the reading of a comprehension behind its source -/
def LcR (J : It) (g : TG) (tt : TT) (te : TE) (vs : List Nat) (σ : L2.St) (H1 : Hp) (Q : VK) : Prop := ∀ D, H1 D = none → ∃ W : Nat → Nat → Hp → Prop, (∃ m, W 0 m (upd H1 D (.lst []))) ∧ ∀ i m H, W i m H →
  (J.stop i H ∧ Q (.ref D) H) ∨ (J.go i H ∧ ∃ Nx : Hp → Prop, (∀ H', Nx H' → ∃ m', m' < m ∧ W (i + 1) m' H') ∧ ∀ x H', J.yld i H x H' → g x (wipe σ vs) H' fun σ2 H2 => wipe σ2 vs = wipe σ vs ∧ tt σ2 H2 fun b H3 =>
    if b = true then te σ2 H3 fun y H4 => ∃ acc, H4 D = some (.lst acc) ∧ acc.length < sizeLine ∧ Nx (upd H4 D (.lst (acc ++ [y]))) else Nx H3)
def tLcZ (wi : TI) (g : TG) (tt : TT) (te : TE) (vs : List Nat) : TE := fun σ H Q => wi σ H fun J H1 => LcR J g tt te vs σ H1 Q
theorem tLcZ_eq : @tLcZ = @tLc := rfl
theorem pe_lcZ {X : Cx} {e : Expr} {wi : TI} {g : TG} {tt : TT} {te : TE} {vs : List Nat} (h : PE X e (tLc wi g tt te vs)) : PE X e (tLcZ wi g tt te vs) := h
theorem ps_lcZ {X : Cx} {s : Stmt} {wi : TI} {g g2 : TG} {tt : TT} {te : TE} {vs : List Nat} (h : PS X s (tAsg (tLc wi g tt te vs) g2)) : PS X s (tAsg (tLcZ wi g tt te vs) g2) := h
/-- a comprehension, by what holds of the items made so far -/
theorem lc_go {J : It} {n : Nat} {G : Hp → Prop} {Y : Nat → Hp → V → Hp → Prop} (w : Walk J n G Y) {g : TG} {tt : TT} {te : TE} {vs : List Nat} {σ : L2.St} {F H : Hp} {ms : List Addr} {Q : VK} (hs : Same F H) (hm : ∀ a ∈ ms, H a ≠ none) (M : Hp → Hp → Prop) (m0 : M F H)
    (mst : ∀ D F1 H1 F2 H2, H D = none → M F1 H1 → Go [D] F1 H1 F2 H2 → M F2 H2) (hG : ∀ F1 H1, Go ms F H F1 H1 → M F1 H1 → G H1) (I : Nat → List V → Hp → Prop) (i0 : I 0 [] F) (im : ∀ i acc F1 F2, Same F1 F2 → I i acc F1 → I i acc F2) (hn : n ≤ 100000)
    (turn : ∀ i x acc F1 H1 H1', i < n → acc.length ≤ i → I i acc F1 → Go ms F H F1 H1 → M F1 H1 → Y i H1 x H1' → ∀ (Kp : V → Hp → Prop) (Sk : Hp → Prop), (∀ y F2 H2, Go ms F1 H1 F2 H2 → M F2 H2 → I (i + 1) (acc ++ [y]) F2 → Kp y H2) →
      (∀ F2 H2, Go ms F1 H1 F2 H2 → M F2 H2 → I (i + 1) acc F2 → Sk H2) → g x (wipe σ vs) H1' fun σ2 H2 => wipe σ2 vs = wipe σ vs ∧ tt σ2 H2 fun b H3 => if b = true then te σ2 H3 Kp else Sk H3)
    (fin : ∀ D ys F' H', Go ms F H F' H' → M F' H' → F' D = some (.lst ys) → ys.length ≤ n → I n ys F' → Q (.ref D) H') :
    LcR J g tt te vs σ H Q := by
  intro D hD
  have hsz : (100000 : Nat) < sizeLine := by decide
  have dm : D ∉ ms := fun z => hm D z hD
  have st : ∀ {F2 H2 : Hp} {acc : List V}, Go ms F H F2 H2 → M F2 H2 → F2 D = none → ∀ o, Go ms F H F2 (upd H2 D o) ∧ M F2 (upd H2 D o) := fun {F2 H2 acc} gg m fd o => by
    have p : Go [D] F2 H2 F2 (upd H2 D o) := Go.put gg.fh fd
    have p2 : Go (D :: ms) F2 H2 F2 (upd H2 D o) := p.sub fun a ha => by
      rcases List.mem_cons.mp ha with e | e
      · rw [e]; exact List.mem_cons_self
      · cases e
    have g2 : Go (D :: ms) F H F2 H2 := gg.sub fun a ha => List.mem_cons_of_mem _ ha
    exact ⟨(g2.trans p2).drop hD, mst D _ _ _ _ hD m p⟩
  refine lc_it w (fun i H' => ∃ F' acc, Go ms F H F' H' ∧ M F' H' ∧ F' D = none ∧ H' D = some (.lst acc) ∧ acc.length ≤ i ∧ I i acc F') ?_ (fun i H' _ ⟨F', acc, g1, m1, _⟩ => hG F' H' g1 m1) ?_ ?_
  · have fd := same_none hs hD
    obtain ⟨a, b⟩ := st (acc := []) (Go.refl hs) m0 fd (.lst [])
    exact ⟨F, [], a, b, fd, upd_same, Nat.le_refl _, i0⟩
  · rintro i x H1 H1' hi ⟨F1, acc, g1, m1, fd, hd, hl, hI⟩ hy
    refine turn i x acc F1 H1 H1' hi hl hI g1 m1 hy _ _ (fun y F2 H2 g2 m2 I2 => ?_) fun F2 H2 g2 m2 I2 => ?_
    · have key : F2 D = none ∧ H2 D = some (.lst acc) := g2.mu D _ dm fd hd
      obtain ⟨a, b⟩ := st (acc := acc) (g1.trans g2) m2 key.1 (.lst (acc ++ [y]))
      refine ⟨acc, key.2, by omega, F2, acc ++ [y], a, b, key.1, upd_same, ?_, I2⟩
      rw [List.length_append]
      show acc.length + 1 ≤ i + 1
      omega
    · have key : F2 D = none ∧ H2 D = some (.lst acc) := g2.mu D _ dm fd hd
      exact ⟨F2, acc, g1.trans g2, m2, key.1, key.2, by omega, I2⟩
  · rintro H' ⟨F', acc, g1, m1, fd, hd, hl, hI⟩
    have fz : Go [D] F' H' (upd F' D (.lst acc)) H' := Go.freeze g1.fh fd hd
    have g2 : Go (D :: ms) F H (upd F' D (.lst acc)) H' := (g1.sub fun a ha => List.mem_cons_of_mem _ ha).trans (fz.sub fun a ha => by
      rcases List.mem_cons.mp ha with e | e
      · rw [e]; exact List.mem_cons_self
      · cases e)
    exact fin D acc _ H' (g2.drop hD) (mst D _ _ _ _ hD m1 fz) upd_same hl (im _ _ _ _ fz.ff hI)
/-- law's promise -/
def spLaw (K : Frg) : Sp := Sp1 fun a H Q _ => ∃ (s : Addr) (ns : List Int), a = .ref s ∧ ns.length ≤ 63 ∧ SqL K H s (ns.map V.int) ∧ ∀ H', Q (.bl true) H'
def LawOk (P : Program) (w : World) (K : Frg) (mg : Str → Option Value) (k : Nat) (f : Addr) (x : Str) (sp : Sp) : Prop :=
  ∃ fd : FuncData, (∀ (s : Shared) (u : Value), BindsTo s fd ⟨[u], []⟩ [(x, u)]) ∧ ∀ base : Heap, FnOk P w K mg base (L2.CX P w) k f fd [x] sp
theorem zlaw {P : Program} {w : World} {K : Frg} {mg : Str → Option Value} {x qual px : Str} {st : Stmt} {f : Addr} {N : List Str} {k : Nat} {sp : Sp} (F : DefAt K x qual st f) (S : FnScope N [px] (defScope st)) (len : ∀ vs H Q E, sp vs H Q E → vs.length = 1)
    (hb : ∀ (kV doc pm : Value) (an : Option Addr) (cdv ct : Value) (us : List Value), us.length = 1 → bindArgs (PySem.W.fnOf x qual (defArgs st) (defBody st) (defScope st) .none kV doc pm an cdv ct) ⟨us, []⟩ = pure ([px].zip us))
    (hbody : ∀ (base : Heap) (cdv : Value) (A : Around) (outer : List Env) (s : Shared) (H : Hp) (vs : List V) (Q : VK) (E : XK), Room k (A.deeper (envOfC qual (defScope st) s.heap.objs.size f cdv)) → sp vs H Q E →
      ∃ t, PSs (cxOf (L2.CX P w) P w K mg base N qual (defScope st) f cdv A outer s H E) (defBody st) t ∧ t { nx := fun _ H' => Q .non H', rt := Q } (start N vs) H) : LawOk P w K mg (k + 1) f px sp := by
  obtain ⟨fd, F⟩ := F
  exact ⟨fd, fun s v => FunD.bindsA (ps := [px]) F hb s [v] rfl, fun base => FunD.ok F S len (hbody base)⟩
theorem cx_no {P : World → Program} (w : World) (H : Hp) (s : Shared) (e : Value) (s' : Shared) (h : L2.CX (P w) w [] H s (fun _ _ _ => False) e s') : False := by
  obtain ⟨_, _, _, _, _, _, _, _, _, _, _, _, z⟩ := h
  exact z
end Z
namespace Z
open PySem PySem.Spec PyProof.Rows L2
theorem blF {c : Prop} [Decidable c] (h : ¬ c) : V.bl (decide c) = .bl false := by rw [decide_eq_false h]
theorem blT {c : Prop} [Decidable c] (h : c) : V.bl (decide c) = .bl true := by rw [decide_eq_true h]
/-! ### what is_integer, is_place tell -/
theorem tyX_mono {K : Frg} {F H : Hp} (s : Same F H) {x : V} {t : Value} (h : TyX K F x t) : TyX K H x t := by
  cases h with
  | base b =>
    refine .base ?_
    cases b with
    | non => exact .non
    | bl y => exact .bl y
    | int i => exact .int i
    | str y => exact .str y
    | flt y => exact .flt y
    | lst e => exact .lst (s _ _ e)
    | frz e => exact .frz (s _ _ e)
    | tup e => exact .tup (s _ _ e)
    | dK e => exact .dK (s _ _ e)
    | dT e => exact .dT (s _ _ e)
    | ins e a b c d f => exact .ins (s _ _ e) a b c d f
  | byt b => exact .byt b
  | set e => exact .set (s _ _ e)
  | kList e c => exact .kList e c
  | kTuple e c => exact .kTuple e c
  | kDict e c => exact .kDict e c
  | fTuple e => exact .fTuple (s _ _ e)
  | fDict e => exact .fDict (s _ _ e)
def IntQ (K : Frg) (H : Hp) (v : V) (b : Bool) : Prop := ∃ t b1 b2, TyX K H v t ∧ PySem.W.kitOne K t (.type "int") = some b1 ∧ (b1 = true → PySem.W.kitOne K t (.type "bool") = some b2) ∧ b = (b1 && !b2)
theorem intQ_mono {K : Frg} {F H : Hp} (s : Same F H) {v : V} {b : Bool} (h : IntQ K F v b) : IntQ K H v b := by
  obtain ⟨t, b1, b2, ty, r⟩ := h
  exact ⟨t, b1, b2, tyX_mono s ty, r⟩
theorem intQ_int {K : Frg} {H : Hp} (i : Int) : IntQ K H (.int i) true := ⟨_, true, false, tyI i, kit_ty (by decide +kernel), fun _ => kit_ty (by decide +kernel), rfl⟩
def PlaceQ (K : Frg) (F : Hp) (a : V) (b : Bool) : Prop := (∃ t, TyX K F a t ∧ PySem.W.kitOne K t (.type "tuple") = some false ∧ b = false) ∨ (∃ p xs, a = .ref p ∧ SqT K F p xs ∧ xs.length ≠ 2 ∧ b = false) ∨
  (∃ p u v bu bv, a = .ref p ∧ SqT K F p [u, v] ∧ IntQ K F u bu ∧ IntQ K F v bv ∧ b = (bu && bv))
theorem placeQ {K : Frg} {F : Hp} {p : Addr} {x y : Int} (h : SqT K F p [.int x, .int y]) : PlaceQ K F (.ref p) true := .inr (.inr ⟨p, _, _, true, true, rfl, h, intQ_int x, intQ_int y, rfl⟩)
def spIsInt (K : Frg) : Sp := Sp1 fun a H Q _ => ∃ b, IntQ K H a b ∧ Q (.bl b) H
def spIsPlace (K : Frg) : Sp := Sp1 fun a H Q _ => ∃ F b, Same F H ∧ PlaceQ K F a b ∧ ∀ F' H', Go [] F H F' H' → Q (.bl b) H'
def spChkPlace (K : Frg) : Sp := Sp1 fun a H Q _ => ∃ F, Same F H ∧ PlaceQ K F a true ∧ ∀ F' H', Go [] F H F' H' → Q .non H'
def optV : Option Int → V
  | none => .non
  | some m => .int m
def spChkNum (K : Frg) : Sp := Sp3 fun a b c H Q _ => ∃ (v lo : Int) (hi : Option Int), a = .int v ∧ b = .int lo ∧ c = optV hi ∧ lo ≤ v ∧ (∀ m, hi = some m → v ≤ m) ∧ Q .non H
def spGcd : Sp := Sp2 fun a b H Q _ => ∃ x y : Int, a = .int x ∧ b = .int y ∧ Q (.int (Int.gcd x y)) H
theorem gcd_emod (x y : Int) : Int.gcd y x = Int.gcd y (x % y) := by
  have h := Int.gcd_add_mul_right_right y (x % y) (x / y)
  rw [show x % y + x / y * y = x from by rw [Int.mul_comm]; exact Int.emod_add_mul_ediv x y] at h
  exact h
def numsOk : V → V → V → Bool
  | .int a, .int b, .int c => decide (1 ≤ c) && (decide (0 ≤ b) && decide (b < a))
  | _, _, _ => false
def spAreNum (K : Frg) : Sp := Sp1 fun q H Q _ => ∃ F p u v x bu bv bx, q = .ref p ∧ Same F H ∧ SqT K F p [u, v, x] ∧ IntQ K F u bu ∧ IntQ K F v bv ∧ IntQ K F x bx ∧ ((bu && (bv && bx)) = true → ∃ a b c : Int, u = .int a ∧ v = .int b ∧ x = .int c) ∧
  ∀ F' H', Go [] F H F' H' → Q (.bl ((bu && (bv && bx)) && numsOk u v x)) H'
end Z
namespace MN
/-- the place of the cell -/
def low (a b c x y : Int) : Int × Int := ((x - y / c * b) % a, y - y / c * c)
/-- a shift of the net -/
def InN (a b c x y : Int) : Prop := ∃ m k : Int, x = m * a + k * b ∧ y = k * c
theorem inN_add {a b c x y x' y' : Int} (h : InN a b c x y) (h' : InN a b c x' y') : InN a b c (x + x') (y + y') := by
  obtain ⟨m, k, h1, h2⟩ := h
  obtain ⟨m', k', h3, h4⟩ := h'
  exact ⟨m + m', k + k', by grind, by grind⟩
theorem inN_neg {a b c x y : Int} (h : InN a b c x y) : InN a b c (-x) (-y) := by
  obtain ⟨m, k, h1, h2⟩ := h
  exact ⟨-m, -k, by grind, by grind⟩
theorem inN_sub {a b c x y x' y' : Int} (h : InN a b c x y) (h' : InN a b c x' y') : InN a b c (x - x') (y - y') := by
  obtain ⟨m, k, h1, h2⟩ := h
  obtain ⟨m', k', h3, h4⟩ := h'
  exact ⟨m - m', k - k', by grind, by grind⟩
theorem inN_zero {a b c : Int} : InN a b c 0 0 := ⟨0, 0, by grind, by grind⟩
theorem inN_mul {a b c x y : Int} (n : Int) (h : InN a b c x y) : InN a b c (n * x) (n * y) := by
  obtain ⟨m, k, h1, h2⟩ := h
  exact ⟨n * m, n * k, by grind, by grind⟩
theorem low_in (a b c x y : Int) : InN a b c (x - (low a b c x y).1) (y - (low a b c x y).2) := by
  refine ⟨(x - y / c * b) / a, y / c, ?_, ?_⟩
  · show x - (x - y / c * b) % a = _
    have := Int.emod_add_mul_ediv (x - y / c * b) a
    grind
  · show y - (y - y / c * c) = _
    grind
theorem low_rng {a b c x y : Int} (ha : 0 < a) (hc : 0 < c) : 0 ≤ (low a b c x y).1 ∧ (low a b c x y).1 < a ∧ 0 ≤ (low a b c x y).2 ∧ (low a b c x y).2 < c := by
  have h1 := Int.emod_nonneg (x - y / c * b) (show a ≠ 0 by omega)
  have h2 := Int.emod_lt_of_pos (x - y / c * b) ha
  have h3 := Int.emod_nonneg y (show c ≠ 0 by omega)
  have h4 := Int.emod_lt_of_pos y hc
  have h5 := Int.emod_add_mul_ediv y c
  have e : y - y / c * c = y % c := by grind
  refine ⟨h1, h2, ?_, ?_⟩
  · show 0 ≤ y - y / c * c
    omega
  · show y - y / c * c < c
    omega
/-- within the cell only (0, 0) belongs to the net -/
theorem in_cell {a b c x y : Int} (ha : 0 < a) (hc : 0 < c) (h : InN a b c x y) (hx : -a < x ∧ x < a) (hy : -c < y ∧ y < c) : x = 0 ∧ y = 0 := by
  obtain ⟨m, k, h1, h2⟩ := h
  have hk : k = 0 := by
    rcases Int.lt_trichotomy k 0 with z | z | z
    · have : k * c ≤ -1 * c := Int.mul_le_mul_of_nonneg_right (by omega) (by omega)
      omega
    · exact z
    · have : 1 * c ≤ k * c := Int.mul_le_mul_of_nonneg_right (by omega) (by omega)
      omega
  subst hk
  have hm : m = 0 := by
    rcases Int.lt_trichotomy m 0 with z | z | z
    · have : m * a ≤ -1 * a := Int.mul_le_mul_of_nonneg_right (by omega) (by omega)
      omega
    · exact z
    · have : 1 * a ≤ m * a := Int.mul_le_mul_of_nonneg_right (by omega) (by omega)
      omega
  subst hm
  exact ⟨by omega, by omega⟩
/-- two places have the same place of the cell exactly if they differ by a shift -/
theorem low_eq {a b c x y x' y' : Int} (ha : 0 < a) (hc : 0 < c) : low a b c x y = low a b c x' y' ↔ InN a b c (x - x') (y - y') := by
  have h1 := low_in a b c x y
  have h2 := low_in a b c x' y'
  have r1 := low_rng (b := b) (x := x) (y := y) ha hc
  have r2 := low_rng (b := b) (x := x') (y := y') ha hc
  constructor
  · intro e
    rw [e] at h1
    have := inN_sub h1 h2
    have e1 : x - (low a b c x' y').1 - (x' - (low a b c x' y').1) = x - x' := by omega
    have e2 : y - (low a b c x' y').2 - (y' - (low a b c x' y').2) = y - y' := by omega
    rw [e1, e2] at this
    exact this
  · intro h
    have h3 := inN_sub (inN_sub h h1) (inN_neg h2)
    have e1 : x - x' - (x - (low a b c x y).1) - -(x' - (low a b c x' y').1) = (low a b c x y).1 - (low a b c x' y').1 := by omega
    have e2 : y - y' - (y - (low a b c x y).2) - -(y' - (low a b c x' y').2) = (low a b c x y).2 - (low a b c x' y').2 := by omega
    rw [e1, e2] at h3
    obtain ⟨z1, z2⟩ := in_cell ha hc h3 (by omega) (by omega)
    exact Prod.ext (by omega) (by omega)
theorem low_zero {a b c x y : Int} (ha : 0 < a) (hc : 0 < c) : low a b c x y = (0, 0) ↔ InN a b c x y := by
  have e : low a b c 0 0 = (0, 0) := by simp [low]
  rw [← e, low_eq ha hc]
  simp
theorem low_self {a b c x y : Int} (hx : 0 ≤ x ∧ x < a) (hy : 0 ≤ y ∧ y < c) : low a b c x y = (x, y) := by
  have h : y / c = 0 := Int.ediv_eq_zero_of_lt hy.1 hy.2
  unfold low
  rw [h]
  have : (x - 0 * b) % a = x := by rw [show x - 0 * b = x by omega]; exact Int.emod_eq_of_lt hx.1 hx.2
  rw [this]
  simp
/-! ### the order of a shift -/
theorem dvd_gcd {c y n : Int} (hc : 0 < c) : c ∣ n * y ↔ (c / (Int.gcd c y : Int)) ∣ n := by
  have g0 : (Int.gcd c y : Int) ≠ 0 := by
    have := Int.gcd_pos_of_ne_zero_left y (show c ≠ 0 by omega)
    omega
  have e : (Int.gcd c y : Int) * (c / (Int.gcd c y : Int)) = c := Int.mul_ediv_cancel' (Int.gcd_dvd_left c y)
  have h := Int.mul_dvd_mul_iff_left (b := c / (Int.gcd c y : Int)) (c := n) g0
  rw [e] at h
  rw [Int.mul_comm n y, ← Int.dvd_gcd_mul_iff_dvd_mul, h]
def rowsZ (c y : Int) : Int := c / (Int.gcd c y : Int)
def rightZ (b c x y : Int) : Int := rowsZ c y * x - rowsZ c y * y / c * b
def orderZ (a b c x y : Int) : Int := rowsZ c y * (a / (Int.gcd a (rightZ b c x y) : Int))
theorem rows_pos {c y : Int} (hc : 0 < c) : 0 < rowsZ c y := by
  have g0 := Int.gcd_pos_of_ne_zero_left y (show c ≠ 0 by omega)
  have e : (Int.gcd c y : Int) * (c / (Int.gcd c y : Int)) = c := Int.mul_ediv_cancel' (Int.gcd_dvd_left c y)
  unfold rowsZ
  rcases Int.lt_trichotomy (c / (Int.gcd c y : Int)) 0 with z | z | z
  · have : (Int.gcd c y : Int) * (c / (Int.gcd c y : Int)) < 0 := Int.mul_neg_of_pos_of_neg (by omega) z
    omega
  · rw [z] at e; omega
  · exact z
theorem order_pos {a b c x y : Int} (ha : 0 < a) (hc : 0 < c) : 0 < orderZ a b c x y := Int.mul_pos (rows_pos hc) (rows_pos (y := rightZ b c x y) ha)
theorem rows_dvd {c y : Int} (hc : 0 < c) : rowsZ c y ∣ c := ⟨(Int.gcd c y : Int), (Int.ediv_mul_cancel (Int.gcd_dvd_left c y)).symm⟩
theorem order_dvd {a b c x y : Int} (ha : 0 < a) (hc : 0 < c) : orderZ a b c x y ∣ a * c := by
  rw [Int.mul_comm a c]
  exact Int.mul_dvd_mul (rows_dvd hc) (rows_dvd (y := rightZ b c x y) ha)
theorem inN_iff {a b c x y : Int} (hc : 0 < c) : InN a b c x y ↔ c ∣ y ∧ a ∣ x - y / c * b := by
  constructor
  · rintro ⟨m, k, h1, h2⟩
    have : y / c = k := by rw [h2]; exact Int.mul_ediv_cancel k (by omega)
    refine ⟨⟨k, by rw [h2, Int.mul_comm]⟩, m, ?_⟩
    rw [this]
    grind
  · rintro ⟨⟨k, h1⟩, m, h2⟩
    have : y / c = k := by rw [h1]; exact Int.mul_ediv_cancel_left k (by omega)
    rw [this] at h2
    exact ⟨m, k, by grind, by grind⟩
theorem order_iff {a b c x y : Int} (ha : 0 < a) (hc : 0 < c) (n : Int) : InN a b c (n * x) (n * y) ↔ orderZ a b c x y ∣ n := by
  have r0 := rows_pos (y := y) hc
  have key : ∀ m : Int, a ∣ rowsZ c y * m * x - rowsZ c y * m * y / c * b ↔ (a / (Int.gcd a (rightZ b c x y) : Int)) ∣ m := by
    intro m
    have hr : c ∣ rowsZ c y * y := (dvd_gcd hc).mpr (Int.dvd_refl _)
    have e : rowsZ c y * m * x - rowsZ c y * m * y / c * b = m * rightZ b c x y := by
      have e1 : rowsZ c y * m * y / c = m * (rowsZ c y * y / c) := by
        rw [show rowsZ c y * m * y = m * (rowsZ c y * y) by grind]
        exact Int.mul_ediv_assoc m hr
      rw [e1]
      unfold rightZ
      grind
    rw [e]
    exact dvd_gcd ha
  rw [inN_iff hc]
  constructor
  · rintro ⟨h1, h2⟩
    obtain ⟨m, rfl⟩ := (dvd_gcd hc).mp h1
    have h3 : a ∣ rowsZ c y * m * x - rowsZ c y * m * y / c * b := h2
    exact Int.mul_dvd_mul (Int.dvd_refl _) ((key m).mp h3)
  · rintro ⟨m, rfl⟩
    have hm : orderZ a b c x y * m = rowsZ c y * (a / (Int.gcd a (rightZ b c x y) : Int) * m) := by unfold orderZ; grind
    rw [hm]
    exact ⟨(dvd_gcd hc).mpr ⟨_, rfl⟩, (key _).mpr ⟨m, rfl⟩⟩
theorem order_neg {a b c x y : Int} (ha : 0 < a) (hc : 0 < c) : orderZ a b c (-x) (-y) = orderZ a b c x y := by
  have p1 := order_pos (b := b) (x := x) (y := y) ha hc
  have p2 := order_pos (b := b) (x := -x) (y := -y) ha hc
  have key : ∀ n : Int, orderZ a b c (-x) (-y) ∣ n ↔ orderZ a b c x y ∣ n := by
    intro n
    rw [← order_iff ha hc, ← order_iff ha hc]
    constructor
    · intro h
      have := inN_neg h
      rw [show -(n * -x) = n * x by grind, show -(n * -y) = n * y by grind] at this
      exact this
    · intro h
      have := inN_neg h
      rw [show -(n * x) = n * -x by grind, show -(n * y) = n * -y by grind] at this
      exact this
  have h1 := Int.le_of_dvd p1 ((key _).mpr (Int.dvd_refl _))
  have h2 := Int.le_of_dvd p2 ((key _).mp (Int.dvd_refl _))
  omega
theorem scaled_in {a b c f : Int} (ha : 0 < a) (hc : 0 < c) (hf : 0 < f) (h1 : 1 < a) : ¬ InN (a * f) (b * f) (c * f) f 0 := by
  rintro ⟨m, k, e1, e2⟩
  have h0 : 0 < c * f := Int.mul_pos hc hf
  have k0 : k = 0 := by
    rcases Int.mul_eq_zero.mp e2.symm with h | h
    · exact h
    · omega
  subst k0
  have e3 : (m * a) * f = 1 * f := by grind
  have e4 := Int.eq_of_mul_eq_mul_right (by omega) e3
  have := Int.le_of_dvd (by omega) (⟨m, by grind⟩ : a ∣ 1)
  omega
theorem scaled_order {a b c f : Int} (ha : 0 < a) (hc : 0 < c) (hf : 0 < f) : orderZ (a * f) (b * f) (c * f) a 0 = f := by
  have h0 : 0 < c * f := Int.mul_pos hc hf
  have h1 : 0 < a * f := Int.mul_pos ha hf
  have key : ∀ n, orderZ (a * f) (b * f) (c * f) a 0 ∣ n ↔ f ∣ n := by
    intro n
    rw [← order_iff h1 h0]
    constructor
    · rintro ⟨m, k, e1, e2⟩
      have k0 : k = 0 := by
        rcases Int.mul_eq_zero.mp (show k * (c * f) = 0 by omega) with h | h
        · exact h
        · omega
      subst k0
      have e3 : n * a = (f * m) * a := by grind
      exact ⟨m, Int.eq_of_mul_eq_mul_right (by omega) e3⟩
    · rintro ⟨m, rfl⟩
      exact ⟨m, 0, by grind, by grind⟩
  exact Int.dvd_antisymm (Int.le_of_lt (order_pos h1 h0)) (Int.le_of_lt hf) ((key f).mpr (Int.dvd_refl f)) ((key _).mp (Int.dvd_refl _))
end MN
namespace Z
open PySem PySem.Spec PyProof.Rows L2
/-! ### sizes -/
def Sz (n : Nat) (x : Int) : Prop := x.natAbs < 2 ^ n
theorem Sz.mono {a b : Nat} {x : Int} (h : Sz a x) (hl : a ≤ b) : Sz b x := Nat.lt_of_lt_of_le h (Nat.pow_le_pow_right (by decide) hl)
theorem sz_mul {a b : Nat} {x y : Int} (h : Sz a x) (h' : Sz b y) : Sz (a + b) (x * y) := wide_lt h h'
theorem sz_add {a : Nat} {x y : Int} (h : Sz a x) (h' : Sz a y) : Sz (a + 1) (x + y) := by
  have h1 := Int.natAbs_add_le x y
  have h2 : x.natAbs < 2 ^ a := h
  have h3 : y.natAbs < 2 ^ a := h'
  show (x + y).natAbs < 2 ^ (a + 1)
  rw [Nat.pow_succ]
  omega
theorem sz_neg {a : Nat} {x : Int} (h : Sz a x) : Sz a (-x) := by
  show (-x).natAbs < 2 ^ a
  rw [Int.natAbs_neg]
  exact h
theorem sz_sub {a : Nat} {x y : Int} (h : Sz a x) (h' : Sz a y) : Sz (a + 1) (x - y) := by
  rw [Int.sub_eq_add_neg]
  exact sz_add h (sz_neg h')
theorem sz_div {a : Nat} {x : Int} (y : Int) (h : Sz a x) : Sz a (x / y) := Nat.lt_of_le_of_lt (Int.natAbs_ediv_le_natAbs x y) h
theorem sz_le {a : Nat} {x y : Int} (h0 : 0 ≤ x) (h1 : x ≤ y) (h : Sz a y) : Sz a x := Nat.lt_of_le_of_lt (by omega) h
theorem sz_mod {a : Nat} {x y : Int} (h : Sz a y) (hy : 0 < y) : Sz a (x % y) := sz_le (Int.emod_nonneg x (by omega)) (Int.le_of_lt (Int.emod_lt_of_pos x hy)) h
theorem mulOk {x y : Int} (h : Sz 5000 x) (h' : Sz 5000 y) : CMulW x y := wide_mul h h' (by decide) (by decide) (by decide)
theorem divOk {x y : Int} (h : 0 < y) (h' : Sz 5000 y) : CDivW x y := wide_div h h' (by decide) (by decide)
theorem sz_of {x b : Int} {n : Nat} (h0 : -b < x) (h1 : x < b) (hb : Sz n b) : Sz n x := Nat.lt_of_le_of_lt (by omega) hb
/-! ### tuples of ints compared -/
section
variable {K : Frg} {H : Hp} {p q : Addr} {a b c d e f : Int} {Q : VK}
theorem eq_T2 : PyData.eqv (.tuple [.int a, .int b]) (.tuple [.int c, .int d]) = decide (a = c ∧ b = d) := by
  simp only [PyData.eqv, PyData.eqvAll, Bool.and_true]
  by_cases h1 : a = c <;> by_cases h2 : b = d <;> simp [h1, h2]
theorem eq_T3 : PyData.eqv (.tuple [.int a, .int b, .int c]) (.tuple [.int d, .int e, .int f]) = decide (a = d ∧ b = e ∧ c = f) := by
  simp only [PyData.eqv, PyData.eqvAll, Bool.and_true]
  by_cases h1 : a = d <;> by_cases h2 : b = e <;> by_cases h3 : c = f <;> simp [h1, h2, h3]
theorem dp2 (h : SqT K H p [.int a, .int b]) : Dp K H (.ref p) (.tuple [.int a, .int b]) := .tup h (.cons (.int a) (.cons (.int b) .nil))
theorem dp3 (h : SqT K H p [.int a, .int b, .int c]) : Dp K H (.ref p) (.tuple [.int a, .int b, .int c]) := .tup h (.cons (.int a) (.cons (.int b) (.cons (.int c) .nil)))
theorem sh2 : SeqAt.shaped (.tuple [.int a, .int b]) = true := by rfl
theorem sh3 : SeqAt.shaped (.tuple [.int a, .int b, .int c]) = true := by rfl
theorem rEqT2 (h : SqT K H p [.int a, .int b]) (h' : SqT K H q [.int c, .int d]) (k : Q (.bl (decide (a = c ∧ b = d))) H) : rEqD K (.ref p) (.ref q) H Q := ⟨_, _, dp2 h, dp2 h', sh2, sh2, by rw [eq_T2]; exact k⟩
theorem rNeT2 (h : SqT K H p [.int a, .int b]) (h' : SqT K H q [.int c, .int d]) (k : Q (.bl (!decide (a = c ∧ b = d))) H) : rNeD K (.ref p) (.ref q) H Q := ⟨_, _, dp2 h, dp2 h', sh2, sh2, by rw [eq_T2]; exact k⟩
theorem rEqT3 (h : SqT K H p [.int a, .int b, .int c]) (h' : SqT K H q [.int d, .int e, .int f]) (k : Q (.bl (decide (a = d ∧ b = e ∧ c = f))) H) : rEqD K (.ref p) (.ref q) H Q := ⟨_, _, dp3 h, dp3 h', sh3, sh3, by rw [eq_T3]; exact k⟩
theorem rNeT3 (h : SqT K H p [.int a, .int b, .int c]) (h' : SqT K H q [.int d, .int e, .int f]) (k : Q (.bl (!decide (a = d ∧ b = e ∧ c = f))) H) : rNeD K (.ref p) (.ref q) H Q := ⟨_, _, dp3 h, dp3 h', sh3, sh3, by rw [eq_T3]; exact k⟩
end
/-! ### nets -/
def netF (q : Addr) : List (Str × V) := [("own_numbers", .ref q)]
structure NetIs (C : Addr) (F : Hp) (x : Addr) (a b c : Int) : Prop where
  at_ : ∃ dx q, F x = some (.ins C dx (netF q)) ∧ F q = some (.tup [.int a, .int b, .int c])
  hc : 1 ≤ c
  hb : 0 ≤ b
  ba : b < a
  sa : Sz 1000 a
  sc : Sz 1000 c
theorem NetIs.mono {C : Addr} {F H : Hp} {x : Addr} {a b c : Int} (n : NetIs C F x a b c) (s : Same F H) : NetIs C H x a b c := by
  obtain ⟨⟨dx, q, h1, h2⟩, r1, r2, r3, r4, r5⟩ := n
  exact ⟨⟨dx, q, s _ _ h1, s _ _ h2⟩, r1, r2, r3, r4, r5⟩
theorem NetIs.sb {C : Addr} {F : Hp} {x : Addr} {a b c : Int} (n : NetIs C F x a b c) : Sz 1000 b := sz_le n.hb (Int.le_of_lt n.ba) n.sa
theorem NetIs.ha {C : Addr} {F : Hp} {x : Addr} {a b c : Int} (n : NetIs C F x a b c) : 0 < a := by have := n.hb; have := n.ba; omega
def spNetInit (C : Addr) : Sp := Sp4 fun s u v w H Q _ => ∃ F x dx a b c, s = .ref x ∧ u = .int a ∧ v = .int b ∧ w = .int c ∧ Same F H ∧ F x = none ∧ H x = some (.ins C dx []) ∧ 1 ≤ c ∧ 0 ≤ b ∧ b < a ∧
  ∀ F' H' q, Go [x] F H F' H' → F' x = none → H' x = some (.ins C dx (netF q)) → F' q = some (.tup [.int a, .int b, .int c]) → Q .non H'
def spNetMk (C : Addr) : Sp := Sp3 fun u v w H Q _ => ∃ F a b c, u = .int a ∧ v = .int b ∧ w = .int c ∧ Same F H ∧ 1 ≤ c ∧ 0 ≤ b ∧ b < a ∧ Sz 1000 a ∧ Sz 1000 c ∧ ∀ x F' H', Go [] F H F' H' → NetIs C F' x a b c → Q (.ref x) H'
theorem mkNet {C : Addr} {E : XK} (vs : List V) (H : Hp) (Q : VK) (h : spNetMk C vs H Q E) : ∀ x dx, H x = none → H dx = none → dx ≠ x → spNetInit C (.ref x :: vs) (upd (upd H dx (.own x)) x (.ins C dx [])) (fun v H2 => v = .non ∧ Q (.ref x) H2) E := by
  obtain ⟨_, _, _, rfl, F, a, b, c, rfl, rfl, rfl, hs, hc, hb, ba, sa, sc, k⟩ := h
  intro x dx nx nd ne
  have g1 : Go [] F H F (upd H dx (.own x)) := Go.newM hs nd
  have nx1 : (upd H dx (.own x)) x = none := by rw [upd_ne (Ne.symm ne)]; exact nx
  have g2 : Go [] F (upd H dx (.own x)) F (upd (upd H dx (.own x)) x (.ins C dx [])) := Go.newM g1.fh nx1
  have fx : F x = none := same_none hs nx
  refine ⟨_, _, _, _, rfl, F, x, dx, a, b, c, rfl, rfl, rfl, rfl, g2.fh, fx, upd_same, hc, hb, ba, fun F' H' q g3 fx' hx' hq => ⟨rfl, ?_⟩⟩
  have g4 : Go [x] F' H' (upd F' x (.ins C dx (netF q))) H' := Go.freeze g3.fh fx' hx'
  have g5 : Go [x] F H (upd F' x (.ins C dx (netF q))) H' := ((g1.trans g2).nil.trans g3).trans g4
  exact k x _ H' (g5.drop nx) ⟨⟨dx, q, upd_same, g4.ff _ _ hq⟩, hc, hb, ba, sa, sc⟩
def spNumbers (C : Addr) : Sp := Sp1 fun s H Q _ => ∃ F x a b c, s = .ref x ∧ Same F H ∧ NetIs C F x a b c ∧ ∀ q, F q = some (.tup [.int a, .int b, .int c]) → Q (.ref q) H
def spSize (C : Addr) : Sp := Sp1 fun s H Q _ => ∃ x a b c, s = .ref x ∧ NetIs C H x a b c ∧ Q (.int (a * c)) H
def spSpan (C : Addr) : Sp := Sp1 fun s H Q _ => ∃ F x a b c, s = .ref x ∧ Same F H ∧ NetIs C F x a b c ∧ ∀ l p1 p2 F' H', Go [] F H F' H' → F' l = some (.lst [.ref p1, .ref p2]) → F' p1 = some (.tup [.int a, .int 0]) → F' p2 = some (.tup [.int b, .int c]) → Q (.ref l) H'
def spCell (K : Frg) (C : Addr) : Sp := Sp2 fun s p H Q _ => ∃ F x a b c pl px py, s = .ref x ∧ p = .ref pl ∧ Same F H ∧ NetIs C F x a b c ∧ SqT K F pl [.int px, .int py] ∧ Sz 2000 px ∧ Sz 2000 py ∧
  ∀ r F' H', Go [] F H F' H' → F' r = some (.tup [.int (MN.low a b c px py).1, .int (MN.low a b c px py).2]) → Q (.ref r) H'
def InQ (K : Frg) (F : Hp) (a b c : Int) (v : V) (r : Bool) : Prop := (PlaceQ K F v false ∧ r = false) ∨ ∃ p x y, v = .ref p ∧ SqT K F p [.int x, .int y] ∧ Sz 2000 x ∧ Sz 2000 y ∧ r = decide (MN.low a b c x y = (0, 0))
def spContains (K : Frg) (C : Addr) : Sp := Sp2 fun s v H Q _ => ∃ F x a b c r, s = .ref x ∧ Same F H ∧ NetIs C F x a b c ∧ InQ K F a b c v r ∧ ∀ F' H', Go [] F H F' H' → Q (.bl r) H'
def EqQ (K : Frg) (C : Addr) (H : Hp) (a b c : Int) (v : V) (r : Bool) : Prop := (∃ t, TyX K H v t ∧ PySem.W.kitOne K t (.ref C) = some false ∧ r = false) ∨ ∃ y a' b' c', v = .ref y ∧ NetIs C H y a' b' c' ∧ r = decide (a = a' ∧ b = b' ∧ c = c')
def spEqN (K : Frg) (C : Addr) : Sp := Sp2 fun s v H Q _ => ∃ x a b c r, s = .ref x ∧ NetIs C H x a b c ∧ EqQ K C H a b c v r ∧ Q (.bl r) H
def spOrder (K : Frg) (C : Addr) : Sp := Sp2 fun s p H Q _ => ∃ F x a b c pl px py, s = .ref x ∧ p = .ref pl ∧ Same F H ∧ NetIs C F x a b c ∧ SqT K F pl [.int px, .int py] ∧ Sz 1000 px ∧ Sz 1000 py ∧
  ∀ F' H', Go [] F H F' H' → Q (.int (MN.orderZ a b c px py)) H'
def spWithin (C : Addr) : Sp := Sp2 fun s o H Q _ => ∃ F x a b c y p q r, s = .ref x ∧ o = .ref y ∧ Same F H ∧ NetIs C F x a b c ∧ NetIs C F y p q r ∧
  ∀ F' H', Go [] F H F' H' → Q (.bl (decide (MN.low p q r a 0 = (0, 0)) && decide (MN.low p q r b c = (0, 0)))) H'
def spScaled (C : Addr) : Sp := Sp2 fun s v H Q _ => ∃ F x a b c f, s = .ref x ∧ v = .int f ∧ Same F H ∧ NetIs C F x a b c ∧ 1 ≤ f ∧ Sz 1000 (a * f) ∧ Sz 1000 (c * f) ∧ Sz 1000 f ∧
  ∀ y F' H', Go [] F H F' H' → NetIs C F' y (a * f) (b * f) (c * f) → Q (.ref y) H'
end Z
namespace Z
open PySem PySem.Spec PyProof.Rows L2
/-- the tape: a list that changes -/
def TapeV (K : Frg) (F : Hp) (xs : List V) : Prop := ∃ (c : Addr) (ns : List Int) (i b r : Int), xs = [.ref c, .int i, .int b, .int r] ∧ SqL K F c (ns.map V.int) ∧ 0 ≤ i ∧ 0 ≤ b ∧ 0 ≤ r ∧ r < 2147483647
structure Tape (K : Frg) (F H : Hp) (t : Addr) : Prop where
  fr : F t = none
  at_ : ∃ xs, H t = some (.lst xs) ∧ TapeV K F xs
theorem Tape.go {K : Frg} {F H F' H' : Hp} {t : Addr} {ms : List Addr} (x : Tape K F H t) (g : Go ms F H F' H') (hm : t ∉ ms) : Tape K F' H' t := by
  obtain ⟨h1, xs, h2, c, ns, i, b, r, e, h3, h4⟩ := x
  obtain ⟨a1, a2⟩ := g.mu t _ hm h1 h2
  exact ⟨a1, xs, a2, c, ns, i, b, r, e, sqL g.ff h3, h4⟩
theorem Tape.go0 {K : Frg} {F H F' H' : Hp} {t : Addr} (x : Tape K F H t) (g : Go [] F H F' H') : Tape K F' H' t := x.go g (by simp)
theorem Tape.ne {K : Frg} {F H : Hp} {t : Addr} (x : Tape K F H t) : H t ≠ none := by
  obtain ⟨_, xs, h, _⟩ := x
  rw [h]
  exact fun z => nomatch z
def spDraw (K : Frg) : Sp := Sp2 fun a b H Q _ => ∃ F t many, a = .ref t ∧ b = .int many ∧ Same F H ∧ Tape K F H t ∧ 0 < many ∧ many.natAbs.log2 < 9000 ∧
  ∀ d H', 0 ≤ d → d < many → Go [t] F H F H' → Tape K F H' t → Q (.int d) H'
def spTape (K : Frg) : Sp := Sp1 fun a H Q _ => ∃ (F : Hp) (s : Addr) (ns : List Int), a = .ref s ∧ Same F H ∧ SqL K F s (ns.map V.int) ∧ ∀ t F' H', Go [] F H F' H' → Tape K F' H' t → Q (.ref t) H'
def spGreat (K : Frg) : Sp := Sp2 fun a b H Q _ => ∃ F t size, a = .ref t ∧ b = .int size ∧ Same F H ∧ Tape K F H t ∧ 60 ≤ size ∧ Sz 1000 size ∧
  ∀ d F' H', -size < d → d < size → Go [t] F H F' H' → Tape K F' H' t → Q (.int d) H'
def spPlace (K : Frg) : Sp := Sp1 fun a H Q _ => ∃ F t, a = .ref t ∧ Same F H ∧ Tape K F H t ∧
  ∀ p x y F' H', Go [t] F H F' H' → Tape K F' H' t → F' p = some (.tup [.int x, .int y]) → Sz 100 x → Sz 100 y → Q (.ref p) H'
def spLow (K : Frg) : Sp := Sp2 fun n p H Q _ => ∃ F nl pl a b c x y, n = .ref nl ∧ p = .ref pl ∧ Same F H ∧ SqT K F nl [.int a, .int b, .int c] ∧ SqT K F pl [.int x, .int y] ∧ 1 ≤ c ∧ 0 ≤ b ∧ b < a ∧ Sz 1000 a ∧ Sz 1000 c ∧ Sz 2000 x ∧ Sz 2000 y ∧
  ∀ r F' H', Go [] F H F' H' → F' r = some (.tup [.int (MN.low a b c x y).1, .int (MN.low a b c x y).2]) → Q (.ref r) H'
def spNet (K : Frg) : Sp := Sp2 fun a b H Q _ => ∃ F t most, a = .ref t ∧ b = .int most ∧ Same F H ∧ Tape K F H t ∧ 0 < most ∧ Sz 1000 most ∧
  ∀ p a b c F' H', Go [t] F H F' H' → Tape K F' H' t → F' p = some (.tup [.int a, .int b, .int c]) → 0 ≤ b → b < a → 1 ≤ c → a * c ≤ most → Q (.ref p) H'
theorem sz_lit {n : Nat} {x : Int} (h : Nat.blt x.natAbs (2 ^ n) = true) : Sz n x := Nat.le_of_ble_eq_true h
theorem szLog {x : Int} (h : Sz 8000 x) : x.natAbs.log2 < 9000 := Nat.lt_of_lt_of_le (PySem.Flt.log2_lt_of (by decide) h) (by decide)
theorem atI_mem {xs : List V} {k : Int} (h0 : 0 ≤ k) (h1 : k < xs.length) : ∃ v, atI xs k = some v ∧ v ∈ xs := by
  obtain ⟨j, rfl⟩ := Int.eq_ofNat_of_zero_le h0
  have hj : j < xs.length := by omega
  exact ⟨xs[j], atI_nat (List.getElem?_eq_getElem hj), List.getElem_mem hj⟩
theorem cut_ints (ns : List Int) (lo hi : Option Int) : ∃ ms : List Int, cutV (ns.map V.int) lo hi = ms.map V.int := by
  unfold cutV
  rw [← List.map_drop, ← List.map_take]
  exact ⟨_, rfl⟩
def spSteps (K : Frg) : Sp := Sp2 fun n p H Q _ => ∃ F nl pl a b c x y, n = .ref nl ∧ p = .ref pl ∧ Same F H ∧ SqT K F nl [.int a, .int b, .int c] ∧ SqT K F pl [.int x, .int y] ∧ 1 ≤ c ∧ 0 ≤ b ∧ b < a ∧ Sz 1000 a ∧ Sz 1000 c ∧ Sz 2000 x ∧ Sz 2000 y ∧
  ∀ F' H', Go [] F H F' H' → Q (.int (MN.orderZ a b c x y)) H'
theorem ixT {K : Frg} {H : Hp} {p : Addr} {xs : List V} {i : Int} {v : V} {Q : VK} (h : SqT K H p xs) (e : atI xs i = some v) (k : Q v H) : rIxT K (.ref p) (.int i) H Q := ⟨p, xs, i, v, rfl, rfl, h, e, k⟩
theorem ixL {K : Frg} {H : Hp} {p : Addr} {xs : List V} {i : Int} {v : V} {Q : VK} (h : SqL K H p xs) (e : atI xs i = some v) (k : Q v H) : rIxL K (.ref p) (.int i) H Q := ⟨p, xs, i, v, rfl, rfl, h, e, k⟩
end Z
namespace Z
open PySem PySem.Spec PyProof.Rows L2
/-! ### room, with nothing being shown above -/
structure RoomG (k : Nat) (A : Around) : Prop where
  rm : Room k A
  gd : A.guards = some []
theorem RoomG.mono {j k : Nat} {A : Around} (r : RoomG k A) (h : j ≤ k) : RoomG j A := ⟨r.rm.mono h, r.gd⟩
theorem RoomG.deeper {k : Nat} {A : Around} (r : RoomG (k + 1) A) (env : Env) : RoomG k (A.deeper env) := ⟨r.rm.deeper env, r.gd⟩
theorem RoomG.in1 {k : Nat} {A : Around} (r : RoomG (k + 1) A) : RoomG k A.in1 := ⟨r.rm.in1, r.gd⟩
theorem guards_make {A : Around} {C : Addr} {us : List Value} : (A.under (.builtin "type.__call__" ⟨.ref C :: us, []⟩)).guards = A.guards := by
  show pushGuards (Code.guards (.builtin "type.__call__" ⟨.ref C :: us, []⟩)) A.guards = A.guards
  have e : Code.guards (.builtin "type.__call__" ⟨.ref C :: us, []⟩) = [] := by
    unfold Code.guards
    first | rfl | decide +kernel | simp
  rw [e]
  cases A.guards <;> rfl
theorem RoomG.make {k : Nat} {A : Around} (r : RoomG (k + 1) A) (C : Addr) (us : List Value) : RoomG k (A.under (.builtin "type.__call__" ⟨.ref C :: us, []⟩)) := ⟨r.rm.make C us [], by rw [guards_make]; exact r.gd⟩
theorem RoomG.units {k : Nat} {A : Around} (r : RoomG k A) : A.units + 64 < cLine := r.rm.units
/-- a def, called where nothing is being shown -/
def FnG (P : Program) (w : World) (K : Frg) (mg : Str → Option Value) (base : Heap) (CX : CXT) (k : Nat) (f : Addr) (sp : Sp) : Prop :=
  ∀ (A : Around) (outer : List Env) (s : Shared) (H : Hp) (us : List Value) (vs : List V) (Q : VK) (E : XK), RoomG k A → Env0 P w K mg base A outer s H → Vals vs us → sp vs H Q E → codeAny (model P w) A (.call (.ref f) ⟨us, []⟩) (CR CX outer P w H s Q E) s
/-- .. at one such place -/
def FnA (A : Around) (P : Program) (w : World) (K : Frg) (mg : Str → Option Value) (base : Heap) (CX : CXT) (f : Addr) (sp : Sp) : Prop :=
  ∀ (outer : List Env) (s : Shared) (H : Hp) (us : List Value) (vs : List V) (Q : VK) (E : XK), Env0 P w K mg base A outer s H → Vals vs us → sp vs H Q E → codeAny (model P w) A (.call (.ref f) ⟨us, []⟩) (CR CX outer P w H s Q E) s
section
variable {P : Program} {w : World} {K : Frg} {mg : Str → Option Value} {base : Heap} {CX : CXT} {k : Nat} {f : Addr} {sp sp' : Sp} {A : Around}
theorem FnG.at (F : FnG P w K mg base CX k f sp) (hr : RoomG k A) : FnA A P w K mg base CX f sp := fun outer s H us vs Q E => F A outer s H us vs Q E hr
theorem FnG.of (F : FnR P w K mg base CX k f sp) : FnG P w K mg base CX k f sp := fun A outer s H us vs Q E hr => F A outer s H us vs Q E hr.rm
theorem FnG.imp (F : FnG P w K mg base CX k f sp) (h : ∀ vs H Q E, sp' vs H Q E → sp vs H Q E) : FnG P w K mg base CX k f sp' := fun A outer s H us vs Q E hr e0 r hs => F A outer s H us vs Q E hr e0 r (h _ _ _ _ hs)
end
section
variable {X : Cx} {CX : CXT} {k : Nat} {f C p g : Addr} {sp : Sp} {E : XK} {x m : Str} {p0 pos apos : Pos} {e o a b : Expr} {es : List Expr} {ta tb : TE} {t : TA} {pins : List (Addr × Obj)} {σ : L2.St} {H : Hp} {s : Shared}
theorem run_A {A : Around} {Q : VK} {us : List Value} {vs : List V} (F : FnA A X.prog X.w X.K X.mg X.base CX f sp) (e0 : Env0 X.prog X.w X.K X.mg X.base A X.stack s H) (hx : Passes CX X E) (I : L2.Inv X pins σ H s) (r : Vals vs us) (h : sp vs H Q E) :
    codeAny (model X.prog X.w) A (.call (.ref f) ⟨us, []⟩) (fun r s' => match r with | .ok (.ret v) => EP X pins σ Q v s' | .ok _ => False | .error e => X.xe e s') s :=
  codeAny_mono (F X.stack s H us vs Q E e0 r h) fun q s' hq => match q, hq with
    | .error er, hq => hx pins σ H s er s' I hq
    | .ok (.ret _), hq => I.after hq
    | .ok .next, hq => False.elim hq
    | .ok .brk, hq => False.elim hq
    | .ok .cont, hq => False.elim hq
theorem run_fnA {Q : VK} {us : List Value} {vs : List V} (F : FnA X.A X.prog X.w X.K X.mg X.base CX f sp) (hx : Passes CX X E) (I : L2.Inv X pins σ H s) (r : Vals vs us) (h : sp vs H Q E) :
    codeAny (model X.prog X.w) X.A (.call (.ref f) ⟨us, []⟩) (fun r s' => match r with | .ok (.ret v) => EP X pins σ Q v s' | .ok _ => False | .error e => X.xe e s') s := run_A F I.env0 hx I r h
theorem gcall (F : FnA X.A X.prog X.w X.K X.mg X.base CX f sp) (hg : Gl X x) (hm : X.mg x = some (.ref f)) (hk : PySem.W.keepIn X.K (.ref f) = true) (hx : Passes CX X E)
    (ha : PA X (e :: es) t) (hdb : (x == ("__debug__" : Str)) = false := by decide) (he : starEach (e :: es) X.env = (false, eval e X.env) :: starEach es X.env := by rfl) (hpl : (backTo pos (starEach es X.env)).any (·.1) = false := by rfl) :
    PE X (.Call (.Name x p0) (e :: es) [] pos) (tFn sp E t) := by
  refine ⟨fun pins s σ H Q I h => ?_⟩
  refine wpAny_Call_Name_kw (ld_glob I hg hm ?_ hdb)
  refine PySem.W.callWith_K (h₀ := X.base) I.ok.mod.kin hk (thn (ha.run pos pins s σ H _ I h) fun us s1 ⟨vs, H1, I1, r, q⟩ => ⟨I1.kIn, ?_⟩) he hpl
  exact wpAny_call (run_fnA F hx I1 r q)
theorem gcall0 (F : FnA X.A X.prog X.w X.K X.mg X.base CX f sp) (hg : Gl X x) (hm : X.mg x = some (.ref f)) (hk : PySem.W.keepIn X.K (.ref f) = true) (hx : Passes CX X E)
    (hdb : (x == ("__debug__" : Str)) = false := by decide) : PE X (.Call (.Name x p0) [] [] pos) (tFn sp E tNil) := by
  refine ⟨fun pins s σ H Q I h => ?_⟩
  refine wpAny_Call_Name_kw (ld_glob I hg hm ?_ hdb)
  exact PySem.W.callWith_K0 I.kIn hk (wpAny_call (run_fnA (us := []) F hx I .nil h))
theorem gop_in (hs : PySem.W.findIn X.K (.ref C) "__contains__" = some (some (.ref g))) (hf : PySem.W.isFn X.K (.ref g) = true) (F : FnA X.A X.prog X.w X.K X.mg X.base CX g sp) (hx : Passes CX X E) : OpR X (compareOp .In) (rInO false C sp E) := by
  intro pins s σ H x y v u Q I rx ry h
  obtain ⟨a, dx, fs, rfl, ea, q⟩ := h
  cases (show u = Value.ref a from ry)
  obtain ⟨mA, O, _, _, _, _⟩ := ins_get I.hok ea
  obtain ⟨od, J, _⟩ := O.look
  obtain ⟨m, hF⟩ := I.fr
  refine PySem.W.in_K hF I.ok.mod.kin J hs hf ?_
  refine wpAny_mono (wpAny_call (run_fnA (us := [.ref a, v]) (vs := [.ref a, x]) F hx I (.cons rfl (.cons rx .nil)) q)) (fun w s' z => ?_) fun _ _ x => x
  obtain ⟨z', H', I', rz, b, rfl, qz⟩ := z
  cases (show w = Value.bool b from rz)
  exact wpAny_truthy_bool ⟨.bl b, H', I', rfl, qz⟩
theorem gop_nin (hs : PySem.W.findIn X.K (.ref C) "__contains__" = some (some (.ref g))) (hf : PySem.W.isFn X.K (.ref g) = true) (F : FnA X.A X.prog X.w X.K X.mg X.base CX g sp) (hx : Passes CX X E) : OpR X (compareOp .NotIn) (rInO true C sp E) := by
  intro pins s σ H x y v u Q I rx ry h
  obtain ⟨a, dx, fs, rfl, ea, q⟩ := h
  cases (show u = Value.ref a from ry)
  obtain ⟨mA, O, _, _, _, _⟩ := ins_get I.hok ea
  obtain ⟨od, J, _⟩ := O.look
  obtain ⟨m, hF⟩ := I.fr
  refine PySem.W.notIn_K hF I.ok.mod.kin J hs hf ?_
  refine wpAny_mono (wpAny_call (run_fnA (us := [.ref a, v]) (vs := [.ref a, x]) F hx I (.cons rfl (.cons rx .nil)) q)) (fun w s' z => ?_) fun _ _ x => x
  obtain ⟨z', H', I', rz, b, rfl, qz⟩ := z
  cases (show w = Value.bool b from rz)
  exact wpAny_truthy_bool ⟨.bl (!b), H', I', rfl, qz⟩
theorem gop_eq (hs : PySem.W.findIn X.K (.ref C) "__eq__" = some (some (.ref g))) (hf : PySem.W.isFn X.K (.ref g) = true) (F : FnA X.A X.prog X.w X.K X.mg X.base CX g sp) (hu : X.A.units + 64 < cLine) (hx : Passes CX X E) : OpR X (compareOp .Eq) (rEqO false X.K C sp E) := by
  intro pins s σ H x y v u Q I rx ry h
  obtain ⟨a, dx, fs, t, rfl, ea, ty, hn, q⟩ := h
  cases (show v = Value.ref a from rx)
  obtain ⟨mA, O, _, _, _, _⟩ := ins_get I.hok ea
  obtain ⟨od, J, _⟩ := O.look
  obtain ⟨m, hF⟩ := I.fr
  obtain ⟨P, kx, hP, _⟩ := kit_of I ry ty
  refine PySem.W.cmp_K (op := .Eq) (tb := t) (by omega) hF I.ok.mod.kin J (kx.ty _ _ I.kIn hP) hn hs hf ?_
  refine wpAny_mono (wpAny_call (run_fnA (us := [.ref a, u]) (vs := [.ref a, y]) F hx I (.cons rfl (.cons ry .nil)) q)) (fun w s' z => ?_) fun _ _ x => x
  obtain ⟨z', H', I', rz, b, rfl, qz⟩ := z
  cases (show w = Value.bool b from rz)
  exact ⟨.bl b, H', I', rfl, qz⟩
theorem gop_ne (hne : PySem.W.findIn X.K (.ref C) "__ne__" = some (some (.builtin "object.__ne__"))) (hsub : PySem.W.mroIn X.K C (.type "object") = some true) (hs : PySem.W.findIn X.K (.ref C) "__eq__" = some (some (.ref g))) (hf : PySem.W.isFn X.K (.ref g) = true)
    (F : FnA X.A.in1 X.prog X.w X.K X.mg X.base CX g sp) (hu : X.A.units + 64 < cLine) (hx : Passes CX X E) : OpR X (compareOp .NotEq) (rEqO true X.K C sp E) := by
  intro pins s σ H x y v u Q I rx ry h
  obtain ⟨a, dx, fs, t, rfl, ea, ty, hn, q⟩ := h
  cases (show v = Value.ref a from rx)
  obtain ⟨mA, O, _, _, _, _⟩ := ins_get I.hok ea
  obtain ⟨od, J, _⟩ := O.look
  obtain ⟨P, kx, hP, _⟩ := kit_of I ry ty
  have one : wpAny (model X.prog X.w) X.A (tryCompare (.ref a) "__ne__" u) (fun r s' => ∃ b, r = some b ∧ EP X pins σ Q b s') X.xe s := by
    refine ne_try (by omega) I.kIn J hne hsub hs hf ?_
    refine codeAny_mono (run_A (us := [.ref a, u]) (vs := [.ref a, y]) F I.env0.in1 hx I (.cons rfl (.cons ry .nil)) q) fun r s' z => ?_
    cases r with
    | error e => exact z
    | ok fl =>
      cases fl with
      | ret w =>
        obtain ⟨z', H', I', rz, b, rfl, qz⟩ := z
        cases (show w = Value.bool b from rz)
        exact ⟨b, rfl, _, rfl, .bl (!b), H', I', rfl, qz⟩
      | next => exact z
      | brk => exact z
      | cont => exact z
  show wpAny (model X.prog X.w) X.A (richCompare .NotEq (.ref a) u) (EP X pins σ Q) X.xe s
  unfold richCompare
  simp only [oneThing_ref]
  refine wpAny_holding (wpAny_bind (wpAny_cRoomFor (by omega) ?_))
  refine wpAny_bind (J.type.here (wpAny_bind ((kx.ty _ _ I.kIn hP).here ?_)))
  split
  · rename_i q
    have e : PySem.W.subIn X.K t (.ref C) = some false := by
      rcases Bool.or_eq_true_iff.mp hn with e | e
      · rw [beq_iff_eq.mp e] at q; simp at q
      · exact beq_iff_eq.mp e
    refine wpAny_bind ((PySem.W.looks_subIn I.kIn e).here ?_)
    simp only [Bool.false_eq_true, if_false]
    refine wpAny_bind (wpAny_mono one (fun r s' z => ?_) fun _ _ e => e)
    obtain ⟨v, rfl, hq⟩ := z
    exact wpAny_pure hq
  · refine wpAny_bind (wpAny_pure ?_)
    simp only [Bool.false_eq_true, if_false]
    refine wpAny_bind (wpAny_mono one (fun r s' z => ?_) fun _ _ e => e)
    obtain ⟨v, rfl, hq⟩ := z
    exact wpAny_pure hq
theorem gop_bin {op : Operator} (hc : PySem.W.selfFirst X.K C = true) (hs : PySem.W.findIn X.K (.ref C) (PySem.dunder op.info.2) = some (some (.ref g))) (hf : PySem.W.isFn X.K (.ref g) = true)
    (F : FnA X.A X.prog X.w X.K X.mg X.base CX g sp) (hx : Passes CX X E) : OpR X (binaryOp op) (rBinO C sp E) := by
  intro pins s σ H x y v u Q I rx ry h
  obtain ⟨a, dx, fs, b, dy, gs, rfl, rfl, ea, eb, q⟩ := h
  cases (show v = Value.ref a from rx)
  cases (show u = Value.ref b from ry)
  obtain ⟨mA, O, _, _, _, _⟩ := ins_get I.hok ea
  obtain ⟨od, J, _⟩ := O.look
  obtain ⟨mB, O', _, _, _, _⟩ := ins_get I.hok eb
  obtain ⟨od', J', _⟩ := O'.look
  obtain ⟨m, hF⟩ := I.fr
  refine PySem.W.binop_K hF I.ok.mod.kin J J'.type hc hs hf ?_
  refine wpAny_mono (wpAny_call (run_fnA (us := [.ref a, .ref b]) (vs := [.ref a, .ref b]) F hx I (.cons rfl (.cons rfl .nil)) q)) (fun w s' z => ?_) fun _ _ x => x
  obtain ⟨z', H', I', rz, qz⟩ := z
  exact SlX.cmpback rz ⟨z', H', I', rz, qz⟩
/-- making an instance -/
theorem run_makeG {Q : VK} {us : List Value} {vs : List V} (M : Mk X.K C f) (F : FnG X.prog X.w X.K X.mg X.base CX k f sp) (hr : RoomG (k + 1) X.A) (hx : Passes CX X E) (I : L2.Inv X pins σ H s) (r : Vals vs us)
    (h : ∀ x dx, H x = none → H dx = none → dx ≠ x → sp (V.ref x :: vs) (upd (upd H dx (.own x)) x (.ins C dx [])) (fun v H2 => v = .non ∧ Q (.ref x) H2) E) :
    wpAny (model X.prog X.w) X.A (call (.ref C) us) (EP X pins σ Q) X.xe s := by
  have J := Inv.made (C := C) I
  have hq := h (s.heap.objs.size + 1) s.heap.objs.size (I.hok.fresh (Nat.le_succ _)) (I.hok.fresh (Nat.le_refl _)) (Nat.ne_of_lt (Nat.lt_succ_self _))
  have run := F _ X.stack _ _ (.ref (s.heap.objs.size + 1) :: us) (.ref (s.heap.objs.size + 1) :: vs) _ E (hr.make C us) (J.env0.make C us []) (.cons rfl r) hq
  exact wpAny_call (make_map (f := f) I.kIn M.makes M.init (beq_iff_eq.mp M.fn) (codeAny_mono run fun q s' z => match q, z with
    | .error er, z => hx pins σ _ _ er s' J z
    | .ok (.ret _), z => by
      obtain ⟨v, H', J3, rv, ev, q3⟩ := J.after z
      subst ev
      exact ⟨rv, V.ref (s.heap.objs.size + 1), H', J3, rfl, q3⟩
    | .ok .next, z => False.elim z
    | .ok .brk, z => False.elim z
    | .ok .cont, z => False.elim z))
theorem gmake {x : Str} {spI spM : Sp} (mk : ∀ vs H Q, spM vs H Q E → ∀ x dx, H x = none → H dx = none → dx ≠ x → spI (.ref x :: vs) (upd (upd H dx (.own x)) x (.ins C dx [])) (fun v H2 => v = .non ∧ Q (.ref x) H2) E)
    (M : Mk X.K C f) (F : FnG X.prog X.w X.K X.mg X.base CX k f spI) (hr : RoomG (k + 1) X.A) (hg : Gl X x) (hm : X.mg x = some (.ref C)) (hx : Passes CX X E) (ha : PA X (e :: es) t) (hdb : (x == ("__debug__" : Str)) = false := by decide)
    (he : starEach (e :: es) X.env = (false, eval e X.env) :: starEach es X.env := by rfl) (hpl : (backTo pos (starEach es X.env)).any (·.1) = false := by rfl) : PE X (.Call (.Name x p0) (e :: es) [] pos) (tFn spM E t) := by
  refine ⟨fun pins s σ H Q I h => ?_⟩
  refine wpAny_Call_Name_kw (ld_glob I hg hm ?_ hdb)
  refine PySem.W.callWith_K (h₀ := X.base) I.ok.mod.kin M.kp (thn (ha.run pos pins s σ H _ I h) fun us s1 ⟨vs, H1, I1, r, q⟩ => ⟨I1.kIn, ?_⟩) he hpl
  exact run_makeG M F hr hx I1 r (mk vs H1 Q q)
end
end Z
namespace Z
open PySem PySem.Spec PyProof.Rows L2
section
variable {P : Program} {w : World} {K : Frg} {mg : Str → Option Value} {base : Heap}
/-- a def by its text, where nothing is being shown -/
theorem zfnG {x qual : Str} {st : Stmt} {f : Addr} {N ps : List Str} {k : Nat} {sp : Sp} (F : DefAt K x qual st f) (S : FnScope N ps (defScope st)) (len : ∀ vs H Q E, sp vs H Q E → vs.length = ps.length)
    (hb : ∀ (kV doc pm : Value) (an : Option Addr) (cdv ct : Value) (us : List Value), us.length = ps.length → bindArgs (PySem.W.fnOf x qual (defArgs st) (defBody st) (defScope st) .none kV doc pm an cdv ct) ⟨us, []⟩ = pure (ps.zip us))
    (hbody : ∀ (cdv : Value) (A : Around) (outer : List Env) (s : Shared) (H : Hp) (vs : List V) (Q : VK) (E : XK), RoomG k (A.deeper (envOfC qual (defScope st) s.heap.objs.size f cdv)) → sp vs H Q E →
      ∃ t, PSs (cxOf (L2.CX P w) P w K mg base N qual (defScope st) f cdv A outer s H E) (defBody st) t ∧ t { nx := fun _ H' => Q .non H', rt := Q } (start N vs) H) : FnG P w K mg base (L2.CX P w) (k + 1) f sp := by
  obtain ⟨fd, F⟩ := F
  obtain ⟨oc, od, dV, kV, doc, pm, an, cdv, ct, osl, rfl, lk, hcd, hD, hK⟩ := F.ex
  have hD' : dV = .none := by
    rcases hD with ⟨_, z⟩ | ⟨z, _⟩
    · exact z
    · exact absurd rfl z
  subst hD'
  intro A outer s H us vs Q E hr e0 r hs
  have hl := len _ _ _ _ hs
  have hu : us.length = ps.length := r.length.symm.trans hl
  refine StX.run_bnd lk hcd S hr.rm e0 (G := fun xs H2 => xs = vs ∧ H2 = H) (fun A' Ex Q' h => ?_) fun s2 H2 xs g hr' => ?_
  · rw [hb kV doc pm an cdv ct us hu]
    exact wpAny_pure (h s H vs us e0 .refl rfl (fun _ _ z => z) r hl ⟨rfl, rfl⟩)
  · obtain ⟨rfl, rfl⟩ := g
    exact hbody cdv A outer s2 H2 xs Q E ⟨hr', hr.gd⟩ hs
/-- def f(*v) -/
theorem zfnSG {x qual pv : Str} {st : Stmt} {f : Addr} {N : List Str} {k : Nat} {sp : Sp} (F : DefAt K x qual st f) (S : FnScope N [pv] (defScope st))
    (hb : ∀ (kV doc pm : Value) (an : Option Addr) (cdv ct : Value) (rest : List Value), bindArgs (PySem.W.fnOf x qual (defArgs st) (defBody st) (defScope st) .none kV doc pm an cdv ct) ⟨rest, []⟩ = (newTuple rest >>= fun t => pure [(pv, t)]))
    (hbody : ∀ (cdv : Value) (A : Around) (outer : List Env) (s : Shared) (H : Hp) (vs : List V) (Q : VK) (E : XK), RoomG k (A.deeper (envOfC qual (defScope st) s.heap.objs.size f cdv)) → sp vs H Q E →
      ∃ t, PSs (cxOf (L2.CX P w) P w K mg base N qual (defScope st) f cdv A outer s H E) (defBody st) t ∧ t { nx := fun _ H' => Q .non H', rt := Q } (start N vs) H) :
    FnG P w K mg base (L2.CX P w) (k + 1) f (fun vs H Q E => vs.length ≤ sizeLine ∧ ∀ p, H p = none → sp [V.ref p] (upd H p (.tup vs)) Q E) := by
  obtain ⟨fd, F⟩ := F
  obtain ⟨oc, od, dV, kV, doc, pm, an, cdv, ct, osl, rfl, lk, hcd, hD, hK⟩ := F.ex
  have hD' : dV = .none := by
    rcases hD with ⟨_, z⟩ | ⟨z, _⟩
    · exact z
    · exact absurd rfl z
  subst hD'
  intro A outer s H us vs Q E hr e0 r ⟨hz, hs⟩
  have hn : H s.heap.objs.size = none := e0.hok.fresh (Nat.le_refl _)
  have hu : us.length ≤ sizeLine := by rw [← r.length]; exact hz
  refine StX.run_bnd lk hcd S hr.rm e0 (G := fun xs H2 => ∃ p, H p = none ∧ xs = [V.ref p] ∧ H2 = upd H p (.tup vs)) (fun A' Ex Q' h => ?_) fun s2 H2 xs g hr' => ?_
  · rw [hb kV doc pm an cdv ct us]
    refine wpAny_bind (wpAny_newTuple (wpAny_pure ?_) hu)
    have laid : ObjOk P w (upd H s.heap.objs.size (.tup vs)) (s.heap.push ({ cls := .type "tuple", data := .seq us.toArray } : Obj)) s.heap.objs.size (.tup vs) := ⟨hz, us, r, _, Heap.get?_push_size _ rfl, rfl, _, rfl⟩
    have un := StX.un_laid (fs := frs outer) (s := s) (o := ({ cls := .type "tuple", data := .seq us.toArray } : Obj)) (u := HO.tup vs) hn
    refine h _ _ [V.ref s.heap.objs.size] [Value.ref s.heap.objs.size] (StX.env0_laid e0 laid) un rfl (fun e s' => ?_) (.cons rfl .nil) rfl ⟨_, hn, rfl, rfl⟩
    exact StX.cxUp outer s H _ _ E e s' un (fun b o q => Heap.get?_push_of_some _ q) rfl
  · obtain ⟨p, hp, rfl, rfl⟩ := g
    exact hbody cdv A outer s2 _ _ Q E ⟨hr', hr.gd⟩ (hs p hp)
end
theorem run_cmA {X : Cx} {C g q : Addr} {pins : List (Addr × Obj)} {σ : L2.St} {H : Hp} {s : Shared} {CX : CXT} {sp : Sp} {E : XK} {Q : VK} {us : List Value} {vs : List V} (F : FnA X.A X.prog X.w X.K X.mg X.base CX g sp) (hx : Passes CX X E) (I : L2.Inv X ((q, PySem.W.methodObj (.ref g) (.ref C)) :: pins) σ H s)
    (r : Vals vs us) (h : sp (.ref C :: vs) H Q E) : wpAny (model X.prog X.w) X.A (call (.ref q) us) (EP X pins σ Q) X.xe s :=
  thn (wpAny_call (PySem.W.method_call (ClX.pin_at I) (run_fnA (vs := V.ref C :: vs) F hx I (.cons rfl r) h))) fun _ _ y => ClX.unpinE y
section
variable {P : Program} {w : World} {K : Frg} {mg : Str → Option Value} {base : Heap}
/-! ### the end -/
/-- what is tracked where the law begins: the tables ts and the script (if it is not the module's) -/
def atLaw (K : Frg) (ts : List Addr) (a : Addr) (o : Obj) (xs : List V) : Hp := fun b =>
  if b ∈ ts then some (.tbl #[]) else if b = a then (match K.lookup a with | none => some (.frz o (.lst xs)) | some _ => none) else none
theorem atLaw_inv {ts : List Addr} {a b : Addr} {o : Obj} {xs : List V} {u : HO} (h : atLaw K ts a o xs b = some u) : (b ∈ ts ∧ u = .tbl #[]) ∨ (b ∉ ts ∧ b = a ∧ K.lookup a = none ∧ u = .frz o (.lst xs)) := by
  unfold atLaw at h
  split at h
  · rename_i m
    cases h
    exact .inl ⟨m, rfl⟩
  · rename_i m
    split at h
    · rename_i e
      split at h
      · rename_i n
        cases h
        exact .inr ⟨m, e, n, rfl⟩
      · cases h
    · cases h
theorem atLaw_t {ts : List Addr} {a b : Addr} {o : Obj} {xs : List V} (h : b ∈ ts) : atLaw K ts a o xs b = some (.tbl #[]) := if_pos h
theorem law_run {mb : Str → Option Value} {CX : CXT} {k : Nat} {fa a : Addr} {cs : List (Addr × Addr)} {sp : Sp} {s₁ : Shared} {vs : List Value} {ns : List Int}
    (KX : K.In s₁.heap) (hns : s₁.heap.Ns mainGlobals mg) (hb : s₁.heap.Ns builtinsNs mb) (hbb : ∀ x : Str, x ≠ "__name__" → mb x = bootBuiltins x) (hlim : s₁.heap.NoLimit) (hg : s₁.gens = #[])
    (hT : ∀ p ∈ cs, s₁.heap.get? p.2 = some { cls := .none, data := .fields #[] }) (nT : ∀ p ∈ cs, K.lookup p.2 = none) (C : ∀ p ∈ cs, PySem.W.CodeHd s₁.heap p.1 p.2)
    (hbm : ∃ (bm : Addr) (ob : Obj), mg "__builtins__" = some (.ref bm) ∧ bm ≠ builtinsNs ∧ s₁.heap.get? bm = some ob ∧ ob.cls = .type "module" ∧ ob.dict = some builtinsNs ∧ ob.data = .plain)
    (ha : s₁.heap.get? a = some { cls := .type "list", data := .seq vs.toArray }) (hi : IntsAre vs ns) (hl : ns.length ≤ sizeLine) (hr : RoomG k callerA)
    (F : ∀ base : Heap, K.In base → base.Ns mainGlobals mg → (∀ p ∈ cs, LamX.TabB base mg p.1 p.2) → FnG P w K mg base CX k fa sp)
    (hsp : ∀ H : Hp, (∀ p ∈ cs, H p.2 = some (.tbl #[])) → SqL K H a (ns.map V.int) → sp [.ref a] H (fun v _ => v = .bl true) fun _ _ _ => False)
    (hCX : ∀ H e s', CX [] H s₁ (fun _ _ _ => False) e s' → False) :
    codeAny (model P w) callerA (.call (.ref fa) ⟨[.ref a], []⟩) (fun r s' => r = .ok (.ret (.bool true)) ∧ OldK s₁.heap s'.heap ∧ s'.os = s₁.os ∧ AllBare s'.gens) s₁ := by
  have rv := vals_ints hi
  let ts := cs.map (·.2)
  let o1 : Obj := { cls := .type "list", data := .seq vs.toArray }
  let H0 : Hp := atLaw K ts a o1 (ns.map V.int)
  have inT : ∀ p ∈ cs, p.2 ∈ ts := fun p hp => List.mem_map.mpr ⟨p, hp, rfl⟩
  have ofT : ∀ b ∈ ts, ∃ p ∈ cs, p.2 = b := fun b m => List.mem_map.mp m
  have getT : ∀ b ∈ ts, s₁.heap.get? b = some { cls := .none, data := .fields #[] } := fun b m => by
    obtain ⟨p, hp, rfl⟩ := ofT b m
    exact hT p hp
  have aT : a ∉ ts := fun m => by
    have q := (getT a m).symm.trans ha
    cases q
  -- an object that is neither a list nor an empty table is not tracked
  have un0 : ∀ {b : Addr} {o : Obj}, s₁.heap.get? b = some o → (∀ ws n, o.data ≠ .seq ws n) → o.data ≠ .fields #[] → H0 b = none := fun {b o} e n1 n2 => by
    match q : H0 b with
    | none => rfl
    | some u =>
      rcases atLaw_inv q with ⟨m, _⟩ | ⟨_, rfl, _⟩
      · have e' := (getT b m).symm.trans e
        cases e'
        exact absurd rfl n2
      · have e' := ha.symm.trans e
        cases e'
        exact absurd rfl (n1 _ _)
  have see : ∀ {b : Addr} {o : Obj}, s₁.heap.get? b = some o → H0 b = none → (hidT s₁.heap H0).get? b = some o := fun e n => hidT_get e n
  have seeN : ∀ {b : Addr} {m : Str → Option Value}, s₁.heap.Ns b m → (hidT s₁.heap H0).Ns b m := fun {b m} ⟨o, es, ep, e, hd, r⟩ => by
    refine ⟨o, es, ep, see e (un0 e (fun ws n z => ?_) fun z => ?_), hd, r⟩
    · exact nomatch hd.symm.trans z
    · exact nomatch hd.symm.trans z
  have KB : K.In (hidT s₁.heap H0) := fun b o e => by
    refine see (KX b o e) ?_
    match q : H0 b with
    | none => rfl
    | some u =>
      rcases atLaw_inv q with ⟨m, _⟩ | ⟨_, rfl, z, _⟩
      · obtain ⟨p, hp, rfl⟩ := ofT b m
        exact nomatch (nT p hp).symm.trans e
      · exact nomatch z.symm.trans e
  have M0 : L2.Mod K mg (hidT s₁.heap H0) := by
    obtain ⟨mc, l1, l2⟩ := hlim
    exact ⟨KB, seeN hns, ⟨mb, seeN hb, hbb⟩, mc, seeN l1, l2⟩
  have tabs : ∀ p ∈ cs, LamX.TabB (hidT s₁.heap H0) mg p.1 p.2 := fun p hp => by
    refine ⟨?_, ?_, fun z => ?_⟩
    · obtain ⟨o, us, file, tf, flags, tg, inF, text, tt, e1, r1, r2, r3, rr⟩ := C p hp
      refine ⟨o, us, file, tf, flags, tg, inF, text, tt, see e1 (un0 e1 (fun ws n z => nomatch r2.symm.trans z) fun z => ?_), r1, r2, r3, rr⟩
      have q := r2.symm.trans z
      cases q
      simp at r3
    · obtain ⟨bm, ob, b1, b2, b3, b4, b5, b6⟩ := hbm
      refine ⟨bm, ob, b1, b2, fun q => ?_, fun q => ?_, see b3 (un0 b3 (fun ws n z => nomatch b6.symm.trans z) fun z => nomatch b6.symm.trans z), b4, b5, b6⟩
      · obtain ⟨o, es, ep, e, hd, _⟩ := hns
        subst q
        have q := b3.symm.trans e
        cases q
        exact nomatch b6.symm.trans hd
      · subst q
        have q := b3.symm.trans (hT p hp)
        cases q
        cases b6
    · obtain ⟨o, es, ep, e, hd, _⟩ := hns
      rw [z] at e
      have q := (hT p hp).symm.trans e
      cases q
      cases hd
  have ok0 : HOk P w H0 s₁.heap := fun b u q => by
    rcases atLaw_inv q with ⟨m, rfl⟩ | ⟨_, rfl, _, rfl⟩
    · exact getT b m
    · exact ⟨ha, by rw [List.length_map]; exact hl, vs, _, rv, ha⟩
  have sq : SqL K H0 a (ns.map V.int) := by
    match hk : K.lookup a with
    | none =>
      refine .inl (.inr ⟨o1, ?_⟩)
      show atLaw K ts a o1 (ns.map V.int) a = _
      unfold atLaw
      rw [if_neg aT, if_pos rfl, hk]
    | some o =>
      have e := (KX a o hk).symm.trans ha
      cases e
      exact .inr ⟨_, vs.toArray, _, hk, rfl, rfl, rfl, by rw [List.size_toArray, hi.length]; exact hl, by simpa using rv⟩
  have e0 : Env0 P w K mg (hidT s₁.heap H0) callerA [] s₁ H0 :=
    { frames := rfl, mod := M0, bs := fun b o e => of_hidT e, bsz := Nat.le_of_eq (hidT_size _ _), funs := trivial, frf := fun b m => (List.not_mem_nil m).elim, hok := ok0, bare := .of_eq hg }
  refine codeAny_mono (F _ KB (seeN hns) tabs callerA [] s₁ H0 [.ref a] [.ref a] _ _ hr e0 (.cons rfl .nil) (hsp H0 (fun p hp => atLaw_t (inT p hp)) sq)) fun r s' h => ?_
  match r, h with
  | .error e, h => exact (hCX H0 e s' h).elim
  | .ok .next, h => exact False.elim h
  | .ok .brk, h => exact False.elim h
  | .ok .cont, h => exact False.elim h
  | .ok (.ret u), ⟨v, H2, os, bare, un, ok2, rr, q⟩ =>
    have ev : v = .bl true := q
    subst ev
    have eu : u = Value.bool true := rr
    subst eu
    have rest : ∀ b o, b ∉ ts → s₁.heap.get? b = some o → s'.heap.get? b = some o := fun b o nb e => by
      match z : H0 b with
      | none => exact un.keep b o e z (fun m => (List.not_mem_nil m).elim) (fun m => (List.not_mem_nil m).elim)
      | some u =>
        rcases atLaw_inv z with ⟨m, _⟩ | ⟨_, _, _, rfl⟩
        · exact absurd m nb
        · have e1 := (ok0 b _ z).1
          have e2 := (ok2 b _ (un.frzs b _ _ z)).1
          exact e2.trans (e1.symm.trans e)
    have grew : ∀ b ∈ ts, ∃ more : Array Value, s'.heap.get? b = some { cls := .none, data := .fields more } := fun b m => by
      obtain ⟨more, z⟩ := un.tbls b #[] (atLaw_t m)
      exact ⟨_, ok2 b _ z⟩
    refine ⟨rfl, ⟨fun b o e => ?_, fun b o e => ?_⟩, os, bare⟩
    · by_cases m : b ∈ ts
      · obtain ⟨p, hp, rfl⟩ := ofT b m
        obtain ⟨more, hm⟩ := grew _ m
        have q := (hT p hp).symm.trans e
        cases q
        exact .inr (.inl ⟨((C p hp).tab (hT p hp)).isCodeTable, rfl, #[], more, rfl, by rw [Array.empty_append]; exact hm⟩)
      · exact .inl (rest b o m e)
    · by_cases m : b ∈ ts
      · obtain ⟨more, hm⟩ := grew b m
        exact ⟨_, hm⟩
      · exact ⟨o, rest b o m e⟩
end
/-- what a law's def keeps -/
def LawG (l : PySem.W.OpenLaw) (w : World) (K : Frg) (CX : CXT) (k n : Nat) (mg : Str → Option Value) (fa : Addr) (h : Heap) : Prop :=
  ∃ (cs : List (Addr × Addr)) (sp : Sp), (∀ p ∈ cs, h.get? p.2 = some { cls := .none, data := .fields #[] }) ∧ (∀ p ∈ cs, K.lookup p.2 = none) ∧ (∀ p ∈ cs, PySem.W.CodeHd h p.1 p.2) ∧
    (∀ (H : Hp) (a : Addr) (ns : List Int), ns.length ≤ n → (∀ p ∈ cs, H p.2 = some (.tbl #[])) → SqL K H a (ns.map V.int) → sp [.ref a] H (fun v _ => v = .bl true) fun _ _ _ => False) ∧
    ∀ base : Heap, K.In base → base.Ns mainGlobals mg → (∀ p ∈ cs, LamX.TabB base mg p.1 p.2) → FnG l.prog w K mg base CX k fa sp
theorem walk_G {l : PySem.W.OpenLaw} {n k : Nat} {q : Program} {loose : List Str} {XP : (Str → Option Value) → Heap → Prop} {YP : World → Heap → Prop} {d : DefRec} {CX : World → CXT}
    (hn : l.most = some n) (hn2 : n ≤ sizeLine) (hdf : d.params.defaults = []) (hr : Room k callerA)
    (F : ∀ (w : World) (mg : Str → Option Value) (fa : Addr) (h : Heap), YP w h → h.Ns mainGlobals mg → mg d.name = some (.ref fa) → ∃ K : Frg, K.In h ∧ LawG l w K (CX w) k n mg fa h)
    (hCX : ∀ (w : World) (H : Hp) (s : Shared) (e : Value) (s' : Shared), CX w [] H s (fun _ _ _ => False) e s' → False) :
    PySem.W.WalkO q loose XP YP l.row.toRowW d [] (fun f vs => PySem.call f vs) :=
  Att.attach_callB hn hdf fun w s₀ s₁ mg mb fa o pm cd doc a vs ns G Y ho hd hcd hmg hobj hints hlen hbits hg => by
    obtain ⟨K, KX, cs, sp, t1, t2, t3, t4, t5⟩ := F w mg fa _ Y G.T.g hmg
    exact law_run KX G.T.g G.T.b G.T.builtins G.T.nolimit hg t1 t2 t3 G.T.bmain hobj hints (Nat.le_trans hlen hn2) ⟨hr, rfl⟩ t5 (fun H h1 h2 => t4 H a ns hlen h1 h2) fun H e s' => hCX w H s₁ e s'
end Z
namespace Z
open PySem PySem.Spec PyProof.Rows L2 HandSHeadRun PySem.W PySem.Calls
/-- what is asked in a run of its own -/
def RunP (r : OpenRow) (n : Nat) (a : Ask) (M : Nat) (w : World) : Prop := ∀ os : OsState, (endF (stepQ (denQ tabQ) r.prog w) M r.prog w os).map (fun s => obsG n a (getT s)) = some (valZ a w)
theorem obs_add {n : Nat} {w : World} {fs1 fs2 : List (Frg → Bool)} {fn1 fn2 : List He5.DefA} {ts : List He.Tab} {tf : List (Frg → Addr)} {g : Addr → Option Obj} (h1 : obsG n ⟨fs1, fn1, ts, tf⟩ g = valZ ⟨fs1, fn1, ts, tf⟩ w) (h2 : obsG n ⟨fs2, fn2, [], []⟩ g = valZ ⟨fs2, fn2, [], []⟩ w) :
    obsG n ⟨fs1 ++ fs2, fn1 ++ fn2, ts, tf⟩ g = valZ ⟨fs1 ++ fs2, fn1 ++ fn2, ts, tf⟩ w := by
  unfold obsG obsZ valZ at *
  simp only [Prod.mk.injEq] at h1 h2 ⊢
  obtain ⟨⟨a1, a2⟩, a3⟩ := h1
  obtain ⟨⟨b1, b2⟩, b3⟩ := h2
  rw [Bool.and_eq_true] at a1 b1
  refine ⟨⟨?_, ?_⟩, a3⟩
  · rw [List.all_append, List.all_append, a1.1, a1.2, b1.1, b1.2]; rfl
  · rw [List.map_append, List.map_append, a2, b2]
theorem run_add {r : OpenRow} {q : Program} {n M : Nat} {loose : List PySem.Str} {w : World} {fs1 fs2 : List (Frg → Bool)} {fn1 fn2 : List He5.DefA} {ts : List He.Tab} {tf : List (Frg → Addr)}
    (h1 : RunEq r q (hookZ n ⟨fs1, fn1, ts, tf⟩) (fun s => obsG n ⟨fs1, fn1, ts, tf⟩ (getT s)) M loose w) (h2 : RunP r n ⟨fs2, fn2, [], []⟩ M w) :
    RunEq r q (hookZ n ⟨fs1 ++ fs2, fn1 ++ fn2, ts, tf⟩) (fun s => obsG n ⟨fs1 ++ fs2, fn1 ++ fn2, ts, tf⟩ (getT s)) M loose w := fun os => by
  have e1 := h1 os
  have e2 := h2 os
  cases z : endF (stepQ (denQ tabQ) r.prog w) M r.prog w os with
  | none => rw [z] at e1; cases e1
  | some s =>
    rw [z] at e1 e2
    have e1 := Option.some.inj e1
    have e2 := Option.some.inj e2
    have f1 := congrArg Prod.fst e1
    have f2 := congrArg (fun p => p.2.1) e1
    have f3 := congrArg (fun p => p.2.2) e1
    exact congrArg some (Prod.ext f1 (Prod.ext f2 (obs_add f3 e2)))
end Z
namespace Y
open PySem PySem.Spec PyProof.Rows L2 Z
/-! ### plain data, and the values that bear it in a frozen heap -/
inductive D where
  | non | bl (b : Bool) | int (i : Int) | str (s : Str) | lst (ds : List D) | tup (ds : List D) | obj (c : Str) (ns : List Str) (ds : List D) | ty (n : String) | glob (x : Str) | tape
mutual
inductive Rp (K : Frg) (ms : List Addr) (F : Hp) : V → D → Prop
  | non : Rp K ms F .non .non
  | bl (b : Bool) : Rp K ms F (.bl b) (.bl b)
  | int (i : Int) : Rp K ms F (.int i) (.int i)
  | str (s : Str) : Rp K ms F (.str s) (.str s)
  | ty (n : String) : Rp K ms F (.ty n) (.ty n)
  | glob (x : Str) : Rp K ms F (.ref (He.ga K x)) (.glob x)
  | tape {t : Addr} : t ∈ ms → Rp K ms F (.ref t) .tape
  | lst {a : Addr} {vs : List V} {ds : List D} : F a = some (.lst vs) → Rps K ms F vs ds → Rp K ms F (.ref a) (.lst ds)
  | tup {a : Addr} {vs : List V} {ds : List D} : SqT K F a vs → Rps K ms F vs ds → Rp K ms F (.ref a) (.tup ds)
  | obj {a dx : Addr} {c : Str} {ns : List Str} {vs : List V} {ds : List D} : F a = some (.ins (He.ga K c) dx (ns.zip vs)) → ns.length = vs.length → Rps K ms F vs ds → Rp K ms F (.ref a) (.obj c ns ds)
inductive Rps (K : Frg) (ms : List Addr) (F : Hp) : List V → List D → Prop
  | nil : Rps K ms F [] []
  | cons {v : V} {d : D} {vs : List V} {ds : List D} : Rp K ms F v d → Rps K ms F vs ds → Rps K ms F (v :: vs) (d :: ds)
end
section
variable {K : Frg} {ms : List Addr} {F F' H : Hp}
mutual
theorem Rp.mono (s : Same F F') : ∀ (d : D) (v : V), Rp K ms F v d → Rp K ms F' v d
  | .non, _, h => by cases h; exact .non
  | .bl b, _, h => by cases h; exact .bl b
  | .int i, _, h => by cases h; exact .int i
  | .str x, _, h => by cases h; exact .str x
  | .ty x, _, h => by cases h; exact .ty x
  | .glob x, _, h => by cases h; exact .glob x
  | .tape, _, h => by cases h with | tape m => exact .tape m
  | .lst ds, _, h => by cases h with | lst h1 h2 => exact .lst (s _ _ h1) (Rps.mono s ds _ h2)
  | .tup ds, _, h => by cases h with | tup h1 h2 => exact .tup (sqT s h1) (Rps.mono s ds _ h2)
  | .obj c ns ds, _, h => by cases h with | obj h1 h2 h3 => exact .obj (s _ _ h1) h2 (Rps.mono s ds _ h3)
theorem Rps.mono (s : Same F F') : ∀ (ds : List D) (vs : List V), Rps K ms F vs ds → Rps K ms F' vs ds
  | [], _, h => by cases h; exact .nil
  | d :: ds, _, h => by cases h with | cons h1 h2 => exact .cons (Rp.mono s d _ h1) (Rps.mono s ds _ h2)
end
theorem Rp.up {v : V} {d : D} (h : Rp K ms F v d) (s : Same F F') : Rp K ms F' v d := Rp.mono s d v h
theorem Rps.up {v : List V} {d : List D} (h : Rps K ms F v d) (s : Same F F') : Rps K ms F' v d := Rps.mono s d v h
theorem Rps.len : ∀ {vs : List V} {ds : List D}, Rps K ms F vs ds → vs.length = ds.length
  | [], [], _ => rfl
  | _ :: _, _ :: _, h => by
    cases h with
    | cons _ h => simp only [List.length_cons]; rw [Rps.len h]
  | [], _ :: _, h => by cases h
  | _ :: _, [], h => by cases h
theorem Rps.app : ∀ {vs ws : List V} {ds es : List D}, Rps K ms F vs ds → Rps K ms F ws es → Rps K ms F (vs ++ ws) (ds ++ es)
  | [], _, [], _, _, h => h
  | _ :: _, _, _ :: _, _, h, h' => by
    cases h with
    | cons h1 h2 => exact .cons h1 (Rps.app h2 h')
  | [], _, _ :: _, _, h, _ => by cases h
  | _ :: _, _, [], _, h, _ => by cases h
theorem Rps.get : ∀ {vs : List V} {ds : List D} {i : Nat} {d : D}, Rps K ms F vs ds → ds[i]? = some d → ∃ v, vs[i]? = some v ∧ Rp K ms F v d
  | [], [], _, _, _, e => by simp at e
  | v :: _, _ :: _, 0, _, h, e => by
    cases h with
    | cons h1 _ => simp at e; subst e; exact ⟨v, rfl, h1⟩
  | _ :: vs, _ :: ds, i + 1, d, h, e => by
    cases h with
    | cons _ h2 =>
      obtain ⟨v, h3, h4⟩ := Rps.get (i := i) h2 (by simpa using e)
      exact ⟨v, by simpa using h3, h4⟩
  | [], _ :: _, _, _, h, _ => by cases h
  | _ :: _, [], _, _, h, _ => by cases h
theorem Rps.getV : ∀ {vs : List V} {ds : List D} {i : Nat} {v : V}, Rps K ms F vs ds → vs[i]? = some v → ∃ d, ds[i]? = some d ∧ Rp K ms F v d := fun {vs ds i v} h e => by
  have hi : i < vs.length := by
    rcases Nat.lt_or_ge i vs.length with z | z
    · exact z
    · rw [List.getElem?_eq_none z] at e; cases e
  have hd : i < ds.length := by rw [← h.len]; exact hi
  obtain ⟨w, h1, h2⟩ := h.get (i := i) (d := ds[i]) (List.getElem?_eq_getElem hd)
  rw [e] at h1
  cases h1
  exact ⟨_, List.getElem?_eq_getElem hd, h2⟩
theorem Rps.take : ∀ {vs : List V} {ds : List D} (n : Nat), Rps K ms F vs ds → Rps K ms F (vs.take n) (ds.take n)
  | _, _, 0, _ => .nil
  | [], [], _ + 1, _ => .nil
  | _ :: _, _ :: _, n + 1, h => by
    cases h with
    | cons h1 h2 => exact .cons h1 (Rps.take n h2)
  | [], _ :: _, _ + 1, h => by cases h
  | _ :: _, [], _ + 1, h => by cases h
theorem Rps.drop : ∀ {vs : List V} {ds : List D} (n : Nat), Rps K ms F vs ds → Rps K ms F (vs.drop n) (ds.drop n)
  | _, _, 0, h => h
  | [], [], _ + 1, _ => .nil
  | _ :: _, _ :: _, n + 1, h => by
    cases h with
    | cons h1 h2 => exact Rps.drop n h2
  | [], _ :: _, _ + 1, h => by cases h
  | _ :: _, [], _ + 1, h => by cases h
theorem Rps.rep {v : V} {d : D} (h : Rp K ms F v d) : ∀ n : Nat, Rps K ms F (List.replicate n v) (List.replicate n d)
  | 0 => .nil
  | n + 1 => .cons h (Rps.rep h n)
theorem Rps.flat {vs : List V} {ds : List D} (h : Rps K ms F vs ds) : ∀ n : Nat, Rps K ms F (List.replicate n vs).flatten (List.replicate n ds).flatten
  | 0 => .nil
  | n + 1 => by
    rw [List.replicate_succ, List.replicate_succ, List.flatten_cons, List.flatten_cons]
    exact h.app (Rps.flat h n)
theorem Rps.one {v : V} {d : D} (h : Rp K ms F v d) : Rps K ms F [v] [d] := .cons h .nil
theorem Rps.two {v w : V} {d e : D} (h : Rp K ms F v d) (h' : Rp K ms F w e) : Rps K ms F [v, w] [d, e] := .cons h (.cons h' .nil)
theorem Rps.ints : ∀ {vs : List V} {is : List Int}, Rps K ms F vs (is.map D.int) → vs = is.map V.int
  | [], [], _ => rfl
  | _ :: _, _ :: _, h => by
    cases h with
    | cons h1 h2 => cases h1; rw [Rps.ints h2]; rfl
  | [], _ :: _, h => by cases h
  | _ :: _, [], h => by cases h
theorem Rps.bls : ∀ {vs : List V} {is : List Bool}, Rps K ms F vs (is.map D.bl) → vs = is.map V.bl
  | [], [], _ => rfl
  | _ :: _, _ :: _, h => by
    cases h with
    | cons h1 h2 => cases h1; rw [Rps.bls h2]; rfl
  | [], _ :: _, h => by cases h
  | _ :: _, [], h => by cases h
theorem Rps.strs : ∀ {vs : List V} {is : List Str}, Rps K ms F vs (is.map D.str) → vs = is.map V.str
  | [], [], _ => rfl
  | _ :: _, _ :: _, h => by
    cases h with
    | cons h1 h2 => cases h1; rw [Rps.strs h2]; rfl
  | [], _ :: _, h => by cases h
  | _ :: _, [], h => by cases h
end
/-! ### as data of the library -/
mutual
def pd : D → Option PyData
  | .non => some .none
  | .bl b => some (.bool b)
  | .int i => some (.int i)
  | .str s => some (.str s)
  | .lst ds => (pds ds).map PyData.list
  | .tup ds => (pds ds).map PyData.tuple
  | .obj _ _ _ => none
  | .ty _ => none
  | .glob _ => none
  | .tape => none
def pds : List D → Option (List PyData)
  | [] => some []
  | d :: ds => match pd d, pds ds with
    | some a, some b => some (a :: b)
    | _, _ => none
end
mutual
/-- == of plain data -/
def eqD : D → D → Bool
  | .non, .non => true
  | .bl a, .bl b => a == b
  | .bl a, .int j => (if a then 1 else 0) == j
  | .int i, .bl b => i == (if b then 1 else 0)
  | .int i, .int j => i == j
  | .str x, .str y => x == y
  | .lst xs, .lst ys => eqDs xs ys
  | .tup xs, .tup ys => eqDs xs ys
  | _, _ => false
def eqDs : List D → List D → Bool
  | [], [] => true
  | x :: xs, y :: ys => eqD x y && eqDs xs ys
  | _, _ => false
end
/-- data of at most so many layers, with texts of real signs -/
def okD : Nat → D → Bool
  | _, .non | _, .bl _ | _, .int _ => true
  | _, .str s => PyData.strOk s
  | n + 1, .lst ds => ds.all (okD n)
  | n + 1, .tup ds => ds.all (okD n)
  | _, _ => false
theorem okD_pd : ∀ (n : Nat) (d : D), okD n d = true → ∃ e, pd d = some e ∧ e.canLay0 = true ∧ e.depth ≤ n := by
  have key : ∀ (n : Nat) (P : D → Prop), (∀ d, okD n d = true → ∃ e, pd d = some e ∧ e.canLay0 = true ∧ e.depth ≤ n) → ∀ ds : List D, ds.all (okD n) = true → ∃ es, pds ds = some es ∧ PyData.canLayAll0 es = true ∧ PyData.depthAll es ≤ n := by
    intro n P ih ds
    induction ds with
    | nil => intro _; exact ⟨[], rfl, rfl, Nat.zero_le _⟩
    | cons d ds ih2 =>
      intro h
      rw [List.all_cons, Bool.and_eq_true] at h
      obtain ⟨e, h1, h2, h3⟩ := ih d h.1
      obtain ⟨es, h4, h5, h6⟩ := ih2 h.2
      refine ⟨e :: es, by simp [pds, h1, h4], by simp [PyData.canLayAll0, h2, h5], ?_⟩
      simp only [PyData.depthAll]
      omega
  intro n
  induction n with
  | zero =>
    intro d h
    cases d with
    | non => exact ⟨_, rfl, rfl, Nat.le_refl _⟩
    | bl b => exact ⟨_, rfl, rfl, Nat.le_refl _⟩
    | int i => exact ⟨_, rfl, rfl, Nat.le_refl _⟩
    | str s => exact ⟨_, rfl, by simpa [okD, PyData.canLay0] using h, Nat.le_refl _⟩
    | _ => simp [okD] at h
  | succ n ih =>
    intro d h
    cases d with
    | non => exact ⟨_, rfl, rfl, by simp [PyData.depth]⟩
    | bl b => exact ⟨_, rfl, rfl, by simp [PyData.depth]⟩
    | int i => exact ⟨_, rfl, rfl, by simp [PyData.depth]⟩
    | str s => exact ⟨_, rfl, by simpa [okD, PyData.canLay0] using h, by simp [PyData.depth]⟩
    | lst ds =>
      simp only [okD] at h
      obtain ⟨es, h1, h2, h3⟩ := key n (fun _ => True) ih ds h
      exact ⟨.list es, by simp [pd, h1], by simpa [PyData.canLay0] using h2, by simp only [PyData.depth]; omega⟩
    | tup ds =>
      simp only [okD] at h
      obtain ⟨es, h1, h2, h3⟩ := key n (fun _ => True) ih ds h
      exact ⟨.tuple es, by simp [pd, h1], by simpa [PyData.canLay0] using h2, by simp only [PyData.depth]; omega⟩
    | _ => simp [okD] at h
theorem pds_cons {x : D} {xs : List D} {as : List PyData} (h : pds (x :: xs) = some as) : ∃ a r, pd x = some a ∧ pds xs = some r ∧ as = a :: r := by
  unfold pds at h
  split at h
  · rename_i a r h1 h2
    cases h
    exact ⟨a, r, h1, h2, rfl⟩
  · cases h
mutual
theorem eqD_pd : ∀ (x y : D) (a b : PyData), pd x = some a → pd y = some b → eqD x y = PyData.eqv a b
  | .non, y, a, b, h1, h2 => by
    cases h1
    cases y <;> simp [pd] at h2 <;> first | (subst h2; simp [eqD, PyData.eqv]) | (obtain ⟨_, _, rfl⟩ := h2; simp [eqD, PyData.eqv])
  | .bl c, y, a, b, h1, h2 => by
    cases h1
    cases y <;> simp [pd] at h2 <;> first | (subst h2; simp [eqD, PyData.eqv]) | (obtain ⟨_, _, rfl⟩ := h2; simp [eqD, PyData.eqv])
  | .int c, y, a, b, h1, h2 => by
    cases h1
    cases y <;> simp [pd] at h2 <;> first | (subst h2; simp [eqD, PyData.eqv]) | (obtain ⟨_, _, rfl⟩ := h2; simp [eqD, PyData.eqv])
  | .str c, y, a, b, h1, h2 => by
    cases h1
    cases y <;> simp [pd] at h2 <;> first | (subst h2; simp [eqD, PyData.eqv]) | (obtain ⟨_, _, rfl⟩ := h2; simp [eqD, PyData.eqv])
  | .lst xs, y, a, b, h1, h2 => by
    simp [pd] at h1
    obtain ⟨as, h1, rfl⟩ := h1
    cases y with
    | lst ys =>
      simp [pd] at h2
      obtain ⟨bs, h2, rfl⟩ := h2
      simp only [eqD, PyData.eqv]
      exact eqDs_pd xs ys as bs h1 h2
    | _ => simp [pd] at h2 <;> first | (subst h2; simp [eqD, PyData.eqv]) | (obtain ⟨_, _, rfl⟩ := h2; simp [eqD, PyData.eqv])
  | .tup xs, y, a, b, h1, h2 => by
    simp [pd] at h1
    obtain ⟨as, h1, rfl⟩ := h1
    cases y with
    | tup ys =>
      simp [pd] at h2
      obtain ⟨bs, h2, rfl⟩ := h2
      simp only [eqD, PyData.eqv]
      exact eqDs_pd xs ys as bs h1 h2
    | _ => simp [pd] at h2 <;> first | (subst h2; simp [eqD, PyData.eqv]) | (obtain ⟨_, _, rfl⟩ := h2; simp [eqD, PyData.eqv])
  | .obj _ _ _, _, _, _, h1, _ => by simp [pd] at h1
  | .ty _, _, _, _, h1, _ => by simp [pd] at h1
  | .glob _, _, _, _, h1, _ => by simp [pd] at h1
  | .tape, _, _, _, h1, _ => by simp [pd] at h1
theorem eqDs_pd : ∀ (xs ys : List D) (as bs : List PyData), pds xs = some as → pds ys = some bs → eqDs xs ys = PyData.eqvAll as bs
  | [], [], _, _, h1, h2 => by cases h1; cases h2; simp [eqDs, PyData.eqvAll]
  | [], _ :: _, _, _, h1, h2 => by
    cases h1
    obtain ⟨_, _, _, _, rfl⟩ := pds_cons h2
    simp [eqDs, PyData.eqvAll]
  | _ :: _, [], _, _, h1, h2 => by
    cases h2
    obtain ⟨_, _, _, _, rfl⟩ := pds_cons h1
    simp [eqDs, PyData.eqvAll]
  | x :: xs, y :: ys, _, _, h1, h2 => by
    obtain ⟨a, r, p1, p2, rfl⟩ := pds_cons h1
    obtain ⟨b, t, q1, q2, rfl⟩ := pds_cons h2
    simp only [eqDs, PyData.eqvAll]
    rw [eqD_pd x y a b p1 q1, eqDs_pd xs ys r t p2 q2]
end
section
variable {K : Frg} {ms : List Addr} {F : Hp}
mutual
theorem dp_of : ∀ (d : D) (v : V) (e : PyData), pd d = some e → Rp K ms F v d → Dp K F v e
  | .non, _, _, h, r => by cases h; cases r; exact .non
  | .bl b, _, _, h, r => by cases h; cases r; exact .bl b
  | .int i, _, _, h, r => by cases h; cases r; exact .int i
  | .str x, _, _, h, r => by cases h; cases r; exact .str x
  | .lst ds, _, _, h, r => by
    simp [pd] at h
    obtain ⟨es, h, rfl⟩ := h
    cases r with
    | lst h1 h2 => exact .lst (SqL.of h1) (dps_of ds _ es h h2)
  | .tup ds, _, _, h, r => by
    simp [pd] at h
    obtain ⟨es, h, rfl⟩ := h
    cases r with
    | tup h1 h2 => exact .tup h1 (dps_of ds _ es h h2)
  | .obj _ _ _, _, _, h, _ => by simp [pd] at h
  | .ty _, _, _, h, _ => by simp [pd] at h
  | .glob _, _, _, h, _ => by simp [pd] at h
  | .tape, _, _, h, _ => by simp [pd] at h
theorem dps_of : ∀ (ds : List D) (vs : List V) (es : List PyData), pds ds = some es → Rps K ms F vs ds → DpAll K F vs es
  | [], _, _, h, r => by cases h; cases r; exact .nil
  | d :: ds, _, _, h, r => by
    obtain ⟨a, t, h1, h2, rfl⟩ := pds_cons h
    cases r with
    | cons r1 r2 => exact .cons (dp_of d _ a h1 r1) (dps_of ds _ t h2 r2)
end
end
end Y
namespace Y
open PySem PySem.Spec PyProof.Rows L2 Z
/-- an error: its class (.glob or .ty), the names of its fields, their values -/
structure Ex where
  c : D
  ns : List Str
  ds : List D
def clsV (K : Frg) : D → Option Value
  | .glob x => some (.ref (He.ga K x))
  | .ty n => some (.type n)
  | _ => none
def XR (K : Frg) (ms : List Addr) (F : Hp) (cls : Value) (d : Option Addr) (x : Ex) : Prop :=
  clsV K x.c = some cls ∧ (x.ns ≠ [] → ∃ a vs, d = some a ∧ F a = some (.xd (x.ns.zip vs)) ∧ x.ns.length = vs.length ∧ Rps K ms F vs x.ds)
/-- a thing that only one slot holds: a list that grows, an instance that is being made -/
inductive Mo where
  | lst (ds : List D) | ins (x : Addr) (c : Str) (ns : List Str) (ds : List D) | dct (kvs : List (List Int × D))
/-- a slot: not known, a plain value, a thing that only this slot holds -/
inductive Sl where
  | no | val (d : D) | mu (m : Mo)
/-- dicts whose keys are tuples of ints -/
def tupI (k : List Int) : Int := reduceHash (Builtin.Tuple.tupleHashOf (k.map hashInt))
def entI (x : List Int × Addr × Value) : DictEntry := ⟨tupI x.1, .ref x.2.1, x.2.2⟩
def dxO (a : Addr) (es : Array DictEntry) (ep : Nat) : HO := .ext fun h => ∃ o, h.get? a = some o ∧ o.ExactDict ∧ o.data = .dict es ep
inductive DRl (K : Frg) (ms : List Addr) (F : Hp) : List (List Int × D) → List (List Int × Addr × Value) → Prop
  | nil : DRl K ms F [] []
  | cons {k : List Int} {b : Addr} {u : Value} {v : V} {d : D} {kvs : List (List Int × D)} {xs : List (List Int × Addr × Value)} : SqT K F b (k.map V.int) → RelV v u → Rp K ms F v d → DRl K ms F kvs xs → DRl K ms F ((k, d) :: kvs) ((k, b, u) :: xs)
theorem DRl.up {K : Frg} {ms : List Addr} {F F' : Hp} {kvs : List (List Int × D)} {xs : List (List Int × Addr × Value)} (h : DRl K ms F kvs xs) (s : Same F F') : DRl K ms F' kvs xs := by
  induction h with
  | nil => exact .nil
  | cons h1 h2 h3 _ ih => exact .cons (sqT s h1) h2 (h3.up s) ih
def MoR (K : Frg) (ms : List Addr) (F : Hp) (a : Addr) : Mo → HO → Prop
  | .dct kvs, o => ∃ es ep xs, o = dxO a es ep ∧ (a == sysModules) = false ∧ kvs.length ≤ 100000 ∧ DRl K ms F kvs xs ∧ es.toList = xs.map entI ∧ (xs.map (·.1)).Nodup
  | .lst ds, o => ∃ vs, o = .lst vs ∧ Rps K ms F vs ds
  | .ins x c ns ds, o => x = a ∧ ∃ dx vs, o = .ins (He.ga K c) dx (ns.zip vs) ∧ ns.length = vs.length ∧ Rps K ms F vs ds
theorem MoR.up {K : Frg} {ms : List Addr} {F F' : Hp} {a : Addr} {m : Mo} {o : HO} (h : MoR K ms F a m o) (s : Same F F') : MoR K ms F' a m o := by
  cases m with
  | dct kvs => obtain ⟨es, ep, xs, e, e1, e2, r, e3⟩ := h; exact ⟨es, ep, xs, e, e1, e2, r.up s, e3⟩
  | lst ds => obtain ⟨vs, e, r⟩ := h; exact ⟨vs, e, r.up s⟩
  | ins x c ns ds => obtain ⟨ex, dx, vs, e, l, r⟩ := h; exact ⟨ex, dx, vs, e, l, r.up s⟩
abbrev Ev := List Sl
/-- the base of a def: the tapes, the heaps at its entry, what is wanted of an error -/
structure Bs where
  ms : List Addr
  F0 : Hp
  H0 : Hp
  Ed : Ex → Prop
def Tp (K : Frg) (ms : List Addr) (F H : Hp) : Prop := Same F H ∧ ∀ t ∈ ms, Tape K F H t
theorem Tp.go0 {K : Frg} {ms : List Addr} {F H F' H' : Hp} (h : Tp K ms F H) (g : Go [] F H F' H') : Tp K ms F' H' := ⟨g.fh, fun t m => (h.2 t m).go0 g⟩
structure Iv (K : Frg) (B : Bs) (F H : Hp) (σ : L2.St) (ρ : Ev) : Prop where
  go : Go B.ms B.F0 B.H0 F H
  tp : Tp K B.ms F H
  len : σ.length = ρ.length
  val : ∀ (i : Nat) (d : D), ρ[i]? = some (.val d) → ∃ v, σ[i]? = some (some v) ∧ Rp K B.ms F v d
  own : ∀ (i : Nat) (m : Mo), ρ[i]? = some (.mu m) → ∃ a o, σ[i]? = some (some (.ref a)) ∧ F a = none ∧ a ∉ B.ms ∧ B.H0 a = none ∧ H a = some o ∧ MoR K B.ms F a m o
  sep : ∀ (i j : Nat) (m n : Mo) (a : Addr), i ≠ j → ρ[i]? = some (.mu m) → ρ[j]? = some (.mu n) → σ[i]? = some (some (.ref a)) → σ[j]? ≠ some (some (.ref a))
section
variable {K : Frg} {B : Bs} {F H F' H' : Hp} {σ : L2.St} {ρ : Ev}
theorem Iv.same (I : Iv K B F H σ ρ) : Same F H := I.tp.1
theorem Iv.step (I : Iv K B F H σ ρ) (g : Go B.ms F H F' H') (t : Tp K B.ms F' H') : Iv K B F' H' σ ρ where
  go := I.go.trans g
  tp := t
  len := I.len
  val := fun i d e => let ⟨v, h1, h2⟩ := I.val i d e; ⟨v, h1, h2.up g.ff⟩
  own := fun i ds e => by
    obtain ⟨a, vs, h1, h2, h3, h4, h5, h6⟩ := I.own i ds e
    obtain ⟨p1, p2⟩ := g.mu a _ h3 h2 h5
    exact ⟨a, vs, h1, p1, h3, h4, p2, h6.up g.ff⟩
  sep := I.sep
theorem Iv.step0 (I : Iv K B F H σ ρ) (g : Go [] F H F' H') : Iv K B F' H' σ ρ := I.step g.nil (I.tp.go0 g)
/-- store a plain value -/
theorem Iv.set (I : Iv K B F H σ ρ) {v : V} {d : D} (i : Nat) (r : Rp K B.ms F v d) : Iv K B F H (σ.set i (some v)) (ρ.set i (.val d)) where
  go := I.go
  tp := I.tp
  len := by rw [List.length_set, List.length_set]; exact I.len
  val := fun j e h => by
    have hj := I.len
    by_cases hij : i = j
    · subst hij
      rcases Nat.lt_or_ge i ρ.length with z | z
      · rw [List.getElem?_set_self z] at h
        cases h
        exact ⟨v, List.getElem?_set_self (by omega), r⟩
      · rw [List.getElem?_eq_none (by rw [List.length_set]; exact z)] at h; cases h
    · rw [List.getElem?_set_ne hij] at h
      rw [List.getElem?_set_ne hij]
      exact I.val j e h
  own := fun j ds h => by
    have hj := I.len
    by_cases hij : i = j
    · subst hij
      rcases Nat.lt_or_ge i ρ.length with z | z
      · rw [List.getElem?_set_self z] at h; cases h
      · rw [List.getElem?_eq_none (by rw [List.length_set]; exact z)] at h; cases h
    · rw [List.getElem?_set_ne hij] at h
      rw [List.getElem?_set_ne hij]
      exact I.own j ds h
  sep := fun j k ds es a hjk h1 h2 h3 => by
    have key : ∀ (m : Nat) (ds : Mo), (ρ.set i (.val d))[m]? = some (.mu ds) → i ≠ m := fun m ds h e => by
      subst e
      rcases Nat.lt_or_ge i ρ.length with z | z
      · rw [List.getElem?_set_self z] at h; cases h
      · rw [List.getElem?_eq_none (by rw [List.length_set]; exact z)] at h; cases h
    have e1 := key j _ h1
    have e2 := key k _ h2
    rw [List.getElem?_set_ne e1] at h1 h3
    rw [List.getElem?_set_ne e2] at h2 ⊢
    exact I.sep j k ds es a hjk h1 h2 h3
/-- forget a slot -/
theorem Iv.wipe (I : Iv K B F H σ ρ) (i : Nat) : Iv K B F H (σ.set i none) (ρ.set i .no) where
  go := I.go
  tp := I.tp
  len := by rw [List.length_set, List.length_set]; exact I.len
  val := fun j e h => by
    have hj := I.len
    by_cases hij : i = j
    · subst hij
      rcases Nat.lt_or_ge i ρ.length with z | z
      · rw [List.getElem?_set_self z] at h; cases h
      · rw [List.getElem?_eq_none (by rw [List.length_set]; exact z)] at h; cases h
    · rw [List.getElem?_set_ne hij] at h
      rw [List.getElem?_set_ne hij]
      exact I.val j e h
  own := fun j ds h => by
    have hj := I.len
    by_cases hij : i = j
    · subst hij
      rcases Nat.lt_or_ge i ρ.length with z | z
      · rw [List.getElem?_set_self z] at h; cases h
      · rw [List.getElem?_eq_none (by rw [List.length_set]; exact z)] at h; cases h
    · rw [List.getElem?_set_ne hij] at h
      rw [List.getElem?_set_ne hij]
      exact I.own j ds h
  sep := fun j k ds es a hjk h1 h2 h3 => by
    have hj := I.len
    have key : ∀ (m : Nat) (ds : Mo), (ρ.set i .no)[m]? = some (.mu ds) → i ≠ m := fun m ds h e => by
      subst e
      rcases Nat.lt_or_ge i ρ.length with z | z
      · rw [List.getElem?_set_self z] at h; cases h
      · rw [List.getElem?_eq_none (by rw [List.length_set]; exact z)] at h; cases h
    have e1 := key j _ h1
    have e2 := key k _ h2
    rw [List.getElem?_set_ne e1] at h1 h3
    rw [List.getElem?_set_ne e2] at h2 ⊢
    exact I.sep j k ds es a hjk h1 h2 h3
end
def wipeR (ρ : Ev) : List Nat → Ev
  | [] => ρ
  | v :: vs => (wipeR ρ vs).set v .no
theorem Iv.wipes {K : Frg} {B : Bs} {F H : Hp} {σ : L2.St} {ρ : Ev} (I : Iv K B F H σ ρ) : ∀ vs : List Nat, Iv K B F H (L2.wipe σ vs) (wipeR ρ vs)
  | [] => I
  | v :: vs => (Iv.wipes I vs).wipe v
/-! ### a choice that nothing opens by itself -/
@[irreducible] def ifB (b : Bool) (p q : Prop) : Prop := if b = true then p else q
theorem ifB_eq (b : Bool) (p q : Prop) : ifB b p q = if b = true then p else q := by unfold ifB; rfl
theorem ifB_t {p q : Prop} (h : ifB true p q) : p := by rw [ifB_eq] at h; exact h
theorem ifB_f {p q : Prop} (h : ifB false p q) : q := by rw [ifB_eq] at h; exact h
theorem ifB_T {b : Bool} {p q : Prop} (e : b = true) (h : p) : ifB b p q := by rw [ifB_eq, if_pos e]; exact h
theorem ifB_F {b : Bool} {p q : Prop} (e : b = false) (h : q) : ifB b p q := by rw [ifB_eq, e]; exact h
theorem ifB_2 {b : Bool} {p q : Prop} (h : b = true → p) (h' : b = false → q) : ifB b p q := by
  cases b with
  | true => exact ifB_T rfl (h rfl)
  | false => exact ifB_F rfl (h' rfl)
theorem ifB_d {c : Prop} [Decidable c] {p q : Prop} (h : c → p) (h' : ¬ c → q) : ifB (decide c) p q := ifB_2 (fun e => h (of_decide_eq_true e)) (fun e => h' (of_decide_eq_false e))
theorem ifB_nd {c : Prop} [Decidable c] {p q : Prop} (h : ¬ c → p) (h' : c → q) : ifB (!decide c) p q := ifB_2 (fun e => h (by simpa using e)) (fun e => h' (by simpa using e))
/-! ### readings -/
abbrev Rd := Ev → (D → Prop) → Prop
abbrev RdT := Ev → (Bool → Prop) → Prop
abbrev RdA := Ev → (List D → Prop) → Prop
structure En where
  nx : Ev → Prop
  rt : D → Prop
  bk : Ev → Prop := fun _ => False
  ct : Ev → Prop := fun _ => False
abbrev RdS := Ev → En → Prop
def tE (K : Frg) (B : Bs) (r : Rd) : TE := fun σ H Q => ∃ F ρ Qd, Iv K B F H σ ρ ∧ r ρ Qd ∧ ∀ v F' H' d, Go B.ms F H F' H' → Tp K B.ms F' H' → Rp K B.ms F' v d → Qd d → Q v H'
def tT (K : Frg) (B : Bs) (r : RdT) : TT := fun σ H Q => ∃ F ρ Qd, Iv K B F H σ ρ ∧ r ρ Qd ∧ ∀ b F' H', Go B.ms F H F' H' → Tp K B.ms F' H' → Qd b → Q b H'
def tA (K : Frg) (B : Bs) (r : RdA) : TA := fun σ H Q => ∃ F ρ Qd, Iv K B F H σ ρ ∧ r ρ Qd ∧ ∀ vs F' H' ds, Go B.ms F H F' H' → Tp K B.ms F' H' → Rps K B.ms F' vs ds → Qd ds → Q vs H'
def tS (K : Frg) (B : Bs) (r : RdS) : TS := fun Dd σ H => ∃ F ρ En, Iv K B F H σ ρ ∧ r ρ En ∧ (∀ σ' ρ' F' H', Same F F' → Iv K B F' H' σ' ρ' → En.nx ρ' → Dd.nx σ' H') ∧
  (∀ v d F' H', Go B.ms B.F0 B.H0 F' H' → Tp K B.ms F' H' → Rp K B.ms F' v d → En.rt d → Dd.rt v H') ∧
  (∀ σ' ρ' F' H', Same F F' → Iv K B F' H' σ' ρ' → En.bk ρ' → Dd.bk σ' H') ∧ (∀ σ' ρ' F' H', Same F F' → Iv K B F' H' σ' ρ' → En.ct ρ' → Dd.ct σ' H')
def PEp (X : Cx) (B : Bs) (e : Expr) (r : Rd) : Prop := PE X e (tE X.K B r)
def PTp (X : Cx) (B : Bs) (e : Expr) (r : RdT) : Prop := PT X e (tT X.K B r)
def PWp (X : Cx) (B : Bs) (e : Expr) (r : RdT) : Prop := PW X e (tT X.K B r)
def PAp (X : Cx) (B : Bs) (es : List Expr) (r : RdA) : Prop := PA X es (tA X.K B r)
def PSp (X : Cx) (B : Bs) (st : Stmt) (r : RdS) : Prop := PS X st (tS X.K B r)
def PSsp (X : Cx) (B : Bs) (st : List Stmt) (r : RdS) : Prop := PSs X st (tS X.K B r)
theorem pt_imp {X : Cx} {e : Expr} {t t' : TT} (h : PT X e t) (f : ∀ σ H Q, t' σ H Q → t σ H Q) : PT X e t' := ⟨fun pins s σ H Q I z => h.run pins s σ H Q I (f σ H Q z)⟩
theorem pw_imp {X : Cx} {e : Expr} {t t' : TT} (h : PW X e t) (f : ∀ σ H Q, t' σ H Q → t σ H Q) : PW X e t' := ⟨fun w pins s σ H Q I z => h.run w pins s σ H Q I (f σ H Q z)⟩
theorem pa_imp {X : Cx} {e : List Expr} {t t' : TA} (h : PA X e t) (f : ∀ σ H Q, t' σ H Q → t σ H Q) : PA X e t' := ⟨fun p pins s σ H Q I z => h.run p pins s σ H Q I (f σ H Q z)⟩
theorem ps_imp {X : Cx} {e : Stmt} {t t' : TS} (h : PS X e t) (f : ∀ σ H Q, t' Q σ H → t Q σ H) : PS X e t' := ⟨fun pins s σ H Q I z => h.run pins s σ H Q I (f σ H Q z)⟩
theorem pss_imp {X : Cx} {e : List Stmt} {t t' : TS} (h : PSs X e t) (f : ∀ σ H Q, t' Q σ H → t Q σ H) : PSs X e t' := ⟨fun pins s σ H Q I z => h.run pins s σ H Q I (f σ H Q z)⟩
section
variable {X : Cx} {B : Bs} {a b c e : Expr} {es : List Expr} {ra rb rc r : Rd} {rt ru : RdT} {rl : RdA} {pos : Pos}
/-! ### names, constants -/
def rVar (i : Nat) : Rd := fun ρ Q => match ρ[i]? with
  | some (.val d) => Q d
  | _ => False
def rC (d : D) : Rd := fun _ Q => Q d
theorem y_var {i : Nat} {x : Str} (h : PE X (.Name x pos) (tVar i)) : PEp X B (.Name x pos) (rVar i) := pe_imp h fun σ H Q ⟨F, ρ, Qd, I, z, k⟩ => by
  unfold rVar at z
  split at z
  · rename_i d e
    obtain ⟨v, h1, h2⟩ := I.val i d e
    exact ⟨v, h1, k v F H d (Go.refl I.same) I.tp h2 z⟩
  · exact z.elim
theorem y_c {v : V} {d : D} (h : PE X e (tC v)) (hr : ∀ K ms F, Rp K ms F v d) : PEp X B e (rC d) := pe_imp h fun σ H Q ⟨F, ρ, Qd, I, z, k⟩ => k v F H d (Go.refl I.same) I.tp (hr _ _ _) z
theorem y_int {i j} : PEp X B (.Constant (.int i) j pos) (rC (.int i)) := y_c pe_int fun _ _ _ => .int i
theorem y_bl {b j} : PEp X B (.Constant (.bool b) j pos) (rC (.bl b)) := y_c pe_bl fun _ _ _ => .bl b
theorem y_non {j} : PEp X B (.Constant .none j pos) (rC .non) := y_c pe_non fun _ _ _ => .non
theorem y_str {x j} : PEp X B (.Constant (.str x) j pos) (rC (.str x)) := y_c pe_str fun _ _ _ => .str x
theorem y_globI {x : Str} {i : Int} (hg : Gl X x) (h : ∃ t, X.mg x = some (.int i t)) (hd : (x == ("__debug__" : Str)) = false := by decide) : PEp X B (.Name x pos) (rC (.int i)) := y_c (pe_globI hg h hd) fun _ _ _ => .int i
theorem y_globS {x z : Str} (hg : Gl X x) (h : ∃ t, X.mg x = some (.str z t)) (hd : (x == ("__debug__" : Str)) = false := by decide) : PEp X B (.Name x pos) (rC (.str z)) := y_c (pe_globS hg h hd) fun _ _ _ => .str z
theorem y_glob {x : Str} (hg : Gl X x) (h : X.mg x = some (.ref (He.ga X.K x))) (hd : (x == ("__debug__" : Str)) = false := by decide) : PEp X B (.Name x pos) (rC (.glob x)) :=
  pe_imp (pe_glob (v := .ref (He.ga X.K x)) hg h rfl hd) fun σ H Q ⟨F, ρ, Qd, I, z, k⟩ => k _ F H _ (Go.refl I.same) I.tp (.glob x) z
theorem y_ty {x : Str} {n : String} (hg : Gl X x) (hm : X.mg x = none) (hv : bootBuiltins x = some (.type n)) (hn : x ≠ "__name__" := by decide) (hd : (x == ("__debug__" : Str)) = false := by decide) : PEp X B (.Name x pos) (rC (.ty n)) := y_c (pe_bltn (v := .ty n) hg hm hv rfl hn hd) fun _ _ _ => .ty n
/-! ### two-place operations -/
def OpL (K : Frg) (ms : List Addr) (r : R2) (g : D → D → (D → Prop) → Prop) : Prop := ∀ (F H : Hp) (x y : V) (dx dy : D) (Qd : D → Prop) (Q : VK), Same F H → Rp K ms F x dx → Rp K ms F y dy → g dx dy Qd → (∀ v F' H' d, Go [] F H F' H' → Rp K ms F' v d → Qd d → Q v H') → r x y H Q
theorem tOp_of {g : D → D → (D → Prop) → Prop} {o : R2} (hl : OpL X.K B.ms o g) (σ : L2.St) (H : Hp) (Q : VK) (h : tE X.K B (fun ρ Q => ra ρ fun x => rb ρ fun y => g x y Q) σ H Q) : tOp o (tE X.K B ra) (tE X.K B rb) σ H Q := by
  obtain ⟨F, ρ, Qd, I, z, k⟩ := h
  refine ⟨F, ρ, _, I, z, fun v F1 H1 d g1 t1 r1 z1 => ⟨F1, ρ, _, I.step g1 t1, z1, fun u F2 H2 e g2 t2 r2 z2 => ?_⟩⟩
  exact hl F2 H2 v u d e Qd Q t2.1 (r1.up g2.ff) r2 z2 fun w F3 H3 d3 g3 r3 q3 => k w F3 H3 d3 ((g1.trans g2).trans g3.nil) (t2.go0 g3) r3 q3
theorem y_op {op : Operator} {g : D → D → (D → Prop) → Prop} {o : R2} (ho : OpR X (binaryOp op) o) (hl : OpL X.K B.ms o g) (ha : PEp X B a ra) (hb : PEp X B b rb) : PEp X B (.BinOp a op b pos) (fun ρ Q => ra ρ fun x => rb ρ fun y => g x y Q) :=
  pe_imp (pe_op ho ha hb) (tOp_of hl)
theorem y_cmp {op : CmpOp} {g : D → D → (D → Prop) → Prop} {o : R2} (ho : OpR X (compareOp op) o) (hl : OpL X.K B.ms o g) (ha : PEp X B a ra) (hb : PEp X B b rb) (hm : behindInMarks op b = false) : PEp X B (.Compare a [op] [b] pos) (fun ρ Q => ra ρ fun x => rb ρ fun y => g x y Q) :=
  pe_imp (pe_cmpR ho ha hb hm) (tOp_of hl)
def tst (d : D) (Q : Bool → Prop) : Prop := match d with
  | .bl b => Q b
  | _ => False
theorem tTest_of {t : TE} (h0 : ∀ σ H Q, tE X.K B r σ H Q → t σ H Q) (σ : L2.St) (H : Hp) (Q : Bool → Hp → Prop) (h : tT X.K B (fun ρ Q => r ρ fun d => tst d Q) σ H Q) : tTest t σ H Q := by
  obtain ⟨F, ρ, Qd, I, z, k⟩ := h
  refine h0 _ _ _ ⟨F, ρ, _, I, z, fun v F1 H1 d g1 t1 r1 z1 => ?_⟩
  unfold tst at z1
  split at z1
  · rename_i b
    cases r1
    exact ⟨b, rfl, k b F1 H1 g1 t1 z1⟩
  · exact z1.elim
theorem z_cmp {op : CmpOp} {g : D → D → (D → Prop) → Prop} {o : R2} (ho : OpR X (compareOp op) o) (hl : OpL X.K B.ms o g) (ha : PEp X B a ra) (hb : PEp X B b rb) (hm : behindInMarks op b = false) : PTp X B (.Compare a [op] [b] pos) (fun ρ Q => ra ρ fun x => rb ρ fun y => g x y fun d => tst d Q) :=
  pt_imp (pt_cmpR ho ha hb hm) (tTest_of (tOp_of hl))
theorem z_val (h : PEp X B e r) (he : ∀ whole, isTrue e X.env whole = (do let v ← whole; standAt e.pos; holding [v] (truthy v)) := by intro _; rfl) : PTp X B e (fun ρ Q => r ρ fun d => tst d Q) :=
  pt_imp (pt_val h he) (tTest_of fun _ _ _ z => z)
/-- a op b op' c -/
def chn (g g' : D → D → (D → Prop) → Prop) (ra rb rc : Rd) : Rd := fun ρ Q => ra ρ fun x => rb ρ fun y => g x y fun z => tst z fun k => ifB k (rc ρ fun w => g' y w Q) (Q (.bl false))
theorem tChain_of {g g' : D → D → (D → Prop) → Prop} {o o' : R2} (hl : OpL X.K B.ms o g) (hl' : OpL X.K B.ms o' g') (σ : L2.St) (H : Hp) (Q : VK) (h : tE X.K B (chn g g' ra rb rc) σ H Q) : tChain o o' (tE X.K B ra) (tE X.K B rb) (tE X.K B rc) σ H Q := by
  obtain ⟨F, ρ, Qd, I, z, k⟩ := h
  refine ⟨F, ρ, _, I, z, fun v F1 H1 d g1 t1 r1 z1 => ⟨F1, ρ, _, I.step g1 t1, z1, fun u F2 H2 e g2 t2 r2 z2 => ?_⟩⟩
  refine hl F2 H2 v u d e _ _ t2.1 (r1.up g2.ff) r2 z2 fun w F3 H3 d3 g3 r3 q3 => ?_
  have t3 := t2.go0 g3
  unfold tst at q3
  split at q3
  · rename_i b
    cases r3
    refine ⟨b, rfl, ?_⟩
    cases b with
    | false => exact k _ F3 H3 _ ((g1.trans g2).trans g3.nil) t3 (.bl false) (ifB_f q3)
    | true => exact ⟨F3, ρ, _, ((I.step g1 t1).step g2 t2).step g3.nil t3, ifB_t q3, fun w4 F4 H4 d4 g4 t4 r4 z4 => hl' F4 H4 u w4 e d4 Qd Q t4.1 ((r2.up g3.ff).up g4.ff) r4 z4 fun w5 F5 H5 d5 g5 r5 q5 => k w5 F5 H5 d5 (((g1.trans g2).trans g3.nil).trans (g4.trans g5.nil)) (t4.go0 g5) r5 q5⟩
  · exact q3.elim
theorem y_chain {op op' : CmpOp} {g g' : D → D → (D → Prop) → Prop} {o o' : R2} (ho : OpR X (compareOp op) o) (hl : OpL X.K B.ms o g) (ho' : OpR X (compareOp op') o') (hl' : OpL X.K B.ms o' g') (ha : PEp X B a ra) (hb : PEp X B b rb) (hc : PEp X B c rc)
    (hm : lastMarks [op, op'] [b, c] = false := by with_unfolding_all rfl) : PEp X B (.Compare a [op, op'] [b, c] pos) (chn g g' ra rb rc) := pe_imp (pe_chain ho ho' ha hb hc hm) (tChain_of hl hl')
theorem z_chain {op op' : CmpOp} {g g' : D → D → (D → Prop) → Prop} {o o' : R2} (ho : OpR X (compareOp op) o) (hl : OpL X.K B.ms o g) (ho' : OpR X (compareOp op') o') (hl' : OpL X.K B.ms o' g') (ha : PEp X B a ra) (hb : PEp X B b rb) (hc : PEp X B c rc)
    (hm : lastMarks [op, op'] [b, c] = false := by with_unfolding_all rfl) : PTp X B (.Compare a [op, op'] [b, c] pos) (fun ρ Q => chn g g' ra rb rc ρ fun d => tst d Q) := pt_imp (pt_chain ho ho' ha hb hc hm) (tTest_of (tChain_of hl hl'))
/-! ### and, or, not, if -/
theorem z_and1 (ha : PTp X B a rt) : PWp X B (.BoolOp .And [a] pos) rt := pw_and1 ha
theorem z_or1 (ha : PTp X B a rt) : PWp X B (.BoolOp .Or [a] pos) rt := pw_or1 ha
theorem z_and {rest : List Expr} (ha : PTp X B a rt) (hb : PWp X B (.BoolOp .And (b :: rest) pos) ru) : PWp X B (.BoolOp .And (a :: b :: rest) pos) (fun ρ Q => rt ρ fun c => ifB c (ru ρ Q) (Q false)) :=
  pw_imp (pw_and ha hb) fun σ H Q ⟨F, ρ, Qd, I, z, k⟩ => ⟨F, ρ, _, I, z, fun b F1 H1 g1 t1 z1 => by
    cases b with
    | false => exact k false F1 H1 g1 t1 (ifB_f z1)
    | true => exact ⟨F1, ρ, _, I.step g1 t1, ifB_t z1, fun b F2 H2 g2 t2 z2 => k b F2 H2 (g1.trans g2) t2 z2⟩⟩
theorem z_or {rest : List Expr} (ha : PTp X B a rt) (hb : PWp X B (.BoolOp .Or (b :: rest) pos) ru) : PWp X B (.BoolOp .Or (a :: b :: rest) pos) (fun ρ Q => rt ρ fun c => ifB c (Q true) (ru ρ Q)) :=
  pw_imp (pw_or ha hb) fun σ H Q ⟨F, ρ, Qd, I, z, k⟩ => ⟨F, ρ, _, I, z, fun b F1 H1 g1 t1 z1 => by
    cases b with
    | true => exact k true F1 H1 g1 t1 (ifB_t z1)
    | false => exact ⟨F1, ρ, _, I.step g1 t1, ifB_f z1, fun b F2 H2 g2 t2 z2 => k b F2 H2 (g1.trans g2) t2 z2⟩⟩
theorem z_pt (h : PWp X B a rt) : PTp X B a rt := PW.pt h
theorem z_not (ha : PTp X B a rt) : PTp X B (.UnaryOp .Not a pos) (fun ρ Q => rt ρ fun c => Q (!c)) :=
  pt_imp (pt_not ha) fun σ H Q ⟨F, ρ, Qd, I, z, k⟩ => ⟨F, ρ, _, I, z, fun b F1 H1 g1 t1 z1 => k (!b) F1 H1 g1 t1 z1⟩
theorem y_one {op} (h : PEp X B a ra) : PEp X B (.BoolOp op [a] pos) ra := pe_one h
theorem y_and {rest : List Expr} (ha : PEp X B a ra) (hb : PEp X B (.BoolOp .And (b :: rest) pos) rb) : PEp X B (.BoolOp .And (a :: b :: rest) pos) (fun ρ Q => ra ρ fun d => tst d fun c => ifB c (rb ρ Q) (Q (.bl false))) :=
  pe_imp (pe_and ha hb) fun σ H Q ⟨F, ρ, Qd, I, z, k⟩ => ⟨F, ρ, _, I, z, fun v F1 H1 d g1 t1 r1 z1 => by
    unfold tst at z1
    split at z1
    · rename_i b
      cases r1
      refine ⟨b, rfl, ?_⟩
      cases b with
      | false => exact k _ F1 H1 _ g1 t1 (.bl false) (ifB_f z1)
      | true => exact ⟨F1, ρ, _, I.step g1 t1, ifB_t z1, fun w F2 H2 d g2 t2 r2 z2 => k w F2 H2 d (g1.trans g2) t2 r2 z2⟩
    · exact z1.elim⟩
theorem y_or {rest : List Expr} (ha : PEp X B a ra) (hb : PEp X B (.BoolOp .Or (b :: rest) pos) rb) : PEp X B (.BoolOp .Or (a :: b :: rest) pos) (fun ρ Q => ra ρ fun d => tst d fun c => ifB c (Q (.bl true)) (rb ρ Q)) :=
  pe_imp (pe_or ha hb) fun σ H Q ⟨F, ρ, Qd, I, z, k⟩ => ⟨F, ρ, _, I, z, fun v F1 H1 d g1 t1 r1 z1 => by
    unfold tst at z1
    split at z1
    · rename_i b
      cases r1
      refine ⟨b, rfl, ?_⟩
      cases b with
      | true => exact k _ F1 H1 _ g1 t1 (.bl true) (ifB_t z1)
      | false => exact ⟨F1, ρ, _, I.step g1 t1, ifB_f z1, fun w F2 H2 d g2 t2 r2 z2 => k w F2 H2 d (g1.trans g2) t2 r2 z2⟩
    · exact z1.elim⟩
theorem y_not (ha : PEp X B a ra) : PEp X B (.UnaryOp .Not a pos) (fun ρ Q => ra ρ fun d => tst d fun c => Q (.bl (!c))) :=
  pe_imp (pe_not ha) fun σ H Q ⟨F, ρ, Qd, I, z, k⟩ => ⟨F, ρ, _, I, z, fun v F1 H1 d g1 t1 r1 z1 => by
    unfold tst at z1
    split at z1
    · rename_i b
      cases r1
      exact ⟨b, rfl, k _ F1 H1 _ g1 t1 (.bl (!b)) z1⟩
    · exact z1.elim⟩
theorem y_if (hc : PTp X B c rt) (ha : PEp X B a ra) (hb : PEp X B b rb) : PEp X B (.IfExp c a b pos) (fun ρ Q => rt ρ fun c => ifB c (ra ρ Q) (rb ρ Q)) :=
  pe_imp (pe_ifExp hc ha hb) fun σ H Q ⟨F, ρ, Qd, I, z, k⟩ => ⟨F, ρ, _, I, z, fun c F1 H1 g1 t1 z1 => by
    cases c with
    | true => exact ⟨F1, ρ, _, I.step g1 t1, ifB_t z1, fun w F2 H2 d g2 t2 r2 z2 => k w F2 H2 d (g1.trans g2) t2 r2 z2⟩
    | false => exact ⟨F1, ρ, _, I.step g1 t1, ifB_f z1, fun w F2 H2 d g2 t2 r2 z2 => k w F2 H2 d (g1.trans g2) t2 r2 z2⟩⟩
/-- a one-place operation -/
def UnL (K : Frg) (ms : List Addr) (r : V → Hp → VK → Prop) (g : D → (D → Prop) → Prop) : Prop := ∀ (F H : Hp) (x : V) (dx : D) (Qd : D → Prop) (Q : VK), Same F H → Rp K ms F x dx → g dx Qd → (∀ v F' H' d, Go [] F H F' H' → Rp K ms F' v d → Qd d → Q v H') → r x H Q
theorem y_un {op : UnaryOp} {g : D → (D → Prop) → Prop} {o : V → Hp → VK → Prop} (ho : UnR X (unaryOp op) o) (hl : UnL X.K B.ms o g) (ha : PEp X B a ra) : PEp X B (.UnaryOp op a pos) (fun ρ Q => ra ρ fun x => g x Q) :=
  pe_imp (pe_un ho ha) fun σ H Q ⟨F, ρ, Qd, I, z, k⟩ => ⟨F, ρ, _, I, z, fun v F1 H1 d g1 t1 r1 z1 => hl F1 H1 v d Qd Q t1.1 r1 z1 fun w F2 H2 e g2 r2 z2 => k w F2 H2 e (g1.trans g2.nil) (t1.go0 g2) r2 z2⟩
/-! ### arguments, displays -/
def aNil : RdA := fun _ Q => Q []
def aCons (ra : Rd) (rl : RdA) : RdA := fun ρ Q => ra ρ fun x => rl ρ fun xs => Q (x :: xs)
theorem a_nil : PAp X B [] aNil := pa_imp pa_nil fun σ H Q ⟨F, ρ, Qd, I, z, k⟩ => k [] F H [] (Go.refl I.same) I.tp .nil z
theorem a_cons (ha : PEp X B e ra) (hr : PAp X B es rl) (hs : starEach (e :: es) X.env = (false, eval e X.env) :: starEach es X.env := by rfl) : PAp X B (e :: es) (aCons ra rl) :=
  pa_imp (pa_cons ha hr hs) fun σ H Q ⟨F, ρ, Qd, I, z, k⟩ => ⟨F, ρ, _, I, z, fun v F1 H1 d g1 t1 r1 z1 => ⟨F1, ρ, _, I.step g1 t1, z1, fun vs F2 H2 ds g2 t2 r2 z2 => k (v :: vs) F2 H2 (d :: ds) (g1.trans g2) t2 (.cons (r1.up g2.ff) r2) z2⟩⟩
theorem y_tup {x1} (h : PAp X B es rl) : PEp X B (.Tuple es x1 pos) (fun ρ Q => rl ρ fun ds => ds.length ≤ 100000 ∧ Q (.tup ds)) :=
  pe_imp (pe_tupZ h) fun σ H Q ⟨F, ρ, Qd, I, z, k⟩ => ⟨F, ρ, _, I, z, fun vs F1 H1 ds g1 t1 r1 z1 => ⟨Nat.le_trans (by rw [r1.len]; exact z1.1) (by decide), fun p H2 hp e2 => by
    obtain ⟨F2, g2, q2, _⟩ := newE g1.fh hp e2
    exact k _ F2 H2 _ (g1.trans g2.nil) (t1.go0 g2) (.tup (SqT.of q2) (r1.up g2.ff)) z1.2⟩⟩
theorem y_lst (h : PAp X B es rl) : PEp X B (.List es pos) (fun ρ Q => rl ρ fun ds => ds.length ≤ 100000 ∧ Q (.lst ds)) :=
  pe_imp (pe_lstZ h) fun σ H Q ⟨F, ρ, Qd, I, z, k⟩ => ⟨F, ρ, _, I, z, fun vs F1 H1 ds g1 t1 r1 z1 => ⟨Nat.le_trans (by rw [r1.len]; exact z1.1) (by decide), fun p H2 hp e2 => by
    obtain ⟨F2, g2, q2, _⟩ := newE g1.fh hp e2
    exact k _ F2 H2 _ (g1.trans g2.nil) (t1.go0 g2) (.lst q2 (r1.up g2.ff)) z1.2⟩⟩
end
end Y
namespace Y
open PySem PySem.Spec PyProof.Rows L2 Z
/-! ### statements -/
section
variable {X : Cx} {B : Bs} {a b c e : Expr} {es : List Expr} {ra rb rc r : Rd} {rt ru : RdT} {rl : RdA} {pos : Pos} {st : Stmt} {rest : List Stmt} {s1 s2 : RdS}
theorem s_nil : PSsp X B [] (fun ρ E => E.nx ρ) := pss_imp pss_nil fun σ H Dd ⟨F, ρ, E, I, z, kn, _⟩ => kn σ ρ F H (Same.refl _) I z
theorem s_cons (h1 : PSp X B st s1) (h2 : PSsp X B rest s2) : PSsp X B (st :: rest) (fun ρ E => s1 ρ { E with nx := fun ρ' => s2 ρ' E }) :=
  pss_imp (pss_cons h1 h2) fun σ H Dd ⟨F, ρ, E, I, z, kn, kr, kb, kc⟩ => ⟨F, ρ, _, I, z, fun σ' ρ' F' H' s I' z' => ⟨F', ρ', E, I', z', fun σ2 ρ2 F2 H2 s' I2 z2 => kn σ2 ρ2 F2 H2 (s.trans s') I2 z2, kr, fun σ2 ρ2 F2 H2 s' I2 z2 => kb σ2 ρ2 F2 H2 (s.trans s') I2 z2, fun σ2 ρ2 F2 H2 s' I2 z2 => kc σ2 ρ2 F2 H2 (s.trans s') I2 z2⟩, kr, kb, kc⟩
theorem s_one (h1 : PSp X B st s1) : PSsp X B [st] s1 := pss_one h1
theorem s_ret (he : PEp X B e r) : PSp X B (.Return (some e) pos) (fun ρ E => r ρ E.rt) :=
  ps_imp (ps_ret he) fun σ H Dd ⟨F, ρ, E, I, z, kn, kr, kb, kc⟩ => ⟨F, ρ, _, I, z, fun v F' H' d g t r q => kr v d F' H' (I.go.trans g) t r q⟩
theorem s_retN : PSp X B (.Return none pos) (fun _ E => E.rt .non) := ps_imp ps_retN fun σ H Dd ⟨F, ρ, E, I, z, kn, kr, kb, kc⟩ => kr .non .non F H I.go I.tp .non z
theorem s_pass : PSp X B (.Pass pos) (fun ρ E => E.nx ρ) := ps_imp ps_pass fun σ H Dd ⟨F, ρ, E, I, z, kn, kr, kb, kc⟩ => kn σ ρ F H (Same.refl _) I z
theorem s_brk : PSp X B (.Break pos) (fun ρ E => E.bk ρ) := ps_imp ps_break fun σ H Dd ⟨F, ρ, E, I, z, kn, kr, kb, kc⟩ => kb σ ρ F H (Same.refl _) I z
theorem s_cnt : PSp X B (.Continue pos) (fun ρ E => E.ct ρ) := ps_imp ps_continue fun σ H Dd ⟨F, ρ, E, I, z, kn, kr, kb, kc⟩ => kc σ ρ F H (Same.refl _) I z
theorem s_never : PSp X B st (fun _ _ => False) := ps_imp ps_never fun σ H Dd ⟨F, ρ, E, I, z, _⟩ => z
theorem s_doc {x j pos'} : PSp X B (.Expr (.Constant (.str x) j pos) pos') (fun ρ E => E.nx ρ) := ps_imp ps_doc fun σ H Dd ⟨F, ρ, E, I, z, kn, kr, kb, kc⟩ => kn σ ρ F H (Same.refl _) I z
theorem s_expr (he : PEp X B e r) (hs : swapsWith e none pos.line X.env = pure false := by rfl) : PSp X B (.Expr e pos) (fun ρ E => r ρ fun _ => E.nx ρ) :=
  ps_imp (ps_expr he hs) fun σ H Dd ⟨F, ρ, E, I, z, kn, kr, kb, kc⟩ => ⟨F, ρ, _, I, z, fun v F' H' d g t r q => kn σ ρ F' H' g.ff (I.step g t) q⟩
theorem s_if {bs cs : List Stmt} (hc : PTp X B c rt) (ha : PSsp X B bs s1) (hb : PSsp X B cs s2) : PSp X B (.If c bs cs pos) (fun ρ E => rt ρ fun k => ifB k (s1 ρ E) (s2 ρ E)) :=
  ps_imp (ps_if hc ha hb) fun σ H Dd ⟨F, ρ, E, I, z, kn, kr, kb, kc⟩ => ⟨F, ρ, _, I, z, fun k F1 H1 g1 t1 z1 => by
    have J := I.step g1 t1
    cases k with
    | true => exact ⟨F1, ρ, E, J, ifB_t z1, fun σ2 ρ2 F2 H2 s' I2 z2 => kn σ2 ρ2 F2 H2 (g1.ff.trans s') I2 z2, kr, fun σ2 ρ2 F2 H2 s' I2 z2 => kb σ2 ρ2 F2 H2 (g1.ff.trans s') I2 z2, fun σ2 ρ2 F2 H2 s' I2 z2 => kc σ2 ρ2 F2 H2 (g1.ff.trans s') I2 z2⟩
    | false => exact ⟨F1, ρ, E, J, ifB_f z1, fun σ2 ρ2 F2 H2 s' I2 z2 => kn σ2 ρ2 F2 H2 (g1.ff.trans s') I2 z2, kr, fun σ2 ρ2 F2 H2 s' I2 z2 => kb σ2 ρ2 F2 H2 (g1.ff.trans s') I2 z2, fun σ2 ρ2 F2 H2 s' I2 z2 => kc σ2 ρ2 F2 H2 (g1.ff.trans s') I2 z2⟩⟩
/-! ### targets -/
inductive Tg where
  | nm (i : Nat) | tp (is : List Nat)
def stN : List Nat → List D → Ev → (Ev → Prop) → Prop
  | [], [], ρ, Q => Q ρ
  | i :: is, d :: ds, ρ, Q => stN is ds (ρ.set i (.val d)) Q
  | _, _, _, _ => False
def tgD : Tg → D → Ev → (Ev → Prop) → Prop
  | .nm i, d, ρ, Q => Q (ρ.set i (.val d))
  | .tp is, .tup ds, ρ, Q => stN is ds ρ Q
  | .tp is, .lst ds, ρ, Q => stN is ds ρ Q
  | _, _, _, _ => False
def gNs : List Nat → TGs
  | [] => gNil
  | i :: is => gCons (gName i) (gNs is)
def tgV (K : Frg) : Tg → TG
  | .nm i => gName i
  | .tp is => fun v σ H Q => gTup K is.length (gNs is) v σ H Q ∨ gLst K is.length (gNs is) v σ H Q
theorem g_nm {i : Nat} {x : Str} (h : PG X (.Name x pos) (gName i)) : PG X (.Name x pos) (tgV X.K (.nm i)) := h
theorem g_tp {is : List Nat} {k : Nat} (hc : X.calm = true) (h : PGs X es (gNs is)) (hl : is.length = (assignEach es X.env).length := by rfl) (hst : (assignEach es X.env).findIdx? (·.1) = none := by rfl) : PG X (.Tuple es k pos) (tgV X.K (.tp is)) := by
  have h1 := pg_tup (pos := pos) (k := k) hc h hl.symm hst
  have h2 := pg_lst (pos := pos) (k := k) hc h hl.symm hst
  exact ⟨fun pins s σ H v u Q I r z => z.elim (h1.run pins s σ H v u Q I r) (h2.run pins s σ H v u Q I r)⟩
theorem stN_run {K : Frg} : ∀ {is : List Nat} {vs : List V} {ds : List D} {F H : Hp} {σ : L2.St} {ρ : Ev} {Qd : Ev → Prop} {Q : L2.St → Hp → Prop}, Iv K B F H σ ρ → Rps K B.ms F vs ds → stN is ds ρ Qd → (∀ σ' ρ', Iv K B F H σ' ρ' → Qd ρ' → Q σ' H) → gNs is vs σ H Q
  | [], [], [], F, H, σ, ρ, Qd, Q, I, _, z, k => ⟨rfl, k σ ρ I z⟩
  | i :: is, v :: vs, d :: ds, F, H, σ, ρ, Qd, Q, I, r, z, k => by
    cases r with
    | cons r1 r2 => exact ⟨v, vs, rfl, stN_run (I.set i r1) r2 z k⟩
  | [], _ :: _, [], _, _, _, _, _, _, _, r, _, _ => by cases r
  | [], _, _ :: _, _, _, _, _, _, _, _, _, z, _ => z.elim
  | _ :: _, _, [], _, _, _, _, _, _, _, _, z, _ => z.elim
  | _ :: _, [], _ :: _, _, _, _, _, _, _, _, r, _, _ => by cases r
theorem stN_len : ∀ {is : List Nat} {ds : List D} {ρ : Ev} {Qd : Ev → Prop}, stN is ds ρ Qd → ds.length = is.length
  | [], [], _, _, _ => rfl
  | _ :: is, _ :: ds, _, _, z => by simp only [List.length_cons]; rw [stN_len (is := is) (ds := ds) z]
  | [], _ :: _, _, _, z => z.elim
  | _ :: _, [], _, _, z => z.elim
theorem tg_run {K : Frg} {tg : Tg} {v : V} {d : D} {F H : Hp} {σ : L2.St} {ρ : Ev} {Qd : Ev → Prop} {Q : L2.St → Hp → Prop} (I : Iv K B F H σ ρ) (r : Rp K B.ms F v d) (z : tgD tg d ρ Qd) (k : ∀ σ' ρ', Iv K B F H σ' ρ' → Qd ρ' → Q σ' H) : tgV K tg v σ H Q := by
  cases tg with
  | nm i => exact k _ _ (I.set i r) z
  | tp is =>
    cases d with
    | tup ds =>
      cases r with
      | tup h1 h2 => exact .inl ⟨_, _, rfl, sqT I.same h1, by rw [h2.len]; exact stN_len z, stN_run I h2 z k⟩
    | lst ds =>
      cases r with
      | lst h1 h2 => exact .inr ⟨_, _, rfl, SqL.of (I.same _ _ h1), by rw [h2.len]; exact stN_len z, stN_run I h2 z k⟩
    | _ => exact z.elim
/-- a target touches its own slots alone -/
def Tg.slots : Tg → List Nat
  | .nm i => [i]
  | .tp is => is
theorem wipe_get (σ : L2.St) : ∀ (vs : List Nat) (j : Nat), (L2.wipe σ vs)[j]? = if j ∈ vs then (if j < σ.length then some none else none) else σ[j]?
  | [], j => by simp [L2.wipe]
  | v :: vs, j => by
    unfold L2.wipe
    rw [List.getElem?_set, L2.wipe_length, wipe_get σ vs j]
    by_cases hv : v = j
    · subst hv; simp
    · rw [if_neg hv]
      have : (j ∈ v :: vs) = (j ∈ vs) := by simp [Ne.symm hv]
      simp only [this]
theorem wipe_set (σ : L2.St) {i : Nat} {x : Option V} {vs : List Nat} (h : i ∈ vs) : L2.wipe (σ.set i x) vs = L2.wipe σ vs := by
  apply List.ext_getElem?
  intro j
  rw [wipe_get, wipe_get, List.length_set]
  by_cases hj : j ∈ vs
  · rw [if_pos hj, if_pos hj]
  · rw [if_neg hj, if_neg hj, List.getElem?_set_ne (fun (e : i = j) => hj (e ▸ h))]
theorem gNs_wipe {vs0 : List Nat} {H : Hp} {Q : L2.St → Hp → Prop} : ∀ {is : List Nat} {vs : List V} {σ : L2.St}, (∀ i ∈ is, i ∈ vs0) → gNs is vs σ H Q → gNs is vs σ H fun σ2 H2 => L2.wipe σ2 vs0 = L2.wipe σ vs0 ∧ Q σ2 H2
  | [], _, _, _, h => ⟨h.1, rfl, h.2⟩
  | i :: is, vs, σ, hm, ⟨v, r, e, h⟩ => by
    refine ⟨v, r, e, ?_⟩
    have := gNs_wipe (is := is) (fun j hj => hm j (List.mem_cons_of_mem _ hj)) h
    rw [wipe_set σ (hm i List.mem_cons_self)] at this
    exact this
theorem tg_wipe {K : Frg} {tg : Tg} {vs0 : List Nat} {v : V} {σ : L2.St} {H : Hp} {Q : L2.St → Hp → Prop} (hm : ∀ i ∈ tg.slots, i ∈ vs0) (h : tgV K tg v σ H Q) : tgV K tg v σ H fun σ2 H2 => L2.wipe σ2 vs0 = L2.wipe σ vs0 ∧ Q σ2 H2 := by
  cases tg with
  | nm i => exact ⟨wipe_set σ (hm i List.mem_cons_self), h⟩
  | tp is =>
    rcases h with ⟨a, xs, e, h1, h2, h3⟩ | ⟨a, xs, e, h1, h2, h3⟩
    · exact .inl ⟨a, xs, e, h1, h2, gNs_wipe hm h3⟩
    · exact .inr ⟨a, xs, e, h1, h2, gNs_wipe hm h3⟩
/-! ### assignments -/
theorem asg_of {te : TE} {tg : Tg} (h0 : ∀ σ H Q, tE X.K B r σ H Q → te σ H Q) (σ : L2.St) (H : Hp) (Dd : Ends) (h : tS X.K B (fun ρ E => r ρ fun d => tgD tg d ρ E.nx) Dd σ H) : tAsg te (tgV X.K tg) Dd σ H := by
  obtain ⟨F, ρ, E, I, z, kn, kr, kb, kc⟩ := h
  exact h0 _ _ _ ⟨F, ρ, _, I, z, fun v F' H' d g t r q => tg_run (I.step g t) r q fun σ' ρ' I' z' => kn σ' ρ' F' H' g.ff I' z'⟩
theorem s_set {i : Nat} {x : Str} {pos' : Pos} (hN : X.N.Nodup) (hi : X.N[i]? = some x) (hx : Loc X.env.scope x) (he : PEp X B e r) (hs : swapsWith e (some (.Name x pos')) pos.line X.env = pure false := by rfl) (hf : X.fn x = true ∨ X.env.scope.names.lookup x = some .local := by first | exact .inl rfl | exact .inr rfl | assumption) :
    PSp X B (.Assign [.Name x pos'] e pos) (fun ρ E => r ρ fun d => E.nx (ρ.set i (.val d))) := ps_imp (ps_set hN hi hx he hs hf) (asg_of (tg := .nm i) fun _ _ _ z => z)
theorem s_asg {tg : Expr} {t : Tg} (he : PEp X B e r) (hg : PG X tg (tgV X.K t)) (hs : swapsWithSole [tg] e pos.line X.env = pure false := by rfl) (hw : swappedStores [tg] e X.env = pure none := by rfl)
    (h1 : (assignEach [tg] X.env).map (·.2) = [assign tg X.env] := by rfl) : PSp X B (.Assign [tg] e pos) (fun ρ E => r ρ fun d => tgD t d ρ E.nx) := ps_imp (ps_asg he hg hs hw h1) (asg_of (tg := t) fun _ _ _ z => z)
theorem s_par {i j : Nat} {x y : Str} {px py pt : Pos} {kt k2 pt2} (hc : X.calm = true) (hN : X.N.Nodup) (hi : X.N[i]? = some x) (hj : X.N[j]? = some y) (hij : i ≠ j)
    (hx : X.env.scope.names.lookup x = some .local) (hy : X.env.scope.names.lookup y = some .local) (ha : PAp X B [a, b] rl)
    (hw : swappedStores [.Tuple [.Name x px, .Name y py] kt pt] (.Tuple [a, b] k2 pt2) X.env = pure (some [x, y]))
    (hs : swapsWithSole [.Tuple [.Name x px, .Name y py] kt pt] (.Tuple [a, b] k2 pt2) pos.line X.env = pure false := by rfl) :
    PSp X B (.Assign [.Tuple [.Name x px, .Name y py] kt pt] (.Tuple [a, b] k2 pt2) pos) (fun ρ E => rl ρ fun ds => stN [i, j] ds ρ E.nx) :=
  ps_imp (ps_par hc hN hi hj hij hx hy ha hw hs) fun σ H Dd ⟨F, ρ, E, I, z, kn, kr, kb, kc⟩ => ⟨F, ρ, _, I, z, fun vs F' H' ds g t r q => by
    match vs, ds, r, q with
    | [v, w], [d, d'], r, q =>
      cases r with
      | cons r1 r2 =>
        cases r2 with
        | cons r2 r3 => exact ⟨v, w, rfl, kn _ _ F' H' g.ff (((I.step g t).set i r1).set j r2) q⟩
    | [], [], _, q => exact q.elim
    | [_], [_], _, q => exact q.elim
    | _ :: _ :: _ :: _, _ :: _ :: _ :: _, _, q => exact q.elim
    | [], _ :: _, r, _ => exact (nomatch r)
    | _ :: _, [], r, _ => exact (nomatch r)
    | [_], _ :: _ :: _, r, _ => cases r with | cons _ r => exact (nomatch r)
    | _ :: _ :: _, [_], r, _ => cases r with | cons _ r => exact (nomatch r)
    | [_, _], _ :: _ :: _ :: _, r, _ => cases r with | cons _ r => cases r with | cons _ r => exact (nomatch r)
    | _ :: _ :: _ :: _, [_, _], r, _ => cases r with | cons _ r => cases r with | cons _ r => exact (nomatch r)⟩
/-! ### loops -/
theorem s_while {body : List Stmt} (hp : PassesOwn (model X.prog X.w) X.A X.env X.xe) (hc : PTp X B c rt) (hb : PSsp X B body s1) : PSp X B (.While c body [] pos) (fun ρ E => ∃ Iw : Nat → Ev → Prop, (∃ m, Iw m ρ) ∧ ∀ m ρ, Iw m ρ →
    rt ρ fun k => ifB k (s1 ρ { E with nx := fun ρ' => ∃ m', m' < m ∧ Iw m' ρ', ct := fun ρ' => ∃ m', m' < m ∧ Iw m' ρ', bk := E.nx }) (E.nx ρ)) :=
  ps_imp (ps_while hp hc hb) fun σ H Dd ⟨F, ρ, E, I, ⟨Iw, ⟨m0, i0⟩, turn⟩, kn, kr, kb, kc⟩ => by
    refine ⟨fun m σ' H' => ∃ F' ρ', Same F F' ∧ Iv X.K B F' H' σ' ρ' ∧ Iw m ρ', ⟨m0, F, ρ, Same.refl _, I, i0⟩, ?_⟩
    rintro m σ' H' ⟨F', ρ', s', I', z'⟩
    refine ⟨F', ρ', _, I', turn m ρ' z', fun k F1 H1 g1 t1 z1 => ?_⟩
    have J := I'.step g1 t1
    have sF := s'.trans g1.ff
    cases k with
    | false => exact kn σ' ρ' F1 H1 sF J (ifB_f z1)
    | true =>
      refine ⟨fun σ2 H2 => ∃ m', m' < m ∧ ∃ F2 ρ2, Same F F2 ∧ Iv X.K B F2 H2 σ2 ρ2 ∧ Iw m' ρ2, fun σ2 H2 ⟨m', hm, F2, ρ2, s2, I2, z2⟩ => ⟨m', hm, F2, ρ2, s2, I2, z2⟩, F1, ρ', _, J, ifB_t z1, ?_, kr, ?_, ?_⟩
      · rintro σ2 ρ2 F2 H2 s2 I2 ⟨m', hm, z2⟩
        exact ⟨m', hm, F2, ρ2, sF.trans s2, I2, z2⟩
      · intro σ2 ρ2 F2 H2 s2 I2 z2
        exact kn σ2 ρ2 F2 H2 (sF.trans s2) I2 z2
      · rintro σ2 ρ2 F2 H2 s2 I2 ⟨m', hm, z2⟩
        exact ⟨m', hm, F2, ρ2, sF.trans s2, I2, z2⟩
end
/-- an iterator that hands out the data ds -/
def Sqs (K : Frg) (ms : List Addr) (F : Hp) (J : It) (ds : List D) : Prop := ∃ (G : Hp → Prop) (Yd : Nat → Hp → V → Hp → Prop), Walk J ds.length G Yd ∧ (∀ F1 H1, Same F F1 → Same F1 H1 → G H1) ∧
  ∀ (i : Nat) (F1 H1 : Hp) (x : V) (H1' : Hp) (d : D), Same F F1 → Same F1 H1 → Yd i H1 x H1' → ds[i]? = some d → ∃ F2, Go [] F1 H1 F2 H1' ∧ Rp K ms F2 x d
def tI (K : Frg) (B : Bs) (r : RdA) : L2.TI := fun σ H R => ∃ F ρ Qd, Iv K B F H σ ρ ∧ r ρ Qd ∧ ∀ J F' H' ds, Go B.ms F H F' H' → Tp K B.ms F' H' → Sqs K B.ms F' J ds → Qd ds → R J H'
def PIp (X : Cx) (B : Bs) (tg iter : Expr) (r : RdA) : Prop := PI X tg iter (tI X.K B r)
theorem pi_imp {X : Cx} {tg it : Expr} {t t' : L2.TI} (h : PI X tg it t) (f : ∀ σ H R, t' σ H R → t σ H R) : PI X tg it t' := ⟨fun pins s σ H R I z => h.run pins s σ H R I (f σ H R z)⟩
/-- a for, turn by turn -/
def forP (tg : Tg) (sb : RdS) (E : En) : List D → Ev → Prop
  | [], ρ => E.nx ρ
  | d :: ds, ρ => tgD tg d ρ fun ρ1 => sb ρ1 { E with nx := forP tg sb E ds, ct := forP tg sb E ds, bk := E.nx }
/-- a for, by what holds behind each turn -/
def forI (tg : Tg) (sb : RdS) (E : En) (ds : List D) (ρ : Ev) : Prop := ∃ I : Nat → Ev → Prop, I 0 ρ ∧ (∀ (i : Nat) (d : D) (ρ' : Ev), ds[i]? = some d → I i ρ' → tgD tg d ρ' fun ρ1 => sb ρ1 { E with nx := I (i + 1), ct := I (i + 1), bk := E.nx }) ∧ ∀ ρ', I ds.length ρ' → E.nx ρ'
theorem lt_of_get {α : Type} {ds : List α} {i : Nat} {d : α} (h : ds[i]? = some d) : i < ds.length := by
  rcases Nat.lt_or_ge i ds.length with z | z
  · exact z
  · rw [List.getElem?_eq_none z] at h; cases h
theorem drop_of_get {α : Type} {ds : List α} {i : Nat} {d : α} (h : ds[i]? = some d) : ds.drop i = d :: ds.drop (i + 1) := by
  have hi := lt_of_get h
  rw [List.getElem?_eq_getElem hi] at h
  cases h
  exact List.drop_eq_getElem_cons hi
theorem forI_of {tg : Tg} {sb : RdS} {E : En} {ds : List D} {ρ : Ev} (h : forP tg sb E ds ρ) : forI tg sb E ds ρ := by
  refine ⟨fun i ρ' => forP tg sb E (ds.drop i) ρ', h, fun i d ρ' hd z => ?_, fun ρ' z => ?_⟩
  · dsimp only at z
    rw [drop_of_get hd] at z
    exact z
  · dsimp only at z
    rw [List.drop_length] at z
    exact z
/-- a comprehension, item by item -/
def mapP (tg : Tg) (rt : RdT) (re : Rd) (ρ : Ev) : List D → (List D → Prop) → Prop
  | [], Q => Q []
  | d :: ds, Q => tgD tg d ρ fun ρ2 => rt ρ2 fun k => ifB k (re ρ2 fun y => mapP tg rt re ρ ds fun ys => Q (y :: ys)) (mapP tg rt re ρ ds Q)
/-- a comprehension, by what holds of the items made so far -/
def mapI (tg : Tg) (rt : RdT) (re : Rd) (ρ : Ev) (ds : List D) (Q : List D → Prop) : Prop := ∃ J : Nat → List D → Prop, J 0 [] ∧ (∀ (i : Nat) (d : D) (acc : List D), ds[i]? = some d → J i acc → tgD tg d ρ fun ρ2 => rt ρ2 fun k => ifB k (re ρ2 fun y => J (i + 1) (acc ++ [y])) (J (i + 1) acc)) ∧ ∀ out, J ds.length out → Q out
theorem mapI_of {tg : Tg} {rt : RdT} {re : Rd} {ρ : Ev} {ds : List D} {Q : List D → Prop} (h : mapP tg rt re ρ ds Q) : mapI tg rt re ρ ds Q := by
  refine ⟨fun i acc => mapP tg rt re ρ (ds.drop i) fun zs => Q (acc ++ zs), h, fun i d acc hd z => ?_, fun out z => ?_⟩
  · dsimp only at z
    rw [drop_of_get hd] at z
    simp only [List.append_assoc, List.singleton_append]
    exact z
  · dsimp only at z
    rw [List.drop_length] at z
    have z2 : Q (out ++ []) := z
    rw [List.append_nil] at z2
    exact z2
section
variable {X : Cx} {B : Bs} {a b c e : Expr} {es : List Expr} {ra rb rc r : Rd} {rt ru : RdT} {rl : RdA} {pos : Pos} {st : Stmt} {rest : List Stmt} {s1 s2 : RdS}
theorem drop_cons {α : Type} {ds : List α} {i : Nat} (h : i < ds.length) : ds.drop i = ds[i] :: ds.drop (i + 1) := List.drop_eq_getElem_cons h
theorem s_for {iter tg : Expr} {t : Tg} {body : List Stmt} (hp : PassesOwn (model X.prog X.w) X.A X.env X.xe) (hc : X.calm = true) (hi : PIp X B tg iter rl) (hg : PG X tg (tgV X.K t)) (hb : PSsp X B body s1) (hs : ∀ x, foldedSetIterable iter X.env x = pure x := by intro _; rfl) :
    PSp X B (.For tg iter body [] pos) (fun ρ E => rl ρ fun ds => forI t s1 E ds ρ) :=
  ps_imp (ps_for hp hc hi hg hb hs) fun σ H Dd ⟨F, ρ, E, I, z, kn, kr, kb, kc⟩ => ⟨F, ρ, _, I, z, fun J F1 H1 ds g1 t1 ⟨G, Yd, w, hG, hY⟩ ⟨Iw, z1, zs, zf⟩ => by
    refine for_it w (fun i σ' H' => ∃ F' ρ', Same F1 F' ∧ Iv X.K B F' H' σ' ρ' ∧ Iw i ρ') ⟨F1, ρ, Same.refl _, I.step g1 t1, z1⟩ (fun i σ' H' _ ⟨F', ρ', s', I', _⟩ => hG F' H' s' I'.same) ?_ ?_
    · rintro i x σ' H' H'' hi ⟨F', ρ', s', I', z'⟩ hy
      have z' := zs i ds[i] ρ' (List.getElem?_eq_getElem hi) z'
      obtain ⟨F2, g2, r2⟩ := hY i F' H' x H'' ds[i] s' I'.same hy (List.getElem?_eq_getElem hi)
      have J2 := I'.step0 g2
      refine tg_run J2 r2 z' fun σ3 ρ3 I3 z3 => ⟨F2, ρ3, _, I3, z3, ?_, kr, ?_, ?_⟩
      · exact fun σ4 ρ4 F4 H4 s4 I4 z4 => ⟨F4, ρ4, (s'.trans g2.ff).trans s4, I4, z4⟩
      · exact fun σ4 ρ4 F4 H4 s4 I4 z4 => kn σ4 ρ4 F4 H4 (((g1.ff.trans s').trans g2.ff).trans s4) I4 z4
      · exact fun σ4 ρ4 F4 H4 s4 I4 z4 => ⟨F4, ρ4, (s'.trans g2.ff).trans s4, I4, z4⟩
    · rintro σ' H' ⟨F', ρ', s', I', z'⟩
      exact kn σ' ρ' F' H' (g1.ff.trans s') I' (zf ρ' z')⟩
/-! ### iterables -/
theorem i_lst {tg l : Expr} (hl : PE X l (tE X.K B r)) : PI X tg l (tI X.K B (fun ρ Q => r ρ fun d => match d with | .lst ds => Q ds | _ => False)) :=
  pi_imp (pi_list hl) fun σ H R ⟨F, ρ, Qd, I, z, k⟩ => ⟨F, ρ, _, I, z, fun v F1 H1 d g1 t1 r1 z1 => by
    split at z1
    · rename_i ds
      cases r1 with
      | @lst a vs _ h1 h2 =>
        refine ⟨a, rfl, ⟨vs, SqL.of (t1.1 _ _ h1)⟩, k _ F1 H1 ds g1 t1 ⟨_, _, by rw [← h2.len]; exact walk_list (K := X.K) (a := a) (xs := vs), fun F2 H2 s s' => SqL.of (s' _ _ (s _ _ h1)), ?_⟩ z1⟩
        rintro i F2 H2 x H2' d s s' ⟨rfl, hx⟩ hd
        obtain ⟨v, hv, hr⟩ := h2.get hd
        rw [hx] at hv
        cases hv
        exact ⟨F2, Go.refl s', hr.up s⟩
    · exact z1.elim⟩
theorem i_tup {tg l : Expr} (hl : PE X l (tE X.K B r)) : PI X tg l (tI X.K B (fun ρ Q => r ρ fun d => match d with | .tup ds => Q ds | _ => False)) :=
  pi_imp (pi_tup hl) fun σ H R ⟨F, ρ, Qd, I, z, k⟩ => ⟨F, ρ, _, I, z, fun v F1 H1 d g1 t1 r1 z1 => by
    split at z1
    · rename_i ds
      cases r1 with
      | @tup a vs _ h1 h2 =>
        refine ⟨a, rfl, ⟨vs, sqT t1.1 h1⟩, k _ F1 H1 ds g1 t1 ⟨_, _, by rw [← h2.len]; exact walk_tup (K := X.K) (a := a) (xs := vs), fun F2 H2 s s' => sqT s' (sqT s h1), ?_⟩ z1⟩
        rintro i F2 H2 x H2' d s s' ⟨rfl, hx⟩ hd
        obtain ⟨v, hv, hr⟩ := h2.get hd
        rw [hx] at hv
        cases hv
        exact ⟨F2, Go.refl s', hr.up s⟩
    · exact z1.elim⟩
/-- lo, lo + 1, .. -/
def rngD (lo : Int) (n : Nat) : List D := (List.range n).map fun i => .int (lo + (i : Nat))
theorem rng_sqs {K : Frg} {ms : List Addr} {F : Hp} {lo : Int} {n : Nat} : Sqs K ms F (Itr lo n) (rngD lo n) := by
  refine ⟨_, _, by rw [show (rngD lo n).length = n by simp [rngD]]; exact walk_range, fun _ _ _ _ => trivial, ?_⟩
  rintro i F2 H2 x H2' d s s' ⟨rfl, rfl⟩ hd
  have hi : i < n := by
    rcases Nat.lt_or_ge i n with z | z
    · exact z
    · rw [List.getElem?_eq_none (by simp [rngD]; exact z)] at hd; cases hd
  simp [rngD, hi] at hd
  subst hd
  exact ⟨F2, Go.refl s', .int _⟩
def rng1 (ds : List D) (Q : List D → Prop) : Prop := match ds with
  | [.int j] => -(2 ^ 62) ≤ j ∧ j < 2 ^ 62 ∧ Q (rngD 0 j.toNat)
  | _ => False
def rng2 (ds : List D) (Q : List D → Prop) : Prop := match ds with
  | [.int i, .int j] => (-(2 ^ 62) ≤ i ∧ i < 2 ^ 62 ∧ -(2 ^ 62) ≤ j ∧ j < 2 ^ 62) ∧ Q (rngD i (j - i).toNat)
  | _ => False
theorem i_rng1 {tg a : Expr} {p : Pos} (hg : Gl X "range") (hm : X.mg "range" = none) (ha : PAp X B [a] rl) (hs : starEach [a] X.env = [(false, eval a X.env)] := by rfl) : PIp X B tg (.Call (.Name "range" p) [a] [] pos) (fun ρ Q => rl ρ fun ds => rng1 ds Q) :=
  pi_imp (pi_range1 hg hm ha hs) fun σ H R ⟨F, ρ, Qd, I, z, k⟩ => ⟨F, ρ, _, I, z, fun vs F1 H1 ds g1 t1 r1 z1 => by
    unfold rng1 at z1
    split at z1
    · cases r1 with
      | cons r1 r2 =>
        cases r1
        cases r2
        exact ⟨_, rfl, z1.1, z1.2.1, k _ F1 H1 _ g1 t1 rng_sqs z1.2.2⟩
    · exact z1.elim⟩
theorem i_rng2 {tg a b : Expr} {p : Pos} (hg : Gl X "range") (hm : X.mg "range" = none) (ha : PAp X B [a, b] rl) (hs : starEach [a, b] X.env = [(false, eval a X.env), (false, eval b X.env)] := by rfl) (hs2 : starEach [b] X.env = [(false, eval b X.env)] := by rfl) :
    PIp X B tg (.Call (.Name "range" p) [a, b] [] pos) (fun ρ Q => rl ρ fun ds => rng2 ds Q) :=
  pi_imp (pi_range2 hg hm ha hs hs2) fun σ H R ⟨F, ρ, Qd, I, z, k⟩ => ⟨F, ρ, _, I, z, fun vs F1 H1 ds g1 t1 r1 z1 => by
    unfold rng2 at z1
    split at z1
    · cases r1 with
      | cons r1 r2 =>
        cases r1
        cases r2 with
        | cons r2 r3 =>
          cases r2
          cases r3
          exact ⟨_, _, rfl, z1.1, k _ F1 H1 _ g1 t1 rng_sqs z1.2⟩
    · exact z1.elim⟩
end
end Y
namespace Y
open PySem PySem.Spec PyProof.Rows L2 Z
/-! ### comprehensions -/
def Bs.nox (B : Bs) : Bs := { B with Ed := fun _ => False }
theorem Iv.nox {K : Frg} {B : Bs} {F H : Hp} {σ : L2.St} {ρ : Ev} (I : Iv K B F H σ ρ) : Iv K B.nox F H σ ρ := ⟨I.go, I.tp, I.len, I.val, I.own, I.sep⟩
theorem Tp.put {K : Frg} {ms : List Addr} {F H F1 H1 F2 H2 : Hp} {d : Addr} (h0 : Tp K ms F H) (hd : H d = none) (h : Tp K ms F1 H1) (g : Go [d] F1 H1 F2 H2) : Tp K ms F2 H2 := ⟨g.fh, fun t m => (h.2 t m).go g (by
  intro z
  have e : t = d := by simpa using z
  subst e
  exact (h0.2 t m).ne hd)⟩
section
variable {X : Cx} {B : Bs} {a b c e : Expr} {es : List Expr} {ra rb rc r : Rd} {rt ru : RdT} {rl : RdA} {pos : Pos} {st : Stmt} {rest : List Stmt} {s1 s2 : RdS}
def rYes : RdT := fun _ Q => Q true
theorem c_nil : PTs X [] (tT X.K B rYes) := ⟨fun pins s σ H Q I ⟨F, ρ, Qd, J, z, k⟩ => (pts_nil (X := X)).run pins s σ H Q I (k true F H (Go.refl J.same) J.tp z)⟩
theorem c_one (h : PTp X B c rt) : PTs X [c] (tT X.K B rt) := pts_one h
theorem lc_of {K : Frg} {t : Tg} {wi : L2.TI} {vs : List Nat} {re : Rd} (hw : ∀ i ∈ t.slots, i ∈ vs) (h0 : ∀ σ H R, tI K B rl σ H R → wi σ H R) (σ : L2.St) (H : Hp) (Q : VK) (h : tE K B (fun ρ Q => rl ρ fun ds => ds.length ≤ 100000 ∧ mapI t rt re (wipeR ρ vs) ds fun ys => Q (.lst ys)) σ H Q) :
    tLcZ wi (tgV K t) (tT K B.nox rt) (tE K B.nox re) vs σ H Q := by
  obtain ⟨F, ρ, Qd, I, z, k⟩ := h
  refine h0 _ _ _ ⟨F, ρ, _, I, z, fun J F1 H1 ds g1 t1 ⟨G, Yd, w, hG, hY⟩ ⟨hn, Jw, z1, zs, zf⟩ => ?_⟩
  have I1 := (I.step g1 t1).nox.wipes vs
  refine lc_go w t1.1 (ms := B.ms) (fun t m => (t1.2 t m).ne) (fun F H => Tp K B.ms F H) t1 (fun D F1 H1 F2 H2 hD h g => t1.put hD h g) (fun F2 H2 g _ => hG F2 H2 g.ff g.fh)
    (fun i acc F2 => ∃ ys, Rps K B.ms F2 acc ys ∧ Jw i ys) ⟨[], .nil, z1⟩ (fun i acc F2 F3 s ⟨ys, h1, h2⟩ => ⟨ys, h1.up s, h2⟩) hn ?_ ?_
  · rintro i x acc F2 H2 H2' hi hl ⟨ys, hys, zz⟩ g2 t2 hy Kp Sk kp sk
    have zz := zs i ds[i] ys (List.getElem?_eq_getElem hi) zz
    obtain ⟨F3, g3, r3⟩ := hY i F2 H2 x H2' ds[i] g2.ff g2.fh hy (List.getElem?_eq_getElem hi)
    have I2 := (I1.step g2 t2).step0 g3
    have t3 := t2.go0 g3
    have e : L2.wipe (L2.wipe σ vs) vs = L2.wipe σ vs := by
      apply List.ext_getElem?
      intro j
      rw [wipe_get, L2.wipe_length, wipe_get]
      by_cases hj : j ∈ vs
      · rw [if_pos hj, if_pos hj]
      · rw [if_neg hj]
    have q := tg_wipe (K := K) (v := x) (σ := L2.wipe σ vs) (H := H2') (Q := fun σ2 H2 => tT K B.nox rt σ2 H2 fun b H3 => if b = true then tE K B.nox re σ2 H3 Kp else Sk H3) hw (tg_run I2 r3 zz fun σ4 ρ4 I4 z4 => by
      refine ⟨F3, ρ4, _, I4, z4, fun b F5 H5 g5 t5 z5 => ?_⟩
      cases b with
      | false => exact sk F5 H5 (g3.nil.trans g5) t5 ⟨ys, (hys.up g3.ff).up g5.ff, ifB_f z5⟩
      | true => exact ⟨F5, ρ4, _, I4.step g5 t5, ifB_t z5, fun v F6 H6 d g6 t6 r6 z6 => kp v F6 H6 (g3.nil.trans (g5.trans g6)) t6 ⟨ys ++ [d], (((hys.up g3.ff).up g5.ff).up g6.ff).app (.one r6), z6⟩⟩)
    rw [e] at q
    exact q
  · rintro D ys F2 H2 g2 t2 hD _ ⟨zs', hz, zz⟩
    exact k _ F2 H2 _ (g1.trans g2) t2 (.lst hD hz) (zf _ zz)
theorem y_lc {elt tg iter : Expr} {ifs : List Expr} {scope : Scope} {own : List (Str × Nat)} {t : Tg} {re : Rd} (hc : X.calm = true) (hN : X.N.Nodup) (hi : PIp X B tg iter rl) (ok : BlkOk X.N X.env.scope scope own)
    (hg : ∀ (s : Shared) (H : Hp) (C : Addr) (cl : List (Str × Addr)) (fp : List Addr), PG (X.blk s H scope (compEnvC scope cl C X.env) fp) tg (tgV X.K t)) (ht : ∀ (s : Shared) (H : Hp) (C : Addr) (cl : List (Str × Addr)) (fp : List Addr), PTs (X.blk s H scope (compEnvC scope cl C X.env) fp) ifs (tT X.K B.nox rt))
    (he : ∀ (s : Shared) (H : Hp) (C : Addr) (cl : List (Str × Addr)) (fp : List Addr), PEp (X.blk s H scope (compEnvC scope cl C X.env) fp) B.nox elt re) (hw : ∀ i ∈ t.slots, i ∈ own.map (·.2) := by decide) (hs : ∀ x, foldedSetIterable iter X.env x = pure x := by intro _; rfl) :
    PEp X B (.ListComp elt [⟨tg, iter, ifs, 0⟩] scope pos) (fun ρ Q => rl ρ fun ds => ds.length ≤ 100000 ∧ mapI t rt re (wipeR ρ (own.map (·.2))) ds fun ys => Q (.lst ys)) :=
  pe_imp (pe_lcZ (pe_lc (te := tE X.K B.nox re) hc hN hi ok hg ht he hs)) (lc_of hw fun _ _ _ z => z)
theorem s_lc {i : Nat} {y : Str} {py : Pos} {elt tg iter : Expr} {ifs : List Expr} {scope : Scope} {own : List (Str × Nat)} {spos : Pos} {t : Tg} {re : Rd} (hc : X.calm = true) (hN : X.N.Nodup) (hy : X.N[i]? = some y) (hyl : X.env.scope.names.lookup y = some .local)
    (hsw : swapsWith (.ListComp elt [⟨tg, iter, ifs, 0⟩] scope pos) (some (.Name y py)) spos.line X.env = pure true) (hi : PIp X B tg iter rl) (ok : BlkOk X.N X.env.scope scope own)
    (hg : ∀ (s : Shared) (H : Hp) (C : Addr) (cl : List (Str × Addr)) (fp : List Addr), PG (X.blk s H scope (compEnvC scope cl C X.env) fp) tg (tgV X.K t)) (ht : ∀ (s : Shared) (H : Hp) (C : Addr) (cl : List (Str × Addr)) (fp : List Addr), PTs (X.blk s H scope (compEnvC scope cl C X.env) fp) ifs (tT X.K B.nox rt))
    (he : ∀ (s : Shared) (H : Hp) (C : Addr) (cl : List (Str × Addr)) (fp : List Addr), PEp (X.blk s H scope (compEnvC scope cl C X.env) fp) B.nox elt re) (hw : ∀ i ∈ t.slots, i ∈ own.map (·.2) := by decide) (hs : ∀ x, foldedSetIterable iter X.env x = pure x := by intro _; rfl) :
    PSp X B (.Assign [.Name y py] (.ListComp elt [⟨tg, iter, ifs, 0⟩] scope pos) spos) (fun ρ E => rl ρ fun ds => ds.length ≤ 100000 ∧ mapI t rt re (wipeR ρ (own.map (·.2))) ds fun ys => E.nx (ρ.set i (.val (.lst ys)))) :=
  ps_imp (ps_lcZ (ps_setLc (te := tE X.K B.nox re) hc hN hy hyl hsw hi ok hg ht he hs)) (asg_of (tg := .nm i) (lc_of hw fun _ _ _ z => z))
end
/-! ### defs -/
abbrev RdF := List D → (D → Prop) → (Ex → Prop) → Prop
def spP (K : Frg) (R : RdF) : Sp := fun vs H Q E => ∃ ms F ds Qd Ed, Tp K ms F H ∧ Rps K ms F vs ds ∧ R ds Qd Ed ∧ (∀ v F' H' d, Go ms F H F' H' → Tp K ms F' H' → Rp K ms F' v d → Qd d → Q v H') ∧
  (∀ cls d F' H' x, Go ms F H F' H' → Tp K ms F' H' → XR K ms F' cls d x → Ed x → E cls d H')
def EE (K : Frg) (B : Bs) : XK := fun cls d H' => ∃ F' x, Go B.ms B.F0 B.H0 F' H' ∧ Tp K B.ms F' H' ∧ XR K B.ms F' cls d x ∧ B.Ed x
abbrev Px (X : Cx) (B : Bs) : Prop := Passes (L2.CX X.prog X.w) X (EE X.K B)
theorem px_nox {X : Cx} {B : Bs} : Px X B.nox := fun pins σ H s e s' I ⟨_, _, _, _, _, _, _, _, _, _, _, _, F', x, _, _, _, z⟩ => z.elim
def ar0 (P : (D → Prop) → (Ex → Prop) → Prop) : RdF := fun ds Q E => match ds with | [] => P Q E | _ => False
def ar1 (P : D → (D → Prop) → (Ex → Prop) → Prop) : RdF := fun ds Q E => match ds with | [a] => P a Q E | _ => False
def ar2 (P : D → D → (D → Prop) → (Ex → Prop) → Prop) : RdF := fun ds Q E => match ds with | [a, b] => P a b Q E | _ => False
def ar3 (P : D → D → D → (D → Prop) → (Ex → Prop) → Prop) : RdF := fun ds Q E => match ds with | [a, b, c] => P a b c Q E | _ => False
def ar4 (P : D → D → D → D → (D → Prop) → (Ex → Prop) → Prop) : RdF := fun ds Q E => match ds with | [a, b, c, d] => P a b c d Q E | _ => False
def ar5 (P : D → D → D → D → D → (D → Prop) → (Ex → Prop) → Prop) : RdF := fun ds Q E => match ds with | [a, b, c, d, e] => P a b c d e Q E | _ => False
theorem arl0 {P} : ∀ ds Q E, ar0 P ds Q E → ds.length = 0 := fun ds Q E h => by unfold ar0 at h; split at h; rfl; exact h.elim
theorem arl1 {P} : ∀ ds Q E, ar1 P ds Q E → ds.length = 1 := fun ds Q E h => by unfold ar1 at h; split at h; rfl; exact h.elim
theorem arl2 {P} : ∀ ds Q E, ar2 P ds Q E → ds.length = 2 := fun ds Q E h => by unfold ar2 at h; split at h; rfl; exact h.elim
theorem arl3 {P} : ∀ ds Q E, ar3 P ds Q E → ds.length = 3 := fun ds Q E h => by unfold ar3 at h; split at h; rfl; exact h.elim
theorem arl4 {P} : ∀ ds Q E, ar4 P ds Q E → ds.length = 4 := fun ds Q E h => by unfold ar4 at h; split at h; rfl; exact h.elim
theorem arl5 {P} : ∀ ds Q E, ar5 P ds Q E → ds.length = 5 := fun ds Q E h => by unfold ar5 at h; split at h; rfl; exact h.elim
section
variable {P : Program} {w : World} {K : Frg} {mg : Str → Option Value} {base : Heap}
def startE (n : Nat) (ds : List D) : Ev := ds.map Sl.val ++ List.replicate (n - ds.length) .no
theorem iv_start {B : Bs} {N : List Str} {vs : List V} {ds : List D} (t : Tp K B.ms B.F0 B.H0) (r : Rps K B.ms B.F0 vs ds) : Iv K B B.F0 B.H0 (L2.start N vs) (startE N.length ds) where
  go := Go.refl t.1
  tp := t
  len := by simp [L2.start, startE, r.len]
  val := fun i d h => by
    unfold startE at h
    have hi : i < ds.length := by
      rcases Nat.lt_or_ge i ds.length with z | z
      · exact z
      · rw [List.getElem?_append_right (by simpa using z), List.getElem?_replicate] at h
        split at h <;> cases h
    rw [List.getElem?_append_left (by simpa using hi), List.getElem?_map] at h
    have hd : ds[i]? = some d := by
      rw [List.getElem?_eq_getElem hi] at h ⊢
      simpa using h
    obtain ⟨v, h1, h2⟩ := r.get hd
    refine ⟨v, ?_, h2⟩
    unfold L2.start
    rw [List.getElem?_append_left (by simp [r.len]; exact hi), List.getElem?_map, h1]
    rfl
  own := fun i m h => by
    unfold startE at h
    rcases Nat.lt_or_ge i ds.length with z | z
    · rw [List.getElem?_append_left (by simpa using z), List.getElem?_map, List.getElem?_eq_getElem z] at h
      cases h
    · rw [List.getElem?_append_right (by simpa using z), List.getElem?_replicate] at h
      split at h <;> cases h
  sep := fun i j m n a _ h _ _ => by
    exfalso
    unfold startE at h
    rcases Nat.lt_or_ge i ds.length with z | z
    · rw [List.getElem?_append_left (by simpa using z), List.getElem?_map, List.getElem?_eq_getElem z] at h
      cases h
    · rw [List.getElem?_append_right (by simpa using z), List.getElem?_replicate] at h
      split at h <;> cases h
theorem px_of {N : List Str} {qual : Str} {scope : Scope} {f : Addr} {cdv : Value} {A : Around} {outer : List Env} {s : Shared} {H : Hp} {E : XK} {B : Bs} (h : ∀ cls d H', EE K B cls d H' → E cls d H') : Px (cxOf (L2.CX P w) P w K mg base N qual scope f cdv A outer s H E) B := by
  have tk : Takes (cxOf (L2.CX P w) P w K mg base N qual scope f cdv A outer s H E) (fun cls d _ H => E cls d H) := takes_of rfl rfl rfl rfl
  exact passes_call tk fun cls d σ H z => h cls d H z
theorem po_of {N : List Str} {qual : Str} {scope : Scope} {f : Addr} {cdv : Value} {A : Around} {outer : List Env} {s : Shared} {H : Hp} {E : XK} :
    PassesOwn (model P w) (cxOf (L2.CX P w) P w K mg base N qual scope f cdv A outer s H E).A (cxOf (L2.CX P w) P w K mg base N qual scope f cdv A outer s H E).env (cxOf (L2.CX P w) P w K mg base N qual scope f cdv A outer s H E).xe := passes_of rfl
/-- a def by its body -/
theorem y_fn {x qual : Str} {st : Stmt} {f : Addr} {N ps : List Str} {k : Nat} {R : RdF} (F : DefAt K x qual st f) (S : FnScope N ps (defScope st)) (len : ∀ ds Q E, R ds Q E → ds.length = ps.length)
    (hb : ∀ (kV doc pm : Value) (an : Option Addr) (cdv ct : Value) (us : List Value), us.length = ps.length → bindArgs (PySem.W.fnOf x qual (defArgs st) (defBody st) (defScope st) .none kV doc pm an cdv ct) ⟨us, []⟩ = pure (ps.zip us))
    (hbody : ∀ (cdv : Value) (A : Around) (outer : List Env) (s : Shared) (H : Hp) (E : XK) (B : Bs), Same B.F0 B.H0 → RoomG k (A.deeper (envOfC qual (defScope st) s.heap.objs.size f cdv)) → Px (cxOf (L2.CX P w) P w K mg base N qual (defScope st) f cdv A outer s H E) B →
      PassesOwn (model P w) (cxOf (L2.CX P w) P w K mg base N qual (defScope st) f cdv A outer s H E).A (cxOf (L2.CX P w) P w K mg base N qual (defScope st) f cdv A outer s H E).env (cxOf (L2.CX P w) P w K mg base N qual (defScope st) f cdv A outer s H E).xe →
      ∃ r, PSsp (cxOf (L2.CX P w) P w K mg base N qual (defScope st) f cdv A outer s H E) B (defBody st) r ∧ ∀ ds Q, R ds Q B.Ed → r (startE N.length ds) { nx := fun _ => Q .non, rt := Q }) : FnG P w K mg base (L2.CX P w) (k + 1) f (spP K R) := by
  refine zfnG F S (fun vs H Q E ⟨ms, F, ds, Qd, Ed, _, r, h, _⟩ => by rw [r.len]; exact len _ _ _ h) hb fun cdv A outer s H vs Q E hr h => ?_
  obtain ⟨ms, F, ds, Qd, Ed, t, r, h, kq, ke⟩ := h
  obtain ⟨rr, h1, h2⟩ := hbody cdv A outer s H E ⟨ms, F, H, Ed⟩ t.1 hr (px_of fun cls d H' ⟨F', x, g, t', xr, z⟩ => ke cls d F' H' x g t' xr z) po_of
  refine ⟨_, h1, F, _, _, iv_start (B := ⟨ms, F, H, Ed⟩) t r, h2 ds Qd h, ?_, ?_, ?_, ?_⟩
  · intro σ' ρ' F' H' _ I' z
    exact kq .non F' H' .non I'.go I'.tp .non z
  · intro v d F' H' g t' r' z
    exact kq v F' H' d g t' r' z
  · intro _ _ _ _ _ _ z; exact z
  · intro _ _ _ _ _ _ z; exact z
end
/-! ### calls -/
section
variable {X : Cx} {B : Bs} {a b c e o : Expr} {es : List Expr} {ra rb rc r ro : Rd} {rt ru : RdT} {rl : RdA} {pos p0 apos : Pos} {R : RdF} {k : Nat} {f C g p : Addr} {x m : Str}
theorem sp_call {K : Frg} {F H F1 H1 : Hp} {σ : L2.St} {ρ : Ev} {vs : List V} {ds : List D} {Qd : D → Prop} {Q : VK} (I : Iv K B F H σ ρ) (kk : ∀ v F' H' d, Go B.ms F H F' H' → Tp K B.ms F' H' → Rp K B.ms F' v d → Qd d → Q v H') (g1 : Go B.ms F H F1 H1) (t1 : Tp K B.ms F1 H1) (r1 : Rps K B.ms F1 vs ds) (h : R ds Qd B.Ed) : spP K R vs H1 Q (EE K B) :=
  ⟨B.ms, F1, ds, Qd, B.Ed, t1, r1, h, fun v F2 H2 d g2 t2 r2 q2 => kk v F2 H2 d (g1.trans g2) t2 r2 q2, fun cls d F2 H2 x g2 t2 xr q => ⟨F2, x, (I.go.trans g1).trans g2, t2, xr, q⟩⟩
theorem y_call (F : FnG X.prog X.w X.K X.mg X.base (L2.CX X.prog X.w) k f (spP X.K R)) (hr : RoomG k X.A) (hg : Gl X x) (hm : X.mg x = some (.ref f)) (hk : PySem.W.keepIn X.K (.ref f) = true) (hx : Px X B)
    (ha : PAp X B (e :: es) rl) (hdb : (x == ("__debug__" : Str)) = false := by decide) (he : starEach (e :: es) X.env = (false, eval e X.env) :: starEach es X.env := by rfl) (hpl : (backTo pos (starEach es X.env)).any (·.1) = false := by rfl) :
    PEp X B (.Call (.Name x p0) (e :: es) [] pos) (fun ρ Q => rl ρ fun ds => R ds Q B.Ed) :=
  pe_imp (gcall (F.at hr) hg hm hk hx ha hdb he hpl) fun σ H Q ⟨F, ρ, Qd, I, z, k⟩ => ⟨F, ρ, _, I, z, fun vs F1 H1 ds g1 t1 r1 z1 => sp_call I k g1 t1 r1 z1⟩
theorem y_call0 (F : FnG X.prog X.w X.K X.mg X.base (L2.CX X.prog X.w) k f (spP X.K R)) (hr : RoomG k X.A) (hg : Gl X x) (hm : X.mg x = some (.ref f)) (hk : PySem.W.keepIn X.K (.ref f) = true) (hx : Px X B) (hdb : (x == ("__debug__" : Str)) = false := by decide) :
    PEp X B (.Call (.Name x p0) [] [] pos) (fun ρ Q => R [] Q B.Ed) :=
  pe_imp (gcall0 (F.at hr) hg hm hk hx hdb) fun σ H Q ⟨F, ρ, Qd, I, z, k⟩ => sp_call (vs := []) (ds := []) I k (Go.refl I.same) I.tp .nil z
/-- an object of the classes cs with the fields ns -/
def asO (cs : List Str) (ns : List Str) (o : D) (k : Prop) : Prop := match o with
  | .obj c n _ => c ∈ cs ∧ n = ns ∧ k
  | _ => False
theorem look_none : ∀ {ns : List Str} {vs : List V} {m : Str}, (ns.all fun y => !(m == y)) = true → (ns.zip vs).lookup m = none
  | [], _, _, _ => rfl
  | _ :: _, [], _, _ => rfl
  | n :: ns, v :: vs, m, h => by
    rw [List.all_cons, Bool.and_eq_true] at h
    have h1 : (m == n) = false := by simpa using h.1
    rw [List.zip_cons_cons, List.lookup_cons, h1]
    exact look_none h.2
theorem y_meth {cs ns : List Str} {pl : Sem Bool} (ho : PEp X B o ro) (hc : ∀ c ∈ cs, Cls X.K (He.ga X.K c) ∧ Meth X.K (He.ga X.K c) m f) (F : FnG X.prog X.w X.K X.mg X.base (L2.CX X.prog X.w) k f (spP X.K R)) (hr : RoomG k X.A) (hx : Px X B) (ha : PAp X B (e :: es) rl)
    (hn : (ns.all fun y => !(m == y)) = true := by decide +kernel)
    (hst : starEach (e :: es) X.env = (false, eval e X.env) :: starEach es X.env := by rfl) (hpl : (backTo pos (starEach es X.env)).any (·.1) = false := by rfl)
    (ht : eval (.Call (.Attribute o m apos) (e :: es) [] pos) X.env = (do
      let ov ← eval o X.env
      standAt apos.atName
      let (f, first) ← holding [ov] (getMethod ov m pl)
      callWith pos f first (backTo pos (starEach (e :: es) X.env)) (backToKw pos (keywordEach [] X.env))) := by rfl) :
    PEp X B (.Call (.Attribute o m apos) (e :: es) [] pos) (fun ρ Q => ro ρ fun d => asO cs ns d (rl ρ fun ds => R (d :: ds) Q B.Ed)) := by
  refine ⟨fun pins s σ H Q I h => ?_⟩
  obtain ⟨F0, ρ, Qd, J, z, kk⟩ := h
  refine PySem.W.methodCall_KW (pl := pl) (thn (ho.run pins s σ H (fun v H1 => ∃ F1 d, Go B.ms F0 H F1 H1 ∧ Tp X.K B.ms F1 H1 ∧ Rp X.K B.ms F1 v d ∧ asO cs ns d (rl ρ fun ds => R (d :: ds) Qd B.Ed)) I ⟨F0, ρ, _, J, z, fun v F1 H1 d g1 t1 r1 z1 => ⟨F1, d, g1, t1, r1, z1⟩⟩) fun u s1 ⟨v, H1, I1, rx, F1, d, g1, t1, r1, z1⟩ => ?_) ht
  unfold asO at z1
  split at z1
  · obtain ⟨hcs, rfl, z2⟩ := z1
    cases r1 with
    | @obj a dx _ _ vs ds h1 h2 h3 =>
      obtain rfl : u = Value.ref a := rx
      obtain ⟨c1, m1⟩ := hc _ hcs
      refine getmeth_ok I1 (t1.1 _ _ h1) c1 m1 (look_none hn) ?_
      refine PySem.W.callWith_K (first := [.ref a]) (h₀ := X.base) I.ok.mod.kin m1.kp (thn (ha.run pos pins s1 σ H1 (fun vs H2 => ∃ F2 ds', Go B.ms F1 H1 F2 H2 ∧ Tp X.K B.ms F2 H2 ∧ Rps X.K B.ms F2 vs ds' ∧ R (_ :: ds') Qd B.Ed) I1 ⟨F1, ρ, _, J.step g1 t1, z2, fun vs F2 H2 ds g2 t2 r2 z3 => ⟨F2, ds, g2, t2, r2, z3⟩⟩) fun us s2 ⟨vs', H2, I2, rv, F2, ds', g2, t2, r2, z3⟩ => ⟨I2.kIn, ?_⟩) hst hpl
      exact wpAny_call (run_fnA (us := .ref a :: us) (vs := .ref a :: vs') (F.at hr) hx I2 (.cons rfl rv) (sp_call (vs := .ref a :: vs') J kk (g1.trans g2) t2 (.cons (.obj (g2.ff _ _ h1) h2 (h3.up g2.ff)) r2) z3))
  · exact z1.elim
theorem y_meth0 {cs ns : List Str} {pl : Sem Bool} (ho : PEp X B o ro) (hc : ∀ c ∈ cs, Cls X.K (He.ga X.K c) ∧ Meth X.K (He.ga X.K c) m f) (F : FnG X.prog X.w X.K X.mg X.base (L2.CX X.prog X.w) k f (spP X.K R)) (hr : RoomG k X.A) (hx : Px X B)
    (hn : (ns.all fun y => !(m == y)) = true := by decide +kernel)
    (ht : eval (.Call (.Attribute o m apos) [] [] pos) X.env = (do
      let ov ← eval o X.env
      standAt apos.atName
      let (f, first) ← holding [ov] (getMethod ov m pl)
      callWith pos f first (backTo pos (starEach [] X.env)) (backToKw pos (keywordEach [] X.env))) := by rfl) :
    PEp X B (.Call (.Attribute o m apos) [] [] pos) (fun ρ Q => ro ρ fun d => asO cs ns d (R [d] Q B.Ed)) := by
  refine ⟨fun pins s σ H Q I h => ?_⟩
  obtain ⟨F0, ρ, Qd, J, z, kk⟩ := h
  refine PySem.W.methodCall_KW (pl := pl) (thn (ho.run pins s σ H (fun v H1 => ∃ F1 d, Go B.ms F0 H F1 H1 ∧ Tp X.K B.ms F1 H1 ∧ Rp X.K B.ms F1 v d ∧ asO cs ns d (R [d] Qd B.Ed)) I ⟨F0, ρ, _, J, z, fun v F1 H1 d g1 t1 r1 z1 => ⟨F1, d, g1, t1, r1, z1⟩⟩) fun u s1 ⟨v, H1, I1, rx, F1, d, g1, t1, r1, z1⟩ => ?_) ht
  unfold asO at z1
  split at z1
  · obtain ⟨hcs, rfl, z2⟩ := z1
    cases r1 with
    | @obj a dx _ _ vs ds h1 h2 h3 =>
      obtain rfl : u = Value.ref a := rx
      obtain ⟨c1, m1⟩ := hc _ hcs
      refine getmeth_ok I1 (t1.1 _ _ h1) c1 m1 (look_none hn) ?_
      exact PySem.W.callWith_K0 (first := [.ref a]) I1.kIn m1.kp (wpAny_call (run_fnA (us := [.ref a]) (vs := [.ref a]) (F.at hr) hx I1 (.cons rfl .nil) (sp_call (vs := [.ref a]) J kk g1 t1 (.cons (.obj h1 h2 h3) .nil) z2)))
  · exact z1.elim
end
end Y
namespace Y
open PySem PySem.Spec PyProof.Rows L2 Z
section
variable {X : Cx} {B : Bs} {K : Frg} {ms : List Addr}
theorem line_ge : 100000 ≤ sizeLine := by decide
/-! ### + - * // % ** -/
def dAdd (x y : D) (Q : D → Prop) : Prop := match x, y with
  | .int i, .int j => Q (.int (i + j))
  | .str s, .str t => s.length + t.length ≤ 100000 ∧ Q (.str (s ++ t))
  | .lst xs, .lst ys => xs.length + ys.length ≤ 100000 ∧ Q (.lst (xs ++ ys))
  | .tup xs, .tup ys => xs ≠ [] ∧ ys ≠ [] ∧ xs.length + ys.length ≤ 100000 ∧ Q (.tup (xs ++ ys))
  | _, _ => False
theorem op_addY : OpR X (binaryOp .Add) (fun x y H Q => rI0 (fun i j => .int (i + j)) x y H Q ∨ (∃ i j, x = .str i ∧ y = .str j ∧ i.length + j.length ≤ sizeLine ∧ Q (.str (i ++ j)) H) ∨ rCatZ x y H Q ∨ rCatT X.K x y H Q) := op_add.or (op_add_str.or (op_catZ.or op_catT))
theorem addL : OpL K ms (fun x y H Q => rI0 (fun i j => .int (i + j)) x y H Q ∨ (∃ i j, x = .str i ∧ y = .str j ∧ i.length + j.length ≤ sizeLine ∧ Q (.str (i ++ j)) H) ∨ rCatZ x y H Q ∨ rCatT K x y H Q) dAdd := by
  intro F H x y dx dy Qd Q hs rx ry h k
  unfold dAdd at h
  split at h
  · cases rx; cases ry
    exact .inl ⟨_, _, rfl, rfl, k _ F H _ (Go.refl hs) (.int _) h⟩
  · cases rx; cases ry
    exact .inr (.inl ⟨_, _, rfl, rfl, Nat.le_trans h.1 line_ge, k _ F H _ (Go.refl hs) (.str _) h.2⟩)
  · cases rx with
    | lst h1 h2 =>
      cases ry with
      | lst h3 h4 =>
        refine .inr (.inr (.inl ⟨_, _, _, _, rfl, rfl, hs _ _ h1, hs _ _ h3, by rw [h2.len, h4.len]; exact Nat.le_trans h.1 line_ge, fun p H2 hp e2 => ?_⟩))
        obtain ⟨F2, g2, q2, _⟩ := newE hs hp e2
        exact k _ F2 H2 _ g2 (.lst q2 ((h2.app h4).up g2.ff)) h.2
  · cases rx with
    | tup h1 h2 =>
      cases ry with
      | tup h3 h4 =>
        obtain ⟨n1, n2, n3, h⟩ := h
        have m1 := h2.len
        have m2 := h4.len
        refine .inr (.inr (.inr ⟨_, _, _, _, rfl, rfl, sqT hs h1, sqT hs h3, fun e => n1 ?_, by rw [m1, m2]; exact Nat.le_trans n3 line_ge, fun e => (n2 ?_).elim, fun _ p hp => ?_⟩))
        · rw [e] at m1; exact List.length_eq_zero_iff.mp m1.symm
        · rw [e] at m2; exact List.length_eq_zero_iff.mp m2.symm
        · obtain ⟨F2, g2, q2, _⟩ := newE hs hp rfl
          exact k _ F2 _ _ g2 (.tup (SqT.of q2) ((h2.app h4).up g2.ff)) h
  · exact h.elim
def dSub (x y : D) (Q : D → Prop) : Prop := match x, y with
  | .int i, .int j => Q (.int (i - j))
  | _, _ => False
theorem subL : OpL K ms (rI0 fun i j => .int (i - j)) dSub := by
  intro F H x y dx dy Qd Q hs rx ry h k
  unfold dSub at h
  split at h
  · cases rx; cases ry
    exact ⟨_, _, rfl, rfl, k _ F H _ (Go.refl hs) (.int _) h⟩
  · exact h.elim
def dMul (x y : D) (Q : D → Prop) : Prop := match x, y with
  | .int i, .int j => (Sz 5000 i ∧ Sz 5000 j) ∧ Q (.int (i * j))
  | .lst xs, .int n => (-(2 ^ 62) ≤ n ∧ n < 2 ^ 62 ∧ xs.length * n.toNat ≤ 100000) ∧ Q (.lst (List.replicate n.toNat xs).flatten)
  | _, _ => False
theorem op_repZ : OpR X (binaryOp .Mult) rRepZ := op_imp op_rep fun _ _ _ _ ⟨l, k, xs, e1, e2, h, h1, h2, hz, n⟩ => ⟨l, k, xs, e1, e2, h, h1, h2, hz, n.run⟩
theorem mulL : OpL K ms (fun x y H Q => rI CMulW (fun i j => .int (i * j)) x y H Q ∨ rRepZ x y H Q) dMul := by
  intro F H x y dx dy Qd Q hs rx ry h k
  unfold dMul at h
  split at h
  · cases rx; cases ry
    exact .inl ⟨_, _, rfl, rfl, mulOk h.1.1 h.1.2, k _ F H _ (Go.refl hs) (.int _) h.2⟩
  · cases rx with
    | lst h1 h2 =>
      cases ry
      obtain ⟨⟨a1, a2, a3⟩, h⟩ := h
      refine .inr ⟨_, _, _, rfl, rfl, hs _ _ h1, by omega, by omega, by rw [h2.len]; exact Nat.le_trans a3 line_ge, fun p H2 hp e2 => ?_⟩
      obtain ⟨F2, g2, q2, _⟩ := newE hs hp e2
      exact k _ F2 H2 _ g2 (.lst q2 ((h2.flat _).up g2.ff)) h
  · exact h.elim
/-- // and % by what is above 0 -/
def dDiv (x y : D) (Q : D → Prop) : Prop := match x, y with
  | .int i, .int j => (0 < j ∧ Sz 5000 j) ∧ Q (.int (i / j))
  | _, _ => False
theorem divL : OpL K ms (rI CDivW fun i j => .int (i / j)) dDiv := by
  intro F H x y dx dy Qd Q hs rx ry h k
  unfold dDiv at h
  split at h
  · cases rx; cases ry
    exact ⟨_, _, rfl, rfl, divOk h.1.1 h.1.2, k _ F H _ (Go.refl hs) (.int _) h.2⟩
  · exact h.elim
def dMod (x y : D) (Q : D → Prop) : Prop := match x, y with
  | .int i, .int j => 0 < j ∧ Q (.int (i % j))
  | _, _ => False
theorem modL : OpL K ms (rI (fun _ j => 0 < j) fun i j => .int (i % j)) dMod := by
  intro F H x y dx dy Qd Q hs rx ry h k
  unfold dMod at h
  split at h
  · cases rx; cases ry
    exact ⟨_, _, rfl, rfl, h.1, k _ F H _ (Go.refl hs) (.int _) h.2⟩
  · exact h.elim
/-- // by what is not 0 -/
def dDivZ (x y : D) (Q : D → Prop) : Prop := match x, y with
  | .int i, .int j => (j ≠ 0 ∧ Sz 8000 j) ∧ Q (.int (i.fdiv j))
  | _, _ => False
theorem divZL : OpL K ms (rI CDivZ fun i j => .int (i.fdiv j)) dDivZ := by
  intro F H x y dx dy Qd Q hs rx ry h k
  unfold dDivZ at h
  split at h
  · cases rx; cases ry
    exact ⟨_, _, rfl, rfl, ⟨h.1.1, szLog h.1.2⟩, k _ F H _ (Go.refl hs) (.int _) h.2⟩
  · exact h.elim
def dPow (x y : D) (Q : D → Prop) : Prop := match x, y with
  | .int i, .int j => (0 ≤ j ∧ j ≤ 1000 ∧ i.natAbs < 18446744073709551616) ∧ Q (.int (i ^ j.toNat))
  | _, _ => False
theorem powL : OpL K ms (rI CPow fun i j => .int (i ^ j.toNat)) dPow := by
  intro F H x y dx dy Qd Q hs rx ry h k
  unfold dPow at h
  split at h
  · cases rx; cases ry
    exact ⟨_, _, rfl, rfl, ⟨h.1.1, by omega, by have := h.1.2.2; omega⟩, k _ F H _ (Go.refl hs) (.int _) h.2⟩
  · exact h.elim
def dNeg (x : D) (Q : D → Prop) : Prop := match x with
  | .int i => Q (.int (-i))
  | _ => False
theorem negL : UnL K ms (rU fun i => .int (-i)) dNeg := by
  intro F H x dx Qd Q hs rx h k
  unfold dNeg at h
  split at h
  · cases rx
    exact ⟨_, rfl, k _ F H _ (Go.refl hs) (.int _) h⟩
  · exact h.elim
/-! ### < <= > >= == != is in -/
def dCmp (f : Int → Int → Bool) (x y : D) (Q : D → Prop) : Prop := match x, y with
  | .int i, .int j => Q (.bl (f i j))
  | _, _ => False
theorem cmpL {f : Int → Int → Bool} : OpL K ms (rI0 fun i j => .bl (f i j)) (dCmp f) := by
  intro F H x y dx dy Qd Q hs rx ry h k
  unfold dCmp at h
  split at h
  · cases rx; cases ry
    exact ⟨_, _, rfl, rfl, k _ F H _ (Go.refl hs) (.bl _) h⟩
  · exact h.elim
def dEq (x y : D) (Q : D → Prop) : Prop := match x, y with
  | .int i, .int j => Q (.bl (decide (i = j)))
  | .str i, .str j => Q (.bl (decide (i = j)))
  | .bl i, .bl j => Q (.bl (decide (i = j)))
  | _, _ => (okD 8 x = true ∧ okD 8 y = true) ∧ Q (.bl (eqD x y))
def dNe (x y : D) (Q : D → Prop) : Prop := match x, y with
  | .int i, .int j => Q (.bl (!decide (i = j)))
  | .str i, .str j => Q (.bl (!decide (i = j)))
  | .bl i, .bl j => Q (.bl (!decide (i = j)))
  | _, _ => (okD 8 x = true ∧ okD 8 y = true) ∧ Q (.bl (!eqD x y))
theorem shaped_of {n : Nat} {e : PyData} (h1 : e.canLay0 = true) (h2 : e.depth ≤ n) (hn : n ≤ 64) : SeqAt.shaped e = true := by
  unfold SeqAt.shaped
  rw [h1, Bool.true_and]
  exact decide_eq_true (by omega)
theorem eqL : OpL K ms (fun x y H Q => rEq x y H Q ∨ rEqD K x y H Q) dEq := by
  intro F H x y dx dy Qd Q hs rx ry h k
  unfold dEq at h
  split at h
  · cases rx; cases ry
    refine .inl ⟨rfl, k _ F H _ (Go.refl hs) (.bl _) ?_⟩
    simpa using h
  · cases rx; cases ry
    refine .inl ⟨rfl, k _ F H _ (Go.refl hs) (.bl _) ?_⟩
    simpa using h
  · cases rx; cases ry
    refine .inl ⟨rfl, k _ F H _ (Go.refl hs) (.bl _) ?_⟩
    simpa using h
  · obtain ⟨⟨h1, h2⟩, h⟩ := h
    obtain ⟨e1, a1, a2, a3⟩ := okD_pd 8 _ h1
    obtain ⟨e2, b1, b2, b3⟩ := okD_pd 8 _ h2
    refine .inr ⟨e1, e2, dp_mono hs _ _ (dp_of _ _ _ a1 rx), dp_mono hs _ _ (dp_of _ _ _ b1 ry), shaped_of a2 a3 (by decide), shaped_of b2 b3 (by decide), k _ F H _ (Go.refl hs) (.bl _) ?_⟩
    rw [← eqD_pd _ _ _ _ a1 b1]
    exact h
theorem neL : OpL K ms (fun x y H Q => rNe x y H Q ∨ rNeD K x y H Q) dNe := by
  intro F H x y dx dy Qd Q hs rx ry h k
  unfold dNe at h
  split at h
  · cases rx; cases ry
    refine .inl ⟨rfl, k _ F H _ (Go.refl hs) (.bl _) ?_⟩
    simpa using h
  · cases rx; cases ry
    refine .inl ⟨rfl, k _ F H _ (Go.refl hs) (.bl _) ?_⟩
    simpa using h
  · cases rx; cases ry
    refine .inl ⟨rfl, k _ F H _ (Go.refl hs) (.bl _) ?_⟩
    simpa using h
  · obtain ⟨⟨h1, h2⟩, h⟩ := h
    obtain ⟨e1, a1, a2, a3⟩ := okD_pd 8 _ h1
    obtain ⟨e2, b1, b2, b3⟩ := okD_pd 8 _ h2
    refine .inr ⟨e1, e2, dp_mono hs _ _ (dp_of _ _ _ a1 rx), dp_mono hs _ _ (dp_of _ _ _ b1 ry), shaped_of a2 a3 (by decide), shaped_of b2 b3 (by decide), k _ F H _ (Go.refl hs) (.bl _) ?_⟩
    rw [← eqD_pd _ _ _ _ a1 b1]
    exact h
def isNon : D → Bool
  | .non => true
  | _ => false
theorem non_of {F : Hp} {x : V} {d : D} (r : Rp K ms F x d) : decide (x = V.non) = isNon d := by
  cases r <;> simp [isNon]
def dIsN (x y : D) (Q : D → Prop) : Prop := match y with
  | .non => Q (.bl (isNon x))
  | _ => False
def dNotN (x y : D) (Q : D → Prop) : Prop := match y with
  | .non => Q (.bl (!isNon x))
  | _ => False
theorem isNL : OpL K ms (fun x y H Q => y = .non ∧ Q (.bl (decide (x = .non))) H) dIsN := by
  intro F H x y dx dy Qd Q hs rx ry h k
  unfold dIsN at h
  split at h
  · cases ry
    exact ⟨rfl, by rw [non_of rx]; exact k _ F H _ (Go.refl hs) (.bl _) h⟩
  · exact h.elim
theorem notNL : OpL K ms (fun x y H Q => y = .non ∧ Q (.bl (!decide (x = .non))) H) dNotN := by
  intro F H x y dx dy Qd Q hs rx ry h k
  unfold dNotN at h
  split at h
  · cases ry
    exact ⟨rfl, by rw [non_of rx]; exact k _ F H _ (Go.refl hs) (.bl _) h⟩
  · exact h.elim
/-- x in a list of data, in a tuple of flat data, in a text -/
def flatD : D → Bool
  | .non | .bl _ | .int _ | .str _ => true
  | _ => false
def anyD (x : D) (ds : List D) : Bool := ds.any fun z => eqD z x
def dIn (neg : Bool) (x y : D) (Q : D → Prop) : Prop := match x, y with
  | .str s, .str t => Q (.bl (neg != !(Builtin.Str.occurrences t s 0 t.length 1).isEmpty))
  | x, .lst ds => (okD 8 x = true ∧ okD 8 (.lst ds) = true) ∧ Q (.bl (neg != anyD x ds))
  | x, .tup ds => (flatD x = true ∧ ds.all flatD = true) ∧ Q (.bl (neg != anyD x ds))
  | _, _ => False
theorem pds_any {x : D} {e : PyData} (hx : pd x = some e) : ∀ {ds : List D} {es : List PyData}, pds ds = some es → (es.any fun z => PyData.eqv z e) = anyD x ds
  | [], _, h => by cases h; rfl
  | d :: ds, _, h => by
    obtain ⟨a, r, h1, h2, rfl⟩ := pds_cons h
    have := pds_any hx h2
    simp only [anyD, List.any_cons] at this ⊢
    rw [← eqD_pd _ _ _ _ h1 hx, this]
theorem flat_of {F : Hp} {x : V} {d : D} (r : Rp K ms F x d) (h : flatD d = true) : flatV x = true := by
  cases r <;> first | rfl | simp [flatD] at h
theorem flats_of {F : Hp} : ∀ {xs : List V} {ds : List D}, Rps K ms F xs ds → ds.all flatD = true → xs.all flatV = true
  | [], [], _, _ => rfl
  | _ :: _, _ :: _, h, z => by
    cases h with
    | cons h1 h2 =>
      rw [List.all_cons, Bool.and_eq_true] at z ⊢
      exact ⟨flat_of h1 z.1, flats_of h2 z.2⟩
  | [], _ :: _, h, _ => by cases h
  | _ :: _, [], h, _ => by cases h
theorem eqV_of {F : Hp} {x y : V} {d e : D} (r : Rp K ms F x d) (r' : Rp K ms F y e) (h : flatD d = true) (h' : flatD e = true) : eqV x y = eqD d e := by
  cases r <;> cases r' <;> first | rfl | (simp [flatD] at h; done) | (simp [flatD] at h'; done) | (simp [eqV, eqD]; done)
theorem inV_of {F : Hp} {x : V} {d : D} (r : Rp K ms F x d) (h : flatD d = true) : ∀ {xs : List V} {ds : List D}, Rps K ms F xs ds → ds.all flatD = true → inV x xs = anyD d ds
  | [], [], _, _ => rfl
  | _ :: _, _ :: _, q, z => by
    cases q with
    | cons h1 h2 =>
      rw [List.all_cons, Bool.and_eq_true] at z
      have := inV_of r h h2 z.2
      simp only [inV, anyD, List.any_cons] at this ⊢
      rw [eqV_of h1 r z.1 h, this]
  | [], _ :: _, h, _ => by cases h
  | _ :: _, [], h, _ => by cases h
theorem inL : OpL K ms (fun x y H Q => (∃ i j, x = .str i ∧ y = .str j ∧ Q (.bl (!(Builtin.Str.occurrences j i 0 j.length 1).isEmpty)) H) ∨ rInD K x y H Q ∨ rIn K false x y H Q) (dIn false) := by
  intro F H x y dx dy Qd Q hs rx ry h k
  unfold dIn at h
  split at h
  · cases rx; cases ry
    refine .inl ⟨_, _, rfl, rfl, k _ F H _ (Go.refl hs) (.bl _) ?_⟩
    simpa using h
  · obtain ⟨⟨h1, h2⟩, h⟩ := h
    obtain ⟨e1, a1, a2, a3⟩ := okD_pd 8 _ h1
    obtain ⟨e2, b1, b2, b3⟩ := okD_pd 8 _ h2
    simp [pd] at b1
    obtain ⟨es, b1, rfl⟩ := b1
    refine .inr (.inl ⟨e1, es, dp_mono hs _ _ (dp_of _ _ _ a1 rx), dp_mono hs _ _ (dp_of (K := K) (ms := ms) _ _ _ (by simp [pd, b1]) ry), shaped_of a2 a3 (by decide), shaped_of b2 b3 (by decide), k _ F H _ (Go.refl hs) (.bl _) ?_⟩)
    rw [pds_any a1 b1]
    simpa using h
  · cases ry with
    | tup h1 h2 =>
      obtain ⟨⟨f1, f2⟩, h⟩ := h
      refine .inr (.inr ⟨_, _, rfl, .inr (sqT hs h1), flat_of rx f1, flats_of h2 f2, k _ F H _ (Go.refl hs) (.bl _) ?_⟩)
      rw [if_neg (by decide), inV_of rx f1 h2 f2]
      simpa using h
  · exact h.elim
theorem op_inY (hu : X.A.units + 65 < cLine) : OpR X (compareOp .In) (fun x y H Q => (∃ i j, x = .str i ∧ y = .str j ∧ Q (.bl (!(Builtin.Str.occurrences j i 0 j.length 1).isEmpty)) H) ∨ rInD X.K x y H Q ∨ rIn X.K false x y H Q) := op_in_str.or ((op_inD hu).or op_in_seq)
theorem ninL : OpL K ms (fun x y H Q => (∃ i j, x = .str i ∧ y = .str j ∧ Q (.bl (!(!(Builtin.Str.occurrences j i 0 j.length 1).isEmpty))) H) ∨ rNotInD K x y H Q ∨ rIn K true x y H Q) (dIn true) := by
  intro F H x y dx dy Qd Q hs rx ry h k
  unfold dIn at h
  split at h
  · cases rx; cases ry
    refine .inl ⟨_, _, rfl, rfl, k _ F H _ (Go.refl hs) (.bl _) ?_⟩
    simpa using h
  · obtain ⟨⟨h1, h2⟩, h⟩ := h
    obtain ⟨e1, a1, a2, a3⟩ := okD_pd 8 _ h1
    obtain ⟨e2, b1, b2, b3⟩ := okD_pd 8 _ h2
    simp [pd] at b1
    obtain ⟨es, b1, rfl⟩ := b1
    refine .inr (.inl ⟨e1, es, dp_mono hs _ _ (dp_of _ _ _ a1 rx), dp_mono hs _ _ (dp_of (K := K) (ms := ms) _ _ _ (by simp [pd, b1]) ry), shaped_of a2 a3 (by decide), shaped_of b2 b3 (by decide), k _ F H _ (Go.refl hs) (.bl _) ?_⟩)
    rw [pds_any a1 b1]
    simpa using h
  · cases ry with
    | tup h1 h2 =>
      obtain ⟨⟨f1, f2⟩, h⟩ := h
      refine .inr (.inr ⟨_, _, rfl, .inr (sqT hs h1), flat_of rx f1, flats_of h2 f2, k _ F H _ (Go.refl hs) (.bl _) ?_⟩)
      rw [if_pos rfl, inV_of rx f1 h2 f2]
      simpa using h
  · exact h.elim
theorem op_ninY (hu : X.A.units + 65 < cLine) : OpR X (compareOp .NotIn) (fun x y H Q => (∃ i j, x = .str i ∧ y = .str j ∧ Q (.bl (!(!(Builtin.Str.occurrences j i 0 j.length 1).isEmpty))) H) ∨ rNotInD X.K x y H Q ∨ rIn X.K true x y H Q) := op_notIn_str.or ((op_notInD hu).or op_notIn_seq)
theorem op_eqY (hu : X.A.units + 64 < cLine) : OpR X (compareOp .Eq) (fun x y H Q => rEq x y H Q ∨ rEqD X.K x y H Q) := op_eq.or (op_eqD hu)
theorem op_neY (hu : X.A.units + 64 < cLine) : OpR X (compareOp .NotEq) (fun x y H Q => rNe x y H Q ∨ rNeD X.K x y H Q) := op_ne.or (op_neD hu)
theorem op_mulY : OpR X (binaryOp .Mult) (fun x y H Q => rI CMulW (fun i j => .int (i * j)) x y H Q ∨ rRepZ x y H Q) := op_mulW.or op_repZ
end
end Y
namespace Y
open PySem PySem.Spec PyProof.Rows L2 Z
section
variable {X : Cx} {B : Bs} {K : Frg} {ms : List Addr} {a b c e o : Expr} {es : List Expr} {ra rb rc r ro : Rd} {rt ru : RdT} {rl : RdA} {pos p0 apos : Pos} {R : RdF} {k : Nat} {f C g p : Addr} {x m : Str} {s1 s2 : RdS}
/-! ### xs[i], xs[i:j] -/
def dIx (x y : D) (Q : D → Prop) : Prop := match x, y with
  | .lst ds, .int i => (match atI ds i with | some d => Q d | none => False)
  | .tup ds, .int i => (match atI ds i with | some d => Q d | none => False)
  | .str s, .int i => s.length ≤ 100000 ∧ (match atI s.cps.toList i with | some c => Q (.str ⟨#[c]⟩) | none => False)
  | _, _ => False
theorem atI_rps {F : Hp} {vs : List V} {ds : List D} {i : Int} {d : D} (r : Rps K ms F vs ds) (h : atI ds i = some d) : ∃ v, atI vs i = some v ∧ Rp K ms F v d := by
  unfold atI at h ⊢
  rw [r.len]
  cases e : ixN ds.length i with
  | none => rw [e] at h; cases h
  | some j =>
    rw [e] at h
    obtain ⟨v, h1, h2⟩ := r.get (i := j) (d := d) h
    exact ⟨v, h1, h2⟩
theorem ixL' : OpL K ms (rIx K) dIx := by
  intro F H x y dx dy Qd Q hs rx ry h k
  unfold dIx at h
  split at h
  · split at h
    · rename_i d e
      cases rx with
      | lst h1 h2 =>
        cases ry
        obtain ⟨v, e1, e2⟩ := atI_rps h2 e
        exact .inl ⟨_, _, _, v, rfl, rfl, SqL.of (hs _ _ h1), e1, k v F H d (Go.refl hs) e2 h⟩
    · exact h.elim
  · split at h
    · rename_i d e
      cases rx with
      | tup h1 h2 =>
        cases ry
        obtain ⟨v, e1, e2⟩ := atI_rps h2 e
        exact .inr (.inl ⟨_, _, _, v, rfl, rfl, sqT hs h1, e1, k v F H d (Go.refl hs) e2 h⟩)
    · exact h.elim
  · obtain ⟨hz, h⟩ := h
    split at h
    · rename_i d e
      cases rx
      cases ry
      exact .inr (.inr ⟨_, _, _, rfl, rfl, Nat.le_trans hz line_ge, e, k _ F H _ (Go.refl hs) (.str _) h⟩)
    · exact h.elim
  · exact h.elim
theorem y_ix (ha : PEp X B a ra) (hb : PEp X B b rb) (hs : PlainIx b) : PEp X B (.Subscript a b pos) (fun ρ Q => ra ρ fun x => rb ρ fun y => dIx x y Q) := pe_imp (pe_ix ix_seq ha hb hs) (tOp_of ixL')
def cutD {α : Type} (xs : List α) (lo hi : Option Int) : List α := (xs.drop (HT.sIx xs.length 0 lo)).take (HT.sIx xs.length xs.length hi - HT.sIx xs.length 0 lo)
theorem cut_rps {F : Hp} {vs : List V} {ds : List D} (r : Rps K ms F vs ds) (lo hi : Option Int) : Rps K ms F (cutV vs lo hi) (cutD ds lo hi) := by
  unfold cutV cutD
  rw [r.len]
  exact (r.drop _).take _
@[irreducible] def dSl (x : D) (lo hi : Option Int) (Q : D → Prop) : Prop := match x with
  | .lst ds => Q (.lst (cutD ds lo hi))
  | .str s => s.length ≤ 100000 ∧ Q (.str (cutS s lo hi))
  | .tup ds => ¬ (HT.sIx ds.length 0 lo = 0 ∧ HT.sIx ds.length ds.length hi = ds.length) ∧ Q (.tup (cutD ds lo hi))
  | _ => False
abbrev RdO := Ev → (Option Int → Prop) → Prop
def tO (K : Frg) (B : Bs) (r : RdO) : TO := fun σ H Q => ∃ F ρ Qd, Iv K B F H σ ρ ∧ r ρ Qd ∧ ∀ o F' H', Go B.ms F H F' H' → Tp K B.ms F' H' → Qd o → Q o H'
theorem po_imp {X : Cx} {e : Option Expr} {t t' : TO} (h : PO X e t) (f : ∀ σ H Q, t' σ H Q → t σ H Q) : PO X e t' := ⟨fun pins s σ H Q I z => h.run pins s σ H Q I (f σ H Q z)⟩
theorem o_none : PO X none (tO X.K B fun _ Q => Q none) := po_imp po_none fun σ H Q ⟨F, ρ, Qd, I, z, k⟩ => k none F H (Go.refl I.same) I.tp z
def asI (d : D) (Q : Int → Prop) : Prop := match d with
  | .int i => Q i
  | _ => False
theorem o_some (h : PEp X B e r) : PO X (some e) (tO X.K B fun ρ Q => r ρ fun d => asI d fun i => Q (some i)) := po_imp (po_some h) fun σ H Q ⟨F, ρ, Qd, I, z, k⟩ => ⟨F, ρ, _, I, z, fun v F1 H1 d g1 t1 r1 z1 => by
  unfold asI at z1
  split at z1
  · cases r1
    exact ⟨_, rfl, k _ F1 H1 g1 t1 z1⟩
  · exact z1.elim⟩
theorem y_sl {lo hi : Option Expr} {rlo rhi : RdO} {p2 : Pos} (he : PEp X B e r) (hl : PO X lo (tO X.K B rlo)) (hh : PO X hi (tO X.K B rhi)) : PEp X B (.Subscript e (.Slice lo hi none p2) pos) (fun ρ Q => r ρ fun d => rlo ρ fun l => rhi ρ fun h => dSl d l h Q) :=
  pe_imp (pe_slice (sl_listZ.or (sl_str.or sl_tup)) he hl hh) fun σ H Q ⟨F, ρ, Qd, I, z, k⟩ => ⟨F, ρ, _, I, z, fun v F1 H1 d g1 t1 r1 z1 => ⟨F1, ρ, _, I.step g1 t1, z1, fun l F2 H2 g2 t2 z2 => ⟨F2, ρ, _, (I.step g1 t1).step g2 t2, z2, fun h F3 H3 g3 t3 z3 => by
    have g13 := (g1.trans g2).trans g3
    have r3 := (r1.up g2.ff).up g3.ff
    unfold dSl at z3
    split at z3
    · cases r3 with
      | lst h1 h2 =>
        refine .inl ⟨_, _, rfl, SqL.of (t3.1 _ _ h1), fun p H4 hp e4 => ?_⟩
        obtain ⟨F4, g4, q4, _⟩ := newE t3.1 hp e4
        exact k _ F4 H4 _ (g13.trans g4.nil) (t3.go0 g4) (.lst q4 ((cut_rps h2 l h).up g4.ff)) z3
    · cases r3
      exact .inr (.inl ⟨_, rfl, Nat.le_trans z3.1 line_ge, k _ F3 H3 _ g13 t3 (.str _) z3.2⟩)
    · cases r3 with
      | tup h1 h2 =>
        refine .inr (.inr ⟨_, _, rfl, sqT t3.1 h1, by rw [h2.len]; exact z3.1, fun p hp => ?_⟩)
        obtain ⟨F4, g4, q4, _⟩ := newE t3.1 hp rfl
        exact k _ F4 _ _ (g13.trans g4.nil) (t3.go0 g4) (.tup (SqT.of q4) ((cut_rps h2 l h).up g4.ff)) z3.2
    · exact z3.elim⟩⟩⟩
/-! ### fields, properties -/
def ixOf : List Str → Str → Option Nat
  | [], _ => none
  | n :: ns, f => if (f == n) = true then some 0 else (ixOf ns f).map (· + 1)
theorem look_ix : ∀ {ns : List Str} {vs : List V} {f : Str} {j : Nat}, ns.length = vs.length → ixOf ns f = some j → (ns.zip vs).lookup f = vs[j]?
  | [], _, _, _, _, h => by simp [ixOf] at h
  | _ :: _, [], _, _, h, _ => by simp at h
  | n :: ns, v :: vs, f, j, hl, h => by
    unfold ixOf at h
    rw [List.zip_cons_cons, List.lookup_cons]
    by_cases e : (f == n) = true
    · rw [if_pos e] at h
      cases h
      rw [e]
      rfl
    · rw [if_neg e] at h
      obtain ⟨i, h1, rfl⟩ := Option.map_eq_some_iff.mp h
      have e2 : (f == n) = false := by simpa using e
      rw [e2, List.getElem?_cons_succ]
      exact look_ix (by simpa using hl) h1
def fldD (cs ns : List Str) (j : Nat) (o : D) (Q : D → Prop) : Prop := match o with
  | .obj c n ds => (c ∈ cs ∧ n = ns) ∧ (match ds[j]? with | some d => Q d | none => False)
  | _ => False
theorem y_fld {cs ns : List Str} {fl : Str} {j : Nat} (he : PEp X B e r) (hc : ∀ c ∈ cs, Cls X.K (He.ga X.K c) ∧ NoAttr X.K (He.ga X.K c) fl) (hj : ixOf ns fl = some j := by decide +kernel) (hb : attributeBase e fl X.env (eval e X.env) = eval e X.env := by rfl) :
    PEp X B (.Attribute e fl pos) (fun ρ Q => r ρ fun o => fldD cs ns j o Q) :=
  pe_imp (pe_fld he hb) fun σ H Q ⟨F, ρ, Qd, I, z, k⟩ => ⟨F, ρ, _, I, z, fun v F1 H1 d g1 t1 r1 z1 => by
    unfold fldD at z1
    split at z1
    · obtain ⟨⟨h1, rfl⟩, z1⟩ := z1
      split at z1
      · rename_i dd e
        cases r1 with
        | @obj a dx _ _ vs _ h2 h3 h4 =>
          obtain ⟨v, e1, e2⟩ := h4.get e
          exact ⟨_, _, dx, _, v, rfl, t1.1 _ _ h2, (hc _ h1).1, (hc _ h1).2, by rw [look_ix h3 hj, e1], k v F1 H1 dd g1 t1 e2 z1⟩
      · exact z1.elim
    · exact z1.elim⟩
theorem cls_some {C : Addr} (c1 : Cls K C) : (PySem.W.clsIn K C).isSome = true := by
  obtain ⟨cd, hc, _⟩ := PySem.W.any_some c1.hd
  rw [hc]
  rfl
theorem y_prop {cs ns : List Str} (he : PEp X B e r) (hc : ∀ c ∈ cs, Cls X.K (He.ga X.K c) ∧ ∃ p, PropOf X.K (He.ga X.K c) m p g) (F : FnG X.prog X.w X.K X.mg X.base (L2.CX X.prog X.w) k g (spP X.K R)) (hr : RoomG (k + 1) X.A) (hx : Passes (L2.CX X.prog X.w) X.nox (EE X.K B.nox))
    (hab : attributeBase e m X.env (eval e X.env) = eval e X.env := by rfl) : PEp X B (.Attribute e m pos) (fun ρ Q => r ρ fun o => asO cs ns o (R [o] Q fun _ => False)) := by
  refine ⟨fun pins s σ H Q I h => ?_⟩
  obtain ⟨F0, ρ, Qd, J, z, kk⟩ := h
  refine attr_of hab (thn (he.run pins s σ H (fun v H1 => ∃ F1 d, Go B.ms F0 H F1 H1 ∧ Tp X.K B.ms F1 H1 ∧ Rp X.K B.ms F1 v d ∧ asO cs ns d (R [d] Qd fun _ => False)) I ⟨F0, ρ, _, J, z, fun v F1 H1 d g1 t1 r1 z1 => ⟨F1, d, g1, t1, r1, z1⟩⟩) fun u s1 ⟨v, H1, I1, rx, F1, d, g1, t1, r1, z1⟩ => ?_)
  unfold asO at z1
  split at z1
  · obtain ⟨hcs, rfl, z2⟩ := z1
    cases r1 with
    | @obj a dx _ _ vs ds h1 h2 h3 =>
      obtain rfl : u = Value.ref a := rx
      obtain ⟨c1, p, hp⟩ := hc _ hcs
      have ea := t1.1 _ _ h1
      obtain ⟨mA, O, _, _, _, _⟩ := ins_get I1.hok ea
      obtain ⟨od, J1, _⟩ := O.look
      obtain ⟨rest, hrec⟩ := hp.rec_
      have I2 := I1.tok (s1.toks + 1)
      have hcl := cls_some c1
      refine PySem.W.get_bind I1.kIn J1 (PySem.W.plainGet_of (c1.get m)).1 (PySem.W.findObj_data hcl hp.at_ hp.get hp.tak) (PySem.W.plainGet_of (c1.get m)).2 (wpAny_call (PySem.W.prop_get (s := { s1 with toks := s1.toks + 1 }) I1.kIn hrec ?_))
      have q : spP X.K R [.ref a] H1 Q (EE X.K B.nox) := sp_call (B := B.nox) (vs := [.ref a]) J.nox kk g1 t1 (.cons (.obj h1 h2 h3) .nil) z2
      refine codeAny_mono (F X.A.in1 X.stack { s1 with toks := s1.toks + 1 } H1 [.ref a] [.ref a] Q _ hr.in1 I2.env0.in1 (.cons rfl .nil) q) fun r s' hq => ?_
      cases r with
      | error er => exact False.elim (hx pins σ H1 { s1 with toks := s1.toks + 1 } er s' (I2.wish _) hq)
      | ok fl =>
        cases fl with
        | ret u =>
          obtain ⟨v, H', I3, rv, q3⟩ := I2.after hq
          show wpAny _ _ (handedOut u) _ _ _
          rw [PySem.W.handedOut_of (handed_of rv)]
          exact wpAny_pure ⟨v, H', I3, rv, q3⟩
        | next => exact False.elim hq
        | brk => exact False.elim hq
        | cont => exact False.elim hq
  · exact z1.elim
/-! ### builtins -/
def CalL (K : Frg) (ms : List Addr) (r : List V → Hp → VK → Prop) (g : List D → (D → Prop) → Prop) : Prop := ∀ (F H : Hp) (xs : List V) (ds : List D) (Qd : D → Prop) (Q : VK), Same F H → Rps K ms F xs ds → g ds Qd → (∀ v F' H' d, Go [] F H F' H' → Rp K ms F' v d → Qd d → Q v H') → r xs H Q
theorem tCB_of {q : List V → Hp → VK → Prop} {g : List D → (D → Prop) → Prop} (hl : CalL X.K B.ms q g) (σ : L2.St) (H : Hp) (Q : VK) (h : tE X.K B (fun ρ Q => rl ρ fun ds => g ds Q) σ H Q) : tCB q (tA X.K B rl) σ H Q := by
  obtain ⟨F, ρ, Qd, I, z, k⟩ := h
  exact ⟨F, ρ, _, I, z, fun vs F1 H1 ds g1 t1 r1 z1 => hl F1 H1 vs ds Qd Q t1.1 r1 z1 fun w F2 H2 e g2 r2 z2 => k w F2 H2 e (g1.trans g2.nil) (t1.go0 g2) r2 z2⟩
theorem y_callB {id : String} {q : List V → Hp → VK → Prop} {g : List D → (D → Prop) → Prop} (hc : CallR X (.builtin id) q) (hl : CalL X.K B.ms q g) (hg : Gl X x) (hm : X.mg x = none) (hv : bootBuiltins x = some (.builtin id)) (ha : PAp X B (e :: es) rl) (hn : x ≠ "__name__" := by decide) (hdb : (x == ("__debug__" : Str)) = false := by decide)
    (he : starEach (e :: es) X.env = (false, eval e X.env) :: starEach es X.env := by rfl) (hpl : (backTo pos (starEach es X.env)).any (·.1) = false := by rfl) : PEp X B (.Call (.Name x p0) (e :: es) [] pos) (fun ρ Q => rl ρ fun ds => g ds Q) := pe_imp (pe_callB hc hg hm hv ha hn hdb he hpl) (tCB_of hl)
theorem y_callT {id : String} {q : List V → Hp → VK → Prop} {g : List D → (D → Prop) → Prop} (hc : CallR X (.type id) q) (hl : CalL X.K B.ms q g) (hg : Gl X x) (hm : X.mg x = none) (hv : bootBuiltins x = some (.type id)) (ha : PAp X B (e :: es) rl) (hn : x ≠ "__name__" := by decide) (hdb : (x == ("__debug__" : Str)) = false := by decide)
    (he : starEach (e :: es) X.env = (false, eval e X.env) :: starEach es X.env := by rfl) (hpl : (backTo pos (starEach es X.env)).any (·.1) = false := by rfl) : PEp X B (.Call (.Name x p0) (e :: es) [] pos) (fun ρ Q => rl ρ fun ds => g ds Q) := pe_imp (pe_callTy hc hg hm hv ha hn hdb he hpl) (tCB_of hl)
theorem rps1 {F : Hp} {xs : List V} {d : D} (r : Rps K ms F xs [d]) : ∃ x, xs = [x] ∧ Rp K ms F x d := by
  cases r with
  | cons r1 r2 => cases r2; exact ⟨_, rfl, r1⟩
theorem rps2 {F : Hp} {xs : List V} {d e : D} (r : Rps K ms F xs [d, e]) : ∃ x y, xs = [x, y] ∧ Rp K ms F x d ∧ Rp K ms F y e := by
  cases r with
  | cons r1 r2 =>
    obtain ⟨y, rfl, r3⟩ := rps1 r2
    exact ⟨_, _, rfl, r1, r3⟩
def dLen (ds : List D) (Q : D → Prop) : Prop := match ds with
  | [.lst xs] => Q (.int (xs.length : Int))
  | [.tup xs] => Q (.int (xs.length : Int))
  | [.str s] => s.length ≤ 100000 ∧ Q (.int (s.length : Int))
  | _ => False
theorem call_lenY : CallR X (.builtin "len") (fun xs H Q => (∃ p ys, xs = [.ref p] ∧ (SqL X.K H p ys ∨ SqT X.K H p ys) ∧ Q (.int ys.length) H) ∨ (∃ z, xs = [.str z] ∧ z.length ≤ sizeLine ∧ Q (.int z.length) H)) := call_len_seq.or call_len_str
theorem lenL : CalL K ms (fun xs H Q => (∃ p ys, xs = [.ref p] ∧ (SqL K H p ys ∨ SqT K H p ys) ∧ Q (.int ys.length) H) ∨ (∃ z, xs = [.str z] ∧ z.length ≤ sizeLine ∧ Q (.int z.length) H)) dLen := by
  intro F H xs ds Qd Q hs r h k
  unfold dLen at h
  split at h
  · obtain ⟨x, rfl, r1⟩ := rps1 r
    cases r1 with
    | lst h1 h2 => exact .inl ⟨_, _, rfl, .inl (SqL.of (hs _ _ h1)), by rw [h2.len]; exact k _ F H _ (Go.refl hs) (.int _) h⟩
  · obtain ⟨x, rfl, r1⟩ := rps1 r
    cases r1 with
    | tup h1 h2 => exact .inl ⟨_, _, rfl, .inr (sqT hs h1), by rw [h2.len]; exact k _ F H _ (Go.refl hs) (.int _) h⟩
  · obtain ⟨x, rfl, r1⟩ := rps1 r
    cases r1
    exact .inr ⟨_, rfl, Nat.le_trans h.1 line_ge, k _ F H _ (Go.refl hs) (.int _) h.2⟩
  · exact h.elim
def dAbs (ds : List D) (Q : D → Prop) : Prop := match ds with
  | [.int i] => Q (.int (if i < 0 then -i else i))
  | _ => False
theorem absL : CalL K ms (fun xs H Q => ∃ i, xs = [.int i] ∧ Q (.int (if i < 0 then -i else i)) H) dAbs := by
  intro F H xs ds Qd Q hs r h k
  unfold dAbs at h
  split at h
  · obtain ⟨x, rfl, r1⟩ := rps1 r
    cases r1
    exact ⟨_, rfl, k _ F H _ (Go.refl hs) (.int _) h⟩
  · exact h.elim
def blsOf : List D → Option (List Bool)
  | [] => some []
  | .bl b :: ds => (blsOf ds).map (b :: ·)
  | _ => none
theorem blsOf_map : ∀ {ds : List D} {bs : List Bool}, blsOf ds = some bs → ds = bs.map D.bl
  | [], _, h => by cases h; rfl
  | .bl b :: ds, _, h => by
    unfold blsOf at h
    obtain ⟨r, h1, rfl⟩ := Option.map_eq_some_iff.mp h
    rw [blsOf_map h1]
    rfl
  | .non :: _, _, h => by simp [blsOf] at h
  | .int _ :: _, _, h => by simp [blsOf] at h
  | .str _ :: _, _, h => by simp [blsOf] at h
  | .lst _ :: _, _, h => by simp [blsOf] at h
  | .tup _ :: _, _, h => by simp [blsOf] at h
  | .obj _ _ _ :: _, _, h => by simp [blsOf] at h
  | .ty _ :: _, _, h => by simp [blsOf] at h
  | .glob _ :: _, _, h => by simp [blsOf] at h
  | .tape :: _, _, h => by simp [blsOf] at h
def dAll (f : List Bool → Bool) (ds : List D) (Q : D → Prop) : Prop := match ds with
  | [.lst xs] => (match blsOf xs with | some bs => Q (.bl (f bs)) | none => False)
  | _ => False
theorem allL {f : List Bool → Bool} : CalL K ms (fun vs H Q => ∃ (a : Addr) (bs : List Bool), vs = [V.ref a] ∧ SqL K H a (bs.map V.bl) ∧ Q (.bl (f bs)) H) (dAll f) := by
  intro F H xs ds Qd Q hs r h k
  unfold dAll at h
  split at h
  · obtain ⟨x, rfl, r1⟩ := rps1 r
    split at h
    · rename_i ds bs e
      obtain rfl := blsOf_map e
      cases r1 with
      | lst h1 h2 =>
        rw [h2.bls] at h1
        exact ⟨_, bs, rfl, SqL.of (hs _ _ h1), k _ F H _ (Go.refl hs) (.bl _) h⟩
    · exact h.elim
  · exact h.elim
def dList (ds : List D) (Q : D → Prop) : Prop := match ds with
  | [.lst xs] => Q (.lst xs)
  | [.tup xs] => Q (.lst xs)
  | _ => False
theorem listL : CalL K ms (rListZ K) dList := by
  intro F H xs ds Qd Q hs r h k
  unfold dList at h
  split at h
  · obtain ⟨x, rfl, r1⟩ := rps1 r
    cases r1 with
    | lst h1 h2 =>
      refine ⟨_, _, rfl, .inl (SqL.of (hs _ _ h1)), fun p H2 hp e2 => ?_⟩
      obtain ⟨F2, g2, q2, _⟩ := newE hs hp e2
      exact k _ F2 H2 _ g2 (.lst q2 (h2.up g2.ff)) h
  · obtain ⟨x, rfl, r1⟩ := rps1 r
    cases r1 with
    | tup h1 h2 =>
      refine ⟨_, _, rfl, .inr (sqT hs h1), fun p H2 hp e2 => ?_⟩
      obtain ⟨F2, g2, q2, _⟩ := newE hs hp e2
      exact k _ F2 H2 _ g2 (.lst q2 (h2.up g2.ff)) h
  · exact h.elim
def dTuple (ds : List D) (Q : D → Prop) : Prop := match ds with
  | [.lst xs] => Q (.tup xs)
  | [.tup xs] => Q (.tup xs)
  | _ => False
theorem tupleL : CalL K ms (fun xs H Q => ∃ p ys, xs = [.ref p] ∧ ((SqL K H p ys ∧ ∀ l, H l = none → Q (.ref l) (upd H l (.tup ys))) ∨ (SqT K H p ys ∧ Q (.ref p) H))) dTuple := by
  intro F H xs ds Qd Q hs r h k
  unfold dTuple at h
  split at h
  · obtain ⟨x, rfl, r1⟩ := rps1 r
    cases r1 with
    | lst h1 h2 =>
      refine ⟨_, _, rfl, .inl ⟨SqL.of (hs _ _ h1), fun p hp => ?_⟩⟩
      obtain ⟨F2, g2, q2, _⟩ := newE hs hp rfl
      exact k _ F2 _ _ g2 (.tup (SqT.of q2) (h2.up g2.ff)) h
  · obtain ⟨x, rfl, r1⟩ := rps1 r
    cases r1 with
    | tup h1 h2 => exact ⟨_, _, rfl, .inr ⟨sqT hs h1, k _ F H _ (Go.refl hs) (.tup h1 h2) h⟩⟩
  · exact h.elim
/-! ### isinstance -/
def OwnC (K : Frg) (c : Str) : Prop := Cls K (He.ga K c) ∧ Own K (He.ga K c)
def tyD (K : Frg) : D → Option Value
  | .non => some (.type "NoneType")
  | .bl _ => some (.type "bool")
  | .int _ => some (.type "int")
  | .str _ => some (.type "str")
  | .lst _ => some (.type "list")
  | .tup _ => some (.type "tuple")
  | .obj c _ _ => some (.ref (He.ga K c))
  | _ => none
theorem tyX_of {F H : Hp} {v : V} {d : D} {t : Value} (r : Rp K ms F v d) (hs : Same F H) (h : tyD K d = some t) (ho : ∀ c ns ds, d = .obj c ns ds → OwnC K c) : TyX K H v t := by
  cases r with
  | non => cases h; exact .base .non
  | bl b => cases h; exact .base (.bl b)
  | int i => cases h; exact tyI i
  | str s => cases h; exact .base (.str s)
  | ty n => cases h
  | glob x => cases h
  | tape m => cases h
  | lst h1 h2 => cases h; exact tyL (SqL.of (K := K) (hs _ _ h1))
  | tup h1 h2 => cases h; exact tyT (sqT hs h1)
  | obj h1 h2 h3 => cases h; exact tyO (ho _ _ _ rfl).1 (ho _ _ _ rfl).2 (hs _ _ h1)
def dIsB (cs : List Str) (T : String) (d : D) (Q : D → Prop) : Prop := match d with
  | .non => Q (.bl false)
  | .bl _ => Q (.bl (T == "bool" || T == "int"))
  | .int _ => Q (.bl (T == "int"))
  | .str _ => Q (.bl (T == "str"))
  | .lst _ => Q (.bl (T == "list"))
  | .tup _ => Q (.bl (T == "tuple"))
  | .obj c _ _ => c ∈ cs ∧ Q (.bl false)
  | _ => False
def dIs2 (g : D → (D → Prop) → Prop) (c : D) (ds : List D) (Q : D → Prop) : Prop := match ds with
  | [x, y] => y = c ∧ g x Q
  | _ => False
theorem isBL {cs : List Str} {T : String} (hT : T ∈ ["bool", "int", "str", "list", "tuple", "dict"]) (hc : ∀ c ∈ cs, OwnC K c) : CalL K ms (rIsi K) (dIs2 (dIsB cs T) (.ty T)) := by
  intro F H xs ds Qd Q hs r h k
  unfold dIs2 at h
  split at h
  · obtain ⟨x, y, rfl, r1, r2⟩ := rps2 r
    obtain ⟨rfl, h⟩ := h
    cases r2
    have fin : ∀ (t : Value) (b : Bool), TyX K H x t → PySem.W.kitOne K t (.type T) = some b → Qd (.bl b) → rIsi K [x, V.ty T] H Q := fun t b ty e q => ⟨_, _, t, _, b, rfl, .ty T, ty, e, k _ F H _ (Go.refl hs) (.bl _) q⟩
    have kb : ∀ (a : String) (b : Bool), (∀ T ∈ ["bool", "int", "str", "list", "tuple", "dict"], kitB a T = some (if a = "bool" then (T == "bool" || T == "int") else (T == a))) → b = (if a = "bool" then (T == "bool" || T == "int") else (T == a)) → PySem.W.kitOne K (.type a) (.type T) = some b := fun a b h e => by
      rw [e]
      exact kit_ty (h T hT)
    unfold dIsB at h
    split at h
    · refine fin _ false (tyX_of r1 hs rfl (fun _ _ _ z => nomatch z)) (kb "NoneType" _ (by decide +kernel) ?_) h
      simp at hT; rcases hT with rfl | rfl | rfl | rfl | rfl | rfl <;> decide
    · exact fin _ _ (tyX_of r1 hs rfl (fun _ _ _ z => nomatch z)) (kb "bool" _ (by decide +kernel) rfl) h
    · exact fin _ _ (tyX_of r1 hs rfl (fun _ _ _ z => nomatch z)) (kb "int" _ (by decide +kernel) rfl) h
    · exact fin _ _ (tyX_of r1 hs rfl (fun _ _ _ z => nomatch z)) (kb "str" _ (by decide +kernel) rfl) h
    · exact fin _ _ (tyX_of r1 hs rfl (fun _ _ _ z => nomatch z)) (kb "list" _ (by decide +kernel) rfl) h
    · exact fin _ _ (tyX_of r1 hs rfl (fun _ _ _ z => nomatch z)) (kb "tuple" _ (by decide +kernel) rfl) h
    · exact fin _ false (tyX_of r1 hs rfl (fun c _ _ z => by cases z; exact hc _ h.1)) ((hc _ h.1).2.kt T hT) h.2
    · exact h.elim
  · exact h.elim
def dIsO (cs cs' : List Str) (d : D) (Q : D → Prop) : Prop := match d with
  | .obj c _ _ => (c ∈ cs ∧ Q (.bl true)) ∨ (c ∈ cs' ∧ Q (.bl false))
  | .non | .bl _ | .int _ | .str _ | .lst _ | .tup _ => Q (.bl false)
  | _ => False
theorem isOL {cs cs' : List Str} {C : Str} (hC : OwnC K C) (hc : ∀ c ∈ cs, OwnC K c ∧ PySem.W.kitOne K (.ref (He.ga K c)) (.ref (He.ga K C)) = some true) (hc' : ∀ c ∈ cs', OwnC K c ∧ PySem.W.kitOne K (.ref (He.ga K c)) (.ref (He.ga K C)) = some false) : CalL K ms (rIsi K) (dIs2 (dIsO cs cs') (.glob C)) := by
  intro F H xs ds Qd Q hs r h k
  unfold dIs2 at h
  split at h
  · obtain ⟨x, y, rfl, r1, r2⟩ := rps2 r
    obtain ⟨rfl, h⟩ := h
    cases r2
    have fin : ∀ (t : Value) (b : Bool), TyX K H x t → PySem.W.kitOne K t (.ref (He.ga K C)) = some b → Qd (.bl b) → rIsi K [x, V.ref (He.ga K C)] H Q := fun t b ty e q => ⟨_, _, t, _, b, rfl, .own _, ty, e, k _ F H _ (Go.refl hs) (.bl _) q⟩
    unfold dIsO at h
    split at h
    · rcases h with ⟨h1, h⟩ | ⟨h1, h⟩
      · exact fin _ true (tyX_of r1 hs rfl (fun c _ _ z => by cases z; exact (hc _ h1).1)) (hc _ h1).2 h
      · exact fin _ false (tyX_of r1 hs rfl (fun c _ _ z => by cases z; exact (hc' _ h1).1)) (hc' _ h1).2 h
    · exact fin _ false (tyX_of r1 hs rfl (fun _ _ _ z => nomatch z)) (hC.2.kb "NoneType" (by decide)) h
    · exact fin _ false (tyX_of r1 hs rfl (fun _ _ _ z => nomatch z)) (hC.2.kb "bool" (by decide)) h
    · exact fin _ false (tyX_of r1 hs rfl (fun _ _ _ z => nomatch z)) (hC.2.kb "int" (by decide)) h
    · exact fin _ false (tyX_of r1 hs rfl (fun _ _ _ z => nomatch z)) (hC.2.kb "str" (by decide)) h
    · exact fin _ false (tyX_of r1 hs rfl (fun _ _ _ z => nomatch z)) (hC.2.kb "list" (by decide)) h
    · exact fin _ false (tyX_of r1 hs rfl (fun _ _ _ z => nomatch z)) (hC.2.kb "tuple" (by decide)) h
    · exact h.elim
  · exact h.elim
end
end Y
namespace Y
open PySem PySem.Spec PyProof.Rows L2 Z
/-! ### things that one slot holds -/
section
variable {K : Frg} {B : Bs} {F H F' H' : Hp} {σ : L2.St} {ρ : Ev}
theorem Tp.nms {ms : List Addr} {p : Addr} (t : Tp K ms F H) (hp : H p = none) : p ∉ ms := fun m => (t.2 p m).ne hp
theorem go_none {ms : List Addr} {F0 H0 F H : Hp} {p : Addr} (g : Go ms F0 H0 F H) (hf : Same F0 H0) (hp : H p = none) (hm : p ∉ ms) : H0 p = none := by
  cases e : H0 p with
  | none => rfl
  | some o =>
    cases e2 : F0 p with
    | some o' => have := g.fh p o' (g.ff p o' e2); rw [hp] at this; cases this
    | none => have := (g.mu p o hm e2 e).2; rw [hp] at this; cases this
/-- a new thing comes into a slot -/
theorem Iv.newM (I : Iv K B F H σ ρ) (h0 : Same B.F0 B.H0) {p : Addr} {o : HO} {m : Mo} {H2 : Hp} (i : Nat) (hp : H p = none) (e : H2 = upd H p o) (r : MoR K B.ms F p m o) : Iv K B F H2 (σ.set i (some (.ref p))) (ρ.set i (.mu m)) := by
  have nm := I.tp.nms hp
  have g : Go [] F H F H2 := by rw [e]; exact Go.newM I.same hp
  have I2 := I.step0 g
  have hn : ∀ (j : Nat) (n : Mo), ρ[j]? = some (.mu n) → σ[j]? ≠ some (some (.ref p)) := fun j n h z => by
    obtain ⟨a, o', h1, h2, h3, h4, h5, h6⟩ := I.own j n h
    rw [z] at h1
    cases h1
    rw [hp] at h5
    cases h5
  have hl := I.len
  refine ⟨I2.go, I2.tp, by rw [List.length_set, List.length_set]; exact I.len, fun j d h => ?_, fun j n h => ?_, fun j k n n' a hjk h1 h2 h3 => ?_⟩
  · by_cases hij : i = j
    · subst hij
      rcases Nat.lt_or_ge i ρ.length with z | z
      · rw [List.getElem?_set_self z] at h; cases h
      · rw [List.getElem?_eq_none (by rw [List.length_set]; exact z)] at h; cases h
    · rw [List.getElem?_set_ne hij] at h ⊢
      exact I2.val j d h
  · by_cases hij : i = j
    · subst hij
      rcases Nat.lt_or_ge i ρ.length with z | z
      · rw [List.getElem?_set_self z] at h
        cases h
        exact ⟨p, o, List.getElem?_set_self (by omega), same_none I.same hp, nm, go_none I.go h0 hp nm, by rw [e]; exact upd_same, r⟩
      · rw [List.getElem?_eq_none (by rw [List.length_set]; exact z)] at h; cases h
    · rw [List.getElem?_set_ne hij] at h ⊢
      exact I2.own j n h
  · by_cases hij : i = j
    · subst hij
      have hik : i ≠ k := hjk
      rw [List.getElem?_set_ne hik] at h2 ⊢
      rcases Nat.lt_or_ge i σ.length with z | z
      · rw [List.getElem?_set_self z] at h3
        cases h3
        exact hn k n' h2
      · rw [List.getElem?_eq_none (by rw [List.length_set]; exact z)] at h3; cases h3
    · rw [List.getElem?_set_ne hij] at h1 h3
      by_cases hik : i = k
      · subst hik
        rcases Nat.lt_or_ge i σ.length with z | z
        · rw [List.getElem?_set_self z]
          intro q
          cases q
          exact hn j n h1 h3
        · rw [List.getElem?_eq_none (by rw [List.length_set]; exact z)]
          intro q; cases q
      · rw [List.getElem?_set_ne hik] at h2 ⊢
        exact I.sep j k n n' a hjk h1 h2 h3
/-- a thing changes in its place -/
theorem Iv.put (I : Iv K B F H σ ρ) {a : Addr} {o : HO} {m m' : Mo} {H2 : Hp} (i : Nat) (hi : ρ[i]? = some (.mu m)) (ha : σ[i]? = some (some (.ref a))) (e : H2 = upd H a o) (r : MoR K B.ms F a m' o) : Iv K B F H2 σ (ρ.set i (.mu m')) := by
  obtain ⟨a', o', h1, fa, nm, h0, h5, _⟩ := I.own i m hi
  rw [ha] at h1
  cases h1
  have gp : Go [a] F H F H2 := by rw [e]; exact Go.put I.same fa
  have go : Go B.ms B.F0 B.H0 F H2 := ((I.go.sub (ms' := a :: B.ms) fun x hx => List.mem_cons_of_mem _ hx).trans (gp.sub fun x hx => by
    have : x = a := by simpa using hx
    rw [this]; exact List.mem_cons_self)).drop h0
  have ho : ∀ b, b ≠ a → H2 b = H b := fun b hb => by rw [e]; exact upd_ne hb
  refine ⟨go, ⟨gp.fh, fun t mt => (I.tp.2 t mt).go gp (by
    intro z
    have : t = a := by simpa using z
    exact nm (this ▸ mt))⟩, by rw [List.length_set]; exact I.len, fun j d h => ?_, fun j n h => ?_, fun j k n n' b hjk h1 h2 h3 => ?_⟩
  · by_cases hij : i = j
    · subst hij
      rcases Nat.lt_or_ge i ρ.length with z | z
      · rw [List.getElem?_set_self z] at h; cases h
      · rw [List.getElem?_eq_none (by rw [List.length_set]; exact z)] at h; cases h
    · rw [List.getElem?_set_ne hij] at h
      exact I.val j d h
  · by_cases hij : i = j
    · subst hij
      rcases Nat.lt_or_ge i ρ.length with z | z
      · rw [List.getElem?_set_self z] at h
        cases h
        exact ⟨a, o, ha, fa, nm, h0, by rw [e]; exact upd_same, r⟩
      · rw [List.getElem?_eq_none (by rw [List.length_set]; exact z)] at h; cases h
    · rw [List.getElem?_set_ne hij] at h
      obtain ⟨b, u, b1, b2, b3, b4, b5, b6⟩ := I.own j n h
      have hb : b ≠ a := fun q => by
        subst q
        exact I.sep i j m n b hij hi h ha b1
      exact ⟨b, u, b1, b2, b3, b4, by rw [ho b hb]; exact b5, b6⟩
  · have w : ∀ (q : Nat) (n : Mo), (ρ.set i (.mu m'))[q]? = some (.mu n) → ∃ n' : Mo, ρ[q]? = some (.mu n') := fun q n h => by
      by_cases hq : i = q
      · subst hq; exact ⟨m, hi⟩
      · rw [List.getElem?_set_ne hq] at h; exact ⟨n, h⟩
    obtain ⟨n1, w1⟩ := w j n h1
    obtain ⟨n2, w2⟩ := w k n' h2
    exact I.sep j k n1 n2 b hjk w1 w2 h3
/-- a list that grew is plain data from now on -/
theorem Iv.freeze (I : Iv K B F H σ ρ) {ds : List D} (i : Nat) (hi : ρ[i]? = some (.mu (.lst ds))) : ∃ F2, Same F F2 ∧ Iv K B F2 H σ (ρ.set i (.val (.lst ds))) := by
  obtain ⟨a, o, ha, fa, nm, h0, h5, vs, rfl, hr⟩ := I.own i _ hi
  have gp : Go [a] F H (upd F a (.lst vs)) H := Go.freeze I.same fa h5
  have go : Go B.ms B.F0 B.H0 (upd F a (.lst vs)) H := ((I.go.sub (ms' := a :: B.ms) fun x hx => List.mem_cons_of_mem _ hx).trans (gp.sub fun x hx => by
    have : x = a := by simpa using hx
    rw [this]; exact List.mem_cons_self)).drop h0
  refine ⟨upd F a (.lst vs), gp.ff, go, ⟨gp.fh, fun t mt => (I.tp.2 t mt).go gp (by
    intro z
    have : t = a := by simpa using z
    exact nm (this ▸ mt))⟩, by rw [List.length_set]; exact I.len, fun j d h => ?_, fun j n h => ?_, fun j k n n' b hjk h1 h2 h3 => ?_⟩
  · by_cases hij : i = j
    · subst hij
      rcases Nat.lt_or_ge i ρ.length with z | z
      · rw [List.getElem?_set_self z] at h
        cases h
        exact ⟨.ref a, ha, .lst upd_same (hr.up gp.ff)⟩
      · rw [List.getElem?_eq_none (by rw [List.length_set]; exact z)] at h; cases h
    · rw [List.getElem?_set_ne hij] at h
      obtain ⟨v, h1, h2⟩ := I.val j d h
      exact ⟨v, h1, h2.up gp.ff⟩
  · by_cases hij : i = j
    · subst hij
      rcases Nat.lt_or_ge i ρ.length with z | z
      · rw [List.getElem?_set_self z] at h; cases h
      · rw [List.getElem?_eq_none (by rw [List.length_set]; exact z)] at h; cases h
    · rw [List.getElem?_set_ne hij] at h
      obtain ⟨b, u, b1, b2, b3, b4, b5, b6⟩ := I.own j n h
      have hb : b ≠ a := fun q => by
        subst q
        exact I.sep i j _ n b hij hi h ha b1
      exact ⟨b, u, b1, by rw [upd_ne hb]; exact b2, b3, b4, b5, b6.up gp.ff⟩
  · have w : ∀ (q : Nat) (n : Mo), (ρ.set i (.val (.lst ds)))[q]? = some (.mu n) → ρ[q]? = some (.mu n) := fun q n h => by
      by_cases hq : i = q
      · subst hq
        rcases Nat.lt_or_ge i ρ.length with z | z
        · rw [List.getElem?_set_self z] at h; cases h
        · rw [List.getElem?_eq_none (by rw [List.length_set]; exact z)] at h; cases h
      · rw [List.getElem?_set_ne hq] at h; exact h
    exact I.sep j k n n' b hjk (w _ _ h1) (w _ _ h2) h3
end
section
variable {X : Cx} {B : Bs} {K : Frg} {ms : List Addr} {a b c e o : Expr} {es : List Expr} {ra rb rc r ro : Rd} {rt ru : RdT} {rl : RdA} {pos p0 apos : Pos} {R : RdF} {k : Nat} {f C g p : Addr} {x m : Str} {s1 s2 : RdS}
/-- x = [..], a list that grows -/
theorem s_own (h0 : Same B.F0 B.H0) {i : Nat} {x : Str} {pos' : Pos} (hN : X.N.Nodup) (hi : X.N[i]? = some x) (hx : Loc X.env.scope x) (ha : PAp X B es rl) (hs : swapsWith (.List es p0) (some (.Name x pos')) pos.line X.env = pure false := by rfl) (hf : X.fn x = true ∨ X.env.scope.names.lookup x = some .local := by first | exact .inl rfl | exact .inr rfl | assumption) :
    PSp X B (.Assign [.Name x pos'] (.List es p0) pos) (fun ρ E => rl ρ fun ds => ds.length ≤ 100000 ∧ E.nx (ρ.set i (.mu (.lst ds)))) :=
  ps_imp (ps_set hN hi hx (pe_lstZ ha) hs hf) fun σ H Dd ⟨F, ρ, E, I, z, kn, kr, kb, kc⟩ => ⟨F, ρ, _, I, z, fun vs F1 H1 ds g1 t1 r1 z1 => ⟨Nat.le_trans (by rw [r1.len]; exact z1.1) line_ge, fun p H2 hp e2 => kn _ _ F1 H2 g1.ff ((I.step g1 t1).newM (m := .lst ds) h0 i hp e2 ⟨vs, rfl, r1⟩) z1.2⟩⟩
def appM (i : Nat) (ρ : Ev) (d : D) (Q : Ev → Prop) : Prop := match ρ[i]? with
  | some (.mu (.lst ds)) => ds.length < 100000 ∧ Q (ρ.set i (.mu (.lst (ds ++ [d]))))
  | _ => False
/-- x.append(e) -/
theorem s_app {i : Nat} {x : Str} {pv cpos : Pos} (hv : PE X (.Name x pv) (tVar i)) (he : PEp X B e r)
    (hc : ∀ t : TA, PA X [e] t → PE X (.Call (.Attribute (.Name x pv) "append" apos) [e] [] cpos) (tBM X.K "list" rAppZ (tVar i) t)) (h1 : starEach [e] X.env = (false, eval e X.env) :: starEach [] X.env := by rfl)
    (hs : swapsWith (.Call (.Attribute (.Name x pv) "append" apos) [e] [] cpos) none pos.line X.env = pure false := by rfl) : PSp X B (.Expr (.Call (.Attribute (.Name x pv) "append" apos) [e] [] cpos) pos) (fun ρ E => (∃ ds, ρ[i]? = some (.mu (.lst ds))) ∧ r ρ fun d => appM i ρ d E.nx) :=
  ps_imp (ps_expr (hc _ (pa_cons he pa_nil h1)) hs) fun σ H Dd ⟨F, ρ, E, I, ⟨⟨ds, hds⟩, z⟩, kn, kr, kb, kc⟩ => by
    obtain ⟨a, oo, ha, fa, nm, h0, h5, vs, rfl, hr⟩ := I.own i _ hds
    refine ⟨.ref a, ha, .inl ⟨rfl, _, SqL.of h5⟩, F, ρ, _, I, z, fun v F1 H1 d g1 t1 r1 z1 => ?_⟩
    have I1 := I.step g1 t1
    unfold appM at z1
    rw [hds] at z1
    obtain ⟨a', o', b1, b2, b3, b4, b5, vs', rfl, b6⟩ := I1.own i _ hds
    rw [ha] at b1
    cases b1
    refine ⟨a, vs', v, rfl, rfl, b5, by rw [b6.len]; exact Nat.lt_of_lt_of_le z1.1 line_ge, fun H2 e2 => ?_⟩
    exact kn σ _ F1 H2 g1.ff (I1.put (m' := .lst (ds ++ [d])) i hds ha e2 ⟨_, rfl, b6.app (.one r1)⟩) z1.2
theorem pe_app {t : TA} {pv cpos : Pos} {x : Str} {i : Nat} (hv : PE X (.Name x pv) (tVar i)) (ha : PA X [e] t) (hbase : attributeBase (.Name x pv) "append" X.env (eval (.Name x pv) X.env) = eval (.Name x pv) X.env := by rfl)
    (h2 : PE X (.Call (.Attribute (.Name x pv) "append" apos) [e] [] cpos) (tBM X.K "list" rAppZ (tVar i) t) := by exact pe_bm PySem.F.plainAttrs_list PySem.F.slot_list_append PySem.F.type_list_append mt_appZ (by assumption) (by assumption)) : PE X (.Call (.Attribute (.Name x pv) "append" apos) [e] [] cpos) (tBM X.K "list" rAppZ (tVar i) t) := h2
def frzM (i : Nat) (ρ : Ev) (Q : Ev → Prop) : Prop := match ρ[i]? with
  | some (.mu (.lst ds)) => Q (ρ.set i (.val (.lst ds)))
  | _ => False
theorem s_frz (i : Nat) {rest : List Stmt} (h : PSsp X B rest s1) : PSsp X B rest (fun ρ E => frzM i ρ fun ρ' => s1 ρ' E) :=
  pss_imp h fun σ H Dd ⟨F, ρ, E, I, z, kn, kr, kb, kc⟩ => by
    have z' : frzM i ρ fun ρ' => s1 ρ' E := z
    clear z
    unfold frzM at z'
    split at z'
    · rename_i ds e
      obtain ⟨F2, s2, I2⟩ := I.freeze i e
      exact ⟨F2, _, E, I2, z', fun σ' ρ' F' H' s I' z' => kn σ' ρ' F' H' (s2.trans s) I' z', kr, fun σ' ρ' F' H' s I' z' => kb σ' ρ' F' H' (s2.trans s) I' z', fun σ' ρ' F' H' s I' z' => kc σ' ρ' F' H' (s2.trans s) I' z'⟩
    · exact z'.elim
/-! ### operators of own classes -/
theorem sp_callG {K : Frg} {F1 H1 : Hp} {vs : List V} {ds : List D} {Qd : D → Prop} {Q : VK} (g0 : Go B.ms B.F0 B.H0 F1 H1) (t1 : Tp K B.ms F1 H1) (r1 : Rps K B.ms F1 vs ds) (kk : ∀ v F' H' d, Go B.ms F1 H1 F' H' → Tp K B.ms F' H' → Rp K B.ms F' v d → Qd d → Q v H') (h : R ds Qd B.Ed) : spP K R vs H1 Q (EE K B) :=
  ⟨B.ms, F1, ds, Qd, B.Ed, t1, r1, h, fun v F2 H2 d g2 t2 r2 q2 => kk v F2 H2 d g2 t2 r2 q2, fun cls d F2 H2 x g2 t2 xr q => ⟨F2, x, g0.trans g2, t2, xr, q⟩⟩
def OpI (K : Frg) (B : Bs) (r : R2) (g : D → D → (D → Prop) → Prop) : Prop := ∀ (F H : Hp) (x y : V) (dx dy : D) (Qd : D → Prop) (Q : VK), Go B.ms B.F0 B.H0 F H → Tp K B.ms F H → Rp K B.ms F x dx → Rp K B.ms F y dy → g dx dy Qd → (∀ v F' H' d, Go B.ms F H F' H' → Tp K B.ms F' H' → Rp K B.ms F' v d → Qd d → Q v H') → r x y H Q
theorem tOpI_of {g : D → D → (D → Prop) → Prop} {o : R2} (hl : OpI X.K B o g) (σ : L2.St) (H : Hp) (Q : VK) (h : tE X.K B (fun ρ Q => ra ρ fun x => rb ρ fun y => g x y Q) σ H Q) : tOp o (tE X.K B ra) (tE X.K B rb) σ H Q := by
  obtain ⟨F, ρ, Qd, I, z, k⟩ := h
  refine ⟨F, ρ, _, I, z, fun v F1 H1 d g1 t1 r1 z1 => ⟨F1, ρ, _, I.step g1 t1, z1, fun u F2 H2 e g2 t2 r2 z2 => ?_⟩⟩
  exact hl F2 H2 v u d e Qd Q ((I.go.trans g1).trans g2) t2 (r1.up g2.ff) r2 z2 fun w F3 H3 d3 g3 t3 r3 q3 => k w F3 H3 d3 ((g1.trans g2).trans g3) t3 r3 q3
theorem y_opI {op : Operator} {g : D → D → (D → Prop) → Prop} {o : R2} (ho : OpR X (binaryOp op) o) (hl : OpI X.K B o g) (ha : PEp X B a ra) (hb : PEp X B b rb) : PEp X B (.BinOp a op b pos) (fun ρ Q => ra ρ fun x => rb ρ fun y => g x y Q) := pe_imp (pe_op ho ha hb) (tOpI_of hl)
theorem y_cmpI {op : CmpOp} {g : D → D → (D → Prop) → Prop} {o : R2} (ho : OpR X (compareOp op) o) (hl : OpI X.K B o g) (ha : PEp X B a ra) (hb : PEp X B b rb) (hm : behindInMarks op b = false) : PEp X B (.Compare a [op] [b] pos) (fun ρ Q => ra ρ fun x => rb ρ fun y => g x y Q) := pe_imp (pe_cmpR ho ha hb hm) (tOpI_of hl)
theorem z_cmpI {op : CmpOp} {g : D → D → (D → Prop) → Prop} {o : R2} (ho : OpR X (compareOp op) o) (hl : OpI X.K B o g) (ha : PEp X B a ra) (hb : PEp X B b rb) (hm : behindInMarks op b = false) : PTp X B (.Compare a [op] [b] pos) (fun ρ Q => ra ρ fun x => rb ρ fun y => g x y fun d => tst d Q) :=
  pt_imp (pt_cmpR ho ha hb hm) (tTest_of (tOpI_of hl))
/-- both of the own class C -/
def dBinO (B : Bs) (R : RdF) (C : Str) (ns : List Str) (x y : D) (Q : D → Prop) : Prop := asO [C] ns x (asO [C] ns y (R [x, y] Q B.Ed))
theorem asO_of {K : Frg} {ms : List Addr} {F : Hp} {cs ns : List Str} {v : V} {d : D} {k : Prop} (r : Rp K ms F v d) (h : asO cs ns d k) : ∃ a dx fs c, v = .ref a ∧ c ∈ cs ∧ F a = some (.ins (He.ga K c) dx fs) ∧ k := by
  unfold asO at h
  split at h
  · obtain ⟨h1, rfl, h2⟩ := h
    cases r with
    | obj h3 h4 h5 => exact ⟨_, _, _, _, rfl, h1, h3, h2⟩
  · exact h.elim
theorem binOL {C : Str} {ns : List Str} : OpI K B (rBinO (He.ga K C) (spP K R) (EE K B)) (dBinO B R C ns) := by
  intro F H x y dx dy Qd Q g0 t0 rx ry h k
  obtain ⟨a, d1, f1, c1, rfl, hc1, h1, hh⟩ := asO_of rx h
  obtain ⟨b, d2, f2, c2, rfl, hc2, h2, hhh⟩ := asO_of ry hh
  have e1 : c1 = C := by simpa using hc1
  have e2 : c2 = C := by simpa using hc2
  subst e1
  subst e2
  exact ⟨a, d1, f1, b, d2, f2, rfl, rfl, t0.1 _ _ h1, t0.1 _ _ h2, sp_callG g0 t0 (.cons rx (.cons ry .nil)) k hhh⟩
/-- == and != of an own class: the right one any value with a type that is known -/
def dEqO (B : Bs) (R : RdF) (neg : Bool) (C : Str) (ns cs : List Str) (x y : D) (Q : D → Prop) : Prop := asO [C] ns x ((match y with | .obj c _ _ => c ∈ cs | .ty _ | .glob _ | .tape => False | _ => True) ∧ R [x, y] (fun d => tst d fun b => Q (.bl (neg != b))) B.Ed)
theorem eqOL {C : Str} {ns cs : List Str} {neg : Bool} (hC : OwnC K C) (hc : ∀ c ∈ cs, OwnC K c ∧ PySem.W.notFirst K (He.ga K C) (.ref (He.ga K c)) = true) : OpI K B (rEqO neg K (He.ga K C) (spP K R) (EE K B)) (dEqO B R neg C ns cs) := by
  intro F H x y dx dy Qd Q g0 t0 rx ry h k
  obtain ⟨a, d1, f1, c1, rfl, hc1, h1, ht, hh⟩ := asO_of rx h
  obtain rfl : c1 = C := by simpa using hc1
  have ty : ∃ t, TyX K H y t ∧ PySem.W.notFirst K (He.ga K c1) t = true := by
    cases dy with
    | obj c _ _ => exact ⟨_, tyX_of ry t0.1 rfl (fun _ _ _ z => by cases z; exact (hc _ ht).1), (hc _ ht).2⟩
    | non => exact ⟨_, tyX_of ry t0.1 rfl (fun _ _ _ z => nomatch z), hC.2.nf _ (by decide)⟩
    | bl _ => exact ⟨_, tyX_of ry t0.1 rfl (fun _ _ _ z => nomatch z), hC.2.nf _ (by decide)⟩
    | int _ => exact ⟨_, tyX_of ry t0.1 rfl (fun _ _ _ z => nomatch z), hC.2.nf _ (by decide)⟩
    | str _ => exact ⟨_, tyX_of ry t0.1 rfl (fun _ _ _ z => nomatch z), hC.2.nf _ (by decide)⟩
    | lst _ => exact ⟨_, tyX_of ry t0.1 rfl (fun _ _ _ z => nomatch z), hC.2.nf _ (by decide)⟩
    | tup _ => exact ⟨_, tyX_of ry t0.1 rfl (fun _ _ _ z => nomatch z), hC.2.nf _ (by decide)⟩
    | _ => exact ht.elim
  obtain ⟨t, ty1, ty2⟩ := ty
  refine ⟨a, d1, f1, t, rfl, t0.1 _ _ h1, ty1, ty2, sp_callG g0 t0 (.cons rx (.cons ry .nil)) (fun v F' H' d g t r q => ?_) hh⟩
  unfold tst at q
  split at q
  · cases r
    refine ⟨_, rfl, k _ F' H' _ g t (.bl _) ?_⟩
    cases neg <;> simpa using q
  · exact q.elim
/-- x in o -/
def dInO (B : Bs) (R : RdF) (neg : Bool) (C : Str) (ns : List Str) (x y : D) (Q : D → Prop) : Prop := asO [C] ns y (R [y, x] (fun d => tst d fun b => Q (.bl (neg != b))) B.Ed)
theorem inOL {C : Str} {ns : List Str} {neg : Bool} : OpI K B (rInO neg (He.ga K C) (spP K R) (EE K B)) (dInO B R neg C ns) := by
  intro F H x y dx dy Qd Q g0 t0 rx ry h k
  obtain ⟨a, d1, f1, c1, rfl, hc1, h1, hh⟩ := asO_of ry h
  obtain rfl : c1 = C := by simpa using hc1
  refine ⟨a, d1, f1, rfl, t0.1 _ _ h1, sp_callG g0 t0 (.cons ry (.cons rx .nil)) (fun v F' H' d g t r q => ?_) hh⟩
  unfold tst at q
  split at q
  · cases r
    refine ⟨_, rfl, k _ F' H' _ g t (.bl _) ?_⟩
    cases neg <;> simpa using q
  · exact q.elim
end
end Y
namespace Y
open PySem PySem.Spec PyProof.Rows L2 Z
/-! ### making instances -/
def spI (K : Frg) (C : Str) (R : RdF) : Sp := fun vs H Q E => ∃ ms F Hb x args ds Qd Ed, vs = .ref x :: args ∧ Go ms F Hb F H ∧ Same F Hb ∧ Hb x = none ∧ Tp K ms F H ∧ (∃ dx, H x = some (.ins (He.ga K C) dx [])) ∧ Rps K ms F args ds ∧ R ds Qd Ed ∧
  (∀ F' H' o ns fs, Go ms F Hb F' H' → Tp K ms F' H' → F' x = none → H' x = some o → MoR K ms F' x (.ins x C ns fs) o → Qd (.obj C ns fs) → Q .non H') ∧ (∀ cls d F' H' y, Go ms F Hb F' H' → Tp K ms F' H' → XR K ms F' cls d y → Ed y → E cls d H')
theorem spI_of {K : Frg} {C : Str} {R : RdF} {E : XK} (vs : List V) (H : Hp) (Q : VK) (h : spP K R vs H Q E) : ∀ x dx, H x = none → H dx = none → dx ≠ x → spI K C R (.ref x :: vs) (upd (upd H dx (.own x)) x (.ins (He.ga K C) dx [])) (fun v H2 => v = .non ∧ Q (.ref x) H2) E := by
  obtain ⟨ms, F, ds, Qd, Ed, t, r, h, kq, ke⟩ := h
  intro x dx nx nd ne
  have g1 : Go [] F H F (upd H dx (.own x)) := Go.newM t.1 nd
  have nx1 : (upd H dx (.own x)) x = none := by rw [upd_ne (Ne.symm ne)]; exact nx
  have g2 : Go [] F (upd H dx (.own x)) F (upd (upd H dx (.own x)) x (.ins (He.ga K C) dx [])) := Go.newM g1.fh nx1
  have g12 := g1.trans g2
  have nm := t.nms nx
  refine ⟨ms, F, H, x, vs, ds, Qd, Ed, rfl, g12.nil, t.1, nx, t.go0 g12, ⟨dx, upd_same⟩, r, h, fun F' H' o ns fs g3 t3 fx hx mo q => ⟨rfl, ?_⟩, fun cls d F' H' y g3 t3 xr q => ke cls d F' H' y g3 t3 xr q⟩
  obtain ⟨_, dx', ws, rfl, hl, hr⟩ := mo
  have g4 : Go [x] F' H' (upd F' x (.ins (He.ga K C) dx' (ns.zip ws))) H' := Go.freeze t3.1 fx hx
  have g5 : Go ms F H (upd F' x (.ins (He.ga K C) dx' (ns.zip ws))) H' := ((g3.sub (ms' := x :: ms) fun y hy => List.mem_cons_of_mem _ hy).trans (g4.sub fun y hy => by
    have : y = x := by simpa using hy
    rw [this]; exact List.mem_cons_self)).drop nx
  exact kq _ _ H' _ g5 ⟨g4.fh, fun y m => (t3.2 y m).go g4 (by
    intro z
    have : y = x := by simpa using z
    exact nm (this ▸ m))⟩ (.obj upd_same hl (hr.up g4.ff)) q
def finI (x : Addr) (C : Str) (Q : D → Prop) (ρ : Ev) : Prop := match ρ[0]? with
  | some (Sl.mu (Mo.ins y c ns fs)) => (y = x ∧ c = C) ∧ Q (.obj c ns fs)
  | _ => False
section
variable {P : Program} {w : World} {K : Frg} {mg : Str → Option Value} {base : Heap}
theorem startI_get {N : List Str} {ds : List D} {m : Mo} {j : Nat} : (Sl.mu m :: startE (N.length - 1) ds)[j + 1]? = (startE (N.length - 1) ds)[j]? := List.getElem?_cons_succ
theorem y_initB {C qual : Str} {st : Stmt} {f : Addr} {N ps : List Str} {k : Nat} {R : RdF} (S : FnScope N ps (defScope st)) (len : ∀ ds Q E, R ds Q E → ds.length + 1 = ps.length)
    (hbody : ∀ (cdv : Value) (A : Around) (outer : List Env) (s : Shared) (H : Hp) (E : XK) (B : Bs), Same B.F0 B.H0 → RoomG k (A.deeper (envOfC qual (defScope st) s.heap.objs.size f cdv)) → Px (cxOf (L2.CX P w) P w K mg base N qual (defScope st) f cdv A outer s H E) B →
      PassesOwn (model P w) (cxOf (L2.CX P w) P w K mg base N qual (defScope st) f cdv A outer s H E).A (cxOf (L2.CX P w) P w K mg base N qual (defScope st) f cdv A outer s H E).env (cxOf (L2.CX P w) P w K mg base N qual (defScope st) f cdv A outer s H E).xe →
      ∃ r, PSsp (cxOf (L2.CX P w) P w K mg base N qual (defScope st) f cdv A outer s H E) B (defBody st) r ∧ ∀ x ds Q, R ds Q B.Ed → r (.mu (.ins x C [] []) :: startE (N.length - 1) ds) { nx := finI x C Q, rt := fun _ => False }) (cdv : Value) (A : Around) (outer : List Env) (s : Shared) (H : Hp) (vs : List V) (Q : VK) (E : XK) (hr : RoomG k (A.deeper (envOfC qual (defScope st) s.heap.objs.size f cdv))) (h : spI K C R vs H Q E) :
    ∃ t, PSs (cxOf (L2.CX P w) P w K mg base N qual (defScope st) f cdv A outer s H E) (defBody st) t ∧ t { nx := fun _ H' => Q .non H', rt := Q } (start N vs) H := by
  obtain ⟨ms, F, Hb, x, args, ds, Qd, Ed, rfl, g0, sb, nx, t, ⟨dx, hx⟩, r, h, kq, ke⟩ := h
  obtain ⟨rr, h1, h2⟩ := hbody cdv A outer s H E ⟨ms, F, Hb, Ed⟩ sb hr (px_of fun cls d H' ⟨F', y, g, t', xr, z⟩ => ke cls d F' H' y g t' xr z) po_of
  have hN : 1 ≤ N.length := by
    have e1 := len _ _ _ h
    have e2 := congrArg List.length S.pre
    rw [List.length_take] at e2
    omega
  have nm : x ∉ ms := fun m => by
    have h1 := (t.2 x m).fr
    obtain ⟨_, xs, h2, _⟩ := t.2 x m
    rw [hx] at h2
    cases h2
  have iv : Iv K ⟨ms, F, Hb, Ed⟩ F H (L2.start N (.ref x :: args)) (.mu (.ins x C [] []) :: startE (N.length - 1) ds) := by
    refine ⟨g0, t, ?_, fun i d h => ?_, fun i m h => ?_, fun i j m n a hij h1 h2 h3 => ?_⟩
    · simp [L2.start, startE, r.len]
      omega
    · cases i with
      | zero => cases h
      | succ i =>
        rw [List.getElem?_cons_succ] at h
        unfold startE at h
        have hi : i < ds.length := by
          rcases Nat.lt_or_ge i ds.length with z | z
          · exact z
          · rw [List.getElem?_append_right (by simpa using z), List.getElem?_replicate] at h
            split at h <;> cases h
        rw [List.getElem?_append_left (by simpa using hi), List.getElem?_map, List.getElem?_eq_getElem hi] at h
        have hd : ds[i]? = some d := by
          rw [List.getElem?_eq_getElem hi]
          simpa using h
        obtain ⟨v, h1, h2⟩ := r.get hd
        refine ⟨v, ?_, h2⟩
        unfold L2.start
        rw [List.getElem?_append_left (by simp [r.len]; omega), List.getElem?_map, List.getElem?_cons_succ, h1]
        rfl
    · cases i with
      | zero =>
        cases h
        exact ⟨x, _, rfl, same_none sb nx, nm, nx, hx, rfl, dx, [], rfl, rfl, .nil⟩
      | succ i =>
        exfalso
        rw [List.getElem?_cons_succ] at h
        unfold startE at h
        rcases Nat.lt_or_ge i ds.length with z | z
        · rw [List.getElem?_append_left (by simpa using z), List.getElem?_map, List.getElem?_eq_getElem z] at h
          cases h
        · rw [List.getElem?_append_right (by simpa using z), List.getElem?_replicate] at h
          split at h <;> cases h
    · have key : ∀ (i : Nat) (m : Mo), (Sl.mu (.ins x C [] []) :: startE (N.length - 1) ds)[i]? = some (.mu m) → i = 0 := fun i m h => by
        cases i with
        | zero => rfl
        | succ i =>
          exfalso
          rw [List.getElem?_cons_succ] at h
          unfold startE at h
          rcases Nat.lt_or_ge i ds.length with z | z
          · rw [List.getElem?_append_left (by simpa using z), List.getElem?_map, List.getElem?_eq_getElem z] at h
            cases h
          · rw [List.getElem?_append_right (by simpa using z), List.getElem?_replicate] at h
            split at h <;> cases h
      exact absurd ((key i m h1).trans (key j n h2).symm) hij
  refine ⟨_, h1, F, _, _, iv, h2 x ds Qd h, ?_, ?_, ?_, ?_⟩
  · intro σ' ρ' F' H' _ I' z
    have z' : finI x C Qd ρ' := z
    clear z
    unfold finI at z'
    split at z'
    · rename_i y c ns fs e
      obtain ⟨⟨rfl, rfl⟩, z'⟩ := z'
      obtain ⟨a, o, b1, b2, b3, b4, b5, b6⟩ := I'.own 0 _ e
      obtain ⟨ea, _⟩ := id b6
      subst ea
      exact kq F' H' o ns fs I'.go I'.tp b2 b5 b6 z'
    · exact z'.elim
  · intro v d F' H' g t' r' z
    exact z.elim
  · intro _ _ _ _ _ _ z; exact z
  · intro _ _ _ _ _ _ z; exact z
theorem y_init {C x qual : Str} {st : Stmt} {f : Addr} {N ps : List Str} {k : Nat} {R : RdF} (F : DefAt K x qual st f) (S : FnScope N ps (defScope st)) (len : ∀ ds Q E, R ds Q E → ds.length + 1 = ps.length)
    (hb : ∀ (kV doc pm : Value) (an : Option Addr) (cdv ct : Value) (us : List Value), us.length = ps.length → bindArgs (PySem.W.fnOf x qual (defArgs st) (defBody st) (defScope st) .none kV doc pm an cdv ct) ⟨us, []⟩ = pure (ps.zip us))
    (hbody : ∀ (cdv : Value) (A : Around) (outer : List Env) (s : Shared) (H : Hp) (E : XK) (B : Bs), Same B.F0 B.H0 → RoomG k (A.deeper (envOfC qual (defScope st) s.heap.objs.size f cdv)) → Px (cxOf (L2.CX P w) P w K mg base N qual (defScope st) f cdv A outer s H E) B →
      PassesOwn (model P w) (cxOf (L2.CX P w) P w K mg base N qual (defScope st) f cdv A outer s H E).A (cxOf (L2.CX P w) P w K mg base N qual (defScope st) f cdv A outer s H E).env (cxOf (L2.CX P w) P w K mg base N qual (defScope st) f cdv A outer s H E).xe →
      ∃ r, PSsp (cxOf (L2.CX P w) P w K mg base N qual (defScope st) f cdv A outer s H E) B (defBody st) r ∧ ∀ x ds Q, R ds Q B.Ed → r (.mu (.ins x C [] []) :: startE (N.length - 1) ds) { nx := finI x C Q, rt := fun _ => False }) : FnG P w K mg base (L2.CX P w) (k + 1) f (spI K C R) := by
  exact zfnG F S (fun vs H Q E ⟨ms, F, Hb, x, args, ds, Qd, Ed, e, _, _, _, _, _, r, h, _⟩ => by rw [e, List.length_cons, r.len]; exact len _ _ _ h) hb (y_initB S len hbody)
/-! ### a def with one default -/
def DefAtD (K : Frg) (x qual : Str) (st : Stmt) (f : Addr) (d : D) : Prop := ∃ fd v, L2.FunD K x qual (defArgs st) (defBody st) (defScope st) [v] [] f fd ∧ ∀ ms F, Rp K ms F v d
theorem zfnGD {x qual : Str} {st : Stmt} {f : Addr} {N ps : List Str} {k : Nat} {sp : Sp} {v : V} (F : ∃ fd, L2.FunD K x qual (defArgs st) (defBody st) (defScope st) [v] [] f fd) (S : FnScope N ps (defScope st)) (len : ∀ vs H Q E, sp vs H Q E → vs.length = ps.length)
    (hb0 : ∀ (T : Addr) (kV doc pm : Value) (an : Option Addr) (cdv ct : Value) (us : List Value) (u : Value), us.length + 1 = ps.length → ∃ k, bindArgs (PySem.W.fnOf x qual (defArgs st) (defBody st) (defScope st) (.ref T) kV doc pm an cdv ct) ⟨us, []⟩ = seqItems? (.ref T) >>= k ∧ k (some #[u]) = pure (ps.zip (us ++ [u])))
    (hb1 : ∀ (T : Addr) (kV doc pm : Value) (an : Option Addr) (cdv ct : Value) (us : List Value) (u : Value), us.length = ps.length → ∃ k, bindArgs (PySem.W.fnOf x qual (defArgs st) (defBody st) (defScope st) (.ref T) kV doc pm an cdv ct) ⟨us, []⟩ = seqItems? (.ref T) >>= k ∧ k (some #[u]) = pure (ps.zip us))
    (hbody : ∀ (cdv : Value) (A : Around) (outer : List Env) (s : Shared) (H : Hp) (vs : List V) (Q : VK) (E : XK), RoomG k (A.deeper (envOfC qual (defScope st) s.heap.objs.size f cdv)) → sp vs H Q E →
      ∃ t, PSs (cxOf (L2.CX P w) P w K mg base N qual (defScope st) f cdv A outer s H E) (defBody st) t ∧ t { nx := fun _ H' => Q .non H', rt := Q } (start N vs) H) : FnG P w K mg base (L2.CX P w) (k + 1) f (fun vs H Q E => sp (vs ++ [v]) H Q E ∨ sp vs H Q E) := by
  obtain ⟨fd, F⟩ := F
  obtain ⟨oc, od, dV, kV, doc, pm, an, cdv, ct, osl, rfl, lk, hcd, hD, hK⟩ := F.ex
  rcases hD with ⟨e, _⟩ | ⟨_, T, o, its, m, rfl, lT, oT, rT⟩
  · cases e
  · obtain ⟨u, rfl⟩ : ∃ u, its = [u] := by
      have := rT.length
      match its, this with
      | [u], _ => exact ⟨u, rfl⟩
    intro A outer s H us vs Q E hr e0 r hs
    have KX : K.In s.heap := e0.mod.kin.keeps fun b o e => (e0.bs b o e).1
    rcases hs with hs | hs
    · have hl := len _ _ _ _ hs
      refine StX.run_bnd lk hcd S hr.rm e0 (G := fun xs H2 => xs = vs ++ [v] ∧ H2 = H) (fun A' Ex Q' h => ?_) fun s2 H2 xs g hr' => ?_
      · have hu : us.length + 1 = ps.length := by
          have := r.length
          rw [List.length_append] at hl
          simp only [List.length_cons, List.length_nil] at hl
          omega
        obtain ⟨k, e1, e2⟩ := hb0 T kV doc pm an cdv ct us u hu
        rw [e1]
        refine wpAny_bind (wpAny_seqItems (KX _ _ lT) oT ?_)
        rw [e2]
        exact wpAny_pure (h s H _ _ e0 .refl rfl (fun _ _ z => z) (r.append rT) hl ⟨rfl, rfl⟩)
      · obtain ⟨rfl, rfl⟩ := g
        exact hbody cdv A outer s2 H2 _ Q E ⟨hr', hr.gd⟩ hs
    · have hl := len _ _ _ _ hs
      refine StX.run_bnd lk hcd S hr.rm e0 (G := fun xs H2 => xs = vs ∧ H2 = H) (fun A' Ex Q' h => ?_) fun s2 H2 xs g hr' => ?_
      · have hu : us.length = ps.length := r.length.symm.trans hl
        obtain ⟨k, e1, e2⟩ := hb1 T kV doc pm an cdv ct us u hu
        rw [e1]
        refine wpAny_bind (wpAny_seqItems (KX _ _ lT) oT ?_)
        rw [e2]
        exact wpAny_pure (h s H vs us e0 .refl rfl (fun _ _ z => z) r hl ⟨rfl, rfl⟩)
      · obtain ⟨rfl, rfl⟩ := g
        exact hbody cdv A outer s2 H2 xs Q E ⟨hr', hr.gd⟩ hs
/-- R0 with the default d of its last place -/
def dflR (R0 : RdF) (n : Nat) (d : D) : RdF := fun ds Q E => cond (Nat.beq ds.length n) (R0 (ds ++ [d]) Q E) (R0 ds Q E)
theorem y_initD {C x qual : Str} {st : Stmt} {f : Addr} {N ps : List Str} {k n : Nat} {R : RdF} {d : D} (F : DefAtD K x qual st f d) (S : FnScope N ps (defScope st)) (len : ∀ ds Q E, R ds Q E → ds.length + 1 = ps.length)
    (hb0 : ∀ (T : Addr) (kV doc pm : Value) (an : Option Addr) (cdv ct : Value) (us : List Value) (u : Value), us.length + 1 = ps.length → ∃ k, bindArgs (PySem.W.fnOf x qual (defArgs st) (defBody st) (defScope st) (.ref T) kV doc pm an cdv ct) ⟨us, []⟩ = seqItems? (.ref T) >>= k ∧ k (some #[u]) = pure (ps.zip (us ++ [u])))
    (hb1 : ∀ (T : Addr) (kV doc pm : Value) (an : Option Addr) (cdv ct : Value) (us : List Value) (u : Value), us.length = ps.length → ∃ k, bindArgs (PySem.W.fnOf x qual (defArgs st) (defBody st) (defScope st) (.ref T) kV doc pm an cdv ct) ⟨us, []⟩ = seqItems? (.ref T) >>= k ∧ k (some #[u]) = pure (ps.zip us))
    (hbody : ∀ (cdv : Value) (A : Around) (outer : List Env) (s : Shared) (H : Hp) (E : XK) (B : Bs), Same B.F0 B.H0 → RoomG k (A.deeper (envOfC qual (defScope st) s.heap.objs.size f cdv)) → Px (cxOf (L2.CX P w) P w K mg base N qual (defScope st) f cdv A outer s H E) B →
      PassesOwn (model P w) (cxOf (L2.CX P w) P w K mg base N qual (defScope st) f cdv A outer s H E).A (cxOf (L2.CX P w) P w K mg base N qual (defScope st) f cdv A outer s H E).env (cxOf (L2.CX P w) P w K mg base N qual (defScope st) f cdv A outer s H E).xe →
      ∃ r, PSsp (cxOf (L2.CX P w) P w K mg base N qual (defScope st) f cdv A outer s H E) B (defBody st) r ∧ ∀ x ds Q, R ds Q B.Ed → r (.mu (.ins x C [] []) :: startE (N.length - 1) ds) { nx := finI x C Q, rt := fun _ => False }) : FnG P w K mg base (L2.CX P w) (k + 1) f (spI K C (dflR R n d)) := by
  obtain ⟨fd, v, F, hv⟩ := F
  refine FnG.imp (zfnGD ⟨fd, F⟩ S (fun vs H Q E ⟨ms, F, Hb, x, args, ds, Qd, Ed, e, _, _, _, _, _, r, h, _⟩ => by rw [e, List.length_cons, r.len]; exact len _ _ _ h) hb0 hb1 (y_initB S len hbody)) ?_
  rintro vs H Q E ⟨ms, F, Hb, x, args, ds, Qd, Ed, rfl, h1, h2, h3, h4, h5, h6, h7, h8⟩
  unfold dflR at h7
  cases hb : Nat.beq ds.length n
  · rw [hb] at h7
    exact .inr ⟨ms, F, Hb, x, args, ds, Qd, Ed, rfl, h1, h2, h3, h4, h5, h6, h7, h8⟩
  · rw [hb] at h7
    exact .inl ⟨ms, F, Hb, x, args ++ [v], ds ++ [d], Qd, Ed, rfl, h1, h2, h3, h4, h5, h6.app (.one (hv ms F)), h7, h8⟩
end
end Y
namespace Y
open PySem PySem.Spec PyProof.Rows L2 Z
section
variable {X : Cx} {B : Bs} {K : Frg} {ms : List Addr} {a b c e o : Expr} {es : List Expr} {ra rb rc r ro : Rd} {rt ru : RdT} {rl : RdA} {pos p0 apos : Pos} {R : RdF} {k : Nat} {f g p : Addr} {x m : Str} {s1 s2 : RdS}
theorem y_make {C : Str} (M : Mk X.K (He.ga X.K C) f) (F : FnG X.prog X.w X.K X.mg X.base (L2.CX X.prog X.w) k f (spI X.K C R)) (hr : RoomG (k + 1) X.A) (hg : Gl X C) (hm : X.mg C = some (.ref (He.ga X.K C))) (hx : Px X B) (ha : PAp X B (e :: es) rl) (hdb : (C == ("__debug__" : Str)) = false := by decide)
    (he : starEach (e :: es) X.env = (false, eval e X.env) :: starEach es X.env := by rfl) (hpl : (backTo pos (starEach es X.env)).any (·.1) = false := by rfl) : PEp X B (.Call (.Name C p0) (e :: es) [] pos) (fun ρ Q => rl ρ fun ds => R ds Q B.Ed) :=
  pe_imp (gmake (spM := spP X.K R) (fun vs H Q h x dx h1 h2 h3 => spI_of vs H Q h x dx h1 h2 h3) M F hr hg hm hx ha hdb he hpl) fun σ H Q ⟨F, ρ, Qd, I, z, k⟩ => ⟨F, ρ, _, I, z, fun vs F1 H1 ds g1 t1 r1 z1 => sp_call I k g1 t1 r1 z1⟩
def putM (C : Str) (ns : List Str) (fl : Str) (i : Nat) (ρ : Ev) (d : D) (Q : Ev → Prop) : Prop := match ρ[i]? with
  | some (Sl.mu (Mo.ins y c n ds)) => (c = C ∧ n = ns) ∧ Q (ρ.set i (.mu (.ins y C (ns ++ [fl]) (ds ++ [d]))))
  | _ => False
theorem putF_new {f : Str} {v : V} : ∀ {ns : List Str} {vs : List V}, ns.length = vs.length → (ns.all fun y => !(f == y)) = true → putF f v (ns.zip vs) = (ns ++ [f]).zip (vs ++ [v])
  | [], [], _, _ => rfl
  | n :: ns, u :: vs, hl, h => by
    rw [List.all_cons, Bool.and_eq_true] at h
    have h1 : ¬ n = f := fun e => by
      have := h.1
      rw [e] at this
      simp at this
    show putF f v ((n, u) :: ns.zip vs) = (n, u) :: (ns ++ [f]).zip (vs ++ [v])
    unfold putF
    rw [if_neg h1, putF_new (by simpa using hl) h.2]
  | [], _ :: _, hl, _ => by simp at hl
  | _ :: _, [], hl, _ => by simp at hl
/-- self.f = v in the making -/
def gFld (K : Frg) (ta : TE) (f : Str) : TG := fun v σ H Q => ta σ H fun x H2 => ∃ a C dx fs, x = .ref a ∧ H2 a = some (.ins C dx fs) ∧ Cls K C ∧ NoAttr K C f ∧ fs.length < 1000 ∧ Q σ (upd H2 a (.ins C dx (putF f v fs)))
theorem pg_fld {ta : TE} {fl : Str} (ha : PE X o ta) : PG X (.Attribute o fl pos) (gFld X.K ta fl) := by
  refine ⟨fun pins s σ H v u Q I r h => ?_⟩
  refine PySem.W.kas_attr (thn (ha.run pins s σ H _ I h) fun ov s2 ⟨x, H2, I2, rx, a, C, dx, fs, ex, ea, c, n, l, q2⟩ => ?_)
  subst ex
  obtain rfl : ov = Value.ref a := rx
  exact setattr_ok I2 ea c n l r fun s3 I3 => ⟨σ, _, I3, q2⟩
theorem fld_run {C fl : Str} {ns : List Str} {i : Nat} {F H : Hp} {σ : L2.St} {ρ : Ev} {v : V} {d : D} {Qd : Ev → Prop} {Q : L2.St → Hp → Prop} (hc : Cls K (He.ga K C)) (hn : NoAttr K (He.ga K C) fl) (hf : (ns.all fun y => !(fl == y)) = true) (hl : ns.length < 1000) (I : Iv K B F H σ ρ) (r : Rp K B.ms F v d) (z : putM C ns fl i ρ d Qd)
    (kk : ∀ ρ' H', Iv K B F H' σ ρ' → Qd ρ' → Q σ H') : gFld K (tVar i) fl v σ H Q := by
  unfold putM at z
  split at z
  · rename_i y c n ds e
    obtain ⟨⟨rfl, rfl⟩, z⟩ := z
    obtain ⟨a, oo, h1, fa, nm, h0, h5, ey, dx, vs, rfl, h6, h7⟩ := I.own i _ e
    subst ey
    refine ⟨.ref y, h1, y, _, dx, _, rfl, h5, hc, hn, ?_, kk _ _ (I.put (m' := .ins y c (n ++ [fl]) (ds ++ [d])) i e h1 rfl ⟨rfl, dx, vs ++ [v], by rw [putF_new h6 hf], by simp [h6], h7.app (.one r)⟩) z⟩
    rw [List.length_zip]
    omega
  · exact z.elim
theorem s_fld {C fl : Str} {ns : List Str} {i : Nat} {ox : Str} {op pos' : Pos} (hc : Cls X.K (He.ga X.K C)) (hn : NoAttr X.K (He.ga X.K C) fl) (hv : PE X (.Name ox op) (tVar i)) (he : PEp X B e r) (hs : swapsWith e (some (.Attribute (.Name ox op) fl pos')) pos.line X.env = pure false := by rfl)
    (hf : (ns.all fun y => !(fl == y)) = true := by decide +kernel) (hl : ns.length < 1000 := by decide) : PSp X B (.Assign [.Attribute (.Name ox op) fl pos'] e pos) (fun ρ E => r ρ fun d => putM C ns fl i ρ d E.nx) :=
  ps_imp (ps_fld hv he hs) fun σ H Dd ⟨F, ρ, E, I, z, kn, kr, kb, kc⟩ => ⟨F, ρ, _, I, z, fun v F1 H1 d g1 t1 r1 z1 => by
    exact fld_run hc hn hf hl (I.step g1 t1) r1 z1 fun ρ' H' I' z' => kn σ ρ' F1 H' g1.ff I' z'⟩
/-- self.f, self.g = e -/
theorem s_fld2 {C f1 f2 : Str} {ns : List Str} {i : Nat} {ox oy : Str} {op oq p1 p2 tp : Pos} {kt : Nat} (hcm : X.calm = true) (hc : Cls X.K (He.ga X.K C)) (hn1 : NoAttr X.K (He.ga X.K C) f1) (hn2 : NoAttr X.K (He.ga X.K C) f2) (hv : PE X (.Name ox op) (tVar i)) (hv2 : PE X (.Name oy oq) (tVar i)) (he : PEp X B e r)
    (hs : swapsWithSole [.Tuple [.Attribute (.Name ox op) f1 p1, .Attribute (.Name oy oq) f2 p2] kt tp] e pos.line X.env = pure false := by rfl) (hw : swappedStores [.Tuple [.Attribute (.Name ox op) f1 p1, .Attribute (.Name oy oq) f2 p2] kt tp] e X.env = pure none := by rfl)
    (hf1 : (ns.all fun y => !(f1 == y)) = true := by decide +kernel) (hf2 : ((ns ++ [f1]).all fun y => !(f2 == y)) = true := by decide +kernel) (hl : ns.length < 900 := by decide) :
    PSp X B (.Assign [.Tuple [.Attribute (.Name ox op) f1 p1, .Attribute (.Name oy oq) f2 p2] kt tp] e pos) (fun ρ E => r ρ fun d => match d with | .tup [d1, d2] => putM C ns f1 i ρ d1 fun ρ1 => putM C (ns ++ [f1]) f2 i ρ1 d2 E.nx | _ => False) :=
  ps_imp (ps_asg (tg := .Tuple [.Attribute (.Name ox op) f1 p1, .Attribute (.Name oy oq) f2 p2] kt tp) he (pg_tup (n := 2) hcm (pgs_cons (pg_fld hv) (pgs_cons (pg_fld hv2) pgs_nil))) hs hw) fun σ H Dd ⟨F, ρ, E, I, z, kn, kr, kb, kc⟩ => ⟨F, ρ, _, I, z, fun v F1 H1 d g1 t1 r1 z1 => by
    split at z1
    · rename_i d1 d2
      cases r1 with
      | tup h1 h2 =>
        obtain ⟨v1, v2, rfl, q1, q2⟩ := rps2 h2
        refine ⟨_, _, rfl, sqT t1.1 h1, rfl, v1, [v2], rfl, fld_run hc hn1 hf1 (by omega) (I.step g1 t1) q1 z1 fun ρ' H' I' z' => ⟨v2, [], rfl, fld_run hc hn2 hf2 (by rw [List.length_append]; show ns.length + 1 < 1000; omega) I' q2 z' fun ρ2 H2 I2 z2 => ⟨rfl, kn σ ρ2 F1 H2 g1.ff I2 z2⟩⟩⟩
    · exact z1.elim⟩
/-! ### static methods, class methods -/
structure SMet (K : Frg) (C : Addr) (m : Str) (p g : Addr) : Prop where
  rd : ClX.CRead K C (.type "type")
  at_ : PySem.W.findCls K (.ref C) (.type "type") m = some (.get (.builtin "staticmethod.__get__") (.ref p) .none (.ref C))
  rc : ∃ rest, PySem.W.recIn K p "staticmethod" = some (.ref g :: rest)
  kp : PySem.W.keepIn K (.ref g) = true
theorem getsm {C : Addr} {pins : List (Addr × Obj)} {σ : L2.St} {H : Hp} {s : Shared} {A : Around} {E : Value → Shared → Prop} {pl : Sem Bool} {Q : Value × List Value → Shared → Prop} (I : L2.Inv X pins σ H s) (k : SMet X.K C m p g) (h : ∀ s', L2.Inv X pins σ H s' → Q (.ref g, []) s') : wpAny (model X.prog X.w) A (getMethod (.ref C) m pl) Q E s := by
  obtain ⟨rest, hp⟩ := k.rc
  refine PySem.W.method_cls I.kIn k.rd.ga (PySem.W.cls_bind I.kIn k.rd.rd k.at_ ?_)
  refine wpAny_call (PySem.W.sm_get (s := { s with toks := s.toks + 1 }) I.kIn hp (PySem.W.handed_on rfl ?_))
  exact h _ (I.tok _)
theorem y_smeth {C : Str} {pl : Sem Bool} {cp : Pos} (hg : Gl X C) (hm : X.mg C = some (.ref (He.ga X.K C))) (k0 : SMet X.K (He.ga X.K C) m p g) (F : FnG X.prog X.w X.K X.mg X.base (L2.CX X.prog X.w) k g (spP X.K R)) (hr : RoomG k X.A) (hx : Px X B) (ha : PAp X B (e :: es) rl) (hdb : (C == ("__debug__" : Str)) = false := by decide)
    (hst : starEach (e :: es) X.env = (false, eval e X.env) :: starEach es X.env := by rfl) (hpl : (backTo pos (starEach es X.env)).any (·.1) = false := by rfl)
    (ht : eval (.Call (.Attribute (.Name C cp) m apos) (e :: es) [] pos) X.env = (do
      let ov ← eval (.Name C cp) X.env
      standAt apos.atName
      let (f, first) ← holding [ov] (getMethod ov m pl)
      callWith pos f first (backTo pos (starEach (e :: es) X.env)) (backToKw pos (keywordEach [] X.env))) := by rfl) :
    PEp X B (.Call (.Attribute (.Name C cp) m apos) (e :: es) [] pos) (fun ρ Q => rl ρ fun ds => R ds Q B.Ed) := by
  refine ⟨fun pins s σ H Q I h => ?_⟩
  obtain ⟨F0, ρ, Qd, J, z, kk⟩ := h
  refine PySem.W.methodCall_KW (pl := pl) (ld_glob I hg hm ?_ hdb) ht
  refine getsm I k0 fun s1 I1 => ?_
  refine PySem.W.callWith_K (first := []) (h₀ := X.base) I.ok.mod.kin k0.kp (thn (ha.run pos pins s1 σ H (fun vs H2 => ∃ F2 ds', Go B.ms F0 H F2 H2 ∧ Tp X.K B.ms F2 H2 ∧ Rps X.K B.ms F2 vs ds' ∧ R ds' Qd B.Ed) I1 ⟨F0, ρ, _, J, z, fun vs F2 H2 ds g2 t2 r2 z3 => ⟨F2, ds, g2, t2, r2, z3⟩⟩) fun us s2 ⟨vs', H2, I2, rv, F2, ds', g2, t2, r2, z3⟩ => ⟨I2.kIn, ?_⟩) hst hpl
  exact wpAny_call (run_fnA (us := us) (vs := vs') (F.at hr) hx I2 rv (sp_call J kk g2 t2 r2 z3))
/-- C.m(*e) -/
def starD (d : D) (Q : List D → Prop) : Prop := match d with
  | .lst ds => Q ds
  | .tup ds => Q ds
  | _ => False
theorem getsmA {C : Addr} {pins : List (Addr × Obj)} {σ : L2.St} {H : Hp} {s : Shared} {A : Around} {E : Value → Shared → Prop} {ex : Bool} {Q : Value → Shared → Prop} (I : L2.Inv X pins σ H s) (k : SMet X.K C m p g) (h : ∀ s', L2.Inv X pins σ H s' → Q (.ref g) s') : wpAny (model X.prog X.w) A (getAttr (.ref C) m ex) Q E s := by
  obtain ⟨rest, hp⟩ := k.rc
  refine PySem.W.cls_bind I.kIn k.rd.rd k.at_ ?_
  refine wpAny_call (PySem.W.sm_get (s := { s with toks := s.toks + 1 }) I.kIn hp (PySem.W.handed_on rfl ?_))
  exact h _ (I.tok _)
theorem y_smethS {C : Str} {cp sp_ : Pos} (hg : Gl X C) (hm : X.mg C = some (.ref (He.ga X.K C))) (k0 : SMet X.K (He.ga X.K C) m p g) (F : FnG X.prog X.w X.K X.mg X.base (L2.CX X.prog X.w) k g (spP X.K R)) (hr : RoomG k X.A) (hx : Px X B) (he : PEp X B e r) (hdb : (C == ("__debug__" : Str)) = false := by decide)
    (hst : starEach [.Starred e sp_] X.env = [(true, eval e X.env)] := by rfl)
    (ht : eval (.Call (.Attribute (.Name C cp) m apos) [.Starred e sp_] [] pos) X.env = (do
      let ov ← eval (.Name C cp) X.env
      standAt apos.atName
      let (f, first) ← holding [ov] (do pure (← getAttr ov m true, []))
      callWith pos f first (backTo pos (starEach [.Starred e sp_] X.env)) (backToKw pos (keywordEach [] X.env))) := by rfl) :
    PEp X B (.Call (.Attribute (.Name C cp) m apos) [.Starred e sp_] [] pos) (fun ρ Q => r ρ fun d => starD d fun ds => R ds Q B.Ed) := by
  refine ⟨fun pins s σ H Q I h => ?_⟩
  obtain ⟨F0, ρ, Qd, J, z, kk⟩ := h
  rw [ht]
  refine wpAny_bind (ld_glob I hg hm ?_ hdb)
  refine wpAny_bind (wpAny_standAt (wpAny_bind (wpAny_holding (wpAny_bind (getsmA I k0 fun s1 I1 => wpAny_pure ?_)))))
  refine PySem.W.callWith_S (h₀ := X.base) I.ok.mod.kin k0.kp (thn (he.run pins s1 σ H (fun v H2 => ∃ F2 d, Go B.ms F0 H F2 H2 ∧ Tp X.K B.ms F2 H2 ∧ Rp X.K B.ms F2 v d ∧ starD d fun ds => R ds Qd B.Ed) I1 ⟨F0, ρ, _, J, z, fun v F2 H2 d g2 t2 r2 z3 => ⟨F2, d, g2, t2, r2, z3⟩⟩) fun v s2 ⟨y, H2, I2, ry, F2, d, g2, t2, r2, z3⟩ => ?_) hst
  unfold starD at z3
  split at z3
  · cases r2 with
    | lst h1 h2 =>
      obtain rfl : v = Value.ref _ := ry
      exact StX.star_any I2 (.inr (SqL.of (t2.1 _ _ h1))) fun us s3 I3 rv => ⟨I3.kIn, wpAny_call (run_fnA (F.at hr) hx I3 rv (sp_call J kk g2 t2 h2 z3))⟩
  · cases r2 with
    | tup h1 h2 =>
      obtain rfl : v = Value.ref _ := ry
      exact StX.star_any I2 (.inl (sqT t2.1 h1)) fun us s3 I3 rv => ⟨I3.kIn, wpAny_call (run_fnA (F.at hr) hx I3 rv (sp_call J kk g2 t2 h2 z3))⟩
  · exact z3.elim
/-- C.m(), a class method -/
theorem y_cmeth0 {C : Str} {pl : Sem Bool} {cp : Pos} (hg : Gl X C) (hm : X.mg C = some (.ref (He.ga X.K C))) (rd : ClX.CRead X.K (He.ga X.K C) (.type "type")) (k0 : ClX.CMet X.K (He.ga X.K C) (.type "type") m p g) (F : FnG X.prog X.w X.K X.mg X.base (L2.CX X.prog X.w) k g (spP X.K R)) (hr : RoomG k X.A) (hx : Px X B) (hdb : (C == ("__debug__" : Str)) = false := by decide)
    (ht : eval (.Call (.Attribute (.Name C cp) m apos) [] [] pos) X.env = (do
      let ov ← eval (.Name C cp) X.env
      standAt apos.atName
      let (f, first) ← holding [ov] (getMethod ov m pl)
      callWith pos f first (backTo pos (starEach [] X.env)) (backToKw pos (keywordEach [] X.env))) := by rfl) :
    PEp X B (.Call (.Attribute (.Name C cp) m apos) [] [] pos) (fun ρ Q => R [.glob C] Q B.Ed) := by
  refine ⟨fun pins s σ H Q I h => ?_⟩
  obtain ⟨F0, ρ, Qd, J, z, kk⟩ := h
  refine PySem.W.methodCall_KW (pl := pl) (ld_glob I hg hm ?_ hdb) ht
  refine ClX.getmethcm_ok I rd k0 fun s1 I1 => ?_
  refine PySem.W.callWith_M0 (first := []) ⟨ClX.pin_at I1, I1.kIn⟩ k0.fi ?_
  exact run_cmA (us := []) (vs := []) (F.at hr) hx I1 .nil (sp_call (vs := [.ref _]) J kk (Go.refl J.same) J.tp (.cons (.glob C) .nil) z)
end
end Y
namespace Y
open PySem PySem.Spec PyProof.Rows L2 Z
section
variable {P : Program} {w : World} {K : Frg} {mg : Str → Option Value} {base : Heap}
/-- def f(*v) -/
theorem y_fnS {x qual pv : Str} {st : Stmt} {f : Addr} {N : List Str} {k : Nat} {R : RdF} (F : DefAt K x qual st f) (S : FnScope N [pv] (defScope st)) (len : ∀ ds Q E, R ds Q E → ds.length ≤ 100000)
    (hb : ∀ (kV doc pm : Value) (an : Option Addr) (cdv ct : Value) (rest : List Value), bindArgs (PySem.W.fnOf x qual (defArgs st) (defBody st) (defScope st) .none kV doc pm an cdv ct) ⟨rest, []⟩ = (newTuple rest >>= fun t => pure [(pv, t)]))
    (hbody : ∀ (cdv : Value) (A : Around) (outer : List Env) (s : Shared) (H : Hp) (E : XK) (B : Bs), Same B.F0 B.H0 → RoomG k (A.deeper (envOfC qual (defScope st) s.heap.objs.size f cdv)) → Px (cxOf (L2.CX P w) P w K mg base N qual (defScope st) f cdv A outer s H E) B →
      PassesOwn (model P w) (cxOf (L2.CX P w) P w K mg base N qual (defScope st) f cdv A outer s H E).A (cxOf (L2.CX P w) P w K mg base N qual (defScope st) f cdv A outer s H E).env (cxOf (L2.CX P w) P w K mg base N qual (defScope st) f cdv A outer s H E).xe →
      ∃ r, PSsp (cxOf (L2.CX P w) P w K mg base N qual (defScope st) f cdv A outer s H E) B (defBody st) r ∧ ∀ ds Q, R ds Q B.Ed → r (startE N.length [.tup ds]) { nx := fun _ => Q .non, rt := Q }) : FnG P w K mg base (L2.CX P w) (k + 1) f (spP K R) := by
  refine (zfnSG (sp := spP K (ar1 fun d Q E => starD d fun ds => d = .tup ds ∧ R ds Q E)) F S hb fun cdv A outer s H vs Q E hr h => ?_).imp fun vs H Q E h => ?_
  · obtain ⟨ms, F, ds, Qd, Ed, t, r, h, kq, ke⟩ := h
    unfold ar1 at h
    split at h
    · rename_i d
      unfold starD at h
      split at h
      · exact absurd h.1 (fun z => nomatch z)
      · rename_i ds
        obtain ⟨rr, h1, h2⟩ := hbody cdv A outer s H E ⟨ms, F, H, Ed⟩ t.1 hr (px_of fun cls d H' ⟨F', x, g, t', xr, z⟩ => ke cls d F' H' x g t' xr z) po_of
        refine ⟨_, h1, F, _, _, iv_start (B := ⟨ms, F, H, Ed⟩) t r, h2 ds Qd h.2, ?_, ?_, ?_, ?_⟩
        · intro σ' ρ' F' H' _ I' z
          exact kq .non F' H' .non I'.go I'.tp .non z
        · intro v d F' H' g t' r' z
          exact kq v F' H' d g t' r' z
        · intro _ _ _ _ _ _ z; exact z
        · intro _ _ _ _ _ _ z; exact z
      · exact h.elim
    · exact h.elim
  · obtain ⟨ms, F, ds, Qd, Ed, t, r, h, kq, ke⟩ := h
    refine ⟨by rw [r.len]; exact Nat.le_trans (len _ _ _ h) line_ge, fun p hp => ?_⟩
    obtain ⟨F2, g2, q2, _⟩ := newE t.1 hp rfl
    exact ⟨ms, F2, [.tup ds], Qd, Ed, t.go0 g2, .cons (.tup (SqT.of q2) (r.up g2.ff)) .nil, ⟨rfl, h⟩, fun v F' H' d g t' r' q => kq v F' H' d (g2.nil.trans g) t' r' q, fun cls d F' H' x g t' xr q => ke cls d F' H' x (g2.nil.trans g) t' xr q⟩
/-- the tape's draw, as a plain promise -/
def rDraw : RdF := ar2 fun t n Q _ => match t, n with
  | .tape, .int n => (0 < n ∧ Sz 8000 n) ∧ ∀ d, 0 ≤ d → d < n → Q (.int d)
  | _, _ => False
theorem draw_of {k : Nat} {f : Addr} {CX : CXT} (F : FnR P w K mg base CX k f (spDraw K)) : FnG P w K mg base CX k f (spP K rDraw) := (FnG.of F).imp fun vs H Q E h => by
  obtain ⟨ms, F, ds, Qd, Ed, t, r, h, kq, ke⟩ := h
  unfold rDraw ar2 at h
  split at h
  · split at h
    · obtain ⟨v, u, rfl, r1, r2⟩ := rps2 r
      cases r2
      cases r1 with
      | @tape tt mt =>
        refine ⟨_, _, rfl, F, tt, _, rfl, rfl, t.1, t.2 _ mt, h.1.1, szLog h.1.2, fun d H' d0 d1 g tp => ?_⟩
        refine kq _ F H' _ (g.sub fun y hy => ?_) ⟨g.fh, fun y my => ?_⟩ (.int d) (h.2 d d0 d1)
        · have : y = tt := by simpa using hy
          rw [this]; exact mt
        · by_cases e : y = tt
          · subst e; exact tp
          · exact (t.2 y my).go g (by simpa using e)
    · exact h.elim
  · exact h.elim
/-- the law: the tape first, then its own body -/
theorem y_law {qual px : Str} {st : Stmt} {f : Addr} {N : List Str} {k i : Nat} {xt : Str} {pt pc pn pa pp : Pos} {rest : List Stmt} (F : DefAt K "law" qual st f) (S : FnScope N [px] (defScope st))
    (hb : ∀ (kV doc pm : Value) (an : Option Addr) (cdv ct : Value) (us : List Value), us.length = 1 → bindArgs (PySem.W.fnOf "law" qual (defArgs st) (defBody st) (defScope st) .none kV doc pm an cdv ct) ⟨us, []⟩ = pure ([px].zip us))
    (hs : defBody st = .Assign [.Name xt pt] (.Call (.Name "_law_tape" pn) [.Name px pa] [] pc) pp :: rest)
    (FT : ∀ base, FnR P w K mg base (L2.CX P w) 1 (He.ga K "_law_tape") (spTape K)) (mt : mg "_law_tape" = some (.ref (He.ga K "_law_tape"))) (kt : PySem.W.keepIn K (.ref (He.ga K "_law_tape")) = true) (hk : 1 ≤ k) (h0 : N[0]? = some px) (hi : N[i]? = some xt) (hi0 : i ≠ 0)
    (hgl : ∀ cdv (s : Shared), (envOfC qual (defScope st) s.heap.objs.size f cdv).kindOf "_law_tape" = some .globalImplicit) (hvis : Vis (defScope st) px) (hloc : Loc (defScope st) xt)
    (hsw : ∀ cdv (s : Shared), swapsWith (.Call (.Name "_law_tape" pn) [.Name px pa] [] pc) (some (.Name xt pt)) pp.line (envOfC qual (defScope st) s.heap.objs.size f cdv) = pure false)
    (hst : ∀ cdv (s : Shared), starEach [.Name px pa] (envOfC qual (defScope st) s.heap.objs.size f cdv) = (false, eval (.Name px pa) (envOfC qual (defScope st) s.heap.objs.size f cdv)) :: starEach [] (envOfC qual (defScope st) s.heap.objs.size f cdv))
    (hpx : (px == ("__debug__" : Str)) = false) (hpc : (px == ("__classdict__" : Str)) = false)
    (hbody : ∀ (base : Heap) (cdv : Value) (A : Around) (outer : List Env) (s : Shared) (H : Hp) (E : XK) (B : Bs), Same B.F0 B.H0 → (∀ x, ¬ B.Ed x) → RoomG k (A.deeper (envOfC qual (defScope st) s.heap.objs.size f cdv)) → Px (cxOf (L2.CX P w) P w K mg base N qual (defScope st) f cdv A outer s H E) B →
      PassesOwn (model P w) (cxOf (L2.CX P w) P w K mg base N qual (defScope st) f cdv A outer s H E).A (cxOf (L2.CX P w) P w K mg base N qual (defScope st) f cdv A outer s H E).env (cxOf (L2.CX P w) P w K mg base N qual (defScope st) f cdv A outer s H E).xe →
      ∃ r, PSsp (cxOf (L2.CX P w) P w K mg base N qual (defScope st) f cdv A outer s H E) B rest r ∧ r ((List.replicate N.length .no).set i (.val .tape)) { nx := fun _ => False, rt := fun d => d = .bl true }) : ∀ base : Heap, FnG P w K mg base (L2.CX P w) (k + 1) f (spLaw K) := by
  refine fun base => zfnG F S len1 hb fun cdv A outer s H vs Q E hr h => ?_
  obtain ⟨_, rfl, sa, ns, rfl, hl, hS, kk⟩ := h
  have po := po_of (P := P) (w := w) (K := K) (mg := mg) (base := base) (N := N) (qual := qual) (scope := defScope st) (f := f) (cdv := cdv) (A := A) (outer := outer) (s := s) (H := H) (E := E)
  have key : ∀ (t : Addr) (F1 H1 : Hp), ∃ r, PSsp (cxOf (L2.CX P w) P w K mg base N qual (defScope st) f cdv A outer s H E) ⟨[t], F1, H1, fun _ => False⟩ rest r ∧ (Same F1 H1 → r ((List.replicate N.length .no).set i (.val .tape)) { nx := fun _ => False, rt := fun d => d = .bl true }) := fun t F1 H1 => by
    by_cases hs : Same F1 H1
    · obtain ⟨r, h1, h2⟩ := hbody base cdv A outer s H E ⟨[t], F1, H1, fun _ => False⟩ hs (fun _ z => z) hr (px_of fun cls d H' ⟨F', x, g, t', xr, z⟩ => z.elim) po
      exact ⟨r, h1, fun _ => h2⟩
    · exact ⟨fun _ _ => False, pss_imp pss_never fun σ H Dd ⟨F, ρ, E, I, z, _⟩ => z, fun z => absurd z hs⟩
  rw [hs]
  refine ⟨_, pss_cons (t := tAsg (tFn (spTape K) E0 (tCons (tVar 0) tNil)) (gName i)) (u := fun Dd σ H' => ∃ (t : Addr) (F1 H1 : Hp) (r : RdS), PSsp (cxOf (L2.CX P w) P w K mg base N qual (defScope st) f cdv A outer s H E) ⟨[t], F1, H1, fun _ => False⟩ rest r ∧ tS K ⟨[t], F1, H1, fun _ => False⟩ r Dd σ H') ?_ ⟨fun pins s' σ H' D I ⟨t, F1, H1, r, hr, z⟩ => hr.run pins s' σ H' D I z⟩, ?_⟩
  · refine ps_set S.nd hi hloc (zcall (FT base) (hr.rm.mono hk) (hgl cdv s) mt kt passL (pa_cons (pe_var h0 hvis hpx hpc) pa_nil (hst cdv s)) (by decide) (hst cdv s) rfl) (hsw cdv s) (.inl rfl)
  · refine ⟨_, rfl, _, rfl, H, sa, ns, rfl, Same.refl _, hS, fun t F1 H1 g1 tp => ?_⟩
    obtain ⟨r, h1, h2⟩ := key t F1 H1
    refine ⟨t, F1, H1, r, h1, F1, _, _, ?_, h2 g1.fh, ?_, ?_, ?_, ?_⟩
    · have e : ∀ j : Nat, j ≠ i → ((List.replicate N.length Sl.no).set i (.val .tape))[j]? = if j < N.length then some .no else none := fun j hj => by
        rw [List.getElem?_set_ne (Ne.symm hj), List.getElem?_replicate]
      have hin : i < N.length := by
        rcases Nat.lt_or_ge i N.length with z | z
        · exact z
        · rw [List.getElem?_eq_none z] at hi; cases hi
      have hN1 : 1 ≤ N.length := by omega
      refine ⟨Go.refl g1.fh, ⟨g1.fh, fun y hy => ?_⟩, ?_, fun j d hd => ?_, fun j m hm => ?_, fun j j' m n a hjj h1 h2 h3 => ?_⟩
      · have : y = t := by simpa using hy
        rw [this]; exact tp
      · simp [L2.start]; omega
      · by_cases hj : j = i
        · subst hj
          rw [List.getElem?_set_self (by simpa using hin)] at hd
          cases hd
          exact ⟨.ref t, List.getElem?_set_self (by simp [L2.start]; omega), .tape (by simp)⟩
        · rw [e j hj] at hd
          split at hd <;> cases hd
      · by_cases hj : j = i
        · subst hj
          rw [List.getElem?_set_self (by simpa using hin)] at hm
          cases hm
        · rw [e j hj] at hm
          split at hm <;> cases hm
      · exfalso
        by_cases hj : j = i
        · subst hj
          rw [List.getElem?_set_self (by simpa using hin)] at h1
          cases h1
        · rw [e j hj] at h1
          split at h1 <;> cases h1
    · intro _ _ _ _ _ _ z; exact z.elim
    · intro v d F' H' _ _ rr z
      have z' : d = .bl true := z
      subst z'
      cases rr
      exact kk H'
    · intro _ _ _ _ _ _ z; exact z
    · intro _ _ _ _ _ _ z; exact z
end
/-! ### texts -/
def strsOf : List D → Option (List Str)
  | [] => some []
  | .str b :: ds => (strsOf ds).map (b :: ·)
  | _ => none
theorem strsOf_map : ∀ {ds : List D} {bs : List Str}, strsOf ds = some bs → ds = bs.map D.str
  | [], _, h => by cases h; rfl
  | .str b :: ds, _, h => by
    unfold strsOf at h
    obtain ⟨r, h1, rfl⟩ := Option.map_eq_some_iff.mp h
    rw [strsOf_map h1]
    rfl
  | .non :: _, _, h => by simp [strsOf] at h
  | .int _ :: _, _, h => by simp [strsOf] at h
  | .bl _ :: _, _, h => by simp [strsOf] at h
  | .lst _ :: _, _, h => by simp [strsOf] at h
  | .tup _ :: _, _, h => by simp [strsOf] at h
  | .obj _ _ _ :: _, _, h => by simp [strsOf] at h
  | .ty _ :: _, _, h => by simp [strsOf] at h
  | .glob _ :: _, _, h => by simp [strsOf] at h
  | .tape :: _, _, h => by simp [strsOf] at h
def dJoin (x y : D) (Q : D → Prop) : Prop := match x, y with
  | .str a, .lst ds => (match strsOf ds with | some ys => (ys.map (·.length)).sum + ys.length * a.length ≤ 100000 ∧ Q (.str (Txt.join a ys)) | none => False)
  | _, _ => False
section
variable {X : Cx} {B : Bs} {K : Frg} {ms : List Addr} {a b c e o : Expr} {es : List Expr} {ra rb rc r ro : Rd} {rt ru : RdT} {rl : RdA} {pos p0 apos : Pos}
def isS (x : D) (k : Prop) : Prop := match x with
  | .str _ => k
  | _ => False
theorem isS_of {F : Hp} {v : V} {d : D} {k : Prop} (r : Rp K ms F v d) (h : isS d k) : (∃ a, v = .str a) ∧ k := by
  unfold isS at h
  split at h
  · cases r; exact ⟨⟨_, rfl⟩, h⟩
  · exact h.elim
theorem y_join (ho : PEp X B o ro) (he : PEp X B e r) (hs : starEach [e] X.env = [(false, eval e X.env)] := by rfl) (hbase : attributeBase o "join" X.env (eval o X.env) = eval o X.env := by rfl) (hline : (apos.endLine == pos.line) = true := by rfl) :
    PEp X B (.Call (.Attribute o "join" apos) [e] [] pos) (fun ρ Q => ro ρ fun x => isS x (r ρ fun y => dJoin x y Q)) := by
  refine pe_imp (pe_join ho he hs hbase hline) fun σ H Q ⟨F, ρ, Qd, I, z, k⟩ => ⟨F, ρ, _, I, z, fun v F1 H1 d g1 t1 r1 z1 => ?_⟩
  obtain ⟨⟨a, rfl⟩, z2⟩ := isS_of r1 z1
  cases r1
  refine ⟨⟨a, rfl⟩, F1, ρ, _, I.step g1 t1, z2, fun u F2 H2 d2 g2 t2 r2 z3 => ?_⟩
  unfold dJoin at z3
  split at z3
  · rename_i a' ds e1
    cases e1
    split at z3
    · rename_i ys e
      obtain rfl := strsOf_map e
      cases r2 with
      | lst h1 h2 =>
        have e2 := h2.strs
        subst e2
        exact ⟨_, _, ys, rfl, rfl, .inl (SqL.of (t2.1 _ _ h1)), Nat.le_trans z3.1 (by decide), k _ F2 H2 _ (g1.trans g2) t2 (.str _) z3.2⟩
    · exact z3.elim
  · exact z3.elim
end
theorem hu65 {k : Nat} {A : Around} (r : RoomG k A) : A.units + 65 < cLine := by have := r.rm.un; omega
theorem all0 {p : Str → Prop} : ∀ c ∈ ([] : List Str), p c := fun _ h => nomatch h
theorem all1 {p : Str → Prop} {C : Str} (h : p C) : ∀ c ∈ [C], p c := fun c hc => by
  have : c = C := by simpa using hc
  rw [this]; exact h
theorem all2 {p : Str → Prop} {C D : Str} (h : p C) (h' : p D) : ∀ c ∈ [C, D], p c := fun c hc => by
  rcases List.mem_cons.mp hc with rfl | hc
  · exact h
  · exact all1 h' c hc
theorem nf_self {K : Frg} {C : Addr} : PySem.W.notFirst K C (.ref C) = true := by simp [PySem.W.notFirst]
theorem ar0E {P} {ds : List D} {Q E} (h : ar0 P ds Q E) : ds = [] ∧ P Q E := by
  unfold ar0 at h; split at h
  · exact ⟨rfl, h⟩
  · exact h.elim
theorem ar1E {P} {ds : List D} {Q E} (h : ar1 P ds Q E) : ∃ a, ds = [a] ∧ P a Q E := by
  unfold ar1 at h; split at h
  · exact ⟨_, rfl, h⟩
  · exact h.elim
theorem ar2E {P} {ds : List D} {Q E} (h : ar2 P ds Q E) : ∃ a b, ds = [a, b] ∧ P a b Q E := by
  unfold ar2 at h; split at h
  · exact ⟨_, _, rfl, h⟩
  · exact h.elim
theorem ar3E {P} {ds : List D} {Q E} (h : ar3 P ds Q E) : ∃ a b c, ds = [a, b, c] ∧ P a b c Q E := by
  unfold ar3 at h; split at h
  · exact ⟨_, _, _, rfl, h⟩
  · exact h.elim
theorem ar4E {P} {ds : List D} {Q E} (h : ar4 P ds Q E) : ∃ a b c d, ds = [a, b, c, d] ∧ P a b c d Q E := by
  unfold ar4 at h; split at h
  · exact ⟨_, _, _, _, rfl, h⟩
  · exact h.elim
theorem ar5E {P} {ds : List D} {Q E} (h : ar5 P ds Q E) : ∃ a b c d e, ds = [a, b, c, d, e] ∧ P a b c d e Q E := by
  unfold ar5 at h; split at h
  · exact ⟨_, _, _, _, _, rfl, h⟩
  · exact h.elim
end Y
namespace Y
open PySem PySem.Spec PyProof.Rows L2 Z
/-! ### facts of the top for the pure layer -/
def bRd (x : Str) : Frg → Bool := fun K => PySem.W.readsIn K (He.ga K x) (.type "type") && He.eqO (PySem.W.specialIn K (.ref (He.ga K x)) "__getattribute__") (some (some (.builtin "type.__getattribute__")))
theorem rd_of {K : Frg} {x : Str} (h : bRd x K = true) : ClX.CRead K (He.ga K x) (.type "type") := by
  obtain ⟨h1, h2⟩ := He.ba h
  exact ⟨h1, He.eqO_ok h2⟩
def bSM (x m : Str) : Frg → Bool := fun K => bRd x K && (He5.wrapB K (He.ga K x) "staticmethod" "staticmethod.__get__" m && PySem.W.keepIn K (.ref (He5.wf K (He.ga K x) "staticmethod" m)))
theorem sm_of {K : Frg} {x m : Str} (h : bSM x m K = true) : SMet K (He.ga K x) m (He.ma K (He.ga K x) m) (He5.wf K (He.ga K x) "staticmethod" m) := by
  obtain ⟨h1, h⟩ := He.ba h
  obtain ⟨h2, h3⟩ := He.ba h
  obtain ⟨h4, h5⟩ := He5.wrapB_ok h2
  exact ⟨rd_of h1, h4, h5, h3⟩
def bCM (x m : Str) : Frg → Bool := fun K => He5.wrapB K (He.ga K x) "classmethod" "classmethod.__get__" m && PySem.W.fnIn K (He5.wf K (He.ga K x) "classmethod" m)
theorem cm_of {K : Frg} {x m : Str} (h : bCM x m K = true) : ClX.CMet K (He.ga K x) (.type "type") m (He.ma K (He.ga K x) m) (He5.wf K (He.ga K x) "classmethod" m) := by
  obtain ⟨h2, h3⟩ := He.ba h
  exact He5.cmet_of h2 h3
end Y
namespace Y
open PySem PySem.Spec PyProof.Rows L2 Z
section
variable {X : Cx} {B : Bs} {K : Frg} {ms : List Addr} {a b c e o : Expr} {es : List Expr} {ra rb rc r ro : Rd} {rt ru : RdT} {rl : RdA} {pos p0 apos : Pos} {s1 s2 : RdS}
theorem s_par3 {i j l : Nat} {x y z : Str} {px py pz pt : Pos} {kt k2 pt2} (hc : X.calm = true) (hN : X.N.Nodup) (hi : X.N[i]? = some x) (hj : X.N[j]? = some y) (hl : X.N[l]? = some z) (hij : i ≠ j) (hil : i ≠ l) (hjl : j ≠ l)
    (hx : X.env.scope.names.lookup x = some .local) (hy : X.env.scope.names.lookup y = some .local) (hz : X.env.scope.names.lookup z = some .local) (ha : PAp X B [a, b, c] rl)
    (hw : swappedStores [.Tuple [.Name x px, .Name y py, .Name z pz] kt pt] (.Tuple [a, b, c] k2 pt2) X.env = pure (some [x, y, z]))
    (hs : swapsWithSole [.Tuple [.Name x px, .Name y py, .Name z pz] kt pt] (.Tuple [a, b, c] k2 pt2) pos.line X.env = pure false := by rfl) :
    PSp X B (.Assign [.Tuple [.Name x px, .Name y py, .Name z pz] kt pt] (.Tuple [a, b, c] k2 pt2) pos) (fun ρ E => rl ρ fun ds => stN [i, j, l] ds ρ E.nx) :=
  ps_imp (ps_par3 hc hN hi hj hl hij hil hjl hx hy hz ha hw hs) fun σ H Dd ⟨F, ρ, E, I, z, kn, kr, kb, kc⟩ => ⟨F, ρ, _, I, z, fun vs F' H' ds g t r q => by
    have hl := stN_len q
    match ds, hl, r, q with
    | [d1, d2, d3], _, r, q =>
      cases r with
      | cons r1 r2 =>
        obtain ⟨v2, v3, rfl, r2, r3⟩ := rps2 r2
        exact ⟨_, v2, v3, rfl, kn _ _ F' H' g.ff ((((I.step g t).set i r1).set j r2).set l r3) q⟩⟩
/-- a statement and what follows, with a word between them -/
theorem s_cut {st : Stmt} {rest : List Stmt} (h1 : PSp X B st s1) (h2 : PSsp X B rest s2) : PSsp X B (st :: rest) (fun ρ E => ∃ Mid : Ev → Prop, s1 ρ { E with nx := Mid } ∧ ∀ ρ', Mid ρ' → s2 ρ' E) :=
  pss_imp (pss_cons h1 h2) fun σ H Dd ⟨F, ρ, E, I, ⟨Mid, z, zf⟩, kn, kr, kb, kc⟩ => ⟨F, ρ, _, I, z, fun σ' ρ' F' H' s I' z' => ⟨F', ρ', E, I', zf ρ' z', fun σ2 ρ2 F2 H2 s' I2 z2 => kn σ2 ρ2 F2 H2 (s.trans s') I2 z2, kr, fun σ2 ρ2 F2 H2 s' I2 z2 => kb σ2 ρ2 F2 H2 (s.trans s') I2 z2, fun σ2 ρ2 F2 H2 s' I2 z2 => kc σ2 ρ2 F2 H2 (s.trans s') I2 z2⟩, kr, kb, kc⟩
def dModZ (x y : D) (Q : D → Prop) : Prop := match x, y with
  | .int i, .int j => j ≠ 0 ∧ Q (.int (i.fmod j))
  | _, _ => False
theorem modZL : OpL K ms (rI (fun _ j => j ≠ 0) fun i j => .int (i.fmod j)) dModZ := by
  intro F H x y dx dy Qd Q hs rx ry h k
  unfold dModZ at h
  split at h
  · cases rx; cases ry
    exact ⟨_, _, rfl, rfl, h.1, k _ F H _ (Go.refl hs) (.int _) h.2⟩
  · exact h.elim
def dIsBl (neg : Bool) (x y : D) (Q : D → Prop) : Prop := match x, y with
  | .bl i, .bl j => Q (.bl (neg != decide (i = j)))
  | _, _ => False
theorem isBlL : OpL K ms rIsB (dIsBl false) := by
  intro F H x y dx dy Qd Q hs rx ry h k
  unfold dIsBl at h
  split at h
  · cases rx; cases ry
    exact ⟨_, _, rfl, rfl, k _ F H _ (Go.refl hs) (.bl _) (by simpa using h)⟩
  · exact h.elim
theorem notBlL : OpL K ms rNotB (dIsBl true) := by
  intro F H x y dx dy Qd Q hs rx ry h k
  unfold dIsBl at h
  split at h
  · cases rx; cases ry
    exact ⟨_, _, rfl, rfl, k _ F H _ (Go.refl hs) (.bl _) (by simpa using h)⟩
  · exact h.elim
def dInt1 (ds : List D) (Q : D → Prop) : Prop := match ds with
  | [.int i] => Q (.int i)
  | [.bl b] => Q (.int (if b then 1 else 0))
  | _ => False
theorem int1L : CalL K ms (fun xs H Q => (∃ i, xs = [.int i] ∧ Q (.int i) H) ∨ ∃ k, xs = [.bl k] ∧ Q (.int (if k then 1 else 0)) H) dInt1 := by
  intro F H xs ds Qd Q hs r h k
  unfold dInt1 at h
  split at h
  · obtain ⟨x, rfl, r1⟩ := rps1 r
    cases r1
    exact .inl ⟨_, rfl, k _ F H _ (Go.refl hs) (.int _) h⟩
  · obtain ⟨x, rfl, r1⟩ := rps1 r
    cases r1
    exact .inr ⟨_, rfl, k _ F H _ (Go.refl hs) (.int _) h⟩
  · exact h.elim
/-! ### texts and enumerate as what a loop walks -/
def chrs (s : Str) : List D := s.cps.toList.map fun c => .str ⟨#[c]⟩
theorem i_str {tg l : Expr} (hl : PEp X B l r) : PIp X B tg l (fun ρ Q => r ρ fun d => match d with | .str s => Q (chrs s) | _ => False) :=
  pi_imp (pi_str hl) fun σ H R ⟨F, ρ, Qd, I, z, k⟩ => ⟨F, ρ, _, I, z, fun v F1 H1 d g1 t1 r1 z1 => by
    split at z1
    · rename_i s
      cases r1
      refine ⟨s, rfl, k _ F1 H1 _ g1 t1 ⟨_, _, by rw [show (chrs s).length = s.cps.size by simp [chrs]]; exact walk_str (z := s), fun _ _ _ _ => trivial, ?_⟩ z1⟩
      rintro i F2 H2 x H2' d s1 s' ⟨rfl, cc, hx, rfl⟩ hd
      have : d = .str ⟨#[cc]⟩ := by
        unfold chrs at hd
        rw [List.getElem?_map, Array.getElem?_toList, hx] at hd
        exact (Option.some.inj hd).symm
      subst this
      exact ⟨F2, Go.refl s', .str _⟩
    · exact z1.elim⟩
def enumD (ds : List D) : List D := (List.range ds.length).map fun i => .tup [.int (i : Nat), (ds[i]?).getD .non]
theorem i_enum {p tpos : Pos} {elts : List Expr} {kk : Nat} (hg : Gl X "enumerate") (hm : X.mg "enumerate" = none) (ha : PAp X B [e] rl) (hs : starEach [e] X.env = [(false, eval e X.env)] := by rfl) :
    PIp X B (.Tuple elts kk tpos) (.Call (.Name "enumerate" p) [e] [] pos) (fun ρ Q => rl ρ fun ds => match ds with | [.lst xs] => Q (enumD xs) | _ => False) :=
  pi_imp (pi_enum hg hm ha hs) fun σ H R ⟨F, ρ, Qd, I, z, k⟩ => ⟨F, ρ, _, I, z, fun vs F1 H1 ds g1 t1 r1 z1 => by
    split at z1
    · rename_i xs
      obtain ⟨x, rfl, r2⟩ := rps1 r1
      cases r2 with
      | @lst a ws _ h1 h2 =>
        refine ⟨a, ws, rfl, SqL.of (t1.1 _ _ h1), k _ F1 H1 _ g1 t1 ⟨_, _, by rw [show (enumD xs).length = ws.length by simp [enumD, h2.len]]; exact walk_enum (K := X.K) (a := a) (xs := ws), fun F2 H2 s s' => SqL.of (s' _ _ (s _ _ h1)), ?_⟩ z1⟩
        rintro i F2 H2 y H2' d s s' ⟨T, u, v, rfl, hT, rfl, hu, hv⟩ hd
        cases hu
        obtain ⟨dd, q1, q2⟩ := h2.getV hv
        have hi := lt_of_get q1
        have : d = .tup [.int (i : Nat), dd] := by
          unfold enumD at hd
          rw [List.getElem?_map, List.getElem?_range hi] at hd
          have := (Option.some.inj hd).symm
          dsimp only at this
          rw [q1] at this
          exact this
        subst this
        obtain ⟨F3, g3, q3, _⟩ := newE s' hT rfl
        exact ⟨F3, g3, .tup (SqT.of q3) (.cons (.int _) (.cons ((q2.up s).up g3.ff) .nil))⟩
    · exact z1.elim⟩
/-- cls(..), cls a name that holds the class C -/
theorem y_makeL {C x : Str} {i k : Nat} {f : Addr} {R : RdF} (hv : PE X (.Name x p0) (tVar i)) (M : Mk X.K (He.ga X.K C) f) (F : FnG X.prog X.w X.K X.mg X.base (L2.CX X.prog X.w) k f (spI X.K C R)) (hr : RoomG (k + 1) X.A) (hx : Px X B) (ha : PAp X B (e :: es) rl)
    (he : starEach (e :: es) X.env = (false, eval e X.env) :: starEach es X.env := by rfl) (hpl : (backTo pos (starEach es X.env)).any (·.1) = false := by rfl) : PEp X B (.Call (.Name x p0) (e :: es) [] pos) (fun ρ Q => rVar i ρ fun d => d = .glob C ∧ rl ρ fun ds => R ds Q B.Ed) := by
  refine ⟨fun pins s σ H Q I h => ?_⟩
  obtain ⟨F0, ρ, Qd, J, z, kk⟩ := h
  refine wpAny_Call_Name_kw (thn ((y_var (B := B) hv).run pins s σ H (fun v H1 => ∃ F1 d, Go B.ms F0 H F1 H1 ∧ Tp X.K B.ms F1 H1 ∧ Rp X.K B.ms F1 v d ∧ d = .glob C ∧ rl ρ fun ds => R ds Qd B.Ed) I ⟨F0, ρ, _, J, z, fun v F1 H1 d g1 t1 r1 z1 => ⟨F1, d, g1, t1, r1, z1⟩⟩) fun u s1 ⟨v, H1, I1, rv, F1, d, g1, t1, r1, e1, z1⟩ => ?_)
  subst e1
  cases r1
  obtain rfl : u = Value.ref (He.ga X.K C) := rv
  refine PySem.W.callWith_K (h₀ := X.base) I.ok.mod.kin M.kp (thn (ha.run pos pins s1 σ H1 (fun vs H2 => ∃ F2 ds, Go B.ms F1 H1 F2 H2 ∧ Tp X.K B.ms F2 H2 ∧ Rps X.K B.ms F2 vs ds ∧ R ds Qd B.Ed) I1 ⟨F1, ρ, _, J.step g1 t1, z1, fun vs F2 H2 ds g2 t2 r2 z2 => ⟨F2, ds, g2, t2, r2, z2⟩⟩) fun us s2 ⟨vs, H2, I2, r, F2, ds, g2, t2, r2, z2⟩ => ⟨I2.kIn, ?_⟩) he hpl
  exact run_makeG M F hr hx I2 r (spI_of vs H2 Q (sp_call J kk (g1.trans g2) t2 r2 z2))
end
end Y
namespace Y
open PySem PySem.Spec PyProof.Rows L2 Z
/-! ### texts of data: repr -/
mutual
def toP : D → PyData
  | .non => .none
  | .bl b => .bool b
  | .int i => .int i
  | .str s => .str s
  | .lst ds => .list (toPs ds)
  | .tup ds => .tuple (toPs ds)
  | .obj _ _ _ => .none
  | .ty _ => .none
  | .glob _ => .none
  | .tape => .none
def toPs : List D → List PyData
  | [] => []
  | d :: ds => toP d :: toPs ds
end
mutual
/-- data that repr shows: with so many items and signs at most, so deep at most -/
def shP (n : Nat) : D → Prop
  | .non => True
  | .bl _ => True
  | .int i => Sz 1900 i
  | .str s => ∀ c ∈ s.cps.toList, c < 16 ^ 8
  | .lst ds => shPs n ds
  | .tup ds => shPs n ds
  | .obj _ _ _ => False
  | .ty _ => False
  | .glob _ => False
  | .tape => False
def shPs (n : Nat) : List D → Prop
  | [] => True
  | d :: ds => shP n d ∧ shPs n ds
end
def shD (d : D) : Str := (toP d).shown
theorem sz1900 {i : Int} (h : Sz 1900 i) : i.natAbs.log2 < 1920 := Nat.lt_of_lt_of_le (PySem.Flt.log2_lt_of (by decide) h) (by decide)
mutual
theorem sh_able {n : Nat} : ∀ d : D, shP n d → (toP d).showable = true
  | .non, _ => rfl
  | .bl _, _ => rfl
  | .int i, h => by
    show decide _ = true
    exact decide_eq_true (sz1900 h)
  | .str _, _ => rfl
  | .lst ds, h => sh_ables ds h
  | .tup ds, h => sh_ables ds h
  | .obj _ _ _, h => h.elim
  | .ty _, h => h.elim
  | .glob _, h => h.elim
  | .tape, h => h.elim
theorem sh_ables {n : Nat} : ∀ ds : List D, shPs n ds → PyData.showableAll (toPs ds) = true
  | [], _ => rfl
  | d :: ds, h => by
    show ((toP d).showable && PyData.showableAll (toPs ds)) = true
    rw [sh_able d h.1, sh_ables ds h.2]
    rfl
end
mutual
theorem sh_short {n : Nat} : ∀ d : D, shP n d → (toP d).leavesShort 1921 = true
  | .non, _ => rfl
  | .bl _, _ => rfl
  | .int i, h => by
    show decide ((PyData.shown (.int i)).length ≤ 1921) = true
    exact decide_eq_true (int_text_len_1921 (sz1900 h))
  | .str s, h => by
    show (s.cps.toList.all fun c => decide (c < 16 ^ 8)) = true
    exact List.all_eq_true.mpr fun c hc => decide_eq_true (h c hc)
  | .lst ds, h => sh_shorts ds h
  | .tup ds, h => sh_shorts ds h
  | .obj _ _ _, h => h.elim
  | .ty _, h => h.elim
  | .glob _, h => h.elim
  | .tape, h => h.elim
theorem sh_shorts {n : Nat} : ∀ ds : List D, shPs n ds → PyData.leavesShortAll 1921 (toPs ds) = true
  | [], _ => rfl
  | d :: ds, h => by
    show ((toP d).leavesShort 1921 && PyData.leavesShortAll 1921 (toPs ds)) = true
    rw [sh_short d h.1, sh_shorts ds h.2]
    rfl
end
mutual
theorem sh_nodict {n : Nat} : ∀ d : D, shP n d → (toP d).hasDict = false
  | .non, _ => rfl
  | .bl _, _ => rfl
  | .int _, _ => rfl
  | .str _, _ => rfl
  | .lst ds, h => sh_nodicts ds h
  | .tup ds, h => sh_nodicts ds h
  | .obj _ _ _, h => h.elim
  | .ty _, h => h.elim
  | .glob _, h => h.elim
  | .tape, h => h.elim
theorem sh_nodicts {n : Nat} : ∀ ds : List D, shPs n ds → PyData.hasDictAll (toPs ds) = false
  | [], _ => rfl
  | d :: ds, h => by
    show ((toP d).hasDict || PyData.hasDictAll (toPs ds)) = false
    rw [sh_nodict d h.1, sh_nodicts ds h.2]
    rfl
end
section
variable {X : Cx} {B : Bs} {pins : List (Addr × Obj)} {σ : L2.St} {H F : Hp} {s : Shared} {ms : List Addr}
mutual
theorem sh_reads {n : Nat} (I : L2.Inv X pins σ H s) (hs : Same F H) : ∀ (d : D) (v : V) (u : Value), shP n d → Rp X.K ms F v d → RelV v u → ∃ as, Reads s.heap u (toP d) as
  | .non, _, u, _, r, e => by
    cases r
    obtain rfl : u = Value.none := e
    exact ⟨_, .none⟩
  | .bl b, _, u, _, r, e => by
    cases r
    obtain rfl : u = Value.bool b := e
    exact ⟨_, .bool b⟩
  | .int i, _, u, _, r, e => by
    cases r
    obtain ⟨t, rfl⟩ := (show ∃ t, u = Value.int i t from e)
    exact ⟨_, .int i t⟩
  | .str x, _, u, _, r, e => by
    cases r
    obtain ⟨t, rfl⟩ := (show ∃ t, u = Value.str x t from e)
    exact ⟨_, .str x t⟩
  | .lst ds, _, u, h, r, e => by
    cases r with
    | @lst a vs _ h1 h2 =>
      obtain rfl : u = Value.ref a := e
      obtain ⟨_, its, n, rv, hg⟩ := I.hok a _ (hs _ _ h1)
      obtain ⟨as, q⟩ := sh_readss I hs ds vs its h h2 rv
      exact ⟨_, .list hg rfl rfl (by simpa using q)⟩
  | .tup ds, _, u, h, r, e => by
    cases r with
    | @tup a vs _ h1 h2 =>
      obtain rfl : u = Value.ref a := e
      obtain ⟨its, rv, ⟨o, hg, hc, n, hd⟩, _⟩ := I.tuple (sqT hs h1)
      obtain ⟨as, q⟩ := sh_readss I hs ds vs its h h2 rv
      exact ⟨_, .tuple hg hc hd (by simpa using q)⟩
  | .obj _ _ _, _, _, h, _, _ => h.elim
  | .ty _, _, _, h, _, _ => h.elim
  | .glob _, _, _, h, _, _ => h.elim
  | .tape, _, _, h, _, _ => h.elim
theorem sh_readss {n : Nat} (I : L2.Inv X pins σ H s) (hs : Same F H) : ∀ (ds : List D) (vs : List V) (us : List Value), shPs n ds → Rps X.K ms F vs ds → Vals vs us → ∃ as, ReadsAll s.heap us (toPs ds) as
  | [], _, _, _, r, e => by
    cases r
    cases e
    exact ⟨_, .nil⟩
  | d :: ds, _, _, h, r, e => by
    cases r with
    | cons r1 r2 =>
      cases e with
      | cons e1 e2 =>
        obtain ⟨as, q1⟩ := sh_reads I hs d _ _ h.1 r1 e1
        obtain ⟨bs, q2⟩ := sh_readss I hs ds _ _ h.2 r2 e2
        exact ⟨_, .cons q1 q2⟩
end
/-- repr of data -/
def rRepr (K : Frg) (xs : List V) (H : Hp) (Q : VK) : Prop := ∃ (ms : List Addr) (F : Hp) (v : V) (d : D) (n : Nat), xs = [v] ∧ Same F H ∧ Rp K ms F v d ∧ shP n d ∧ (toP d).bulk ≤ 8000 ∧ (toP d).depth ≤ 40 ∧ Q (.str (shD d)) H
theorem sh_len {n : Nat} {d : D} (h : shP n d) (hb : (toP d).bulk ≤ 8000) : (toP d).shown.length ≤ sizeLine := by
  have z := PyData.shown_le_bulk 1921 (by decide) (toP d) (sh_short d h)
  have : (2 : Nat) ^ 24 = 16777216 := by decide
  show _ ≤ 2 ^ 24
  omega
theorem call_reprD {k : Nat} (hr : RoomG k X.A) : CallR X (.builtin "repr") (rRepr X.K) := by
  intro pins s σ H xs us Q I r h
  obtain ⟨ms, F, v, d, n, rfl, hs, rd, hp, hb, hd, q⟩ := h
  obtain ⟨u, rfl, ru⟩ := vals1 r
  have hl := sh_len hp hb
  have hu := hr.units
  obtain ⟨as, rr⟩ := sh_reads I hs d v u hp rd ru
  have fin : ∀ h' u' tk, (∀ b o, s.heap.get? b = some o → h'.get? b = some o) → EP X pins σ Q (.str (toP d).shown u') { s with heap := h', toks := tk } := fun h' u' tk hk => ⟨.str _, H, I.kept hk, ⟨_, rfl⟩, q⟩
  cases rd with
  | non =>
    obtain rfl : u = Value.none := ru
    exact PySem.P.repr_of_none (fin _ _ _ fun _ _ e => e)
  | bl b =>
    obtain rfl : u = Value.bool b := ru
    exact PySem.P.repr_of_bool (fin _ _ _ fun _ _ e => e)
  | int i =>
    obtain ⟨t, rfl⟩ := (show ∃ t, u = Value.int i t from ru)
    exact PySem.P.repr_of_int (sz1900 hp) (fin _ _ _ fun _ _ e => e)
  | str x =>
    obtain ⟨t, rfl⟩ := (show ∃ t, u = Value.str x t from ru)
    exact PySem.P.repr_of_str (fin _ _ _ fun _ _ e => e) hl
  | ty _ => exact hp.elim
  | glob _ => exact hp.elim
  | tape _ => exact hp.elim
  | obj _ _ _ => exact hp.elim
  | lst h1 h2 =>
    obtain rfl : u = Value.ref _ := ru
    exact repr_of_reads' rr (sh_able _ hp) (PyData.noDict_hsm (sh_nodict _ hp)) hr.gd (by omega) (fun _ _ e => e) fin hl
  | tup h1 h2 =>
    obtain rfl : u = Value.ref _ := ru
    exact repr_of_reads' rr (sh_able _ hp) (PyData.noDict_hsm (sh_nodict _ hp)) hr.gd (by omega) (fun _ _ e => e) fin hl
def dRepr (ds : List D) (Q : D → Prop) : Prop := match ds with
  | [d] => (shP 0 d ∧ (toP d).bulk ≤ 8000 ∧ (toP d).depth ≤ 40) ∧ Q (.str (shD d))
  | _ => False
theorem reprL {K : Frg} : CalL K ms (rRepr K) dRepr := by
  intro F H xs ds Qd Q hs r h k
  unfold dRepr at h
  split at h
  · obtain ⟨x, rfl, r1⟩ := rps1 r
    exact ⟨ms, F, x, _, 0, rfl, hs, r1, h.1.1, h.1.2.1, h.1.2.2, k _ F H _ (Go.refl hs) (.str _) h.2⟩
  · exact h.elim
end
end Y
namespace Y
open PySem PySem.Spec PyProof.Rows L2 Z
section
variable {X : Cx} {B : Bs} {K : Frg} {ms : List Addr} {a b c e o : Expr} {es : List Expr} {ra rb rc r ro : Rd} {rt ru : RdT} {rl : RdA} {pos p0 apos : Pos} {s1 s2 : RdS}
/-- *e ahead of other items -/
theorem a_star {p : Pos} (he : PEp X B e r) (hr : PAp X B es rl) (hs : starEach (.Starred e p :: es) X.env = (true, eval e X.env) :: starEach es X.env := by rfl) : PAp X B (.Starred e p :: es) (fun ρ Q => r ρ fun d => starD d fun xs => rl ρ fun ys => Q (xs ++ ys)) :=
  pa_imp (StX.pa_star he hr hs) fun σ H Q ⟨F, ρ, Qd, I, z, k⟩ => ⟨F, ρ, _, I, z, fun v F1 H1 d g1 t1 r1 z1 => by
    unfold starD at z1
    split at z1
    · cases r1 with
      | @lst a ws _ h1 h2 => exact ⟨a, ws, rfl, .inr (SqL.of (t1.1 _ _ h1)), F1, ρ, _, I.step g1 t1, z1, fun vs F2 H2 ds g2 t2 r2 z2 => k _ F2 H2 _ (g1.trans g2) t2 ((h2.up g2.ff).app r2) z2⟩
    · cases r1 with
      | @tup a ws _ h1 h2 => exact ⟨a, ws, rfl, .inl (sqT t1.1 h1), F1, ρ, _, I.step g1 t1, z1, fun vs F2 H2 ds g2 t2 r2 z2 => k _ F2 H2 _ (g1.trans g2) t2 ((h2.up g2.ff).app r2) z2⟩
    · exact z1.elim⟩
/-- range with a step that is positive -/
def rngC (lo c : Int) (n : Nat) : List D := (List.range n).map fun i => .int (lo + (i : Nat) * c)
theorem rngC_sqs {K : Frg} {ms : List Addr} {F : Hp} {lo c : Int} {n : Nat} : Sqs K ms F (Itc lo c n) (rngC lo c n) := by
  have hl : (rngC lo c n).length = n := by simp [rngC]
  refine ⟨_, _, by rw [hl]; exact walk_rangeC, fun _ _ _ _ => trivial, ?_⟩
  rintro i F2 H2 x H2' d s s' ⟨rfl, rfl⟩ hd
  have hi : i < n := by
    rw [← hl]
    exact lt_of_get hd
  simp [rngC, hi] at hd
  subst hd
  exact ⟨F2, Go.refl s', .int _⟩
def rng3 (ds : List D) (Q : List D → Prop) : Prop := match ds with
  | [.int i, .int j, .int c] => ∃ n, RgC i j c n ∧ Q (rngC i c n)
  | _ => False
theorem i_rng3 {tg : Expr} {p : Pos} (hg : Gl X "range") (hm : X.mg "range" = none) (ha : PAp X B [a, b, c] rl) (hs : starEach [a, b, c] X.env = (false, eval a X.env) :: starEach [b, c] X.env := by rfl) (hpl : (backTo pos (starEach [b, c] X.env)).any (·.1) = false := by rfl) :
    PIp X B tg (.Call (.Name "range" p) [a, b, c] [] pos) (fun ρ Q => rl ρ fun ds => rng3 ds Q) :=
  pi_imp (pi_range3 hg hm ha hs hpl) fun σ H R ⟨F, ρ, Qd, I, z, k⟩ => ⟨F, ρ, _, I, z, fun vs F1 H1 ds g1 t1 r1 z1 => by
    unfold rng3 at z1
    split at z1
    · obtain ⟨n, h1, h2⟩ := z1
      cases r1 with
      | cons r1 r2 =>
        obtain ⟨y, z, rfl, r2, r3⟩ := rps2 r2
        cases r1
        cases r2
        cases r3
        exact ⟨_, _, _, n, rfl, h1, k _ F1 H1 _ g1 t1 rngC_sqs h2⟩
    · exact z1.elim⟩
end
end Y
namespace Y
open PySem PySem.Spec PyProof.Rows L2 Z
/-! ### data that stand in the written part -/
def allB2 {α β : Type} (f : α → β → Bool) : List α → List β → Bool
  | [], [] => true
  | a :: as, b :: bs => f a b && allB2 f as bs
  | _, _ => false
inductive All2 {α β : Type} (f : α → β → Prop) : List α → List β → Prop
  | nil : All2 f [] []
  | cons {a : α} {b : β} {as : List α} {bs : List β} : f a b → All2 f as bs → All2 f (a :: as) (b :: bs)
theorem all2_ok {α β : Type} {f : α → β → Bool} {p : α → β → Prop} (h : ∀ a b, f a b = true → p a b) : ∀ {as : List α} {bs : List β}, allB2 f as bs = true → All2 p as bs
  | [], [], _ => .nil
  | a :: as, b :: bs, z => by
    obtain ⟨h1, h2⟩ := He.ba (show (f a b && allB2 f as bs) = true from z)
    exact .cons (h a b h1) (all2_ok h h2)
  | [], _ :: _, z => by cases z
  | _ :: _, [], z => by cases z
theorem All2.len {α β : Type} {p : α → β → Prop} : ∀ {as : List α} {bs : List β}, All2 p as bs → as.length = bs.length
  | _, _, .nil => rfl
  | _, _, .cons _ t => by rw [List.length_cons, List.length_cons, t.len]
theorem All2.get {α β : Type} {p : α → β → Prop} : ∀ {as : List α} {bs : List β} {i : Nat} {a : α} {b : β}, All2 p as bs → as[i]? = some a → bs[i]? = some b → p a b
  | _, _, i, _, _, .nil, h, _ => by simp at h
  | _, _, 0, _, _, .cons h _, e1, e2 => by
    simp at e1 e2
    subst e1 e2
    exact h
  | _, _, i + 1, _, _, .cons _ t, e1, e2 => t.get (i := i) (by simpa using e1) (by simpa using e2)
def vOk (K : Frg) : Nat → D → Value → Bool
  | _, .non, .none => true
  | _, .bl b, .bool c => b == c
  | _, .int i, .int j _ => i == j
  | _, .str x, .str y _ => x == y
  | n + 1, .tup ds, .ref p => (match K.lookup p with
    | some ⟨.type c, _, .seq its _, _⟩ => decide (c = "tuple") && (Nat.ble its.size 1000 && allB2 (vOk K n) ds its.toList)
    | _ => false)
  | _, _, _ => false
/-- the value u of the written part bears d -/
def VD (K : Frg) (d : D) (u : Value) : Prop := ∃ v, RelV v u ∧ ∀ ms F, Rp K ms F v d
theorem vds {K : Frg} : ∀ {ds : List D} {us : List Value}, All2 (VD K) ds us → ∃ vs, Vals vs us ∧ ∀ ms F, Rps K ms F vs ds
  | _, _, .nil => ⟨[], .nil, fun _ _ => .nil⟩
  | _, _, .cons ⟨v, r, h⟩ t => by
    obtain ⟨vs, r2, h2⟩ := vds t
    exact ⟨v :: vs, .cons r r2, fun ms F => .cons (h ms F) (h2 ms F)⟩
theorem vOk_ok {K : Frg} : ∀ (n : Nat) (d : D) (u : Value), vOk K n d u = true → VD K d u := by
  intro n
  induction n with
  | zero =>
    intro d u h
    unfold vOk at h
    split at h
    · exact ⟨.non, rfl, fun _ _ => .non⟩
    · rename_i b c
      have e : b = c := by simpa using h
      subst e
      exact ⟨.bl b, rfl, fun _ _ => .bl b⟩
    · rename_i i j t
      have e : i = j := by simpa using h
      subst e
      exact ⟨.int i, ⟨t, rfl⟩, fun _ _ => .int i⟩
    · rename_i i j t
      have e : i = j := by simpa using h
      subst e
      exact ⟨.str i, ⟨t, rfl⟩, fun _ _ => .str i⟩
    · contradiction
    · cases h
  | succ n ih =>
    intro d u h
    unfold vOk at h
    split at h
    · exact ⟨.non, rfl, fun _ _ => .non⟩
    · rename_i b c
      have e : b = c := by simpa using h
      subst e
      exact ⟨.bl b, rfl, fun _ _ => .bl b⟩
    · rename_i i j t
      have e : i = j := by simpa using h
      subst e
      exact ⟨.int i, ⟨t, rfl⟩, fun _ _ => .int i⟩
    · rename_i i j t
      have e : i = j := by simpa using h
      subst e
      exact ⟨.str i, ⟨t, rfl⟩, fun _ _ => .str i⟩
    · rename_i m ds p e
      cases e
      split at h
      · rename_i c od its k sl e2
        obtain ⟨h1, h⟩ := He.ba h
        obtain ⟨h2, h3⟩ := He.ba h
        have e3 : c = "tuple" := of_decide_eq_true h1
        subst e3
        obtain ⟨vs, r, hr⟩ := vds (all2_ok ih h3)
        exact ⟨.ref p, rfl, fun ms F => .tup (.inr ⟨_, its, k, e2, rfl, rfl, Nat.le_trans (Nat.le_of_ble_eq_true h2) (by decide), r⟩) (hr ms F)⟩
      · cases h
    · cases h
/-! ### a dict of the module with text keys -/
def entB (K : Frg) (q : Str × D) (e : DictEntry) : Bool := (match e.key with | .str z _ => z == q.1 | _ => false) && vOk K 3 q.2 e.val
def EntD (K : Frg) (q : Str × D) (e : DictEntry) : Prop := (∃ t, e.key = .str q.1 t) ∧ VD K q.2 e.val
theorem entB_ok {K : Frg} (q : Str × D) (e : DictEntry) (h : entB K q e = true) : EntD K q e := by
  obtain ⟨h1, h2⟩ := He.ba h
  refine ⟨?_, vOk_ok _ _ _ h2⟩
  split at h1
  · rename_i z t e1
    have e : z = q.1 := by simpa using h1
    exact ⟨t, by rw [e1, e]⟩
  · cases h1
def bTab (x : Str) (tab : List (Str × D)) : Frg → Bool := fun K => match K.lookup (He.ga K x) with
  | some ⟨_, _, .dict es _, _⟩ => allB2 (entB K) tab es.toList
  | _ => false
def KTab (K : Frg) (w : World) (x : Str) (tab : List (Str × D)) : Prop := ∃ es n, KDict K w (He.ga K x) es n ∧ All2 (EntD K) tab es.toList
theorem tab_of {K : Frg} {w : World} {x : Str} {tab : List (Str × D)} (c : bTab x tab K = true) (d : ∃ es n, KDict K w (He.ga K x) es n) : KTab K w x tab := by
  obtain ⟨es, n, d⟩ := d
  unfold bTab at c
  rw [d.at_] at c
  exact ⟨es, n, d, all2_ok entB_ok c⟩
/-- what a key finds -/
theorem ents_find {K : Frg} {z : Str} : ∀ {tab : List (Str × D)} {es : List DictEntry}, All2 (EntD K) tab es →
    (∃ d e, tab.lookup z = some d ∧ es.find? (·.key.isStr z) = some e ∧ VD K d e.val) ∨ (tab.lookup z = none ∧ es.find? (·.key.isStr z) = none ∧ es.any (·.refKey) = false)
  | _, _, .nil => .inr ⟨rfl, rfl, rfl⟩
  | q :: tab, e :: es, .cons h t => by
    obtain ⟨⟨tk, hk⟩, hv⟩ := h
    have hs : e.key.isStr z = decide (q.1 = z) := by rw [hk]; rfl
    by_cases c : q.1 = z
    · refine .inl ⟨q.2, e, ?_, ?_, hv⟩
      · rw [show (q :: tab) = (q.1, q.2) :: tab from rfl, List.lookup_cons, ← c]
        simp
      · rw [List.find?_cons, hs, decide_eq_true c]
    · have l1 : (q :: tab).lookup z = tab.lookup z := by
        rw [show (q :: tab) = (q.1, q.2) :: tab from rfl, List.lookup_cons]
        have : (z == q.1) = false := by
          rw [beq_eq_false_iff_ne]
          exact fun e => c e.symm
        rw [this]
      have l2 : (e :: es).find? (·.key.isStr z) = es.find? (·.key.isStr z) := by rw [List.find?_cons, hs, decide_eq_false c]
      rcases ents_find (z := z) t with ⟨d, e', h1, h2, h3⟩ | ⟨h1, h2, h3⟩
      · exact .inl ⟨d, e', l1.trans h1, l2.trans h2, h3⟩
      · refine .inr ⟨l1.trans h1, l2.trans h2, ?_⟩
        rw [List.any_cons, h3, Bool.or_false]
        unfold DictEntry.refKey
        rw [hk]
theorem KTab.ns {K : Frg} {w : World} {x : Str} {tab : List (Str × D)} (kt : KTab K w x tab) (z : Str) :
    (∃ d u, tab.lookup z = some d ∧ PySem.W.nsIn K (He.ga K x) z = some (some u) ∧ VD K d u) ∨ (tab.lookup z = none ∧ PySem.W.nsIn K (He.ga K x) z = some none) := by
  obtain ⟨es, n, kd, h⟩ := kt
  have e : PySem.W.nsIn K (He.ga K x) z = (match es.toList.find? (·.key.isStr z) with
      | some e => some (some e.val)
      | none => if es.toList.any (·.refKey) then none else some none) := by
    unfold PySem.W.nsIn
    rw [kd.at_]
    rfl
  rcases ents_find (z := z) h with ⟨d, e', h1, h2, h3⟩ | ⟨h1, h2, h3⟩
  · exact .inl ⟨d, e'.val, h1, by rw [e, h2], h3⟩
  · exact .inr ⟨h1, by rw [e, h2, h3]; rfl⟩
section
variable {X : Cx} {B : Bs} {K : Frg} {ms : List Addr} {a b c e o : Expr} {es : List Expr} {ra rb rc r ro : Rd} {rl : RdA} {pos p0 apos : Pos}
def dIxT (x : Str) (tab : List (Str × D)) (dx dy : D) (Q : D → Prop) : Prop := match dx, dy with
  | .glob y, .str z => y = x ∧ (match tab.lookup z with | some d => Q d | none => False)
  | _, _ => False
theorem ixTL {w : World} {x : Str} {tab : List (Str × D)} (kt : KTab K w x tab) : OpL K ms (rIxD K w) (dIxT x tab) := by
  intro F H vx vy dx dy Qd Q hs rx ry h k
  unfold dIxT at h
  split at h
  · rename_i y z
    obtain ⟨rfl, h⟩ := h
    cases rx
    cases ry
    split at h
    · rename_i d e
      rcases kt.ns z with ⟨d', u, h1, h2, v, h3, h4⟩ | ⟨h1, _⟩
      · rw [e] at h1
        cases h1
        obtain ⟨es, n, kd, _⟩ := kt
        exact ⟨_, _, v, rfl, rfl, ⟨es, n, u, kd.at_, kd.lit, h2, h3⟩, k v F H d (Go.refl hs) (h4 ms F) h⟩
      · rw [e] at h1
        cases h1
    · exact h.elim
  · exact h.elim
theorem y_ixT {x : Str} {tab : List (Str × D)} (kt : KTab X.K X.w x tab) (ha : PEp X B a ra) (hb : PEp X B b rb) (hs : PlainIx b) : PEp X B (.Subscript a b pos) (fun ρ Q => ra ρ fun x' => rb ρ fun y => dIxT x tab x' y Q) := pe_imp (pe_ix ix_kdict ha hb hs) (tOp_of (ixTL kt))
/-- key in d -/
def dInT (neg : Bool) (x : Str) (tab : List (Str × D)) (dx dy : D) (Q : D → Prop) : Prop := match dx, dy with
  | .str z, .glob y => y = x ∧ Q (.bl (neg != (tab.lookup z).isSome))
  | _, _ => False
theorem inTL {w : World} {x : Str} {tab : List (Str × D)} (kt : KTab K w x tab) : OpL K ms (fun vx vy H Q => ∃ (z : Str) (r : Option Value), vx = .str z ∧ vy = .ref (He.ga K x) ∧ PySem.W.nsIn K (He.ga K x) z = some r ∧ Q (.bl r.isSome) H) (dInT false x tab) := by
  intro F H vx vy dx dy Qd Q hs rx ry h k
  unfold dInT at h
  split at h
  · rename_i z y
    obtain ⟨rfl, h⟩ := h
    cases rx
    cases ry
    rw [Bool.false_bne] at h
    rcases kt.ns z with ⟨d', u, h1, h2, _⟩ | ⟨h1, h2⟩
    · exact ⟨z, some u, rfl, rfl, h2, k _ F H _ (Go.refl hs) (.bl _) (by rw [h1] at h; exact h)⟩
    · exact ⟨z, none, rfl, rfl, h2, k _ F H _ (Go.refl hs) (.bl _) (by rw [h1] at h; exact h)⟩
  · exact h.elim
theorem ninTL {w : World} {x : Str} {tab : List (Str × D)} (kt : KTab K w x tab) : OpL K ms (fun vx vy H Q => ∃ (z : Str) (r : Option Value), vx = .str z ∧ vy = .ref (He.ga K x) ∧ PySem.W.nsIn K (He.ga K x) z = some r ∧ Q (.bl (!r.isSome)) H) (dInT true x tab) := by
  intro F H vx vy dx dy Qd Q hs rx ry h k
  unfold dInT at h
  split at h
  · rename_i z y
    obtain ⟨rfl, h⟩ := h
    cases rx
    cases ry
    rw [Bool.true_bne] at h
    rcases kt.ns z with ⟨d', u, h1, h2, _⟩ | ⟨h1, h2⟩
    · exact ⟨z, some u, rfl, rfl, h2, k _ F H _ (Go.refl hs) (.bl _) (by rw [h1] at h; exact h)⟩
    · exact ⟨z, none, rfl, rfl, h2, k _ F H _ (Go.refl hs) (.bl _) (by rw [h1] at h; exact h)⟩
  · exact h.elim
theorem op_inT {x : Str} {tab : List (Str × D)} (kt : KTab X.K X.w x tab) : OpR X (compareOp .In) (fun vx vy H Q => ∃ (z : Str) (r : Option Value), vx = .str z ∧ vy = .ref (He.ga X.K x) ∧ PySem.W.nsIn X.K (He.ga X.K x) z = some r ∧ Q (.bl r.isSome) H) := by
  obtain ⟨es, n, kd, _⟩ := kt
  exact op_in_kd kd
theorem op_ninT {x : Str} {tab : List (Str × D)} (kt : KTab X.K X.w x tab) : OpR X (compareOp .NotIn) (fun vx vy H Q => ∃ (z : Str) (r : Option Value), vx = .str z ∧ vy = .ref (He.ga X.K x) ∧ PySem.W.nsIn X.K (He.ga X.K x) z = some r ∧ Q (.bl (!r.isSome)) H) := by
  obtain ⟨es, n, kd, _⟩ := kt
  exact op_notIn_kd kd
/-! ### d.items() -/
def ItK (es : Array DictEntry) : It :=
  ⟨fun i _ => i < es.size, fun i H v H' => ∃ (T : Addr) (k x : V) (e : DictEntry), v = .ref T ∧ H T = none ∧ H' = upd H T (.tup [k, x]) ∧ es[i]? = some e ∧ RelV k e.key ∧ RelV x e.val, fun i _ => es.size ≤ i⟩
/-- every key and value has a reading -/
def Read (es : Array DictEntry) : Prop := ∀ (i : Nat) (e : DictEntry), es[i]? = some e → (∃ k, RelV k e.key) ∧ ∃ v, RelV v e.val
theorem turn_itemsK {P : Program} {w : World} {K : Frg} {d : Addr} {es : Array DictEntry} {ep : Nat} {elts : List Expr} {kk : Nat} {tpos : Pos} (it : Addr) (kd : KDict K w d es ep) (rd : Read es) :
    Turn P w K (.Tuple elts kk tpos) (ItK es) [it] it (fun i h => ∃ ok ov, IsItemIter h it d i es.size ep ok ov) where
  mem := by simp
  obj := fun i h st b hb => by
    have e : b = it := by simpa using hb
    subst e
    obtain ⟨ok, ov, e⟩ := st
    exact ⟨_, e, fun v z => nomatch z⟩
  keep := fun i h h' st k => let ⟨ok, ov, e⟩ := st; ⟨ok, ov, k it (by simp) _ e⟩
  item := by
    intro X hP hw hK hc i pins s σ H E I hf st hg
    subst hP hw hK
    have hi : i < es.size := hg
    have raw : s.heap.DictRaw d es ep := ⟨_, I.kIn _ _ kd.at_, ⟨rfl, rfl, rfl⟩, rfl⟩
    obtain ⟨ok, ov, he⟩ := st
    have hlt : it < s.heap.objs.size := Heap.lt_size he
    have hei : es[i]? = some es[i] := Array.getElem?_eq_getElem hi
    obtain ⟨⟨k, rk⟩, v, rv⟩ := rd i _ hei
    refine wpAny_pyNext_items_item_raw he raw hi fun h' ho hT hz hk => ?_
    refine ⟨_, rfl, wpAny_letOwnedTupleGo_items (s := { s with heap := h' }) ho fun h'' he' sb => ?_⟩
    have hT2 : h''.get? s.heap.objs.size = some { cls := .type "tuple", data := .seq #[es[i].key, es[i].val] } := (sb.2 _ (Nat.ne_of_gt hlt)).trans hT
    have new : ObjOk X.prog X.w (upd H s.heap.objs.size (.tup [k, v])) h'' s.heap.objs.size (.tup [k, v]) :=
      ⟨by show 2 ≤ sizeLine; decide, [es[i].key, es[i].val], .cons rk (.cons rv .nil), ⟨_, hT2, rfl, _, rfl⟩⟩
    have I1 : L2.Inv X pins σ (upd H s.heap.objs.size (.tup [k, v])) { s with heap := h'' } :=
      I.turnedNew (t' := s.toks) (ch := [it]) (fun b ob hb e => (sb.2 b (by simpa using hb)).trans (hk b ob (by simpa using hb) e)) hf (Nat.le_refl _) new
    refine ⟨.ref s.heap.objs.size, _, I1, rfl, ⟨_, k, v, _, rfl, I.hok.fresh (Nat.le_refl _), rfl, hei, rk, rv⟩, ⟨_, _, he'⟩, fun b hb => ?_⟩
    have e : b = it := by simpa using hb
    rw [e, upd_ne (Nat.ne_of_lt hlt)]
    exact (hf it (by simp)).1
  done := by
    intro X hP hw hK hc i pins s σ H E I hf st hg
    subst hP hw hK
    have raw : s.heap.DictRaw d es ep := ⟨_, I.kIn _ _ kd.at_, ⟨rfl, rfl, rfl⟩, rfl⟩
    obtain ⟨f0, f1, f2, f3, f4, f5⟩ := hf it (by simp)
    obtain ⟨ok, ov, he⟩ := st
    exact wpAny_pyNext_items_end_raw (I.ok.hd hc) he raw hg fun h' eb => ⟨rfl, I.turned (t' := s.toks) (fun b ob hb e => eb b ob hb e) f0 f1 f3 f4 f5⟩
  self := fun A i s Q E st h => let ⟨_, _, e⟩ := st; PySem.W.kcp_self e h
def itemsD (tab : List (Str × D)) : List D := tab.map fun q => .tup [.str q.1, q.2]
theorem i_itemsT {x : Str} {tab : List (Str × D)} {elts : List Expr} {kk : Nat} {tpos cpos : Pos} (kt : KTab X.K X.w x tab) (he : PEp X B e r) (hbase : attributeBase e "items" X.env (eval e X.env) = eval e X.env := by rfl) (hline : (apos.endLine == cpos.line) = true := by rfl) :
    PIp X B (.Tuple elts kk tpos) (.Call (.Attribute e "items" apos) [] [] cpos) (fun ρ Q => r ρ fun d => d = .glob x ∧ Q (itemsD tab)) := by
  refine ⟨fun pins s σ H R I h => ?_⟩
  obtain ⟨F0, ρ, Qd, J, z, kk0⟩ := h
  obtain ⟨es, n, kd, al⟩ := kt
  refine wpAny_Call_method (T := "dict") (id := "dict.items") hbase rfl hline F.plainAttrs_dict F.slot_dict_items F.type_dict_items (thn (he.run pins s σ H (fun v H1 => ∃ F1, Go B.ms F0 H F1 H1 ∧ Tp X.K B.ms F1 H1 ∧ v = .ref (He.ga X.K x) ∧ Qd (itemsD tab)) I ⟨F0, ρ, _, J, z, fun v F1 H1 d g1 t1 r1 z1 => by
    obtain ⟨rfl, z1⟩ := z1
    cases r1
    exact ⟨F1, g1, t1, rfl, z1⟩⟩) fun u s1 ⟨y, H1, I1, rx, F1, g1, t1, ey, q⟩ => ?_)
  subst ey
  obtain rfl : u = Value.ref (He.ga X.K x) := rx
  have raw : s1.heap.DictRaw (He.ga X.K x) es n := ⟨_, I1.kIn _ _ kd.at_, ⟨rfl, rfl, rfl⟩, rfl⟩
  have rd : Read es := fun i e he => by
    have hi : i < es.toList.length := by
      rcases Nat.lt_or_ge i es.size with y | y
      · simpa using y
      · rw [Array.getElem?_eq_none y] at he; cases he
    have hl := al.len
    have ht : tab[i]? = some tab[i] := List.getElem?_eq_getElem (by omega)
    obtain ⟨⟨t, h1⟩, v, h2, _⟩ := al.get ht (b := e) (by simpa using he)
    exact ⟨⟨.str (tab[i]).1, by rw [h1]; exact ⟨t, rfl⟩⟩, v, h2⟩
  refine ⟨raw.typeIs, (PySem.W.mapOf_K (prog := X.prog) (w := X.w) I1.kIn kd.at_ kd.lit).noDict, ?_⟩
  have I2 : L2.Inv X pins σ H1 { s1 with heap := s1.heap.push { cls := .type "dict_items", data := .fields #[.ref (He.ga X.K x)] } } := I1.kept (t' := s1.toks) fun b ob q => Heap.get?_push_of_some _ q
  have fin : wpAny (model X.prog X.w) X.A (pyIter (.ref s1.heap.objs.size)) (PIE X pins σ (.Tuple elts kk tpos) R) X.xe { s1 with heap := s1.heap.push { cls := .type "dict_items", data := .fields #[.ref (He.ga X.K x)] } } := by
    refine wpAny_pyIter_items_raw (d := He.ga X.K x) (es := es) (ep := n) ⟨_, Heap.get?_push_size _ rfl, rfl, rfl⟩ (raw.at fun o e => Heap.get?_push_of_some _ e) (pi_one (tk := s1.toks) I2 _ (turn_itemsK _ kd rd) ⟨.none, .none, Heap.get?_push_size _ rfl⟩ ?_)
    have hl := al.len
    refine kk0 _ F1 H1 (itemsD tab) g1 t1 ⟨fun _ => True, fun i H v H' => ∃ (T : Addr) (k x : V) (e : DictEntry), v = .ref T ∧ H T = none ∧ H' = upd H T (.tup [k, x]) ∧ es[i]? = some e ∧ RelV k e.key ∧ RelV x e.val, ⟨fun i H hi _ => ?_, fun H _ => ?_, fun _ _ _ _ _ _ y => y⟩, fun _ _ _ _ => trivial, ?_⟩ q
    · show i < es.size
      have hi' : i < tab.length := by simpa [itemsD] using hi
      have hl' : tab.length = es.size := by simpa using hl
      omega
    · show es.size ≤ (itemsD tab).length
      have hl' : tab.length = es.size := by simpa using hl
      simp [itemsD, hl']
    · rintro i F2 H2 y H2' d s0 s' ⟨T, k, v, e, rfl, hT, rfl, hie, rk, rv⟩ hd
      unfold itemsD at hd
      rw [List.getElem?_map] at hd
      obtain ⟨q0, q1, rfl⟩ := Option.map_eq_some_iff.mp hd
      obtain ⟨⟨t, h1⟩, v', h2, h3⟩ := al.get q1 (b := e) (by simpa using hie)
      have ev : v = v' := rv.inj h2
      subst ev
      have ek : k = .str q0.1 := by
        rw [h1] at rk
        exact rk.inj ⟨t, rfl⟩
      subst ek
      obtain ⟨F3, g3, q3, _⟩ := newE s' hT rfl
      exact ⟨F3, g3, .tup (SqT.of q3) (.cons (.str _) (.cons (h3 _ F3) .nil))⟩
  show wpAny _ _ (callWith cpos (.builtin "dict.items") [.ref (He.ga X.K x)] [] []) _ X.xe s1
  exact method_meetsIn F.slot_dict_items F.entry_dict_items rfl (PySem.evalArgs_none ⟨rfl, raw.typeIs, F.args_dict_items_1 _, _, meets_dict_items_raw (He.ga X.K x) kd.low, ⟨es, n, raw⟩, fin⟩)
/-- d.get(k, x) -/
def dGetT (tab : List (Str × D)) (y z : D) (Q : D → Prop) : Prop := match y with
  | .str k => Q ((tab.lookup k).getD z)
  | _ => False
theorem y_getT {x : Str} {tab : List (Str × D)} {f : Expr} {rf : Rd} {cpos : Pos} (kt : KTab X.K X.w x tab) (ho : PEp X B o ro) (he : PEp X B e r) (hf : PEp X B f rf) (m : M2 X o "get" apos e f cpos := by exact ⟨rfl, rfl, rfl, rfl⟩) :
    PEp X B (.Call (.Attribute o "get" apos) [e, f] [] cpos) (fun ρ Q => ro ρ fun d => d = .glob x ∧ r ρ fun y => rf ρ fun z => dGetT tab y z Q) := by
  refine ⟨fun pins s σ H Q I h => ?_⟩
  obtain ⟨F0, ρ, Qd, J, z, k0⟩ := h
  obtain ⟨es, n, kd, al⟩ := id kt
  refine wpAny_Call_method m.base m.few m.line PySem.F.plainAttrs_dict PySem.F.slot_dict_get PySem.F.type_dict_get (thn (ho.run pins s σ H (fun v H1 => ∃ F1, Go B.ms F0 H F1 H1 ∧ Tp X.K B.ms F1 H1 ∧ v = .ref (He.ga X.K x) ∧ r ρ fun y => rf ρ fun z => dGetT tab y z Qd) I ⟨F0, ρ, _, J, z, fun v F1 H1 d g1 t1 r1 z1 => by
    obtain ⟨rfl, z1⟩ := z1
    cases r1
    exact ⟨F1, g1, t1, rfl, z1⟩⟩) fun u s1 ⟨y, H1, I1, rx, F1, g1, t1, ey, q⟩ => ?_)
  subst ey
  obtain rfl : u = Value.ref (He.ga X.K x) := rx
  have mp := PySem.W.mapOf_K (prog := X.prog) (w := X.w) I1.kIn kd.at_ kd.lit
  refine ⟨mp.typeIs, mp.noDict, ?_⟩
  rw [m.trees]
  refine Calls.callWith_builtin rfl (Calls.evalArgs_plain (Calls.spliced_cons (thn (he.run pins s1 σ H1 (fun v H2 => ∃ F2 d, Go B.ms F1 H1 F2 H2 ∧ Tp X.K B.ms F2 H2 ∧ Rp X.K B.ms F2 v d ∧ rf ρ fun z => dGetT tab d z Qd) I1 ⟨F1, ρ, _, J.step g1 t1, q, fun v F2 H2 d g2 t2 r2 z2 => ⟨F2, d, g2, t2, r2, z2⟩⟩) fun iv s2 ⟨y, H2, I2, ry, F2, d2, g2, t2, r2, q2⟩ =>
    Calls.spliced_cons (thn (hf.run pins s2 σ H2 (fun v H3 => ∃ F3 d, Go B.ms F2 H2 F3 H3 ∧ Tp X.K B.ms F3 H3 ∧ Rp X.K B.ms F3 v d ∧ dGetT tab d2 d Qd) I2 ⟨F2, ρ, _, (J.step g1 t1).step g2 t2, q2, fun v F3 H3 d g3 t3 r3 z3 => ⟨F3, d, g3, t3, r3, z3⟩⟩) fun fv s3 ⟨z, H3, I3, rz, F3, d3, g3, t3, r3, q3⟩ => Calls.spliced_nil ?_))))
  cases d2 with
  | str k =>
    cases r2
    have q3 : Qd ((tab.lookup k).getD d3) := q3
    obtain ⟨t, rfl⟩ := (show ∃ t, iv = Value.str k t from ry)
    have mp3 := PySem.W.mapOf_K (prog := X.prog) (w := X.w) I3.kIn kd.at_ kd.lit
    refine call_meetsIn PySem.F.slot_dict_get mp3.typeIs PySem.F.entry_dict_get (PySem.F.args_dict_get_3 _ _ _) (meets_dict_get_default (strKind X.prog X.w) (He.ga X.K x) (strKind_is X.prog X.w k t) kd.low fv) ⟨_, mp3, ?_⟩
    have g13 := (g1.trans g2).trans g3
    rcases kt.ns k with ⟨d, u, h1, h2, v, h3, h4⟩ | ⟨h1, h2⟩
    · rw [PySem.W.find_K kd.at_ h2]
      rw [h1] at q3
      exact ⟨v, H3, I3.tok _, h3, k0 v F3 H3 _ g13 t3 (h4 _ _) q3⟩
    · rw [PySem.W.find_K kd.at_ h2]
      rw [h1] at q3
      exact ⟨z, H3, I3.tok _, rz, k0 z F3 H3 _ g13 t3 r3 q3⟩
  | _ => exact q3.elim
end
end Y
namespace Z
open PySem PySem.Spec PyProof.Rows L2
open PySem.W
section
variable {prog : Program} {w : World} {A : Around} {E : Value → Shared → Prop} {s : Shared} {K : Frg} {x C C' L f f' : Addr} {h₀ : Heap} {m : Str → Option Value} {ox : Obj} {od : Option Obj}
/-- a op b, b of another own class that has the operation, too -/
theorem binop_O {op : Operator} {b : Value} {rc rc' : Option Value} {Q : Value → Shared → Prop} (F : Fr h₀ L s.heap m) (X₀ : K.In h₀) (I : InstAt s.heap x ox C od) (hb : Looks (model prog w) s.heap (typeOf b) (.ref C')) (hc : selfFirst K C = true) (hc' : selfFirst K C' = true)
    (hs : findIn K (.ref C) (PySem.dunder op.info.2) = some (some (.ref f))) (hf : isFn K (.ref f) = true) (hr : findIn K (.ref C) (dunderR op.info.2) = some rc) (hp : rc = none ∨ ∃ g : Addr, rc = some (.ref g))
    (hs' : findIn K (.ref C') (PySem.dunder op.info.2) = some (some (.ref f'))) (hr' : findIn K (.ref C') (dunderR op.info.2) = some rc') (hp' : rc' = none ∨ ∃ g : Addr, rc' = some (.ref g)) (hsub : subIn K (.ref C') (.ref C) = some false) (hn : C ≠ C')
    (h : wpAny (model prog w) A (call (.ref f) [.ref x, b]) (PySem.W.CmpBack Q) E s) : wpAny (model prog w) A (binaryOp op (.ref x) b) Q E s := by
  have X := X₀.keeps F.keep
  obtain ⟨cd, rest, hcd, hm⟩ := ksp_first hc
  obtain ⟨cd', rest', hcd', hm'⟩ := ksp_first hc'
  rcases hi : op.info with ⟨sym, nm'⟩
  rw [hi] at hs hr hs' hr'
  dsimp only at hs hr hs' hr'
  have one := ksp_try X I hs hf h
  obtain ⟨hh, g, d, tt, os⟩ := s
  have L1 : Looks (model prog w) hh (typeOf (.ref x)) (.ref C) := I.type
  have L2 : Looks (model prog w) hh (typeOf b) (.ref C') := hb
  have L3 : Looks (model prog w) hh (fillsNumberSlot (.ref C) nm') true := fills_K X hcd hm hs
  have L4 : Looks (model prog w) hh (fillsNumberSlot (.ref C') nm') true := fills_K X hcd' hm' hs'
  have L5 : Looks (model prog w) hh (isSubtype (.ref C') (.ref C)) false := looks_subIn X hsub
  have L6 : Looks (model prog w) hh (numberSlotInPython (.ref C) nm') true := ksp_inPy X hs hr hp
  have L7 : Looks (model prog w) hh (numberSlotInPython (.ref C') nm') true := ksp_inPy X hs' hr' hp'
  have hne : (Value.ref C == Value.ref C') = false := Bool.eq_false_iff.mpr fun q => by
    have := beq_iff_eq.mp q
    cases this
    exact hn rfl
  simp only [binaryOp, hi]
  refine wpAny_holding (wpAny_bind ?_)
  unfold binaryOp1
  refine wpAny_bind (L1.at (wpAny_bind (L2.at (wpAny_bind (L3.at ?_)))))
  simp only [hne, Bool.false_eq_true, if_false]
  ksp_lk
  refine wpAny_mono one (fun r s' hr' => ?_) fun _ _ e => e
  obtain ⟨v, rfl, hq⟩ := hr'
  ksp_lk
  exact hq
end
section
variable {X : Cx} {CX : CXT} {k : Nat} {f C C' p g g' : Addr} {sp : Sp} {E : XK} {x m : Str} {p0 pos apos : Pos} {e o a b : Expr} {es : List Expr} {ta tb : TE} {t : TA} {pins : List (Addr × Obj)} {σ : L2.St} {H : Hp} {s : Shared}
/-- what a op b asks of two own classes -/
structure Bin2 (K : Frg) (nm : String) (C C' g g' : Addr) : Prop where
  hr : ∃ rc, PySem.W.findIn K (.ref C) (dunderR nm) = some rc ∧ (rc = none ∨ ∃ g : Addr, rc = some (.ref g))
  hr' : ∃ rc, PySem.W.findIn K (.ref C') (dunderR nm) = some rc ∧ (rc = none ∨ ∃ g : Addr, rc = some (.ref g))
  hs' : PySem.W.findIn K (.ref C') (PySem.dunder nm) = some (some (.ref g'))
  hc : selfFirst K C = true
  hc' : selfFirst K C' = true
  hsub : subIn K (.ref C') (.ref C) = some false
  hn : C ≠ C'
def rBin2 (C C' : Addr) (sp : Sp) (E : XK) : R2 := fun x y H Q => ∃ a dx fs b dy gs, x = .ref a ∧ y = .ref b ∧ H a = some (.ins C dx fs) ∧ H b = some (.ins C' dy gs) ∧ sp [x, y] H Q E
theorem gop_bin2 {op : Operator} (b2 : Bin2 X.K op.info.2 C C' g g') (hs : PySem.W.findIn X.K (.ref C) (PySem.dunder op.info.2) = some (some (.ref g))) (hf : PySem.W.isFn X.K (.ref g) = true) (F : FnA X.A X.prog X.w X.K X.mg X.base CX g sp) (hx : Passes CX X E) : OpR X (binaryOp op) (rBin2 C C' sp E) := by
  intro pins s σ H x y v u Q I rx ry h
  obtain ⟨a, dx, fs, b, dy, gs, rfl, rfl, ea, eb, q⟩ := h
  cases (show v = Value.ref a from rx)
  cases (show u = Value.ref b from ry)
  obtain ⟨mA, O, _, _, _, _⟩ := ins_get I.hok ea
  obtain ⟨od, J, _⟩ := O.look
  obtain ⟨mB, O', _, _, _, _⟩ := ins_get I.hok eb
  obtain ⟨od', J', _⟩ := O'.look
  obtain ⟨m, hF⟩ := I.fr
  obtain ⟨rc, r1, r2⟩ := b2.hr
  obtain ⟨rc', r3, r4⟩ := b2.hr'
  refine binop_O hF I.ok.mod.kin J J'.type b2.hc b2.hc' hs hf r1 r2 b2.hs' r3 r4 b2.hsub b2.hn ?_
  refine wpAny_mono (wpAny_call (run_fnA (us := [.ref a, .ref b]) (vs := [.ref a, .ref b]) F hx I (.cons rfl (.cons rfl .nil)) q)) (fun w s' z => ?_) fun _ _ x => x
  obtain ⟨z', H', I', rz, qz⟩ := z
  exact SlX.cmpback rz ⟨z', H', I', rz, qz⟩
/-- a op b, b of a built-in type -/
structure BinT (K : Frg) (nm : String) (C : Addr) (T : String) : Prop where
  hr : ∃ rc, PySem.W.findIn K (.ref C) (dunderR nm) = some rc ∧ (rc = none ∨ ∃ g : Addr, rc = some (.ref g))
  h1 : ∃ fo, PySem.W.findIn K (.type T) (PySem.dunder nm) = some fo
  h2 : ∃ ro, PySem.W.findIn K (.type T) (dunderR nm) = some ro
  hc : selfFirst K C = true
  hsub : subIn K (.type T) (.ref C) = some false
/-- ~a -/
def rUnO (C : Addr) (sp : Sp) (E : XK) : V → Hp → VK → Prop := fun x H Q => ∃ a dx fs, x = .ref a ∧ H a = some (.ins C dx fs) ∧ sp [x] H Q E
theorem gop_inv (hs : PySem.W.findIn X.K (.ref C) "__invert__" = some (some (.ref g))) (hf : PySem.W.isFn X.K (.ref g) = true) (F : FnA X.A X.prog X.w X.K X.mg X.base CX g sp) (hx : Passes CX X E) : UnR X (unaryOp .Invert) (rUnO C sp E) := by
  intro pins s σ H x v Q I rx h
  obtain ⟨a, dx, fs, rfl, ea, q⟩ := h
  cases (show v = Value.ref a from rx)
  obtain ⟨mA, O, _, _, _, _⟩ := ins_get I.hok ea
  obtain ⟨od, J, _⟩ := O.look
  obtain ⟨m, hF⟩ := I.fr
  refine PySem.W.ksp_inv hF I.ok.mod.kin J hs hf ?_
  exact wpAny_call (run_fnA (us := [.ref a]) (vs := [.ref a]) F hx I (.cons rfl .nil) q)
/-- o(e, ..) of an instance -/
theorem gcallO {tf : TE} {fe : Expr} (hf : PE X fe tf) (c : StX.CallO X.K C g) (F : FnA X.A X.prog X.w X.K X.mg X.base CX g sp) (hx : Passes CX X E) (ha : PA X (e :: es) t)
    (ht : eval (.Call fe (e :: es) [] pos) X.env = (do callWith pos (← eval fe X.env) [] (backTo pos (starEach (e :: es) X.env)) (backToKw pos (keywordEach [] X.env))) := by rfl)
    (he : starEach (e :: es) X.env = (false, eval e X.env) :: starEach es X.env := by rfl) (hpl : (backTo pos (starEach es X.env)).any (·.1) = false := by rfl) : PE X (.Call fe (e :: es) [] pos) (StX.tCallO X C sp E tf t) := by
  refine ⟨fun pins s σ H Q I h => ?_⟩
  refine Call_ (thn (hf.run pins s σ H _ I h) fun u s1 ⟨y, H1, I1, ry, a, ey, q⟩ => ?_) ht
  subst ey
  obtain rfl : u = Value.ref a := ry
  refine StX.callO_with (thn (ha.run pos pins s1 σ H1 _ I1 q) fun us s2 ⟨vs, H2, I2, r, hi, q2⟩ => ?_) he hpl
  obtain ⟨ox, od, J, hd⟩ := StX.insC_at I2 hi
  exact ⟨⟨C, ox, od, J, hd⟩, wpAny_call (PySem.W.kco_code I2.kIn J hd c.at_ c.fn c.fi (run_fnA (us := .ref a :: us) (vs := .ref a :: vs) F hx I2 (.cons rfl r) q2))⟩
end
/-! ### facts -/
def rcB (K : Frg) (C : Addr) (nm : String) : Bool := match PySem.W.findIn K (.ref C) (dunderR nm) with
  | some none => true
  | some (some (.ref _)) => true
  | _ => false
theorem rcB_ok {K : Frg} {C : Addr} {nm : String} (h : rcB K C nm = true) : ∃ rc, PySem.W.findIn K (.ref C) (dunderR nm) = some rc ∧ (rc = none ∨ ∃ g : Addr, rc = some (.ref g)) := by
  unfold rcB at h
  split at h
  · rename_i e; exact ⟨_, e, .inl rfl⟩
  · rename_i g e; exact ⟨_, e, .inr ⟨g, rfl⟩⟩
  · cases h
def bBin2 (x y : Str) (nm : String) (dn : Str) : Frg → Bool := fun K => rcB K (He.ga K x) nm && (rcB K (He.ga K y) nm && (He.eqO (PySem.W.findIn K (.ref (He.ga K y)) (PySem.dunder nm)) (some (some (.ref (He.ma K (He.ga K y) dn)))) && (selfFirst K (He.ga K x) && (selfFirst K (He.ga K y) && (decide (subIn K (.ref (He.ga K y)) (.ref (He.ga K x)) = some false) && decide (He.ga K x ≠ He.ga K y))))))
theorem bin2_of {K : Frg} {x y dn : Str} {nm : String} {g : Addr} (h : bBin2 x y nm dn K = true) : Bin2 K nm (He.ga K x) (He.ga K y) g (He.ma K (He.ga K y) dn) := by
  obtain ⟨h1, h⟩ := He.ba h
  obtain ⟨h2, h⟩ := He.ba h
  obtain ⟨h3, h⟩ := He.ba h
  obtain ⟨h4, h⟩ := He.ba h
  obtain ⟨h5, h⟩ := He.ba h
  obtain ⟨h6, h7⟩ := He.ba h
  exact ⟨rcB_ok h1, rcB_ok h2, He.eqO_ok h3, h4, h5, of_decide_eq_true h6, of_decide_eq_true h7⟩
def bCallO (x : Str) : Frg → Bool := fun K => He.eqO (PySem.W.findIn K (.ref (He.ga K x)) "__call__") (some (some (.ref (He.ma K (He.ga K x) "__call__")))) && (PySem.W.isFn K (.ref (He.ma K (He.ga K x) "__call__")) && PySem.W.fnIn K (He.ma K (He.ga K x) "__call__"))
theorem callO_of {K : Frg} {x : Str} (h : bCallO x K = true) : StX.CallO K (He.ga K x) (He.ma K (He.ga K x) "__call__") := by
  obtain ⟨h1, h⟩ := He.ba h
  obtain ⟨h2, h3⟩ := He.ba h
  exact ⟨He.eqO_ok h1, h2, h3⟩
end Z
namespace Y
open PySem PySem.Spec PyProof.Rows L2 Z
section
variable {X : Cx} {B : Bs} {K : Frg} {ms : List Addr} {a b c e o : Expr} {es : List Expr} {ra rb rc r ro : Rd} {rt ru : RdT} {rl : RdA} {pos p0 apos : Pos} {R : RdF} {k : Nat} {f g p : Addr} {x m : Str} {s1 s2 : RdS}
def dBin2 (B : Bs) (R : RdF) (C : Str) (ns : List Str) (C' : Str) (ns' : List Str) (x y : D) (Q : D → Prop) : Prop := asO [C] ns x (asO [C'] ns' y (R [x, y] Q B.Ed))
theorem bin2L {C C' : Str} {ns ns' : List Str} : OpI K B (rBin2 (He.ga K C) (He.ga K C') (spP K R) (EE K B)) (dBin2 B R C ns C' ns') := by
  intro F H x y dx dy Qd Q g0 t0 rx ry h k
  obtain ⟨a, d1, f1, c1, rfl, hc1, h1, hh⟩ := asO_of rx h
  obtain ⟨b, d2, f2, c2, rfl, hc2, h2, hhh⟩ := asO_of ry hh
  have e1 : c1 = C := by simpa using hc1
  have e2 : c2 = C' := by simpa using hc2
  subst e1
  subst e2
  exact ⟨a, d1, f1, b, d2, f2, rfl, rfl, t0.1 _ _ h1, t0.1 _ _ h2, sp_callG g0 t0 (.cons rx (.cons ry .nil)) k hhh⟩
/-- ~o -/
theorem y_inv {C : Str} {ns : List Str} (hs : PySem.W.findIn X.K (.ref (He.ga X.K C)) "__invert__" = some (some (.ref g))) (hf : PySem.W.isFn X.K (.ref g) = true) (F : FnA X.A X.prog X.w X.K X.mg X.base (L2.CX X.prog X.w) g (spP X.K R)) (hx : Px X B) (ha : PEp X B a ra) :
    PEp X B (.UnaryOp .Invert a pos) (fun ρ Q => ra ρ fun x => asO [C] ns x (R [x] Q B.Ed)) :=
  pe_imp (pe_un (gop_inv hs hf F hx) ha) fun σ H Q ⟨F0, ρ, Qd, I, z, kk⟩ => ⟨F0, ρ, _, I, z, fun v F1 H1 d g1 t1 r1 z1 => by
    obtain ⟨a, d1, f1, c1, rfl, hc1, h1, hh⟩ := asO_of r1 z1
    have e1 : c1 = C := by simpa using hc1
    subst e1
    exact ⟨a, d1, f1, rfl, t1.1 _ _ h1, sp_call I kk g1 t1 (.cons r1 .nil) hh⟩⟩
/-- o(e, ..) -/
theorem y_callO {C : Str} {ns : List Str} (ho : PEp X B o ro) (c : StX.CallO X.K (He.ga X.K C) g) (F : FnA X.A X.prog X.w X.K X.mg X.base (L2.CX X.prog X.w) g (spP X.K R)) (hx : Px X B) (ha : PAp X B (e :: es) rl)
    (ht : eval (.Call o (e :: es) [] pos) X.env = (do callWith pos (← eval o X.env) [] (backTo pos (starEach (e :: es) X.env)) (backToKw pos (keywordEach [] X.env))) := by rfl)
    (he : starEach (e :: es) X.env = (false, eval e X.env) :: starEach es X.env := by rfl) (hpl : (backTo pos (starEach es X.env)).any (·.1) = false := by rfl) :
    PEp X B (.Call o (e :: es) [] pos) (fun ρ Q => ro ρ fun x => asO [C] ns x (rl ρ fun ds => R (x :: ds) Q B.Ed)) :=
  pe_imp (gcallO ho c F hx ha ht he hpl) fun σ H Q ⟨F0, ρ, Qd, I, z, kk⟩ => ⟨F0, ρ, _, I, z, fun v F1 H1 d g1 t1 r1 z1 => by
    obtain ⟨a, d1, f1, c1, rfl, hc1, h1, hh⟩ := asO_of r1 z1
    have e1 : c1 = C := by simpa using hc1
    subst e1
    exact ⟨a, rfl, F1, ρ, _, I.step g1 t1, hh, fun vs F2 H2 ds g2 t2 r2 z2 => ⟨.inr ⟨d1, f1, t2.1 _ _ (g2.ff _ _ h1)⟩, sp_call I kk (g1.trans g2) t2 (.cons (r1.up g2.ff) r2) z2⟩⟩⟩
/-- a tuple of the module -/
def bVD (x : Str) (d : D) : Frg → Bool := fun K => vOk K 4 d (.ref (He.ga K x))
theorem vd_of {x : Str} {d : D} (h : bVD x d K = true) : VD K d (.ref (He.ga K x)) := vOk_ok _ _ _ h
theorem y_globD {x : Str} {d : D} (hg : Gl X x) (h : X.mg x = some (.ref (He.ga X.K x))) (hv : VD X.K d (.ref (He.ga X.K x))) (hd : (x == ("__debug__" : Str)) = false := by decide) : PEp X B (.Name x pos) (rC d) :=
  pe_imp (pe_glob (v := .ref (He.ga X.K x)) hg h rfl hd) fun σ H Q ⟨F, ρ, Qd, I, z, k⟩ => by
    obtain ⟨v, r1, r2⟩ := hv
    have e : v = .ref (He.ga X.K x) := r1.inj rfl
    subst e
    exact k _ F H _ (Go.refl I.same) I.tp (r2 _ _) z
def bDfl (f : Str × Option Str) (d : D) : Frg → Bool := fun K => vOk K 4 d (.ref (He.dflAt f 0 K))
theorem defD_of {x qual : Str} {st : Stmt} {f p : Addr} {d : D} (h : ∃ fd, L2.FunD K x qual (defArgs st) (defBody st) (defScope st) [.ref p] [] f fd) (c : vOk K 4 d (.ref p) = true) : DefAtD K x qual st f d := by
  obtain ⟨fd, h⟩ := h
  obtain ⟨v, r1, r2⟩ := vOk_ok _ _ _ c
  have e : v = .ref p := r1.inj rfl
  subst e
  exact ⟨fd, _, h, r2⟩
end
end Y
namespace Y
open PySem PySem.Spec PyProof.Rows L2 Z
section
variable {X : Cx} {B : Bs} {K : Frg} {ms : List Addr} {a b c e o : Expr} {es : List Expr} {ra rb rc r ro : Rd} {rt ru : RdT} {rl : RdA} {pos p0 apos : Pos} {R : RdF} {k : Nat} {f g p : Addr} {x m : Str}
/-! ### f-strings -/
/-- {e!r} of data -/
theorem y_fmtR (hr : RoomG k X.A) (he : PEp X B e r) : PEp X B (.FormattedValue e 114 none pos) (fun ρ Q => r ρ fun d => (shP 0 d ∧ (toP d).bulk ≤ 8000 ∧ (toP d).depth ≤ 40) ∧ Q (.str (shD d))) := by
  refine ⟨fun pins s σ H Q I h => ?_⟩
  obtain ⟨F0, ρ, Qd, J, z, kk⟩ := h
  refine wpAny_FormattedValue_repr (thn (he.run pins s σ H (fun v H1 => ∃ F1 d, Go B.ms F0 H F1 H1 ∧ Tp X.K B.ms F1 H1 ∧ Rp X.K B.ms F1 v d ∧ (shP 0 d ∧ (toP d).bulk ≤ 8000 ∧ (toP d).depth ≤ 40) ∧ Qd (.str (shD d))) I ⟨F0, ρ, _, J, z, fun v F1 H1 d g1 t1 r1 z1 => ⟨F1, d, g1, t1, r1, z1⟩⟩) fun u s1 ⟨v, H1, I1, ru, F1, d, g1, t1, rd, ⟨hp, hb, hd⟩, q⟩ => ?_)
  have hl := sh_len hp hb
  have hu := hr.units
  obtain ⟨as, rr⟩ := sh_reads I1 t1.1 d v u hp rd ru
  have end_ : ∀ s2 (y : Str) (t : Tok), L2.Inv X pins σ H1 s2 → y = (toP d).shown → wpAny (model X.prog X.w) X.A (formatField (.str y t) Str.empty) (EP X pins σ Q) X.xe s2 := fun s2 y t I2 e => by
    subst e
    exact wpAny_formatField_str ⟨.str _, H1, I2, ⟨t, rfl⟩, kk _ F1 H1 _ g1 t1 (.str _) q⟩ ⟨.str _, H1, I2.tok _, ⟨_, rfl⟩, kk _ F1 H1 _ g1 t1 (.str _) q⟩ hl
  cases rd with
  | non =>
    obtain rfl : u = Value.none := ru
    exact pyReprObj_none (end_ _ _ _ (I1.tok _) rfl)
  | bl b =>
    obtain rfl : u = Value.bool b := ru
    exact pyReprObj_bool (end_ _ _ _ (I1.tok _) (by cases b <;> rfl))
  | int i =>
    obtain ⟨t, rfl⟩ := (show ∃ t, u = Value.int i t from ru)
    exact pyReprObj_int (sz1900 hp) (end_ _ _ _ (I1.tok _) rfl)
  | str x =>
    obtain ⟨t, rfl⟩ := (show ∃ t, u = Value.str x t from ru)
    exact pyReprObj_str (end_ _ _ _ (I1.tok _) rfl) hl
  | ty _ => exact hp.elim
  | glob _ => exact hp.elim
  | tape _ => exact hp.elim
  | obj _ _ _ => exact hp.elim
  | lst h1 h2 =>
    obtain rfl : u = Value.ref _ := ru
    exact pyReprObj_of_reads rr (sh_able _ hp) (PyData.noDict_hsm (sh_nodict _ hp)) hr.gd (by omega) (fun _ _ e => e) (fun h' u' tk hk => end_ _ _ _ (I1.kept hk) rfl) hl
  | tup h1 h2 =>
    obtain rfl : u = Value.ref _ := ru
    exact pyReprObj_of_reads rr (sh_able _ hp) (PyData.noDict_hsm (sh_nodict _ hp)) hr.gd (by omega) (fun _ _ e => e) (fun h' u' tk hk => end_ _ _ _ (I1.kept hk) rfl) hl
/-- {e} of a text or an int -/
def dFmt (d : D) (Q : D → Prop) : Prop := match d with
  | .int i => Sz 1900 i ∧ Q (.str (shD (.int i)))
  | .str y => y.length ≤ 100000 ∧ Q (.str y)
  | _ => False
theorem y_fmt (he : PEp X B e r) : PEp X B (.FormattedValue e (-1) none pos) (fun ρ Q => r ρ fun d => dFmt d Q) :=
  pe_imp (pe_fmt he) fun σ H Q ⟨F, ρ, Qd, I, z, kk⟩ => ⟨F, ρ, _, I, z, fun v F1 H1 d g1 t1 r1 z1 => by
    unfold dFmt at z1
    split at z1
    · cases r1
      exact .inr ⟨_, rfl, sz1900 z1.1, kk _ F1 H1 _ g1 t1 (.str _) z1.2⟩
    · cases r1
      exact .inl ⟨_, rfl, Nat.le_trans z1.1 line_ge, kk _ F1 H1 _ g1 t1 (.str _) z1.2⟩
    · exact z1.elim⟩
/-- the parts -/
def jR : List Rd → Str → Ev → (Str → Prop) → Prop
  | [], acc, _, Q => Q acc
  | r :: rs, acc, ρ, Q => r ρ fun d => match d with
    | .str y => (acc ++ y).length ≤ 100000 ∧ jR rs (acc ++ y) ρ Q
    | _ => False
inductive PJp (X : Cx) (B : Bs) : List Expr → List Rd → Prop
  | nil : PJp X B [] []
  | cons {e : Expr} {r : Rd} {es : List Expr} {rs : List Rd} : PEp X B e r → PJp X B es rs → PJp X B (e :: es) (r :: rs)
theorem PJp.pj {es : List Expr} {rs : List Rd} (h : PJp X B es rs) : PJ X es (rs.map (tE X.K B)) := by
  induction h with
  | nil => exact .nil
  | cons h _ ih => exact .cons h ih
theorem jR_run {ρ : Ev} {F0 : Hp} {H0 : Hp} {Qd : Str → Prop} {σ : L2.St} : ∀ (rs : List Rd) (acc : Str) (F H : Hp) (Q : Str → Hp → Prop), Iv X.K B F H σ ρ → Go B.ms F0 H0 F H → jR rs acc ρ Qd → (∀ out F1 H1, Go B.ms F0 H0 F1 H1 → Tp X.K B.ms F1 H1 → Qd out → Q out H1) → tJs (rs.map (tE X.K B)) acc σ H Q
  | [], acc, F, H, Q, I, g, z, kk => kk acc F H g I.tp z
  | r :: rs, acc, F, H, Q, I, g, z, kk => ⟨F, ρ, _, I, z, fun v F1 H1 d g1 t1 r1 z1 => by
    split at z1
    · cases r1
      exact ⟨_, rfl, Nat.le_trans z1.1 line_ge, jR_run rs _ F1 H1 Q (I.step g1 t1) (g.trans g1) z1.2 kk⟩
    · exact z1.elim⟩
theorem y_joined {v1 v2 : Expr} {rest : List Expr} {rs : List Rd} (h : PJp X B (v1 :: v2 :: rest) rs) : PEp X B (.JoinedStr (v1 :: v2 :: rest) pos) (fun ρ Q => jR rs Str.empty ρ fun out => Q (.str out)) :=
  pe_imp (pe_joined h.pj) fun σ H Q ⟨F, ρ, Qd, I, z, kk⟩ => jR_run rs Str.empty F H _ I (Go.refl I.same) z fun out F1 H1 g t q => kk _ F1 H1 _ g t (.str _) q
/-! ### repr of an own instance -/
def rReprO (C : Addr) (sp : Sp) (E : XK) (xs : List V) (H : Hp) (Q : VK) : Prop := ∃ a dx fs, xs = [.ref a] ∧ H a = some (.ins C dx fs) ∧ sp [.ref a] H (fun v H' => ∃ y, v = .str y ∧ Q v H') E
theorem call_reprO {C : Addr} {sp : Sp} {E : XK} {CX : CXT} (hu : X.A.units + 64 < cLine) (hs : PySem.W.findIn X.K (.ref C) "__repr__" = some (some (.ref g))) (hf : PySem.W.isFn X.K (.ref g) = true) (F : FnA X.A.in1 X.prog X.w X.K X.mg X.base CX g sp) (hx : Passes CX X E) : CallR X (.builtin "repr") (rReprO C sp E) := by
  intro pins s σ H xs us Q I r h
  obtain ⟨a, dx, fs, rfl, ea, q⟩ := h
  obtain ⟨u, rfl, ru⟩ := vals1 r
  obtain rfl : u = Value.ref a := ru
  obtain ⟨mA, O, _, _, _, _⟩ := ins_get I.hok ea
  obtain ⟨od, J, _⟩ := O.look
  obtain ⟨m, hF⟩ := I.fr
  have hu' : X.A.in1.units < cLine := by
    have : X.A.in1.units = X.A.units + 1 := by first | rfl | simp [Around.in1]
    omega
  refine PySem.W.repr_K hu' hF I.ok.mod.kin J hs hf ?_
  refine wpAny_mono (wpAny_call (run_A (us := [.ref a]) (vs := [.ref a]) F I.env0.in1 hx I (.cons rfl .nil) q)) (fun w s' z => ?_) fun _ _ x => x
  obtain ⟨z', H', I', rz, y, rfl, qz⟩ := z
  obtain ⟨t, rfl⟩ := (show ∃ t, w = Value.str y t from rz)
  exact ⟨.str y, H', I', ⟨t, rfl⟩, qz⟩
def sOf (d : D) (k : Prop) : Prop := match d with
  | .str _ => k
  | _ => False
theorem y_reprO {C : Str} {ns : List Str} (hr : RoomG (k + 1) X.A) (hs : PySem.W.findIn X.K (.ref (He.ga X.K C)) "__repr__" = some (some (.ref g))) (hf : PySem.W.isFn X.K (.ref g) = true) (F : FnG X.prog X.w X.K X.mg X.base (L2.CX X.prog X.w) k g (spP X.K R)) (hx : Px X B) (hg : Gl X "repr") (hm : X.mg "repr" = none) (ha : PEp X B a ra)
    (h1 : starEach [a] X.env = [(false, eval a X.env)] := by rfl) :
    PEp X B (.Call (.Name "repr" p0) [a] [] pos) (fun ρ Q => ra ρ fun d => asO [C] ns d (R [d] (fun y => sOf y (Q y)) B.Ed)) :=
  pe_imp (pe_callB (call_reprO hr.units hs hf (F.at hr.in1) hx) hg hm (by decide +kernel) (pa_cons ha pa_nil h1) (by decide) (by decide) h1 rfl) fun σ H Q ⟨F0, ρ, Qd, I, z, kk⟩ => ⟨F0, ρ, _, I, z, fun v F1 H1 d g1 t1 r1 z1 => by
    obtain ⟨a, d1, f1, c1, rfl, hc1, h1, hh⟩ := asO_of r1 z1
    have e1 : c1 = C := by simpa using hc1
    subst e1
    refine ⟨a, d1, f1, rfl, t1.1 _ _ h1, sp_call I (fun v F2 H2 d2 g2 t2 r2 q2 => ?_) g1 t1 (.cons r1 .nil) hh⟩
    unfold sOf at q2
    split at q2
    · cases r2
      exact ⟨_, rfl, kk _ F2 H2 _ g2 t2 (.str _) q2⟩
    · exact q2.elim⟩
/-! ### a constant of a class, by the class -/
def CV (K : Frg) (C f : Str) (d : D) : Prop := ∃ v u, ClX.CVal K (He.ga K C) (.type "type") f v u ∧ ∀ ms F, Rp K ms F v d
theorem y_cval {C fl : Str} {d : D} (hg : Gl X C) (hm : X.mg C = some (.ref (He.ga X.K C))) (rd : ClX.CRead X.K (He.ga X.K C) (.type "type")) (cv : CV X.K C fl d) (hdb : (C == ("__debug__" : Str)) = false := by decide) (hb : attributeBase (.Name C p0) fl X.env (eval (.Name C p0) X.env) = eval (.Name C p0) X.env := by rfl) :
    PEp X B (.Attribute (.Name C p0) fl pos) (rC d) :=
  pe_imp (ClX.pe_cval (pe_glob (v := .ref (He.ga X.K C)) hg hm rfl hdb) hb) fun σ H Q ⟨F, ρ, Qd, I, z, kk⟩ => by
    obtain ⟨v, u, c, h⟩ := cv
    exact ⟨_, _, v, u, rfl, rd, c, kk _ F H _ (Go.refl I.same) I.tp (h _ _) z⟩
end
def bCV (C f : Str) (d : D) : Frg → Bool := fun K => match PySem.W.findCls K (.ref (He.ga K C)) (.type "type") f with
  | some (.val u) => vOk K 4 d u && PySem.W.handedIn u
  | _ => false
theorem cv_of {K : Frg} {C f : Str} {d : D} (h : bCV C f d K = true) : CV K C f d := by
  unfold bCV at h
  split at h
  · rename_i u e
    obtain ⟨h1, h2⟩ := He.ba h
    obtain ⟨v, r, hv⟩ := vOk_ok _ _ _ h1
    exact ⟨v, u, ⟨e, r⟩, hv⟩
  · cases h
end Y
namespace Y
open PySem PySem.Spec PyProof.Rows L2 Z
/-! ### a comprehension of two clauses, where no slot holds a thing of its own -/
def noMu (ρ : Ev) : Prop := (ρ.all fun s => match s with | .mu _ => false | _ => true) = true
theorem noMu_get {ρ : Ev} (h : noMu ρ) (i : Nat) (m : Mo) : ρ[i]? ≠ some (.mu m) := fun e => by
  have := List.all_eq_true.mp h _ (List.mem_of_getElem? e)
  cases this
theorem Iv.again {K : Frg} {B : Bs} {F H F' H' : Hp} {σ : L2.St} {ρ : Ev} (I : Iv K B F H σ ρ) (n : noMu ρ) (s : Same F F') (g : Go B.ms B.F0 B.H0 F' H') (t : Tp K B.ms F' H') : Iv K B F' H' σ ρ :=
  ⟨g, t, I.len, fun i d e => let ⟨v, h1, h2⟩ := I.val i d e; ⟨v, h1, h2.up s⟩, fun i m e => absurd e (noMu_get n i m), fun i j m _ a _ e _ => absurd e (noMu_get n i m)⟩
def mapI2 (t t1 : Tg) (rt : RdT) (rl1 : RdA) (rt1 : RdT) (re : Rd) (vs1 : List Nat) (ρ : Ev) (ds : List D) (Q : List D → Prop) : Prop := ∃ J : Nat → List D → Prop, J 0 [] ∧
  (∀ (i : Nat) (d : D) (acc : List D), ds[i]? = some d → J i acc → tgD t d ρ fun ρ2 => noMu ρ2 ∧ rt ρ2 fun k => ifB k (rl1 ρ2 fun es => ∃ L : Nat → List D → Prop, L 0 acc ∧
    (∀ (j : Nat) (e : D) (ac : List D), es[j]? = some e → L j ac → tgD t1 e (wipeR ρ2 vs1) fun ρ3 => rt1 ρ3 fun k1 => ifB k1 (re ρ3 fun y => ac.length < 100000 ∧ L (j + 1) (ac ++ [y])) (L (j + 1) ac)) ∧ ∀ ac, L es.length ac → J (i + 1) ac) (J (i + 1) acc)) ∧ ∀ out, J ds.length out → Q out
section
variable {X : Cx} {B : Bs} {rl : RdA} {pos : Pos}
theorem wipe_wipe (σ : L2.St) (vs : List Nat) : L2.wipe (L2.wipe σ vs) vs = L2.wipe σ vs := by
  apply List.ext_getElem?
  intro j
  rw [wipe_get, L2.wipe_length, wipe_get]
  by_cases hj : j ∈ vs
  · rw [if_pos hj, if_pos hj]
  · rw [if_neg hj]
theorem lc2_of {K : Frg} {t t1 : Tg} {vs vs1 : List Nat} {rt rt1 : RdT} {rl1 : RdA} {re : Rd} (hw : ∀ i ∈ t.slots, i ∈ vs) (hw1 : ∀ i ∈ t1.slots, i ∈ vs1) (σ : L2.St) (H : Hp) (Q : VK)
    (h : tE K B (fun ρ Q => rl ρ fun ds => mapI2 t t1 rt rl1 rt1 re vs1 (wipeR ρ vs) ds fun ys => Q (.lst ys)) σ H Q) :
    tLc2 (tI K B rl) (tgV K t) (tT K B.nox rt) (tI K B.nox rl1) (tgV K t1) (tT K B.nox rt1) (tE K B.nox re) vs vs1 σ H Q := by
  obtain ⟨F, ρ, Qd, I, z, k⟩ := h
  refine ⟨F, ρ, _, I, z, fun J F1 H1 ds g1 t1' ⟨G, Yd, w, hG, hY⟩ ⟨Jw, z1, zs, zf⟩ D hD => ?_⟩
  have I1 := (I.step g1 t1').nox.wipes vs
  have dm : D ∉ B.ms := fun m => (t1'.2 D m).ne hD
  have st : ∀ {F2 H2 : Hp}, Go B.ms F1 H1 F2 H2 → Tp K B.ms F2 H2 → F2 D = none → ∀ o, Go B.ms F1 H1 F2 (upd H2 D o) ∧ Tp K B.ms F2 (upd H2 D o) := fun {F2 H2} gg m fd o => by
    have p : Go [D] F2 H2 F2 (upd H2 D o) := Go.put gg.fh fd
    have p2 : Go (D :: B.ms) F2 H2 F2 (upd H2 D o) := p.sub fun a ha => by
      rcases List.mem_cons.mp ha with e | e
      · rw [e]; exact List.mem_cons_self
      · cases e
    have g2 : Go (D :: B.ms) F1 H1 F2 H2 := gg.sub fun a ha => List.mem_cons_of_mem _ ha
    exact ⟨(g2.trans p2).drop hD, t1'.put hD m p⟩
  have fd1 := same_none t1'.1 hD
  refine ⟨fun i m H' => m = ds.length - i ∧ i ≤ ds.length ∧ ∃ F' acc ys, Go B.ms F1 H1 F' H' ∧ Tp K B.ms F' H' ∧ F' D = none ∧ H' D = some (.lst acc) ∧ Rps K B.ms F' acc ys ∧ Jw i ys, ⟨_, rfl, Nat.zero_le _, F1, [], [], (st (Go.refl t1'.1) t1' fd1 _).1, (st (Go.refl t1'.1) t1' fd1 _).2, fd1, upd_same, .nil, z1⟩, ?_⟩
  rintro i m H2 ⟨rfl, hi, F2, acc, ys, g2, t2, fd, hd, hr, hj⟩
  have hg := hG F2 H2 g2.ff g2.fh
  by_cases hlt : i < ds.length
  · refine .inr ⟨w.goes i H2 hlt hg, fun H' => ∃ F' acc ys, Go B.ms F1 H1 F' H' ∧ Tp K B.ms F' H' ∧ F' D = none ∧ H' D = some (.lst acc) ∧ Rps K B.ms F' acc ys ∧ Jw (i + 1) ys, fun H' p => ⟨_, by omega, rfl, hlt, p⟩, fun x H2' y => ?_⟩
    have hd1 := List.getElem?_eq_getElem hlt
    have zz := zs i ds[i] ys hd1 hj
    obtain ⟨F3, g3, r3⟩ := hY i F2 H2 x H2' ds[i] g2.ff g2.fh (w.yields i H2 x H2' hlt hg y) hd1
    have I2 := (I1.step g2 t2).step0 g3
    have t3 := t2.go0 g3
    obtain ⟨fd3, hd3⟩ := g3.mu D _ (fun z => nomatch z) fd hd
    have q := tg_wipe (K := K) (v := x) (σ := L2.wipe σ vs) (H := H2') (Q := fun σ2 H2 => tT K B.nox rt σ2 H2 fun b H3 => if b = true then tI K B.nox rl1 σ2 H3 fun J1 H4 => ∃ W1 : Nat → Nat → Hp → Prop, (∃ m, W1 0 m H4) ∧ ∀ j k H, W1 j k H →
      (J1.stop j H ∧ ∃ F' acc ys, Go B.ms F1 H1 F' H ∧ Tp K B.ms F' H ∧ F' D = none ∧ H D = some (.lst acc) ∧ Rps K B.ms F' acc ys ∧ Jw (i + 1) ys) ∨ (J1.go j H ∧ ∃ Nx1 : Hp → Prop, (∀ H', Nx1 H' → ∃ k', k' < k ∧ W1 (j + 1) k' H') ∧ ∀ x H', J1.yld j H x H' → tgV K t1 x (L2.wipe σ2 vs1) H' fun σ3 H5 => L2.wipe σ3 vs1 = L2.wipe σ2 vs1 ∧ tT K B.nox rt1 σ3 H5 fun b H6 =>
        if b = true then tE K B.nox re σ3 H6 fun y H7 => ∃ acc, H7 D = some (.lst acc) ∧ acc.length < sizeLine ∧ Nx1 (upd H7 D (.lst (acc ++ [y]))) else Nx1 H6)
      else ∃ F' acc ys, Go B.ms F1 H1 F' H3 ∧ Tp K B.ms F' H3 ∧ F' D = none ∧ H3 D = some (.lst acc) ∧ Rps K B.ms F' acc ys ∧ Jw (i + 1) ys) hw (tg_run I2 r3 zz fun σ4 ρ4 I4 ⟨nm, z4⟩ => by
      refine ⟨F3, ρ4, _, I4, z4, fun b F5 H5 g5 t5 z5 => ?_⟩
      obtain ⟨fd5, hd5⟩ := g5.mu D _ dm fd3 hd3
      have g25 : Go B.ms F1 H1 F5 H5 := (g2.trans g3.nil).trans g5
      cases b with
      | false => exact ⟨F5, acc, ys, g25, t5, fd5, hd5, (hr.up g3.ff).up g5.ff, ifB_f z5⟩
      | true =>
        refine ⟨F5, ρ4, _, I4.step g5 t5, ifB_t z5, fun J1 F6 H6 es g6 t6 ⟨G1, Y1, w1, hG1, hY1⟩ ⟨L, l0, ls, lf⟩ => ?_⟩
        obtain ⟨fd6, hd6⟩ := g6.mu D _ dm fd5 hd5
        have g26 : Go B.ms F1 H1 F6 H6 := g25.trans g6
        have I6 := (I4.step g5 t5).step g6 t6
        refine ⟨fun j k H' => k = es.length - j ∧ j ≤ es.length ∧ ∃ F' ac zs, Same F6 F' ∧ Go B.ms F1 H1 F' H' ∧ Tp K B.ms F' H' ∧ F' D = none ∧ H' D = some (.lst ac) ∧ Rps K B.ms F' ac zs ∧ L j zs, ⟨_, rfl, Nat.zero_le _, F6, acc, ys, Same.refl _, g26, t6, fd6, hd6, ((hr.up g3.ff).up g5.ff).up g6.ff, l0⟩, ?_⟩
        rintro j k H7 ⟨rfl, hjl, F7, ac, zs7, s7, g7, t7, fd7, hd7, hr7, hl7⟩
        have hg7 := hG1 F7 H7 s7 g7.fh
        by_cases hlt1 : j < es.length
        · refine .inr ⟨w1.goes j H7 hlt1 hg7, fun H' => ∃ F' ac zs, Same F6 F' ∧ Go B.ms F1 H1 F' H' ∧ Tp K B.ms F' H' ∧ F' D = none ∧ H' D = some (.lst ac) ∧ Rps K B.ms F' ac zs ∧ L (j + 1) zs, fun H' p => ⟨_, by omega, rfl, hlt1, p⟩, fun x7 H7' y7 => ?_⟩
          have he1 := List.getElem?_eq_getElem hlt1
          have zz7 := ls j es[j] zs7 he1 hl7
          obtain ⟨F8, g8, r8⟩ := hY1 j F7 H7 x7 H7' es[j] s7 g7.fh (w1.yields j H7 x7 H7' hlt1 hg7 y7) he1
          obtain ⟨fd8, hd8⟩ := g8.mu D _ (fun z => nomatch z) fd7 hd7
          have t8 := t7.go0 g8
          have g18 : Go B.ms F1 H1 F8 H7' := g7.trans g8.nil
          have I8 : Iv K B.nox F8 H7' (L2.wipe σ4 vs1) (wipeR ρ4 vs1) := (I6.again nm (s7.trans g8.ff) (((I.go.trans g1).trans g7).trans g8.nil) t8).wipes vs1
          have q2 := tg_wipe (K := K) (v := x7) (σ := L2.wipe σ4 vs1) (H := H7') (Q := fun σ3 H5 => tT K B.nox rt1 σ3 H5 fun b H6 => if b = true then tE K B.nox re σ3 H6 fun y H7 => ∃ acc, H7 D = some (.lst acc) ∧ acc.length < sizeLine ∧ (∃ F' ac zs, Same F6 F' ∧ Go B.ms F1 H1 F' (upd H7 D (.lst (acc ++ [y]))) ∧ Tp K B.ms F' (upd H7 D (.lst (acc ++ [y]))) ∧ F' D = none ∧ (upd H7 D (.lst (acc ++ [y]))) D = some (.lst ac) ∧ Rps K B.ms F' ac zs ∧ L (j + 1) zs)
            else ∃ F' ac zs, Same F6 F' ∧ Go B.ms F1 H1 F' H6 ∧ Tp K B.ms F' H6 ∧ F' D = none ∧ H6 D = some (.lst ac) ∧ Rps K B.ms F' ac zs ∧ L (j + 1) zs) hw1 (tg_run I8 r8 zz7 fun σ9 ρ9 I9 z9 => by
            refine ⟨F8, ρ9, _, I9, z9, fun b F10 H10 g10 t10 z10 => ?_⟩
            obtain ⟨fd10, hd10⟩ := g10.mu D _ dm fd8 hd8
            cases b with
            | false => exact ⟨F10, ac, zs7, (s7.trans g8.ff).trans g10.ff, g18.trans g10, t10, fd10, hd10, (hr7.up g8.ff).up g10.ff, ifB_f z10⟩
            | true =>
              refine ⟨F10, ρ9, _, I9.step g10 t10, ifB_t z10, fun v F11 H11 d g11 t11 r11 z11 => ?_⟩
              obtain ⟨fd11, hd11⟩ := g11.mu D _ dm fd10 hd10
              have hr11 := ((hr7.up g8.ff).up g10.ff).up g11.ff
              obtain ⟨a1, a2⟩ := st ((g18.trans g10).trans g11) t11 fd11 (.lst (ac ++ [v]))
              exact ⟨ac, hd11, by rw [hr11.len]; exact Nat.lt_of_lt_of_le z11.1 line_ge, F11, ac ++ [v], zs7 ++ [d], ((s7.trans g8.ff).trans g10.ff).trans g11.ff, a1, a2, fd11, upd_same, hr11.app (.one r11), z11.2⟩)
          rw [wipe_wipe] at q2
          exact q2
        · have e : j = es.length := by omega
          subst e
          exact .inl ⟨w1.stops H7 hg7, F7, ac, zs7, g7, t7, fd7, hd7, hr7, lf _ hl7⟩)
    rw [wipe_wipe] at q
    exact q
  · have e : i = ds.length := by omega
    subst e
    refine .inl ⟨w.stops H2 hg, ?_⟩
    have p : Go [D] F2 H2 (upd F2 D (.lst acc)) H2 := Go.freeze g2.fh fd hd
    have p2 : Go (D :: B.ms) F2 H2 (upd F2 D (.lst acc)) H2 := p.sub fun a ha => by
      rcases List.mem_cons.mp ha with e | e
      · rw [e]; exact List.mem_cons_self
      · cases e
    have g12 : Go B.ms F1 H1 (upd F2 D (.lst acc)) H2 := ((g2.sub (ms' := D :: B.ms) fun a ha => List.mem_cons_of_mem _ ha).trans p2).drop hD
    exact k _ _ H2 _ (g1.trans g12) (t1'.put hD t2 p) (.lst upd_same (hr.up p.ff)) (zf _ hj)
theorem y_lc2 {elt tg iter tg1 iter1 : Expr} {ifs ifs1 : List Expr} {scope : Scope} {own : List (Str × Nat)} {vs1 : List Nat} {t t1 : Tg} {rt rt1 : RdT} {rl1 : RdA} {re : Rd} (hc : X.calm = true) (hN : X.N.Nodup) (hi : PIp X B tg iter rl) (ok : BlkOk X.N X.env.scope scope own) (hv : ∀ i ∈ vs1, i ∈ own.map (·.2))
    (hg : ∀ (s : Shared) (H : Hp) (C : Addr) (cl : List (Str × Addr)) (fp : List Addr), PG (X.blk s H scope (compEnvC scope cl C X.env) fp) tg (tgV X.K t)) (ht : ∀ (s : Shared) (H : Hp) (C : Addr) (cl : List (Str × Addr)) (fp : List Addr), PTs (X.blk s H scope (compEnvC scope cl C X.env) fp) ifs (tT X.K B.nox rt))
    (hi1 : ∀ (s : Shared) (H : Hp) (C : Addr) (cl : List (Str × Addr)) (fp : List Addr), PIp (X.blk s H scope (compEnvC scope cl C X.env) fp) B.nox tg1 iter1 rl1)
    (hg1 : ∀ (s : Shared) (H : Hp) (C : Addr) (cl : List (Str × Addr)) (fp : List Addr), PG (X.blk s H scope (compEnvC scope cl C X.env) fp) tg1 (tgV X.K t1)) (ht1 : ∀ (s : Shared) (H : Hp) (C : Addr) (cl : List (Str × Addr)) (fp : List Addr), PTs (X.blk s H scope (compEnvC scope cl C X.env) fp) ifs1 (tT X.K B.nox rt1))
    (he : ∀ (s : Shared) (H : Hp) (C : Addr) (cl : List (Str × Addr)) (fp : List Addr), PEp (X.blk s H scope (compEnvC scope cl C X.env) fp) B.nox elt re) (hw : ∀ i ∈ t.slots, i ∈ own.map (·.2) := by decide) (hw1 : ∀ i ∈ t1.slots, i ∈ vs1 := by decide) (hs : ∀ x, foldedSetIterable iter X.env x = pure x := by intro _; rfl) (hs1 : ∀ env x, foldedSetIterable iter1 env x = pure x := by intro _ _; rfl) :
    PEp X B (.ListComp elt [⟨tg, iter, ifs, 0⟩, ⟨tg1, iter1, ifs1, 0⟩] scope pos) (fun ρ Q => rl ρ fun ds => mapI2 t t1 rt rl1 rt1 re vs1 (wipeR ρ (own.map (·.2))) ds fun ys => Q (.lst ys)) :=
  pe_imp (pe_lc2 (wi1 := tI X.K B.nox rl1) (te := tE X.K B.nox re) hc hN hi ok hv hg ht hi1 hg1 ht1 he hs hs1) (lc2_of hw hw1)
end
end Y
/-! ### enumerate of a tuple -/
namespace PySem
theorem meets_enumerate_newB1 {v : Value} {o : Obj} {H : Heap → Prop} (B : Begins v o H) :
    Meets (Builtin.«enumerate.__new__» ⟨[.type "enumerate", v], []⟩) (fun _ R s => H s.heap ∧
      R (.ok (.ret (.ref (s.heap.push o).objs.size))) { s with heap := (s.heap.push o).push { cls := .type "enumerate", data := .fields #[.none, .bool false, .ref s.heap.objs.size, rawInt 0, .none, .none] } }) :=
  .of_wp fun prog w A R s h => by
    obtain ⟨hp, g, d, tk, os⟩ := s; obtain ⟨h1, h⟩ := h
    have hsub := sub_enumerate
    have q1 : ∀ {A' : Around} {E : Value → Shared → Prop} {Q : Value → Shared → Prop}, Q (.ref hp.objs.size) ⟨hp.push o, g, d, tk, os⟩ → wpAny (model prog w) A' (pyIter v) Q E ⟨hp, g, d, tk, os⟩ :=
      fun q => B.iter prog w _ _ ⟨hp, g, d, tk, os⟩ _ h1 q
    wp_walk using q1
    refine wpAny_stack_any fun st => wpAny_pure ?_
    split
    · rename_i c _ _ _ _ _
      cases (c == Value.type "enumerate")
      · wp_walk using q1
        exact ⟨_, rfl, h⟩
      · wp_walk using q1
        exact ⟨_, rfl, h⟩
    · wp_walk using q1
      exact ⟨_, rfl, h⟩
section
variable {prog : Program} {w : World} {A : Around} {E : Value → Shared → Prop} {s : Shared}
theorem enum_begins1 {v : Value} {o : Obj} {H : Heap → Prop} {Q : Value → Shared → Prop} (B : Begins v o H) (h1 : H s.heap)
    (h : ∀ h', IsEnum h' (s.heap.objs.size + 1) s.heap.objs.size 0 .none → h'.get? s.heap.objs.size = some o → h'.objs.size = s.heap.objs.size + 2 →
      (∀ b o, s.heap.get? b = some o → h'.get? b = some o) → Q (.ref (s.heap.objs.size + 1)) { s with heap := h' }) :
    wpAny (model prog w) A (call (.type "enumerate") [v]) Q E s := by
  refine callType_new F.called_enumerate (by decide) (F.typeCall_enumerate_1 _) (F.newCall_enumerate_1 _) (fun obj => F.args_object_init_2 obj _) F.entry_enumerate_new
    (meets_enumerate_newB1 B) ⟨h1, ?_⟩
  have hz : (s.heap.push o).objs.size = s.heap.objs.size + 1 := Heap.size_push ..
  show _ ∧ _
  rw [hz]
  have he : IsEnum ((s.heap.push o).push { cls := .type "enumerate", data := .fields #[.none, .bool false, .ref s.heap.objs.size, rawInt 0, .none, .none] }) (s.heap.objs.size + 1) s.heap.objs.size 0 .none := by
    have := Heap.get?_push_size (s.heap.push o) (o := { cls := .type "enumerate", data := .fields #[.none, .bool false, .ref s.heap.objs.size, rawInt 0, .none, .none] }) rfl
    rw [hz] at this; exact this
  refine ⟨⟨_, he, rfl⟩, h _ he (Heap.get?_push_of_some _ (Heap.get?_push_size _ B.free)) (by rw [Heap.size_push, hz]) fun b o x => Heap.get?_push_of_some _ (Heap.get?_push_of_some _ x)⟩
end
end PySem
namespace Y
open PySem PySem.Spec PyProof.Rows L2 Z
def IteT (K : PySem.W.Frag) (a : Addr) : It :=
  ⟨fun i H => ∃ (xs : List V) (x : V), SqT K H a xs ∧ xs[i]? = some x, fun i H v H' => ∃ T x, v = .ref T ∧ H T = none ∧ H' = upd H T (.tup [.int (i : Nat), x]) ∧ ∀ xs, SqT K H a xs → xs[i]? = some x, fun i H => ∃ xs : List V, SqT K H a xs ∧ xs.length = i⟩
theorem turn_enumT {P : Program} {w : World} {K : PySem.W.Frag} {elts : List Expr} {kk : Nat} {tpos : Pos} (a e it : Addr) (hai : a ≠ it) (hea : e ≠ a) :
    Turn P w K (.Tuple elts kk tpos) (IteT K a) [e, it] e (fun i h => (∃ old, IsEnum h e it ((i : Nat) : Int) old) ∧ h.IsTupleIter it a i ∧ e ≠ it) where
  mem := by simp
  obj := fun i h st b hb => by
    obtain ⟨⟨old, he⟩, ⟨o, ho, hc, hd⟩, _⟩ := st
    have e' : b = e ∨ b = it := by simpa using hb
    rcases e' with z | z
    · rw [z]; exact ⟨_, he, fun v q => nomatch q⟩
    · rw [z]; exact ⟨o, ho, fun v q => by rw [hd] at q; cases q⟩
  keep := fun i h h' st k => let ⟨⟨old, he⟩, hi, hne⟩ := st; ⟨⟨old, k e (by simp) _ he⟩, hi.at fun o q => k it (by simp) o q, hne⟩
  item := by
    intro X hP hw hK hc i pins s σ H E I hf st hg
    subst hP hw hK
    obtain ⟨⟨old, he⟩, hit, hne⟩ := st
    obtain ⟨xs, x, hq, hx⟩ := hg
    obtain ⟨its, rv, p, hz⟩ := I.tuple hq
    obtain ⟨u, hu, ru⟩ := rv.get hx
    have hel : e < s.heap.objs.size := Heap.lt_size he
    have hil : it < s.heap.objs.size := by obtain ⟨_, q, _⟩ := hit; exact Heap.lt_size q
    have hT : s.heap.IsTuple a its.toArray := p
    have hil2 : i < its.toArray.size := by
      have hi := lt_of_get hu
      simpa using hi
    have D := Draws.tuple (prog := X.prog) (w := X.w) (A := X.A.in1) (I.ok.hd hc) it a hai its.toArray
    refine wpAny_pyNext_enum_itemD D he ⟨hit, hT⟩ hil2 hne (by simp [hne, hea]) fun x' h' tk hx' ho hst hTu hsz hk => ?_
    have hxe : x' = u := by
      have : its.toArray[i]? = some u := by simpa using hu
      exact Option.some.inj (hx'.symm.trans this)
    subst hxe
    refine ⟨_, rfl, wpAny_letOwnedTupleGo_enum (s := { s with heap := h', toks := tk + 1 }) ho fun h'' he' sb => ?_⟩
    have hT2 : h''.get? s.heap.objs.size = some { cls := .type "tuple", data := .seq #[.int i tk, x'] } := (sb.2 _ (Nat.ne_of_gt hel)).trans hTu
    have new : ObjOk X.prog X.w (upd H s.heap.objs.size (.tup [.int (i : Nat), x])) h'' s.heap.objs.size (.tup [.int (i : Nat), x]) :=
      ⟨by show 2 ≤ sizeLine; decide, [.int i tk, x'], .cons ⟨_, rfl⟩ (.cons ru .nil), ⟨_, hT2, rfl, _, rfl⟩⟩
    have I1 : L2.Inv X pins σ (upd H s.heap.objs.size (.tup [.int (i : Nat), x])) { s with heap := h'', toks := tk + 1 } :=
      I.turnedNew (ch := [e, it]) (fun b ob hb q => (sb.2 b (fun z => hb (by simp [z]))).trans (hk b ob (fun z => hb (by simp [z])) (fun z => hb (by simp [z])) q)) hf (Nat.le_refl _) new
    refine ⟨.ref s.heap.objs.size, _, I1, rfl, ⟨_, x, rfl, I.hok.fresh (Nat.le_refl _), rfl, fun ys hy => by rw [I.tuple_inj hy hq]; exact hx⟩, ⟨⟨x', ?_⟩, hst.1.at fun o q => (sb.2 it (Ne.symm hne)).trans q, hne⟩, fun b hb => ?_⟩
    · have e1 : ((i + 1 : Nat) : Int) = (i : Int) + 1 := by omega
      rw [e1]; exact he'
    · have hb' : b < s.heap.objs.size := by
        have e' : b = e ∨ b = it := by simpa using hb
        rcases e' with z | z
        · rw [z]; exact hel
        · rw [z]; exact hil
      rw [upd_ne (Nat.ne_of_lt hb')]
      exact (hf b hb).1
  done := by
    intro X hP hw hK hc i pins s σ H E I hf st hg
    subst hP hw hK
    obtain ⟨⟨old, he⟩, hit, hne⟩ := st
    obtain ⟨xs, hq, hx⟩ := hg
    obtain ⟨its, rv, p, hz⟩ := I.tuple hq
    obtain ⟨f0, f1, f2, f3, f4, f5⟩ := hf it (by simp)
    have hl := rv.length
    have hT : s.heap.IsTuple a its.toArray := p
    have hin : its.toArray.size = i := by simp; omega
    have D := Draws.tuple (prog := X.prog) (w := X.w) (A := X.A.in1) (I.ok.hd hc) it a hai its.toArray
    exact wpAny_pyNext_enum_endD D he (by rw [hin]; exact ⟨hit, hT⟩) fun h' eb => ⟨rfl, I.turned (t' := s.toks) (fun b o hb q => eb b o hb q) f0 f1 f3 f4 f5⟩
  self := fun A i s Q E st h => let ⟨⟨_, he⟩, _⟩ := st; wpAny_pyIter_enum he h
section
variable {X : Cx} {B : Bs} {K : Frg} {ms : List Addr} {a b c e o : Expr} {es : List Expr} {ra rb rc r ro : Rd} {rt ru : RdT} {rl : RdA} {pos p0 apos : Pos} {R : RdF} {k : Nat} {f g p : Addr} {x m : Str}
def iEnumZ (K : Frg) (ta : TA) : L2.TI := fun σ H R => ta σ H fun vs H1 => ∃ a xs, vs = [.ref a] ∧ ((SqL K H1 a xs ∧ R (Ite K a) H1) ∨ (SqT K H1 a xs ∧ H1 a ≠ none ∧ R (IteT K a) H1) ∨ (SqT K H1 a xs ∧ R (IteT K a) H1))
theorem pi_enumZ {ta : TA} {p pos tpos : Pos} {elts : List Expr} {kk : Nat} (hg : Gl X "enumerate") (hm : X.mg "enumerate" = none) (ha : PA X [e] ta) (hs : starEach [e] X.env = [(false, eval e X.env)] := by rfl) :
    PI X (.Tuple elts kk tpos) (.Call (.Name "enumerate" p) [e] [] pos) (fun σ H R => ta σ H fun vs H1 => ∃ a xs, vs = [.ref a] ∧ ((SqL X.K H1 a xs ∧ R (Ite X.K a) H1) ∨ (SqT X.K H1 a xs ∧ R (IteT X.K a) H1))) := by
  refine ⟨fun pins s σ H R I h => ?_⟩
  refine Call_ (ld_blt I hg hm boot_enumerate (PyProof.Rows.callWith_type1 (thn (ha.run pos pins s σ H _ I h) fun us s1 ⟨vs, H1, I1, r1, q1⟩ => ?_) hs rfl))
  obtain ⟨a, xs, ex, q⟩ := q1
  subst ex
  cases r1 with
  | cons r rr =>
    cases rr
    cases r
    rcases q with ⟨hq, q⟩ | ⟨hq, q⟩
    · obtain ⟨its, rv, p', hz⟩ := I1.list hq
      refine call_enumerate_list p'.isList fun h' he hit hsz hk => wpAny_pyIter_enum he ?_
      have I2 : L2.Inv X pins σ H1 { s1 with heap := h' } := I1.kept (t' := s1.toks) hk
      refine ⟨s1.heap.objs.size + 1, [s1.heap.objs.size + 1, s1.heap.objs.size], _, _, H1, rfl, I2, turn_enum a (s1.heap.objs.size + 1) s1.heap.objs.size, ⟨⟨.none, he⟩, hit, Nat.succ_ne_self _⟩, fun b hb => ?_, q⟩
      have e' : b = s1.heap.objs.size + 1 ∨ b = s1.heap.objs.size := by simpa using hb
      have hle : s1.heap.objs.size ≤ b := by
        rcases e' with z | z
        · rw [z]; exact Nat.le_add_right _ _
        · rw [z]; exact Nat.le_refl _
      exact I1.fpOk hle (I1.hok.fresh hle)
    · obtain ⟨its, rv, p', hz⟩ := I1.tuple hq
      have hT : s1.heap.IsTuple a its.toArray := p'
      have hal : a < s1.heap.objs.size := by obtain ⟨o, ho, _⟩ := hT; exact Heap.lt_size ho
      refine enum_begins1 (begins_tuple a its.toArray) hT fun h' he hit hsz hk => wpAny_pyIter_enum he ?_
      have I2 : L2.Inv X pins σ H1 { s1 with heap := h' } := I1.kept (t' := s1.toks) hk
      refine ⟨s1.heap.objs.size + 1, [s1.heap.objs.size + 1, s1.heap.objs.size], _, _, H1, rfl, I2, turn_enumT a (s1.heap.objs.size + 1) s1.heap.objs.size (Nat.ne_of_lt hal) (Nat.ne_of_gt (Nat.lt_succ_of_lt hal)), ⟨⟨.none, he⟩, ⟨_, hit, rfl, rfl⟩, Nat.succ_ne_self _⟩, fun b hb => ?_, q⟩
      have e' : b = s1.heap.objs.size + 1 ∨ b = s1.heap.objs.size := by simpa using hb
      have hle : s1.heap.objs.size ≤ b := by
        rcases e' with z | z
        · rw [z]; exact Nat.le_add_right _ _
        · rw [z]; exact Nat.le_refl _
      exact I1.fpOk hle (I1.hok.fresh hle)
def seqD (d : D) (Q : List D → Prop) : Prop := match d with
  | .lst xs => Q xs
  | .tup xs => Q xs
  | _ => False
/-- enumerate of a list or a tuple -/
theorem i_enumZ {p tpos : Pos} {elts : List Expr} {kk : Nat} (hg : Gl X "enumerate") (hm : X.mg "enumerate" = none) (he : PEp X B e r) (hs : starEach [e] X.env = [(false, eval e X.env)] := by rfl) :
    PIp X B (.Tuple elts kk tpos) (.Call (.Name "enumerate" p) [e] [] pos) (fun ρ Q => r ρ fun d => seqD d fun xs => Q (enumD xs)) :=
  pi_imp (pi_enumZ hg hm (pa_cons he pa_nil hs) hs) fun σ H R ⟨F, ρ, Qd, I, z, kk0⟩ => ⟨F, ρ, _, I, z, fun v F1 H1 d g1 t1 r1 z1 => by
    unfold seqD at z1
    have key : ∀ (ws : List V) (xs : List D) (F2 : Hp) (i : Nat) (H2 : Hp) (H2' : Hp) (y : V) (dd : D), Rps X.K B.ms F1 ws xs → Same F1 F2 → Same F2 H2 → (enumD xs)[i]? = some dd → (∃ T x, y = .ref T ∧ H2 T = none ∧ H2' = upd H2 T (.tup [.int (i : Nat), x]) ∧ ws[i]? = some x) → ∃ F3, Go [] F2 H2 F3 H2' ∧ Rp X.K B.ms F3 y dd := by
      rintro ws xs F2 i H2 H2' y dd h2 s s' hd ⟨T, v, rfl, hT, rfl, hv⟩
      obtain ⟨de, q1, q2⟩ := h2.getV hv
      have hi := lt_of_get q1
      have : dd = .tup [.int (i : Nat), de] := by
        unfold enumD at hd
        rw [List.getElem?_map, List.getElem?_range hi] at hd
        have := (Option.some.inj hd).symm
        dsimp only at this
        rw [q1] at this
        exact this
      subst this
      obtain ⟨F3, g3, q3, _⟩ := newE s' hT rfl
      exact ⟨F3, g3, .tup (SqT.of q3) (.cons (.int _) (.cons ((q2.up s).up g3.ff) .nil))⟩
    split at z1
    · rename_i xs
      cases r1 with
      | @lst a ws _ h1 h2 =>
        refine ⟨a, ws, rfl, .inl ⟨SqL.of (t1.1 _ _ h1), kk0 _ F1 H1 _ g1 t1 ⟨fun H => SqL X.K H a ws, fun i H2 y H2' => ∃ T x, y = .ref T ∧ H2 T = none ∧ H2' = upd H2 T (.tup [.int (i : Nat), x]) ∧ ws[i]? = some x, ⟨fun i H2 hi q => ⟨ws, ws[i]'(by simpa [enumD, h2.len] using hi), q, by simp⟩, fun H2 q => ⟨ws, q, by simp [enumD, h2.len]⟩, fun i H2 y H2' _ q ⟨T, x, e1, e2, e3, e4⟩ => ⟨T, x, e1, e2, e3, e4 ws q⟩⟩, fun F2 H2 s s' => SqL.of (s' _ _ (s _ _ h1)), fun i F2 H2 y H2' dd s s' hy hd => key ws xs F2 i H2 H2' y dd h2 s s' hd hy⟩ z1⟩⟩
    · rename_i xs
      cases r1 with
      | @tup a ws _ h1 h2 =>
        refine ⟨a, ws, rfl, .inr ⟨sqT t1.1 h1, kk0 _ F1 H1 _ g1 t1 ⟨fun H => SqT X.K H a ws, fun i H2 y H2' => ∃ T x, y = .ref T ∧ H2 T = none ∧ H2' = upd H2 T (.tup [.int (i : Nat), x]) ∧ ws[i]? = some x, ⟨fun i H2 hi q => ⟨ws, ws[i]'(by simpa [enumD, h2.len] using hi), q, by simp⟩, fun H2 q => ⟨ws, q, by simp [enumD, h2.len]⟩, fun i H2 y H2' _ q ⟨T, x, e1, e2, e3, e4⟩ => ⟨T, x, e1, e2, e3, e4 ws q⟩⟩, fun F2 H2 s s' => sqT s' (sqT s h1), fun i F2 H2 y H2' dd s s' hy hd => key ws xs F2 i H2 H2' y dd h2 s s' hd hy⟩ z1⟩⟩
    · exact z1.elim⟩
end
end Y
namespace Z
open PySem PySem.Spec PyProof.Rows L2
/-! ### one keyword -/
/-- a def called with one keyword behind the values -/
def FnK (P : Program) (w : World) (K : Frg) (mg : Str → Option Value) (base : Heap) (CX : CXT) (k : Nat) (f : Addr) (kn : Str) (sp : Sp) : Prop :=
  ∀ (A : Around) (outer : List Env) (s : Shared) (H : Hp) (us : List Value) (u : Value) (vs : List V) (z : V) (Q : VK) (E : XK), RoomG k A → Env0 P w K mg base A outer s H → Vals vs us → RelV z u → sp (vs ++ [z]) H Q E → codeAny (model P w) A (.call (.ref f) ⟨us, [(kn, u)]⟩) (CR CX outer P w H s Q E) s
section
variable {P : Program} {w : World} {K : Frg} {mg : Str → Option Value} {base : Heap}
theorem zfnK {x qual kn : Str} {st : Stmt} {f : Addr} {N ps : List Str} {k : Nat} {sp : Sp} {v : V} (F : ∃ fd, L2.FunD K x qual (defArgs st) (defBody st) (defScope st) [] [(kn, v)] f fd) (S : FnScope N ps (defScope st)) (len : ∀ vs H Q E, sp vs H Q E → vs.length = ps.length)
    (hb0 : ∀ (D : Addr) (doc pm : Value) (an : Option Addr) (cdv ct : Value) (us : List Value) (u : Value), us.length + 1 = ps.length → KwChain D [(kn, u)] (bindArgs (PySem.W.fnOf x qual (defArgs st) (defBody st) (defScope st) .none (.ref D) doc pm an cdv ct) ⟨us, []⟩) (ps.zip (us ++ [u])))
    (hb1 : ∀ (D : Addr) (doc pm : Value) (an : Option Addr) (cdv ct : Value) (us : List Value) (u : Value), us.length + 1 = ps.length → bindArgs (PySem.W.fnOf x qual (defArgs st) (defBody st) (defScope st) .none (.ref D) doc pm an cdv ct) ⟨us, [(kn, u)]⟩ = pure (ps.zip (us ++ [u])))
    (hbody : ∀ (cdv : Value) (A : Around) (outer : List Env) (s : Shared) (H : Hp) (vs : List V) (Q : VK) (E : XK), RoomG k (A.deeper (envOfC qual (defScope st) s.heap.objs.size f cdv)) → sp vs H Q E →
      ∃ t, PSs (cxOf (L2.CX P w) P w K mg base N qual (defScope st) f cdv A outer s H E) (defBody st) t ∧ t { nx := fun _ H' => Q .non H', rt := Q } (start N vs) H) :
    FnG P w K mg base (L2.CX P w) (k + 1) f (fun vs H Q E => sp (vs ++ [v]) H Q E) ∧ FnK P w K mg base (L2.CX P w) (k + 1) f kn sp := by
  obtain ⟨fd, F⟩ := F
  obtain ⟨oc, od, dV, kV, doc, pm, an, cdv, ct, osl, rfl, lk, hcd, hD, hK⟩ := F.ex
  have hD' : dV = .none := by
    rcases hD with ⟨_, z⟩ | ⟨z, _⟩
    · exact z
    · exact absurd rfl z
  subst hD'
  rcases hK with e | ⟨D, rfl, hq⟩
  · cases e
  obtain ⟨u0, hu0, ru0⟩ := hq (kn, v) List.mem_cons_self
  refine ⟨fun A outer s H us vs Q E hr e0 r hs => ?_, fun A outer s H us u vs z Q E hr e0 r rz hs => ?_⟩
  · have KX : K.In s.heap := e0.mod.kin.keeps fun b o e => (e0.bs b o e).1
    have hl := len _ _ _ _ hs
    have hu : us.length + 1 = ps.length := by
      have := r.length
      rw [List.length_append] at hl
      simp only [List.length_cons, List.length_nil] at hl
      omega
    refine StX.run_bnd lk hcd S hr.rm e0 (G := fun xs H2 => xs = vs ++ [v] ∧ H2 = H) (fun A' Ex Q' h => ?_) fun s2 H2 xs g hr' => ?_
    · refine (KwChain.looks KX (fun q hq' => ?_) (hb0 D doc pm an cdv ct us u0 hu)).here (h s H _ _ e0 .refl rfl (fun _ _ z => z) (r.append (.cons ru0 .nil)) hl ⟨rfl, rfl⟩)
      have : q = (kn, u0) := by simpa using hq'
      rw [this]
      exact hu0
    · obtain ⟨rfl, rfl⟩ := g
      exact hbody cdv A outer s2 H2 _ Q E ⟨hr', hr.gd⟩ hs
  · have hl := len _ _ _ _ hs
    have hu : us.length + 1 = ps.length := by
      have := r.length
      rw [List.length_append] at hl
      simp only [List.length_cons, List.length_nil] at hl
      omega
    refine StX.run_bnd lk hcd S hr.rm e0 (G := fun xs H2 => xs = vs ++ [z] ∧ H2 = H) (fun A' Ex Q' h => ?_) fun s2 H2 xs g hr' => ?_
    · rw [hb1 D doc pm an cdv ct us u hu]
      exact wpAny_pure (h s H _ _ e0 .refl rfl (fun _ _ z => z) (r.append (.cons rz .nil)) hl ⟨rfl, rfl⟩)
    · obtain ⟨rfl, rfl⟩ := g
      exact hbody cdv A outer s2 H2 _ Q E ⟨hr', hr.gd⟩ hs
end
theorem guards_makeK {A : Around} {C : Addr} {us : List Value} {kw : List (Str × Value)} : (A.under (.builtin "type.__call__" ⟨.ref C :: us, kw⟩)).guards = A.guards := by
  show pushGuards (Code.guards (.builtin "type.__call__" ⟨.ref C :: us, kw⟩)) A.guards = A.guards
  have e : Code.guards (.builtin "type.__call__" ⟨.ref C :: us, kw⟩) = [] := by
    unfold Code.guards
    first | rfl | decide +kernel | simp
  rw [e]
  cases A.guards <;> rfl
section
variable {X : Cx} {CX : CXT} {k : Nat} {f C : Addr} {sp : Sp} {E : XK} {kn : Str} {pins : List (Addr × Obj)} {σ : L2.St} {H : Hp} {s : Shared}
theorem run_makeK {Q : VK} {us : List Value} {u : Value} {vs : List V} {z : V} (M : Mk X.K C f) (F : FnK X.prog X.w X.K X.mg X.base CX k f kn sp) (hr : RoomG (k + 1) X.A) (hx : Passes CX X E) (I : L2.Inv X pins σ H s) (r : Vals vs us) (rz : RelV z u)
    (h : ∀ x dx, H x = none → H dx = none → dx ≠ x → sp (V.ref x :: (vs ++ [z])) (upd (upd H dx (.own x)) x (.ins C dx [])) (fun v H2 => v = .non ∧ Q (.ref x) H2) E) :
    wpAny (model X.prog X.w) X.A (call (.ref C) us [(kn, u)]) (EP X pins σ Q) X.xe s := by
  have J := Inv.made (C := C) I
  have hq := h (s.heap.objs.size + 1) s.heap.objs.size (I.hok.fresh (Nat.le_succ _)) (I.hok.fresh (Nat.le_refl _)) (Nat.ne_of_lt (Nat.lt_succ_self _))
  have run := F _ X.stack _ _ (.ref (s.heap.objs.size + 1) :: us) u (.ref (s.heap.objs.size + 1) :: vs) z _ E ⟨hr.rm.make C us [(kn, u)], by rw [guards_makeK]; exact hr.gd⟩ (J.env0.make C us [(kn, u)]) (.cons rfl r) rz hq
  exact wpAny_call (make_map (f := f) I.kIn M.makes M.init (beq_iff_eq.mp M.fn) (codeAny_mono run fun q s' z => match q, z with
    | .error er, z => hx pins σ _ _ er s' J z
    | .ok (.ret _), z => by
      obtain ⟨v, H', J3, rv, ev, q3⟩ := J.after z
      subst ev
      exact ⟨rv, V.ref (s.heap.objs.size + 1), H', J3, rfl, q3⟩
    | .ok .next, z => False.elim z
    | .ok .brk, z => False.elim z
    | .ok .cont, z => False.elim z))
end
end Z
namespace Y
open PySem PySem.Spec PyProof.Rows L2 Z
def DefAtK (K : Frg) (x qual : Str) (st : Stmt) (f : Addr) (kn : Str) (d : D) : Prop := ∃ fd v, L2.FunD K x qual (defArgs st) (defBody st) (defScope st) [] [(kn, v)] f fd ∧ ∀ ms F, Rp K ms F v d
/-- R with the last value d -/
def lastR (R : RdF) (d : D) : RdF := fun ds Q E => R (ds ++ [d]) Q E
section
variable {P : Program} {w : World} {K : Frg} {mg : Str → Option Value} {base : Heap}
theorem y_initK {C x qual kn : Str} {st : Stmt} {f : Addr} {N ps : List Str} {k : Nat} {R : RdF} {d : D} (F : DefAtK K x qual st f kn d) (S : FnScope N ps (defScope st)) (len : ∀ ds Q E, R ds Q E → ds.length + 1 = ps.length)
    (hb0 : ∀ (D : Addr) (doc pm : Value) (an : Option Addr) (cdv ct : Value) (us : List Value) (u : Value), us.length + 1 = ps.length → KwChain D [(kn, u)] (bindArgs (PySem.W.fnOf x qual (defArgs st) (defBody st) (defScope st) .none (.ref D) doc pm an cdv ct) ⟨us, []⟩) (ps.zip (us ++ [u])))
    (hb1 : ∀ (D : Addr) (doc pm : Value) (an : Option Addr) (cdv ct : Value) (us : List Value) (u : Value), us.length + 1 = ps.length → bindArgs (PySem.W.fnOf x qual (defArgs st) (defBody st) (defScope st) .none (.ref D) doc pm an cdv ct) ⟨us, [(kn, u)]⟩ = pure (ps.zip (us ++ [u])))
    (hbody : ∀ (cdv : Value) (A : Around) (outer : List Env) (s : Shared) (H : Hp) (E : XK) (B : Bs), Same B.F0 B.H0 → RoomG k (A.deeper (envOfC qual (defScope st) s.heap.objs.size f cdv)) → Px (cxOf (L2.CX P w) P w K mg base N qual (defScope st) f cdv A outer s H E) B →
      PassesOwn (model P w) (cxOf (L2.CX P w) P w K mg base N qual (defScope st) f cdv A outer s H E).A (cxOf (L2.CX P w) P w K mg base N qual (defScope st) f cdv A outer s H E).env (cxOf (L2.CX P w) P w K mg base N qual (defScope st) f cdv A outer s H E).xe →
      ∃ r, PSsp (cxOf (L2.CX P w) P w K mg base N qual (defScope st) f cdv A outer s H E) B (defBody st) r ∧ ∀ x ds Q, R ds Q B.Ed → r (.mu (.ins x C [] []) :: startE (N.length - 1) ds) { nx := finI x C Q, rt := fun _ => False }) :
    FnG P w K mg base (L2.CX P w) (k + 1) f (spI K C (lastR R d)) ∧ FnK P w K mg base (L2.CX P w) (k + 1) f kn (spI K C R) := by
  obtain ⟨fd, v, F, hv⟩ := F
  obtain ⟨h1, h2⟩ := zfnK ⟨fd, F⟩ S (fun vs H Q E ⟨ms, F, Hb, x, args, ds, Qd, Ed, e, _, _, _, _, _, r, h, _⟩ => by rw [e, List.length_cons, r.len]; exact len _ _ _ h) hb0 hb1 (y_initB S len hbody)
  refine ⟨FnG.imp h1 ?_, h2⟩
  rintro vs H Q E ⟨ms, F, Hb, x, args, ds, Qd, Ed, rfl, a1, a2, a3, a4, a5, a6, a7, a8⟩
  exact ⟨ms, F, Hb, x, args ++ [v], ds ++ [d], Qd, Ed, rfl, a1, a2, a3, a4, a5, a6.app (.one (hv ms F)), a7, a8⟩
end
section
variable {X : Cx} {B : Bs} {K : Frg} {ms : List Addr} {a b c e o e2 : Expr} {es : List Expr} {ra rb rc r ro r2 : Rd} {rt ru : RdT} {rl : RdA} {pos p0 apos kpos : Pos} {R : RdF} {k : Nat} {f g p : Addr} {x m : Str}
/-- C(e, kn = e2) -/
theorem y_makeK {C kn : Str} (M : Mk X.K (He.ga X.K C) f) (F : FnK X.prog X.w X.K X.mg X.base (L2.CX X.prog X.w) k f kn (spI X.K C R)) (hr : RoomG (k + 1) X.A) (hg : Gl X C) (hm : X.mg C = some (.ref (He.ga X.K C))) (hx : Px X B) (ha : PEp X B a ra) (h2 : PEp X B e2 r2)
    (hall : (backToKw pos (keywordEach [⟨some kn, e2, kpos⟩] X.env)).all (·.1.isSome) = true := by rfl) (hks : (backToKw pos (keywordEach [⟨some kn, e2, kpos⟩] X.env)).filterMap (·.1) = [kn] := by rfl) (hdb : (C == ("__debug__" : Str)) = false := by decide)
    (he : starEach [a] X.env = [(false, eval a X.env)] := by rfl) (hpl : ((backTo pos (starEach [a] X.env)).any (·.1) || (backToKw pos (keywordEach [⟨some kn, e2, kpos⟩] X.env)).any (·.1.isNone)) = false := by rfl) :
    PEp X B (.Call (.Name C p0) [a] [⟨some kn, e2, kpos⟩] pos) (fun ρ Q => ra ρ fun d => r2 ρ fun d2 => R [d, d2] Q B.Ed) := by
  refine ⟨fun pins s σ H Q I h => ?_⟩
  obtain ⟨F0, ρ, Qd, J, z, kk⟩ := h
  refine wpAny_Call_Name_kw (ld_glob I hg hm ?_ hdb)
  refine PySem.W.callWith_KW (h₀ := X.base) I.ok.mod.kin M.kp hall (thn ((pa_cons ha pa_nil he).run pos pins s σ H (fun vs H1 => ∃ F1 v d, vs = [v] ∧ Go B.ms F0 H F1 H1 ∧ Tp X.K B.ms F1 H1 ∧ Rp X.K B.ms F1 v d ∧ r2 ρ fun d2 => R [d, d2] Qd B.Ed) I ⟨F0, ρ, _, J, z, fun v F1 H1 d g1 t1 r1 z1 => ⟨F1, v, d, rfl, g1, t1, r1, z1⟩⟩) fun us s1 ⟨vs, H1, I1, rv, F1, v, d, ev, g1, t1, r1, q⟩ => ?_) hpl he
  subst ev
  refine thn ((pk_cons (kpos := kpos) (nm := some kn) h2 pk_nil).run pos pins s1 σ H1 (fun vs H2 => ∃ F2 v2 d2, vs = [v2] ∧ Go B.ms F1 H1 F2 H2 ∧ Tp X.K B.ms F2 H2 ∧ Rp X.K B.ms F2 v2 d2 ∧ R [d, d2] Qd B.Ed) I1 ⟨F1, ρ, _, J.step g1 t1, q, fun v2 F2 H2 d2 g2 t2 r2 z2 => ⟨F2, v2, d2, rfl, g2, t2, r2, z2⟩⟩) fun ws s2 ⟨zs, H2, I2, rz, F2, v2, d2, ez, g2, t2, r2', q2⟩ => ⟨I2.kIn, ?_⟩
  subst ez
  rw [hks]
  obtain ⟨u2, rfl, ru2⟩ := vals1 rz
  show wpAny _ _ (call (.ref (He.ga X.K C)) us [(kn, u2)]) _ _ _
  exact run_makeK M F hr hx I2 rv ru2 fun x dx n1 n2 n3 => spI_of [v, v2] H2 Q (sp_call J kk (g1.trans g2) t2 (.cons (r1.up g2.ff) (.one r2')) q2) x dx n1 n2 n3
/-! ### o[i], len(o) of own instances -/
def rIxO (C : Addr) (sp : Sp) (E : XK) : R2 := fun x y H Q => ∃ a dx fs, x = .ref a ∧ H a = some (.ins C dx fs) ∧ sp [x, y] H Q E
theorem gix_own {C : Addr} {sp : Sp} {E : XK} {CX : CXT} (hs : PySem.W.findIn X.K (.ref C) "__getitem__" = some (some (.ref g))) (hf : PySem.W.isFn X.K (.ref g) = true) (hfi : PySem.W.fnIn X.K g = true) (F : FnA X.A.in1 X.prog X.w X.K X.mg X.base CX g sp) (hx : Passes CX X E) {value slice : Expr}
    (hsl : ∀ a u, subscripted slice true (.ref a) u = runValue (.builtin "lifetime.subscript" ⟨[.ref a, u], []⟩)) {pins : List (Addr × Obj)} {s : Shared} {σ : L2.St} {H : Hp} {x y : V} {v u : Value} {Q : VK} (I : L2.Inv X pins σ H s) (rx : RelV x v) (ry : RelV y u) (h : rIxO C sp E x y H Q) :
    wpAny (model X.prog X.w) X.A (subscriptTail value slice v u) (EP X pins σ Q) X.xe s := by
  obtain ⟨a, dx, fs, rfl, ea, q⟩ := h
  obtain rfl : v = Value.ref a := rx
  obtain ⟨mA, O, _, _, _, _⟩ := ins_get I.hok ea
  obtain ⟨od, J, _⟩ := O.look
  obtain ⟨m, hF⟩ := I.fr
  exact PySem.W.sub_K hF I.ok.mod.kin J hs hfi hf (wpAny_call (run_A (us := [.ref a, u]) (vs := [.ref a, y]) F I.env0.in1 hx I (.cons rfl (.cons ry .nil)) q)) (hsl a u)
theorem y_ixO {C : Str} {ns : List Str} (hs : PySem.W.findIn X.K (.ref (He.ga X.K C)) "__getitem__" = some (some (.ref g))) (hf : PySem.W.isFn X.K (.ref g) = true) (hfi : PySem.W.fnIn X.K g = true) (hr : RoomG (k + 1) X.A) (F : FnG X.prog X.w X.K X.mg X.base (L2.CX X.prog X.w) k g (spP X.K R)) (hx : Px X B) (ha : PEp X B a ra) (hb : PEp X B b rb)
    (hsl : ∀ a u, subscripted b true (.ref a) u = runValue (.builtin "lifetime.subscript" ⟨[.ref a, u], []⟩) := by intro _ _; with_unfolding_all rfl) :
    PEp X B (.Subscript a b pos) (fun ρ Q => ra ρ fun x => rb ρ fun y => asO [C] ns x (R [x, y] Q B.Ed)) := by
  refine ⟨fun pins s σ H Q I h => ?_⟩
  obtain ⟨F0, ρ, Qd, J, z, kk⟩ := h
  refine Subscript_ (binT ha hb I (R := fun x y H2 => rIxO (He.ga X.K C) (spP X.K R) (EE X.K B) x y H2 Q) ⟨F0, ρ, _, J, z, fun v F1 H1 d g1 t1 r1 z1 => ⟨F1, ρ, _, J.step g1 t1, z1, fun v2 F2 H2 d2 g2 t2 r2 z2 => ?_⟩⟩ fun v u s2 x y H2 I2 rx ry q => gix_own hs hf hfi (F.at hr.in1) hx hsl I2 rx ry q)
  obtain ⟨a, d1, f1, c1, rfl, hc1, h1, hh⟩ := asO_of (r1.up g2.ff) z2
  have e1 : c1 = C := by simpa using hc1
  subst e1
  exact ⟨a, d1, f1, rfl, t2.1 _ _ h1, sp_call J kk (g1.trans g2) t2 (.cons (r1.up g2.ff) (.one r2)) hh⟩
def iOf (d : D) (k : Prop) : Prop := match d with
  | .int i => (0 ≤ i ∧ i < 2 ^ 63) ∧ k
  | _ => False
theorem y_lenO {C : Str} {ns : List Str} (hs : PySem.W.findIn X.K (.ref (He.ga X.K C)) "__len__" = some (some (.ref g))) (hf : PySem.W.isFn X.K (.ref g) = true) (hr : RoomG (k + 1) X.A) (F : FnG X.prog X.w X.K X.mg X.base (L2.CX X.prog X.w) k g (spP X.K R)) (hx : Px X B) (hg : Gl X "len") (hm : X.mg "len" = none) (ha : PEp X B a ra)
    (h1 : starEach [a] X.env = [(false, eval a X.env)] := by rfl) : PEp X B (.Call (.Name "len" p0) [a] [] pos) (fun ρ Q => ra ρ fun d => asO [C] ns d (R [d] (fun y => iOf y (Q y)) B.Ed)) := by
  have hc : CallR X (.builtin "len") (fun xs H Q => ∃ a dx fs, xs = [.ref a] ∧ H a = some (.ins (He.ga X.K C) dx fs) ∧ spP X.K R [.ref a] H (fun v H' => ∃ i : Int, v = .int i ∧ (0 ≤ i ∧ i < 2 ^ 63) ∧ Q v H') (EE X.K B)) := by
    intro pins s σ H xs us Q I r h
    obtain ⟨a, dx, fs, rfl, ea, q⟩ := h
    obtain ⟨u, rfl, ru⟩ := vals1 r
    obtain rfl : u = Value.ref a := ru
    obtain ⟨mA, O, _, _, _, _⟩ := ins_get I.hok ea
    obtain ⟨od, J, _⟩ := O.look
    obtain ⟨m, hF⟩ := I.fr
    refine PySem.W.len_K hF I.ok.mod.kin J hs hf ?_
    refine wpAny_mono (wpAny_call (run_A (us := [.ref a]) (vs := [.ref a]) (F.at hr.in1) I.env0.in1 hx I (.cons rfl .nil) q)) (fun w s' z => ?_) fun _ _ x => x
    obtain ⟨z', H', I', rz, i, rfl, hi, qz⟩ := z
    obtain ⟨t, rfl⟩ := (show ∃ t, w = Value.int i t from rz)
    exact ⟨hi, .int i, H', I'.tok _, ⟨_, rfl⟩, qz⟩
  exact pe_imp (pe_callB hc hg hm (by decide +kernel) (pa_cons ha pa_nil h1) (by decide) (by decide) h1 rfl) fun σ H Q ⟨F0, ρ, Qd, I, z, kk⟩ => ⟨F0, ρ, _, I, z, fun v F1 H1 d g1 t1 r1 z1 => by
    obtain ⟨a, d1, f1, c1, rfl, hc1, h1, hh⟩ := asO_of r1 z1
    have e1 : c1 = C := by simpa using hc1
    subst e1
    refine ⟨a, d1, f1, rfl, t1.1 _ _ h1, sp_call I (fun v F2 H2 d2 g2 t2 r2 q2 => ?_) g1 t1 (.cons r1 .nil) hh⟩
    unfold iOf at q2
    split at q2
    · cases r2
      exact ⟨_, rfl, q2.1, kk _ F2 H2 _ g2 t2 (.int _) q2.2⟩
    · exact q2.elim⟩
/-! ### isinstance(x, (T1, T2)) -/
def dIsT2 (T1 T2 : String) (d : D) (Q : D → Prop) : Prop := match d with
  | .lst _ => (T1 = "list" ∧ T2 = "tuple") ∧ Q (.bl true)
  | .tup _ => (T1 = "list" ∧ T2 = "tuple") ∧ Q (.bl true)
  | _ => False
theorem y_isi2 {T1 T2 : String} {e1 e2 : Expr} {x1 : Nat} {tp : Pos} (ha : PEp X B a ra) (h1 : PE X e1 (tC (.ty T1))) (h2 : PE X e2 (tC (.ty T2))) (hg : Gl X "isinstance") (hm : X.mg "isinstance" = none)
    (hs1 : starEach [e1, e2] X.env = (false, eval e1 X.env) :: starEach [e2] X.env := by rfl) (hs2 : starEach [e2] X.env = (false, eval e2 X.env) :: starEach [] X.env := by rfl)
    (hs : starEach [a, .Tuple [e1, e2] x1 tp] X.env = (false, eval a X.env) :: starEach [.Tuple [e1, e2] x1 tp] X.env := by rfl) (hs3 : starEach [.Tuple [e1, e2] x1 tp] X.env = (false, eval (.Tuple [e1, e2] x1 tp) X.env) :: starEach [] X.env := by rfl) (hpl : (backTo pos (starEach [.Tuple [e1, e2] x1 tp] X.env)).any (·.1) = false := by rfl) :
    PEp X B (.Call (.Name "isinstance" p0) [a, .Tuple [e1, e2] x1 tp] [] pos) (fun ρ Q => ra ρ fun d => dIsT2 T1 T2 d Q) :=
  pe_imp (pe_callB call_isiT hg hm (by decide +kernel) (pa_cons ha (pa_cons (pe_tupZ (pa_cons h1 (pa_cons h2 pa_nil hs2) hs1)) pa_nil hs3) hs) (by decide) (by decide) hs hpl) fun σ H Q ⟨F0, ρ, Qd, I, z, kk⟩ => ⟨F0, ρ, _, I, z, fun v F1 H1 d g1 t1 r1 z1 => by
    refine ⟨by show 2 ≤ sizeLine; decide, fun p H2 hp e2' => ?_⟩
    obtain ⟨F2, g2, q2, _⟩ := newE g1.fh hp e2'
    unfold dIsT2 at z1
    have tl : kitB "list" "list" = some true := by decide +kernel
    have tt1 : kitB "tuple" "list" = some false := by decide +kernel
    have tt2 : kitB "tuple" "tuple" = some true := by decide +kernel
    split at z1
    · obtain ⟨⟨rfl, rfl⟩, z1⟩ := z1
      refine ⟨v, p, [.ty "list", .ty "tuple"], .type "list", [.type "list", .type "tuple"], true, rfl, g2.fh _ _ q2, .cons (.ty _) (.cons (.ty _) .nil), tyX_of (r1.up g2.ff) g2.fh rfl (fun _ _ _ z => nomatch z), kitAny_cons (kit_ty tl) (fun z => nomatch z) (fun _ => rfl), ?_⟩
      exact kk _ F2 H2 _ (g1.trans g2.nil) (t1.go0 g2) (.bl true) z1
    · obtain ⟨⟨rfl, rfl⟩, z1⟩ := z1
      refine ⟨v, p, [.ty "list", .ty "tuple"], .type "tuple", [.type "list", .type "tuple"], true, rfl, g2.fh _ _ q2, .cons (.ty _) (.cons (.ty _) .nil), tyX_of (r1.up g2.ff) g2.fh rfl (fun _ _ _ z => nomatch z), kitAny_cons (kit_ty tt1) (fun _ => kitAny_cons (kit_ty tt2) (fun z => nomatch z) (fun _ => rfl)) (fun z => nomatch z), ?_⟩
      exact kk _ F2 H2 _ (g1.trans g2.nil) (t1.go0 g2) (.bl true) z1
    · exact z1.elim⟩
end
end Y
namespace Y
open PySem PySem.Spec PyProof.Rows L2 Z
/-! ### data without tapes -/
mutual
def noT : D → Bool
  | .lst ds => noTs ds
  | .tup ds => noTs ds
  | .obj _ _ ds => noTs ds
  | .tape => false
  | _ => true
def noTs : List D → Bool
  | [] => true
  | d :: ds => noT d && noTs ds
end
section
variable {K : Frg} {ms ms' : List Addr} {F : Hp}
mutual
theorem Rp.noT : ∀ (d : D) (v : V), noT d = true → Rp K ms F v d → Rp K ms' F v d
  | .non, _, _, h => by cases h; exact .non
  | .bl b, _, _, h => by cases h; exact .bl b
  | .int i, _, _, h => by cases h; exact .int i
  | .str x, _, _, h => by cases h; exact .str x
  | .ty x, _, _, h => by cases h; exact .ty x
  | .glob x, _, _, h => by cases h; exact .glob x
  | .tape, _, n, _ => by cases n
  | .lst ds, _, n, h => by cases h with | lst h1 h2 => exact .lst h1 (Rps.noT ds _ n h2)
  | .tup ds, _, n, h => by cases h with | tup h1 h2 => exact .tup h1 (Rps.noT ds _ n h2)
  | .obj c ns ds, _, n, h => by cases h with | obj h1 h2 h3 => exact .obj h1 h2 (Rps.noT ds _ n h3)
theorem Rps.noT : ∀ (ds : List D) (vs : List V), noTs ds = true → Rps K ms F vs ds → Rps K ms' F vs ds
  | [], _, _, h => by cases h; exact .nil
  | d :: ds, _, n, h => by
    obtain ⟨n1, n2⟩ := He.ba (show (Y.noT d && noTs ds) = true from n)
    cases h with | cons h1 h2 => exact .cons (Rp.noT d _ n1 h1) (Rps.noT ds _ n2 h2)
end
end
/-! ### a def that gives a new list -/
def spF (K : Frg) (R : RdF) : Sp := fun vs H Q E => ∃ ms F ds Qd, Tp K ms F H ∧ Rps K ms F vs ds ∧ R ds Qd (fun _ => False) ∧ (∀ a F' H' ds', H a = none → Go ms F H F' H' → Tp K ms F' H' → Rp K ms F' (.ref a) (.lst ds') → Qd (.lst ds') → Q (.ref a) H')
def tEF (K : Frg) (B : Bs) (r : Rd) : TE := fun σ H Q => ∃ F ρ Qd, Iv K B F H σ ρ ∧ r ρ Qd ∧ ∀ a F' H' ds, H a = none → Go B.ms F H F' H' → Tp K B.ms F' H' → Rp K B.ms F' (.ref a) (.lst ds) → Qd (.lst ds) → Q (.ref a) H'
theorem lcR_fresh {J : It} {g : TG} {tt : TT} {te : TE} {vs : List Nat} {σ : L2.St} {H : Hp} {Q : VK} (h : LcR J g tt te vs σ H fun v H' => (∃ D, v = .ref D ∧ H D = none) → Q v H') : LcR J g tt te vs σ H Q := by
  intro D hD
  obtain ⟨W, w0, ws⟩ := h D hD
  refine ⟨W, w0, fun i m H' hw => ?_⟩
  rcases ws i m H' hw with ⟨a, b⟩ | z
  · exact .inl ⟨a, b ⟨D, rfl, hD⟩⟩
  · exact .inr z
section
variable {X : Cx} {B : Bs} {a b c e o : Expr} {es : List Expr} {ra rb rc r ro : Rd} {rt ru : RdT} {rl : RdA} {pos p0 apos : Pos} {R : RdF} {k : Nat} {f C g p : Addr} {x m : Str}
theorem lc_ofF {K : Frg} {t : Tg} {wi : L2.TI} {vs : List Nat} {re : Rd} (hw : ∀ i ∈ t.slots, i ∈ vs) (h0 : ∀ σ H R, tI K B rl σ H R → wi σ H R) (σ : L2.St) (H : Hp) (Q : VK) (h : tEF K B (fun ρ Q => rl ρ fun ds => ds.length ≤ 100000 ∧ mapI t rt re (wipeR ρ vs) ds fun ys => Q (.lst ys)) σ H Q) :
    tLcZ wi (tgV K t) (tT K B.nox rt) (tE K B.nox re) vs σ H Q := by
  obtain ⟨F, ρ, Qd, I, z, k⟩ := h
  refine h0 _ _ _ ⟨F, ρ, _, I, z, fun J F1 H1 ds g1 t1 ⟨G, Yd, w, hG, hY⟩ ⟨hn, Jw, z1, zs, zf⟩ => lcR_fresh ?_⟩
  have I1 := (I.step g1 t1).nox.wipes vs
  refine lc_go w t1.1 (ms := B.ms) (fun t m => (t1.2 t m).ne) (fun F H => Tp K B.ms F H) t1 (fun D F1 H1 F2 H2 hD h g => t1.put hD h g) (fun F2 H2 g _ => hG F2 H2 g.ff g.fh)
    (fun i acc F2 => ∃ ys, Rps K B.ms F2 acc ys ∧ Jw i ys) ⟨[], .nil, z1⟩ (fun i acc F2 F3 s ⟨ys, h1, h2⟩ => ⟨ys, h1.up s, h2⟩) hn ?_ ?_
  · rintro i x acc F2 H2 H2' hi hl ⟨ys, hys, zz⟩ g2 t2 hy Kp Sk kp sk
    have zz := zs i ds[i] ys (List.getElem?_eq_getElem hi) zz
    obtain ⟨F3, g3, r3⟩ := hY i F2 H2 x H2' ds[i] g2.ff g2.fh hy (List.getElem?_eq_getElem hi)
    have I2 := (I1.step g2 t2).step0 g3
    have t3 := t2.go0 g3
    have q := tg_wipe (K := K) (v := x) (σ := L2.wipe σ vs) (H := H2') (Q := fun σ2 H2 => tT K B.nox rt σ2 H2 fun b H3 => if b = true then tE K B.nox re σ2 H3 Kp else Sk H3) hw (tg_run I2 r3 zz fun σ4 ρ4 I4 z4 => by
      refine ⟨F3, ρ4, _, I4, z4, fun b F5 H5 g5 t5 z5 => ?_⟩
      cases b with
      | false => exact sk F5 H5 (g3.nil.trans g5) t5 ⟨ys, (hys.up g3.ff).up g5.ff, ifB_f z5⟩
      | true => exact ⟨F5, ρ4, _, I4.step g5 t5, ifB_t z5, fun v F6 H6 d g6 t6 r6 z6 => kp v F6 H6 (g3.nil.trans (g5.trans g6)) t6 ⟨ys ++ [d], (((hys.up g3.ff).up g5.ff).up g6.ff).app (.one r6), z6⟩⟩)
    rw [wipe_wipe] at q
    exact q
  · rintro D ys F2 H2 g2 t2 hD _ ⟨zs', hz, zz⟩ ⟨D', eD, nD⟩
    cases eD
    exact k _ F2 H2 _ (go_none g1 I.same nD (t1.nms nD)) (g1.trans g2) t2 (.lst hD hz) (zf _ zz)
theorem y_lcF {elt tg iter : Expr} {ifs : List Expr} {scope : Scope} {own : List (Str × Nat)} {t : Tg} {re : Rd} (hc : X.calm = true) (hN : X.N.Nodup) (hi : PIp X B tg iter rl) (ok : BlkOk X.N X.env.scope scope own)
    (hg : ∀ (s : Shared) (H : Hp) (C : Addr) (cl : List (Str × Addr)) (fp : List Addr), PG (X.blk s H scope (compEnvC scope cl C X.env) fp) tg (tgV X.K t)) (ht : ∀ (s : Shared) (H : Hp) (C : Addr) (cl : List (Str × Addr)) (fp : List Addr), PTs (X.blk s H scope (compEnvC scope cl C X.env) fp) ifs (tT X.K B.nox rt))
    (he : ∀ (s : Shared) (H : Hp) (C : Addr) (cl : List (Str × Addr)) (fp : List Addr), PEp (X.blk s H scope (compEnvC scope cl C X.env) fp) B.nox elt re) (hw : ∀ i ∈ t.slots, i ∈ own.map (·.2) := by decide) (hs : ∀ x, foldedSetIterable iter X.env x = pure x := by intro _; rfl) :
    PE X (.ListComp elt [⟨tg, iter, ifs, 0⟩] scope pos) (tEF X.K B fun ρ Q => rl ρ fun ds => ds.length ≤ 100000 ∧ mapI t rt re (wipeR ρ (own.map (·.2))) ds fun ys => Q (.lst ys)) :=
  pe_imp (pe_lcZ (pe_lc (te := tE X.K B.nox re) hc hN hi ok hg ht he hs)) (lc_ofF hw fun _ _ _ z => z)
end
section
variable {P : Program} {w : World} {K : Frg} {mg : Str → Option Value} {base : Heap}
/-- statements, then return of a new list -/
theorem y_fnF {x qual : Str} {st s1 s2 : Stmt} {ep : Expr} {rp : Pos} {f : Addr} {N ps : List Str} {k : Nat} {R : RdF} (F : DefAt K x qual st f) (S : FnScope N ps (defScope st)) (len : ∀ ds Q E, R ds Q E → ds.length = ps.length) (hbd : defBody st = [s1, s2, .Return (some ep) rp])
    (hb : ∀ (kV doc pm : Value) (an : Option Addr) (cdv ct : Value) (us : List Value), us.length = ps.length → bindArgs (PySem.W.fnOf x qual (defArgs st) (defBody st) (defScope st) .none kV doc pm an cdv ct) ⟨us, []⟩ = pure (ps.zip us))
    (hbody : ∀ (cdv : Value) (A : Around) (outer : List Env) (s : Shared) (H : Hp) (E : XK) (B : Bs), Same B.F0 B.H0 → RoomG k (A.deeper (envOfC qual (defScope st) s.heap.objs.size f cdv)) →
      ∃ r1 r2 r3, PSp (cxOf (L2.CX P w) P w K mg base N qual (defScope st) f cdv A outer s H E) B s1 r1 ∧ PSp (cxOf (L2.CX P w) P w K mg base N qual (defScope st) f cdv A outer s H E) B s2 r2 ∧ PE (cxOf (L2.CX P w) P w K mg base N qual (defScope st) f cdv A outer s H E) ep (tEF K B r3) ∧
        ∀ ds Q, R ds Q (fun _ => False) → r1 (startE N.length ds) { nx := fun ρ1 => r2 ρ1 { nx := fun ρ2 => r3 ρ2 Q, rt := fun _ => False }, rt := fun _ => False }) : FnG P w K mg base (L2.CX P w) (k + 1) f (spF K R) := by
  refine zfnG F S (fun vs H Q E ⟨ms, F, ds, Qd, _, r, h, _⟩ => by rw [r.len]; exact len _ _ _ h) hb fun cdv A outer s H vs Q E hr h => ?_
  obtain ⟨ms, F, ds, Qd, t, r, h, kq⟩ := h
  obtain ⟨r1, r2, r3, h1, h2, h3, hh⟩ := hbody cdv A outer s H E ⟨ms, F, H, fun _ => False⟩ t.1 hr
  rw [hbd]
  refine ⟨_, pss_cons h1 (pss_cons h2 (pss_one (ps_ret h3))), F, _, _, iv_start (B := ⟨ms, F, H, fun _ => False⟩) t r, hh ds Qd h, ?_, ?_, ?_, ?_⟩
  · intro σ1 ρ1 F1 H1 _ I1 z1
    refine ⟨F1, ρ1, _, I1, z1, ?_, ?_, ?_, ?_⟩
    · intro σ2 ρ2 F2 H2 _ I2 z2
      exact ⟨F2, ρ2, Qd, I2, z2, fun a F3 H3 ds3 na g3 t3 r3 q3 => kq a F3 H3 ds3 (go_none I2.go t.1 na (I2.tp.nms na)) (I2.go.trans g3) t3 r3 q3⟩
    · intro _ _ _ _ _ _ _ z; exact z.elim
    · intro _ _ _ _ _ _ z; exact z.elim
    · intro _ _ _ _ _ _ z; exact z.elim
  · intro _ _ _ _ _ _ _ z; exact z.elim
  · intro _ _ _ _ _ _ z; exact z.elim
  · intro _ _ _ _ _ _ z; exact z.elim
end
end Y
namespace Y
open PySem PySem.Spec PyProof.Rows L2 Z
/-! ### o.m.append(c), where o.m is a new list -/
theorem go_new1 {ms : List Addr} {F H F' H' : Hp} {a : Addr} {o : HO} (hs : Same F H) (ha : H a = none) (g : Go [] F H F' H') : Go ms F H F (upd H' a o) := by
  refine ⟨fun _ _ e => e, fun b u e => ?_, fun b u _ e1 e2 => ⟨e1, ?_⟩⟩
  · have hb := hs b u e
    rw [upd_ne (ne_of_none hb ha)]
    exact g.fh b u (g.ff b u e)
  · rw [upd_ne (ne_of_none e2 ha)]
    exact (g.mu b u (fun z => nomatch z) e1 e2).2
theorem go_new0 {ms : List Addr} {F H F' H' : Hp} (hs : Same F H) (g : Go [] F H F' H') : Go ms F H F H' := by
  refine ⟨fun _ _ e => e, fun b u e => g.fh b u (g.ff b u e), fun b u _ e1 e2 => ⟨e1, (g.mu b u (fun z => nomatch z) e1 e2).2⟩⟩
def lstQ (d : D) (k : Prop) : Prop := match d with
  | .lst ds => ds.length < 100000 ∧ k
  | _ => False
section
variable {X : Cx} {B : Bs} {a b c e o : Expr} {r ro : Rd} {pos p0 apos cpos xpos : Pos} {R : RdF} {k : Nat} {f C g p : Addr} {x m : Str}
theorem s_appF {cs ns : List Str} {cv : V} (he : PEp X B e r) (hc : ∀ c ∈ cs, Cls X.K (He.ga X.K c) ∧ ∃ p, PropOf X.K (He.ga X.K c) m p g) (F : FnG X.prog X.w X.K X.mg X.base (L2.CX X.prog X.w) k g (spF X.K R)) (hr : RoomG (k + 1) X.A) (hcv : PE X c (tC cv))
    (hab : attributeBase e m X.env (eval e X.env) = eval e X.env := by rfl) (h1 : starEach [c] X.env = (false, eval c X.env) :: starEach [] X.env := by rfl)
    (hba : attributeBase (.Attribute e m pos) "append" X.env (eval (.Attribute e m pos) X.env) = eval (.Attribute e m pos) X.env := by rfl) (hline : (apos.endLine == cpos.line) = true := by rfl)
    (hfew : ((backTo cpos (starEach [c] X.env)).all (fun x => !x.1) && (backToKw cpos (keywordEach [] X.env)).all (fun x => x.1.isSome) && decide (([c] : List Expr).length + ([] : List Keyword).length + (if ([] : List Keyword).isEmpty then 0 else 1) < 30)) = true := by rfl)
    (hs : swapsWith (.Call (.Attribute (.Attribute e m pos) "append" apos) [c] [] cpos) none xpos.line X.env = pure false := by rfl) :
    PSp X B (.Expr (.Call (.Attribute (.Attribute e m pos) "append" apos) [c] [] cpos) xpos) (fun ρ E => r ρ fun o => asO cs ns o (noT o = true ∧ R [o] (fun d => lstQ d (E.nx ρ)) fun _ => False)) := by
  have hto : PE X (.Attribute e m pos) (fun σ H Q => ∃ F0 ρ Qd, Iv X.K B F0 H σ ρ ∧ r ρ (fun o => asO cs ns o (noT o = true ∧ R [o] (fun d => lstQ d Qd) fun _ => False)) ∧ ∀ a vs F1 H1, Go B.ms F0 H F1 H1 → Tp X.K B.ms F1 H1 → (∀ o, Go B.ms F0 H F1 (upd H1 a o) ∧ Tp X.K B.ms F1 (upd H1 a o)) → H1 a = some (.lst vs) → vs.length < 100000 → Qd → Q (.ref a) H1) := by
    refine ⟨fun pins s σ H Q I h => ?_⟩
    obtain ⟨F0, ρ, Qd, J, z, kk⟩ := h
    refine attr_of hab (thn (he.run pins s σ H (fun v H1 => ∃ F1 d, Go B.ms F0 H F1 H1 ∧ Tp X.K B.ms F1 H1 ∧ Rp X.K B.ms F1 v d ∧ asO cs ns d (noT d = true ∧ R [d] (fun d => lstQ d Qd) fun _ => False)) I ⟨F0, ρ, _, J, z, fun v F1 H1 d g1 t1 r1 z1 => ⟨F1, d, g1, t1, r1, z1⟩⟩) fun u s1 ⟨v, H1, I1, rx, F1, d, g1, t1, r1, z1⟩ => ?_)
    unfold asO at z1
    split at z1
    · obtain ⟨hcs, rfl, nt, z2⟩ := z1
      have r1' := Rp.noT (ms' := []) _ _ nt r1
      cases r1 with
      | @obj a dx _ _ vs ds h1 h2 h3 =>
        obtain rfl : u = Value.ref a := rx
        obtain ⟨c1, p, hp⟩ := hc _ hcs
        have ea := t1.1 _ _ h1
        obtain ⟨mA, O, _, _, _, _⟩ := ins_get I1.hok ea
        obtain ⟨od, J1, _⟩ := O.look
        obtain ⟨rest, hrec⟩ := hp.rec_
        have I2 := I1.tok (s1.toks + 1)
        have hcl := cls_some c1
        refine PySem.W.get_bind I1.kIn J1 (PySem.W.plainGet_of (c1.get m)).1 (PySem.W.findObj_data hcl hp.at_ hp.get hp.tak) (PySem.W.plainGet_of (c1.get m)).2 (wpAny_call (PySem.W.prop_get (s := { s1 with toks := s1.toks + 1 }) I1.kIn hrec ?_))
        have q : spF X.K R [.ref a] H1 Q (EE X.K B.nox) := by
          refine ⟨[], F1, _, _, ⟨t1.1, fun _ z => nomatch z⟩, .cons r1' .nil, z2, fun a' F' H' ds' na g' _ r' q' => ?_⟩
          obtain ⟨hl, qd⟩ := q'
          cases r' with
          | @lst _ vs' _ e1 e2 =>
            have hm := g'.fh _ _ e1
            have gg : ∀ o, Go B.ms F1 H1 F1 (upd H' a' o) := fun o => go_new1 t1.1 na g'
            have tt : ∀ o, Tp X.K B.ms F1 (upd H' a' o) := fun o => t1.go0 (go_new1 t1.1 na g')
            exact kk a' vs' F1 H' (g1.trans (go_new0 t1.1 g')) (t1.go0 (go_new0 t1.1 g')) (fun o => ⟨g1.trans (gg o), tt o⟩) hm (by rw [e2.len]; exact hl) qd
        refine codeAny_mono (F X.A.in1 X.stack { s1 with toks := s1.toks + 1 } H1 [.ref a] [.ref a] Q _ hr.in1 I2.env0.in1 (.cons rfl .nil) q) fun r s' hq => ?_
        cases r with
        | error er => exact False.elim (px_nox (X := X.nox) (B := B) pins σ H1 { s1 with toks := s1.toks + 1 } er s' (I2.wish _) hq)
        | ok fl =>
          cases fl with
          | ret u =>
            obtain ⟨v, H', I3, rv, q3⟩ := I2.after hq
            show wpAny _ _ (handedOut u) _ _ _
            rw [PySem.W.handedOut_of (handed_of rv)]
            exact wpAny_pure ⟨v, H', I3, rv, q3⟩
          | next => exact False.elim hq
          | brk => exact False.elim hq
          | cont => exact False.elim hq
    · exact z1.elim
  refine ps_imp (ps_expr (pe_bm PySem.F.plainAttrs_list PySem.F.slot_list_append PySem.F.type_list_append mt_appZ hto (pa_cons hcv pa_nil h1) hba hfew hline h1 rfl) hs) fun σ H Dd ⟨F0, ρ, E, I, z, kn, kr, kb, kc⟩ => ?_
  refine ⟨F0, ρ, _, I, z, fun a vs F1 H1 g1 t1 gu ha hl qd => ?_⟩
  refine ⟨.inl ⟨rfl, _, SqL.of ha⟩, a, vs, cv, rfl, rfl, ha, Nat.lt_of_lt_of_le hl line_ge, fun H2 e2 => ?_⟩
  subst e2
  exact kn σ ρ F1 _ g1.ff (I.step (gu _).1 (gu _).2) qd
/-! ### join of lists and tuples -/
def dJoinZ (x y : D) (Q : D → Prop) : Prop := match x with
  | .str a => seqD y fun ds => (match strsOf ds with | some ys => (ys.map (·.length)).sum + ys.length * a.length ≤ 100000 ∧ Q (.str (Txt.join a ys)) | none => False)
  | _ => False
theorem y_joinZ (ho : PEp X B o ro) (he : PEp X B e r) (hs : starEach [e] X.env = [(false, eval e X.env)] := by rfl) (hbase : attributeBase o "join" X.env (eval o X.env) = eval o X.env := by rfl) (hline : (apos.endLine == pos.line) = true := by rfl) :
    PEp X B (.Call (.Attribute o "join" apos) [e] [] pos) (fun ρ Q => ro ρ fun x => isS x (r ρ fun y => dJoinZ x y Q)) := by
  refine pe_imp (pe_join ho he hs hbase hline) fun σ H Q ⟨F, ρ, Qd, I, z, k⟩ => ⟨F, ρ, _, I, z, fun v F1 H1 d g1 t1 r1 z1 => ?_⟩
  obtain ⟨⟨a, rfl⟩, z2⟩ := isS_of r1 z1
  cases r1
  refine ⟨⟨a, rfl⟩, F1, ρ, _, I.step g1 t1, z2, fun u F2 H2 d2 g2 t2 r2 z3 => ?_⟩
  change seqD d2 _ at z3
  unfold seqD at z3
  split at z3
  · split at z3
    · rename_i ys e
      obtain rfl := strsOf_map e
      cases r2 with
      | lst h1 h2 =>
        have e2 := h2.strs
        subst e2
        exact ⟨_, _, ys, rfl, rfl, .inl (SqL.of (t2.1 _ _ h1)), Nat.le_trans z3.1 (by decide), k _ F2 H2 _ (g1.trans g2) t2 (.str _) z3.2⟩
    · exact z3.elim
  · split at z3
    · rename_i ys e
      obtain rfl := strsOf_map e
      cases r2 with
      | tup h1 h2 =>
        have e2 := h2.strs
        subst e2
        exact ⟨_, _, ys, rfl, rfl, .inr (sqT t2.1 h1), Nat.le_trans z3.1 (by decide), k _ F2 H2 _ (g1.trans g2) t2 (.str _) z3.2⟩
    · exact z3.elim
  · exact z3.elim
end
section
variable {P : Program} {w : World} {K : Frg} {mg : Str → Option Value} {base : Heap}
/-- a statement, then return of a new list -/
theorem y_fnF1 {x qual : Str} {st s1 : Stmt} {ep : Expr} {rp : Pos} {f : Addr} {N ps : List Str} {k : Nat} {R : RdF} (F : DefAt K x qual st f) (S : FnScope N ps (defScope st)) (len : ∀ ds Q E, R ds Q E → ds.length = ps.length) (hbd : defBody st = [s1, .Return (some ep) rp])
    (hb : ∀ (kV doc pm : Value) (an : Option Addr) (cdv ct : Value) (us : List Value), us.length = ps.length → bindArgs (PySem.W.fnOf x qual (defArgs st) (defBody st) (defScope st) .none kV doc pm an cdv ct) ⟨us, []⟩ = pure (ps.zip us))
    (hbody : ∀ (cdv : Value) (A : Around) (outer : List Env) (s : Shared) (H : Hp) (E : XK) (B : Bs), Same B.F0 B.H0 → RoomG k (A.deeper (envOfC qual (defScope st) s.heap.objs.size f cdv)) →
      ∃ r1 r3, PSp (cxOf (L2.CX P w) P w K mg base N qual (defScope st) f cdv A outer s H E) B s1 r1 ∧ PE (cxOf (L2.CX P w) P w K mg base N qual (defScope st) f cdv A outer s H E) ep (tEF K B r3) ∧
        ∀ ds Q, R ds Q (fun _ => False) → r1 (startE N.length ds) { nx := fun ρ2 => r3 ρ2 Q, rt := fun _ => False }) : FnG P w K mg base (L2.CX P w) (k + 1) f (spF K R) := by
  refine zfnG F S (fun vs H Q E ⟨ms, F, ds, Qd, _, r, h, _⟩ => by rw [r.len]; exact len _ _ _ h) hb fun cdv A outer s H vs Q E hr h => ?_
  obtain ⟨ms, F, ds, Qd, t, r, h, kq⟩ := h
  obtain ⟨r1, r3, h1, h3, hh⟩ := hbody cdv A outer s H E ⟨ms, F, H, fun _ => False⟩ t.1 hr
  rw [hbd]
  refine ⟨_, pss_cons h1 (pss_one (ps_ret h3)), F, _, _, iv_start (B := ⟨ms, F, H, fun _ => False⟩) t r, hh ds Qd h, ?_, ?_, ?_, ?_⟩
  · intro σ2 ρ2 F2 H2 _ I2 z2
    exact ⟨F2, ρ2, Qd, I2, z2, fun a F3 H3 ds3 na g3 t3 r3 q3 => kq a F3 H3 ds3 (go_none I2.go t.1 na (I2.tp.nms na)) (I2.go.trans g3) t3 r3 q3⟩
  · intro _ _ _ _ _ _ _ z; exact z.elim
  · intro _ _ _ _ _ _ z; exact z.elim
  · intro _ _ _ _ _ _ z; exact z.elim
end
/-! ### str of an int -/
def dStrI (ds : List D) (Q : D → Prop) : Prop := match ds with
  | [.int i] => Sz 1900 i ∧ Q (.str (shD (.int i)))
  | _ => False
theorem strIL {K : Frg} {ms : List Addr} : CalL K ms (fun xs H Q => ∃ i : Int, xs = [.int i] ∧ i.natAbs.log2 < 1920 ∧ Q (.str (toString i)) H) dStrI := by
  intro F H xs ds Qd Q hs r h k
  unfold dStrI at h
  split at h
  · obtain ⟨x, rfl, r1⟩ := rps1 r
    cases r1
    exact ⟨_, rfl, sz1900 h.1, k _ F H _ (Go.refl hs) (.str _) h.2⟩
  · exact h.elim
/-! ### facts -/
def bFi (x f : Str) : Frg → Bool := fun K => PySem.W.fnIn K (He.ma K (He.ga K x) f)
theorem fi_of {K : Frg} {x f : Str} (h : bFi x f K = true) : PySem.W.fnIn K (He.ma K (He.ga K x) f) = true := h
theorem defK_of {K : Frg} {x qual kn : Str} {st : Stmt} {f : Addr} {v : V} {d : D} (h : ∃ fd, L2.FunD K x qual (defArgs st) (defBody st) (defScope st) [] [(kn, v)] f fd) (c : ∀ ms F, Rp K ms F v d) : DefAtK K x qual st f kn d := let ⟨fd, h⟩ := h; ⟨fd, v, h, c⟩
end Y
namespace Y
open PySem PySem.Spec PyProof.Rows L2 Z
/-! ### own dicts whose keys are tuples of ints -/
def lookI (kvs : List (List Int × D)) (k : List Int) : Option D := (kvs.find? fun kv => decide (kv.1 = k)).map (·.2)
def putI (kvs : List (List Int × D)) (k : List Int) (d : D) : List (List Int × D) := if (lookI kvs k).isSome then kvs.map (fun kv => if kv.1 = k then (kv.1, d) else kv) else kvs ++ [(k, d)]
def liftK (x : List Int × Addr × Value) : List Key × Addr × Value := (x.1.map Sum.inl, x.2)
theorem inl_inj {k k' : List Int} : (k.map (Sum.inl : Int → Key) = k'.map Sum.inl) ↔ k = k' := by
  constructor
  · intro h
    exact (List.map_inj_right (fun a b e => by cases e; rfl)).mp h
  · intro h; rw [h]
theorem inl_dec {k k' : List Int} : decide (k.map (Sum.inl : Int → Key) = k'.map Sum.inl) = decide (k = k') := decide_eq_decide.mpr inl_inj
theorem ent_lift (P : Program) (w : World) (x : List Int × Addr × Value) : entryOfKey (tupleKind (mixKind P w)) (liftK x) = entI x := by
  show DictEntry.mk (reduceHash (Builtin.Tuple.tupleHashOf ((x.1.map Sum.inl).map (keyH w)))) _ _ = DictEntry.mk (reduceHash (Builtin.Tuple.tupleHashOf (x.1.map hashInt))) _ _
  rw [List.map_map]
  rfl
def putX (xs : List (List Int × Addr × Value)) (k : List Int) (b : Addr) (u : Value) : List (List Int × Addr × Value) := if (xs.any fun x => decide (x.1 = k)) then xs.map (fun x => if x.1 = k then (x.1, x.2.1, u) else x) else xs ++ [(k, b, u)]
theorem at_lift (xs : List (List Int × Addr × Value)) (k : List Int) : atKey (xs.map liftK) (k.map Sum.inl) = (xs.find? fun x => decide (x.1 = k)).map (·.2) := by
  unfold atKey
  rw [List.find?_map]
  have : ((fun x : List Key × Addr × Value => decide (x.1 = k.map Sum.inl)) ∘ liftK) = fun x => decide (x.1 = k) := funext fun x => inl_dec
  rw [this]
  cases (xs.find? fun x => decide (x.1 = k)) <;> rfl
theorem any_find (xs : List (List Int × Addr × Value)) (k : List Int) : ((xs.find? fun x => decide (x.1 = k)).map (·.2)).isSome = xs.any fun x => decide (x.1 = k) := by
  rw [Option.isSome_map]
  induction xs with
  | nil => rfl
  | cons x xs ih =>
    rw [List.any_cons]
    by_cases e : x.1 = k
    · rw [List.find?_cons_of_pos (by exact decide_eq_true e), decide_eq_true e]; rfl
    · rw [List.find?_cons_of_neg (by simpa using e), decide_eq_false e, ih]; rfl
theorem nodup_lift {xs : List (List Int × Addr × Value)} : ((xs.map liftK).map (·.1)).Nodup ↔ (xs.map (·.1)).Nodup := by
  rw [List.map_map]
  have e : ((fun x : List Key × Addr × Value => x.1) ∘ liftK) = (List.map Sum.inl) ∘ (fun x : List Int × Addr × Value => x.1) := rfl
  rw [e, ← List.map_map]
  unfold List.Nodup
  rw [List.pairwise_map]
  constructor
  · exact fun h => h.imp fun hn z => hn (by rw [z])
  · exact fun h => h.imp fun hn z => hn (inl_inj.mp z)
theorem stored_lift (xs : List (List Int × Addr × Value)) (k : List Int) (b : Addr) (u : Value) : storedH (xs.map liftK) (k.map Sum.inl) b u = (putX xs k b u).map liftK := by
  unfold storedH putX
  rw [at_lift, any_find]
  split
  · rw [List.map_map, List.map_map]
    refine List.map_congr_left fun x _ => ?_
    show putAt (k.map Sum.inl) u (liftK x) = liftK (if x.1 = k then (x.1, x.2.1, u) else x)
    unfold putAt
    by_cases h : x.1 = k
    · rw [if_pos h, if_pos (show (liftK x).1 = _ from inl_inj.mpr h)]
      rfl
    · rw [if_neg h, if_neg (show ¬ (liftK x).1 = _ from fun z => h (inl_inj.mp z))]
  · rw [List.map_append]
    rfl
section
variable {K : Frg} {ms : List Addr} {F : Hp}
theorem DRl.len {kvs : List (List Int × D)} {xs : List (List Int × Addr × Value)} (h : DRl K ms F kvs xs) : kvs.length = xs.length := by
  induction h with
  | nil => rfl
  | cons _ _ _ _ ih => rw [List.length_cons, List.length_cons, ih]
theorem DRl.look {kvs : List (List Int × D)} {xs : List (List Int × Addr × Value)} (h : DRl K ms F kvs xs) (k : List Int) : (lookI kvs k = none ∧ xs.find? (fun x => decide (x.1 = k)) = none) ∨ ∃ d x v, lookI kvs k = some d ∧ xs.find? (fun x => decide (x.1 = k)) = some x ∧ RelV v x.2.2 ∧ Rp K ms F v d := by
  induction h with
  | nil => exact .inl ⟨rfl, rfl⟩
  | @cons k' b u v d kvs xs h1 h2 h3 _ ih =>
    by_cases e : k' = k
    · refine .inr ⟨d, (k', b, u), v, ?_, ?_, h2, h3⟩
      · unfold lookI; rw [List.find?_cons_of_pos (by exact decide_eq_true e)]; rfl
      · rw [List.find?_cons_of_pos (by exact decide_eq_true e)]
    · have e1 : lookI ((k', d) :: kvs) k = lookI kvs k := by unfold lookI; rw [List.find?_cons_of_neg (by simpa using e)]
      have e2 : ((k', b, u) :: xs).find? (fun x => decide (x.1 = k)) = xs.find? (fun x => decide (x.1 = k)) := by rw [List.find?_cons_of_neg (by simpa using e)]
      rw [e1, e2]
      exact ih
theorem DRl.some {kvs : List (List Int × D)} {xs : List (List Int × Addr × Value)} (h : DRl K ms F kvs xs) (k : List Int) : (lookI kvs k).isSome = xs.any fun x => decide (x.1 = k) := by
  rw [← any_find, Option.isSome_map]
  rcases h.look k with ⟨e1, e2⟩ | ⟨d, x, v, e1, e2, _⟩
  · rw [e1, e2]; rfl
  · rw [e1, e2]; rfl
theorem DRl.app {kvs kvs' : List (List Int × D)} {xs xs' : List (List Int × Addr × Value)} (h : DRl K ms F kvs xs) (h' : DRl K ms F kvs' xs') : DRl K ms F (kvs ++ kvs') (xs ++ xs') := by
  induction h with
  | nil => exact h'
  | cons a b c _ ih => exact .cons a b c ih
theorem DRl.mapPut {kvs : List (List Int × D)} {xs : List (List Int × Addr × Value)} {k : List Int} {u : Value} {v : V} {d : D} (h : DRl K ms F kvs xs) (hu : RelV v u) (hd : Rp K ms F v d) : DRl K ms F (kvs.map fun kv => if kv.1 = k then (kv.1, d) else kv) (xs.map fun x => if x.1 = k then (x.1, x.2.1, u) else x) := by
  induction h with
  | nil => exact .nil
  | @cons k' b' u' v' d' kvs xs h1 h2 h3 _ ih =>
    rw [List.map_cons, List.map_cons]
    by_cases e : k' = k
    · rw [if_pos e, if_pos e]
      exact .cons h1 hu hd ih
    · rw [if_neg e, if_neg e]
      exact .cons h1 h2 h3 ih
theorem DRl.put {kvs : List (List Int × D)} {xs : List (List Int × Addr × Value)} (h : DRl K ms F kvs xs) {k : List Int} {b : Addr} {u : Value} {v : V} {d : D} (hb : SqT K F b (k.map V.int)) (hu : RelV v u) (hd : Rp K ms F v d) : DRl K ms F (putI kvs k d) (putX xs k b u) := by
  unfold putI putX
  rw [h.some k]
  split
  · exact h.mapPut hu hd
  · exact h.app (.cons hb hu hd .nil)
end
def intsOf : List D → Option (List Int)
  | [] => some []
  | .int i :: ds => (intsOf ds).map (i :: ·)
  | _ => none
theorem intsOf_map : ∀ {ds : List D} {k : List Int}, intsOf ds = some k → ds = k.map D.int
  | [], _, h => by cases h; rfl
  | .int b :: ds, _, h => by
    unfold intsOf at h
    obtain ⟨r, h1, rfl⟩ := Option.map_eq_some_iff.mp h
    rw [intsOf_map h1]
    rfl
  | .non :: _, _, h => by simp [intsOf] at h
  | .str _ :: _, _, h => by simp [intsOf] at h
  | .bl _ :: _, _, h => by simp [intsOf] at h
  | .lst _ :: _, _, h => by simp [intsOf] at h
  | .tup _ :: _, _, h => by simp [intsOf] at h
  | .obj _ _ _ :: _, _, h => by simp [intsOf] at h
  | .ty _ :: _, _, h => by simp [intsOf] at h
  | .glob _ :: _, _, h => by simp [intsOf] at h
  | .tape :: _, _, h => by simp [intsOf] at h
def keyI (d : D) : Option (List Int) := match d with
  | .tup ds => intsOf ds
  | _ => none
theorem keyI_rp {K : Frg} {ms : List Addr} {F : Hp} {v : V} {d : D} {k : List Int} (h : keyI d = some k) (r : Rp K ms F v d) : ∃ b, v = .ref b ∧ SqT K F b (k.map V.int) := by
  unfold keyI at h
  split at h
  · have e := intsOf_map h
    subst e
    cases r with
    | tup h1 h2 => rw [h2.ints] at h1; exact ⟨_, rfl, h1⟩
  · cases h
section
variable {X : Cx} {B : Bs} {pins : List (Addr × Obj)} {σ : L2.St} {H F : Hp} {s : Shared}
theorem key_sq {b : Addr} {k : List Int} (I : L2.Inv X pins σ H s) (h : SqT X.K H b (k.map V.int)) : (tupleKind (mixKind X.prog X.w)).is s.heap (k.map Sum.inl) b := by
  obtain ⟨its, r, ⟨o, h1, h2, n, h3⟩, _⟩ := I.tuple h
  have e : k.map V.int = (k.map (Sum.inl : Int → Key)).map kV := by rw [List.map_map]; rfl
  rw [e] at r
  exact ⟨o, its.toArray, n, h1, h2, h3, by simpa using items_are r⟩
theorem dict_at {a : Addr} {es : Array DictEntry} {ep : Nat} {ms : List Addr} {kvs : List (List Int × D)} {xs : List (List Int × Addr × Value)} (I : L2.Inv X pins σ H s) (hs : Same F H) (ha : H a = some (dxO a es ep)) (r : DRl X.K ms F kvs xs) (he : es.toList = xs.map entI) (hn : (xs.map (·.1)).Nodup) : s.heap.DictOfH (tupleKind (mixKind X.prog X.w)) a (xs.map liftK) := by
  obtain ⟨⟨o, h1, h2, h3⟩, _⟩ := I.hok a _ ha
  refine ⟨o, es, ep, h1, h2, h3, ?_, fun x hx => ?_, ?_⟩
  · rw [he, List.map_map]
    exact List.map_congr_left fun x _ => (ent_lift X.prog X.w x).symm
  · obtain ⟨y, hy, rfl⟩ := List.mem_map.mp hx
    have key : ∀ {kvs : List (List Int × D)} {xs : List (List Int × Addr × Value)}, DRl X.K ms F kvs xs → ∀ y ∈ xs, SqT X.K F y.2.1 (y.1.map V.int) := by
      intro kvs xs h
      induction h with
      | nil => intro y hy; cases hy
      | cons h1 _ _ _ ih =>
        intro y hy
        rcases List.mem_cons.mp hy with e | hy
        · subst e; exact h1
        · exact ih y hy
    exact key_sq I (sqT hs (key r y hy))
  · exact nodup_lift.mpr hn
end
/-! ### the rules -/
def isD (i : Nat) (ρ : Ev) : Prop := ∃ kvs, ρ[i]? = some (.mu (.dct kvs))
def dgetM (i : Nat) (ρ : Ev) (kd : D) (Q : Option D → Prop) : Prop := match ρ[i]?, keyI kd with
  | some (.mu (.dct kvs)), some k => Q (lookI kvs k)
  | _, _ => False
theorem dgetM_of {i : Nat} {ρ : Ev} {kd : D} {Q : Option D → Prop} (h : dgetM i ρ kd Q) : ∃ kvs k, ρ[i]? = some (.mu (.dct kvs)) ∧ keyI kd = some k ∧ Q (lookI kvs k) := by
  unfold dgetM at h
  split at h
  · rename_i kvs k e1 e2
    exact ⟨kvs, k, e1, e2, h⟩
  · exact h.elim
def isSm (o : Option D) (Q : D → Prop) : Prop := match o with
  | some d => Q d
  | none => False
section
variable {X : Cx} {B : Bs} {e ev : Expr} {r rv : Rd} {pos p0 pv pos' tpos : Pos} {x : Str} {i k : Nat}
theorem up1 (hr : RoomG k X.A) : X.A.units + 1 < cLine := by have := hr.units; omega
theorem y_dget (hr : RoomG k X.A) (hv : PE X (.Name x pv) (tVar i)) (he : PEp X B e r) (hs : NoSl e) : PEp X B (.Subscript (.Name x pv) e pos) (fun ρ Q => isD i ρ ∧ r ρ fun kd => dgetM i ρ kd fun o => isSm o Q) := by
  refine ⟨fun pins s σ H Q I h => ?_⟩
  obtain ⟨F0, ρ, Qd, J, ⟨⟨kvs0, hk0⟩, z⟩, kk⟩ := h
  obtain ⟨a, o0, b1, b2, b3, b4, b5, _⟩ := J.own i _ hk0
  refine subD_of PySem.F.slot_dict_getitem.lookup hs (thn (hv.run pins s σ H (fun v H1 => v = .ref a ∧ H1 = H) I ⟨_, b1, rfl, rfl⟩) fun u s1 ⟨x1, H1, I1, rx, e1, e2⟩ => ?_)
  subst e1 e2
  refine thn (he.run pins s1 σ H1 (fun v H2 => ∃ F2 kd, Go B.ms F0 H1 F2 H2 ∧ Tp X.K B.ms F2 H2 ∧ Rp X.K B.ms F2 v kd ∧ dgetM i ρ kd fun o => isSm o Qd) I1 ⟨F0, ρ, _, J, z, fun v F2 H2 d g2 t2 r2 z2 => ⟨F2, d, g2, t2, r2, z2⟩⟩) fun iv s2 ⟨y, H2, I2, ry, F2, kd, g2, t2, r2, z2⟩ => ?_
  obtain rfl : u = Value.ref a := rx
  obtain ⟨kvs, k, c1, c2, z3⟩ := dgetM_of z2
  have J2 := J.step g2 t2
  obtain ⟨a', o', d1, d2, d3, d4, d5, es, ep, xs, rfl, d6, d7, d8, d9, d10⟩ := J2.own i _ c1
  rw [b1] at d1
  cases d1
  obtain ⟨b, rfl, hb⟩ := keyI_rp c2 r2
  obtain rfl : iv = Value.ref b := ry
  have dd := dict_at I2 t2.1 d5 d8 d9 d10
  refine ⟨dd.typeIs, ?_⟩
  rcases d8.look k with ⟨l1, _⟩ | ⟨d, xx, v, l1, l2, l3, l4⟩
  · rw [l1] at z3; exact z3.elim
  · rw [l1] at z3
    have hp : atKey (xs.map liftK) (k.map Sum.inl) = some xx.2 := by rw [at_lift, l2]; rfl
    exact wpAny_getItem_heap (tupleKind_room_in1 (up1 hr)) (key_sq I2 (sqT t2.1 hb)) dd hp ⟨v, H2, I2.tok _, l3, kk v F2 H2 d g2 t2 l4 z3⟩
theorem pc_dinM (hr : RoomG k X.A) (hv : PE X (.Name x pv) (tVar i)) (he : PEp X B e r) : PC X .In e (.Name x pv) (tE X.K B fun ρ Q => isD i ρ ∧ r ρ fun kd => dgetM i ρ kd fun o => Q (.bl o.isSome)) := by
  refine ⟨fun pins s σ H Q I h => ?_⟩
  obtain ⟨F0, ρ, Qd, J, ⟨⟨kvs0, hk0⟩, z⟩, kk⟩ := h
  refine thn (he.run pins s σ H (fun v H2 => ∃ F2 kd, Go B.ms F0 H F2 H2 ∧ Tp X.K B.ms F2 H2 ∧ Rp X.K B.ms F2 v kd ∧ dgetM i ρ kd fun o => Qd (.bl o.isSome)) I ⟨F0, ρ, _, J, z, fun v F2 H2 d g2 t2 r2 z2 => ⟨F2, d, g2, t2, r2, z2⟩⟩) fun iv s1 ⟨y, H1, I1, ry, F1, kd, g1, t1, r1, z1⟩ => ?_
  obtain ⟨kvs, k, c1, c2, z3⟩ := dgetM_of z1
  have J2 := J.step g1 t1
  obtain ⟨a, o', d1, d2, d3, d4, d5, es, ep, xs, rfl, d6, d7, d8, d9, d10⟩ := J2.own i _ c1
  refine thn (hv.run pins s1 σ H1 (fun v H2 => v = .ref a ∧ H2 = H1) I1 ⟨_, d1, rfl, rfl⟩) fun u s2 ⟨x2, H2, I2, rx, e1, e2⟩ => ?_
  subst e1 e2
  obtain rfl : u = Value.ref a := rx
  obtain ⟨b, rfl, hb⟩ := keyI_rp c2 r1
  obtain rfl : iv = Value.ref b := ry
  have dd := dict_at I2 t1.1 d5 d8 d9 d10
  refine wpAny_in_heap (tupleKind_room_in1 (up1 hr)) (key_sq I2 (sqT t1.1 hb)) d6 dd ?_
  rw [at_lift, any_find, ← d8.some k]
  exact ⟨.bl _, H2, I2.tok _, rfl, kk _ F1 H2 _ g1 t1 (.bl _) z3⟩
theorem pc_dninM (hr : RoomG k X.A) (hv : PE X (.Name x pv) (tVar i)) (he : PEp X B e r) : PC X .NotIn e (.Name x pv) (tE X.K B fun ρ Q => isD i ρ ∧ r ρ fun kd => dgetM i ρ kd fun o => Q (.bl (!o.isSome))) := by
  refine ⟨fun pins s σ H Q I h => ?_⟩
  obtain ⟨F0, ρ, Qd, J, ⟨⟨kvs0, hk0⟩, z⟩, kk⟩ := h
  refine thn (he.run pins s σ H (fun v H2 => ∃ F2 kd, Go B.ms F0 H F2 H2 ∧ Tp X.K B.ms F2 H2 ∧ Rp X.K B.ms F2 v kd ∧ dgetM i ρ kd fun o => Qd (.bl (!o.isSome))) I ⟨F0, ρ, _, J, z, fun v F2 H2 d g2 t2 r2 z2 => ⟨F2, d, g2, t2, r2, z2⟩⟩) fun iv s1 ⟨y, H1, I1, ry, F1, kd, g1, t1, r1, z1⟩ => ?_
  obtain ⟨kvs, k, c1, c2, z3⟩ := dgetM_of z1
  have J2 := J.step g1 t1
  obtain ⟨a, o', d1, d2, d3, d4, d5, es, ep, xs, rfl, d6, d7, d8, d9, d10⟩ := J2.own i _ c1
  refine thn (hv.run pins s1 σ H1 (fun v H2 => v = .ref a ∧ H2 = H1) I1 ⟨_, d1, rfl, rfl⟩) fun u s2 ⟨x2, H2, I2, rx, e1, e2⟩ => ?_
  subst e1 e2
  obtain rfl : u = Value.ref a := rx
  obtain ⟨b, rfl, hb⟩ := keyI_rp c2 r1
  obtain rfl : iv = Value.ref b := ry
  have dd := dict_at I2 t1.1 d5 d8 d9 d10
  refine wpAny_notIn_heap (tupleKind_room_in1 (up1 hr)) (key_sq I2 (sqT t1.1 hb)) d6 dd ?_
  rw [at_lift, any_find, ← d8.some k]
  exact ⟨.bl _, H2, I2.tok _, rfl, kk _ F1 H2 _ g1 t1 (.bl _) z3⟩
theorem z_dnin (hr : RoomG k X.A) (hv : PE X (.Name x pv) (tVar i)) (he : PEp X B e r) : PTp X B (.Compare e [.NotIn] [.Name x pv] pos) (fun ρ Q => isD i ρ ∧ r ρ fun kd => dgetM i ρ kd fun o => Q (!o.isSome)) :=
  pt_imp (pt_cmp (pc_dninM hr hv he) rfl) fun σ H Q ⟨F, ρ, Qd, I, ⟨hd, z⟩, kk⟩ => ⟨F, ρ, fun d => match d with | .bl b => Qd b | _ => False, I, ⟨hd, z⟩, fun v F1 H1 d g1 t1 r1 z1 => by
    cases d with
    | bl b => cases r1; exact ⟨b, rfl, kk b F1 H1 g1 t1 z1⟩
    | _ => exact z1.elim⟩
theorem z_din (hr : RoomG k X.A) (hv : PE X (.Name x pv) (tVar i)) (he : PEp X B e r) : PTp X B (.Compare e [.In] [.Name x pv] pos) (fun ρ Q => isD i ρ ∧ r ρ fun kd => dgetM i ρ kd fun o => Q o.isSome) :=
  pt_imp (pt_cmp (pc_dinM hr hv he) rfl) fun σ H Q ⟨F, ρ, Qd, I, ⟨hd, z⟩, kk⟩ => ⟨F, ρ, fun d => match d with | .bl b => Qd b | _ => False, I, ⟨hd, z⟩, fun v F1 H1 d g1 t1 r1 z1 => by
    cases d with
    | bl b => cases r1; exact ⟨b, rfl, kk b F1 H1 g1 t1 z1⟩
    | _ => exact z1.elim⟩
/-- x = {} -/
theorem s_dnew (h0 : Same B.F0 B.H0) {x : Str} (hN : X.N.Nodup) (hi : X.N[i]? = some x) (hx : Loc X.env.scope x) (hs : swapsWith (.Dict [] [] p0) (some (.Name x pos')) pos.line X.env = pure false := by rfl) (hf : X.fn x = true ∨ X.env.scope.names.lookup x = some .local := by first | exact .inl rfl | exact .inr rfl | assumption) :
    PSp X B (.Assign [.Name x pos'] (.Dict [] [] p0) pos) (fun ρ E => E.nx (ρ.set i (.mu (.dct [])))) := by
  have hnew : PE X (.Dict [] [] p0) (fun _ H Q => ∀ p H2, H p = none → (p == sysModules) = false → H2 = upd H p (dxO p #[] 0) → Q (.ref p) H2) := ⟨fun pins s σ H Q I h => by
    refine wpAny_Dict_empty ⟨.ref s.heap.objs.size, _, I.laid (a := s.heap.objs.size) (o := dxO s.heap.objs.size #[] 0) (t' := s.toks) (fun _ _ q => Heap.get?_push_of_some _ q) (Nat.le_refl _) ?_, rfl, h _ _ (I.hok.fresh (Nat.le_refl _)) (beq_eq_false_iff_ne.mpr (Ne.symm (Nat.ne_of_lt I.big))) rfl⟩
    refine ⟨⟨_, Heap.get?_push_size _ rfl, ⟨rfl, rfl, rfl⟩, rfl⟩, ⟨_, Heap.get?_push_size _ rfl⟩, ?_⟩
    rintro h1 h2 ⟨o, e1, e2⟩ kk
    exact ⟨o, kk o e1, e2⟩⟩
  exact ps_imp (ps_set hN hi hx hnew hs hf) fun σ H Dd ⟨F, ρ, E, I, z, kn, kr, kb, kc⟩ => fun p H2 hp hm e2 => kn _ _ F H2 (fun _ _ e => e) (I.newM (m := .dct []) h0 i hp e2 ⟨#[], 0, [], rfl, hm, Nat.zero_le _, .nil, rfl, List.nodup_nil⟩) z
def dputM (i : Nat) (ρ : Ev) (kd d : D) (Q : Ev → Prop) : Prop := match ρ[i]?, keyI kd with
  | some (.mu (.dct kvs)), some k => kvs.length < 100000 ∧ Q (ρ.set i (.mu (.dct (putI kvs k d))))
  | _, _ => False
theorem putI_len (kvs : List (List Int × D)) (k : List Int) (d : D) : (putI kvs k d).length ≤ kvs.length + 1 := by
  unfold putI
  split
  · rw [List.length_map]; omega
  · rw [List.length_append]; exact Nat.le_refl _
/-- x[e] = ev -/
theorem s_dput (hr : RoomG k X.A) (hv : PE X (.Name x pv) (tVar i)) (he : PEp X B e r) (hev : PEp X B ev rv) (hs : swapsWith ev (some (.Subscript (.Name x pv) e pos')) pos.line X.env = pure false := by rfl) :
    PSp X B (.Assign [.Subscript (.Name x pv) e pos'] ev pos) (fun ρ E => isD i ρ ∧ rv ρ fun d => r ρ fun kd => dputM i ρ kd d E.nx) := by
  refine ⟨fun pins s σ H Dd I h => ?_⟩
  obtain ⟨F0, ρ, E, J, ⟨⟨kvs0, hk0⟩, z⟩, kn, kr, kb, kc⟩ := h
  refine wpAny_Assign_Subscript (thn (hev.run pins s σ H (fun v H2 => ∃ F2 d, Go B.ms F0 H F2 H2 ∧ Tp X.K B.ms F2 H2 ∧ Rp X.K B.ms F2 v d ∧ r ρ fun kd => dputM i ρ kd d E.nx) I ⟨F0, ρ, _, J, z, fun v F2 H2 d g2 t2 r2 z2 => ⟨F2, d, g2, t2, r2, z2⟩⟩) fun r0 s1 ⟨v, H1, I1, rv1, F1, d, g1, t1, r1, z1⟩ => ?_) hs
  have J1 := J.step g1 t1
  obtain ⟨a, o0, b1, b2, b3, b4, b5, _⟩ := J1.own i _ hk0
  refine thn (hv.run pins s1 σ H1 (fun v H2 => v = .ref a ∧ H2 = H1) I1 ⟨_, b1, rfl, rfl⟩) fun u s2 ⟨x2, H2, I2, rx, e1, e2⟩ => ?_
  subst e1 e2
  obtain rfl : u = Value.ref a := rx
  refine thn (he.run pins s2 σ H2 (fun v H3 => ∃ F3 kd, Go B.ms F1 H2 F3 H3 ∧ Tp X.K B.ms F3 H3 ∧ Rp X.K B.ms F3 v kd ∧ dputM i ρ kd d E.nx) I2 ⟨F1, ρ, _, J1, z1, fun v F2 H2 d g2 t2 r2 z2 => ⟨F2, d, g2, t2, r2, z2⟩⟩) fun iv s3 ⟨y, H3, I3, ry, F3, kd, g3, t3, r3, z3⟩ => ?_
  unfold dputM at z3
  split at z3
  · rename_i kvs k c1 c2
    have J3 := J1.step g3 t3
    obtain ⟨a', o', d1, d2, d3, d4, d5, es, ep, xs, rfl, d6, d7, d8, d9, d10⟩ := J3.own i _ c1
    rw [b1] at d1
    cases d1
    obtain ⟨b, rfl, hb⟩ := keyI_rp c2 r3
    obtain rfl : iv = Value.ref b := ry
    have dd := dict_at I3 t3.1 d5 d8 d9 d10
    have hz : (xs.map liftK).length ≤ sizeLine := by rw [List.length_map, ← d8.len]; exact Nat.le_trans d7 line_ge
    refine wpAny_setItem_heap (hsz := hz) (tupleKind_room_in1 (up1 hr)) (key_sq I3 (sqT t3.1 hb)) dd fun h' dd' hs' => ?_
    obtain ⟨q, es', ep', hq, h2, h3, h4, _, h5⟩ := dd'
    rw [stored_lift] at h4 h5
    have e4 : es'.toList = (putX xs k b r0).map entI := by
      rw [h4, List.map_map]
      exact List.map_congr_left fun x _ => ent_lift X.prog X.w x
    have n5 : ((putX xs k b r0).map (·.1)).Nodup := nodup_lift.mp h5
    have I4 : L2.Inv X pins σ (upd H3 a (dxO a es' ep')) { s3 with heap := h', toks := s3.toks + (tupleKind (mixKind X.prog X.w)).draws (k.map Sum.inl) } := by
      refine d_write I3 (by rw [d5]; exact True.intro) hs' ⟨q, hq⟩ ⟨⟨q, hq, h2, h3⟩, ⟨q, hq⟩, ?_⟩
      rintro h1 h2 ⟨o, e1, e2⟩ kk
      exact ⟨o, kk o e1, e2⟩
    have J4 := J3.put (m' := .dct (putI kvs k d)) i c1 b1 rfl (⟨es', ep', putX xs k b r0, rfl, d6, Nat.le_trans (putI_len kvs k d) z3.1, d8.put hb rv1 (r1.up g3.ff), e4, n5⟩ : MoR X.K B.ms F3 a (.dct (putI kvs k d)) (dxO a es' ep'))
    exact ⟨σ, _, I4, kn σ _ F3 _ (fun b u e => g3.ff b u (g1.ff b u e)) J4 z3.2⟩
  · exact z3.elim
end
end Y
namespace Y
open PySem PySem.Spec PyProof.Rows L2 Z
/-! ### own lists: pop, + , != [] -/
theorem go_unf {F H F2 H2 : Hp} {a : Addr} {o : HO} (fa : F a = none) (ha : H a = some o) (g : Go [] (upd F a o) H F2 H2) : ∃ F3, Go [] F H F3 H2 := by
  refine ⟨fun b => if b = a then none else F2 b, fun b u e => ?_, fun b u e => ?_, fun b u _ e1 e2 => ?_⟩
  · have hb : b ≠ a := fun z => by rw [z, fa] at e; cases e
    show (if b = a then none else F2 b) = some u
    rw [if_neg hb]
    exact g.ff b u (by rw [upd_ne hb]; exact e)
  · have e' : (if b = a then none else F2 b) = some u := e
    by_cases hb : b = a
    · rw [if_pos hb] at e'; cases e'
    · rw [if_neg hb] at e'; exact g.fh b u e'
  · show (if b = a then none else F2 b) = none ∧ _
    by_cases hb : b = a
    · subst hb
      rw [if_pos rfl]
      rw [ha] at e2
      cases e2
      exact ⟨rfl, g.fh b _ (g.ff b _ upd_same)⟩
    · rw [if_neg hb]
      exact g.mu b u (fun z => nomatch z) (by rw [upd_ne hb]; exact e1) e2
def isL (i : Nat) (ρ : Ev) : Prop := ∃ ds, ρ[i]? = some (.mu (.lst ds))
def catM (i : Nat) (ρ : Ev) (d : D) (Q : Ev → Prop) : Prop := match ρ[i]?, d with
  | some (.mu (.lst ds)), .lst es => ds.length + es.length ≤ 100000 ∧ Q (ρ.set i (.mu (.lst (ds ++ es))))
  | _, _ => False
def popM (i j : Nat) (ρ : Ev) (Q : Ev → Prop) : Prop := match ρ[i]? with
  | some (.mu (.lst ds)) => (match ds[ds.length - 1]? with
    | some d => Q ((ρ.set i (.mu (.lst ds.dropLast))).set j (.val d))
    | none => False)
  | _ => False
def neE (i : Nat) (ρ : Ev) (Q : D → Prop) : Prop := match ρ[i]? with
  | some (.mu (.lst ds)) => okD 8 (.lst ds) = true ∧ Q (.bl (!ds.isEmpty))
  | _ => False
theorem Rps.last {K : Frg} {ms : List Addr} {F : Hp} : ∀ {vs : List V} {ds : List D}, Rps K ms F vs ds → Rps K ms F vs.dropLast ds.dropLast
  | _, _, .nil => .nil
  | _, _, .cons h .nil => .nil
  | _, _, .cons h (.cons h1 h2) => .cons h (Rps.last (.cons h1 h2))
def isLs (l : D) (k : Prop) : Prop := match l with
  | .lst _ => k
  | _ => False
def dIndex (l d : D) (Q : D → Prop) : Prop := match l with
  | .lst ds => ∃ (j : Nat) (z : D), (okD 8 (.lst ds) = true ∧ okD 8 d = true) ∧ ds[j]? = some z ∧ eqD z d = true ∧ (∀ (m : Nat) (z' : D), m < j → ds[m]? = some z' → eqD z' d = false) ∧ Q (.int (j : Nat))
  | _ => False
theorem pds_get : ∀ {ds : List D} {es : List PyData}, pds ds = some es → ∀ (j : Nat), (∀ z, ds[j]? = some z → ∃ e, pd z = some e ∧ es[j]? = some e) ∧ (∀ e, es[j]? = some e → ∃ z, ds[j]? = some z ∧ pd z = some e)
  | [], _, h, j => by
    cases h
    exact ⟨fun z h => by simp at h, fun e h => by simp at h⟩
  | d :: ds, _, h, j => by
    obtain ⟨a, r, h1, h2, rfl⟩ := pds_cons h
    cases j with
    | zero => exact ⟨fun z hz => by simp at hz; subst hz; exact ⟨a, h1, rfl⟩, fun e he => by simp at he; subst he; exact ⟨d, rfl, h1⟩⟩
    | succ j =>
      obtain ⟨p, q⟩ := pds_get h2 j
      exact ⟨fun z hz => by simp at hz; simpa using p z hz, fun e he => by simp at he; simpa using q e he⟩
section
variable {X : Cx} {B : Bs} {a b c e o : Expr} {ra rb r ro : Rd} {pos p0 apos cpos pv pos' lp : Pos} {x y : Str} {i j k : Nat}
/-- x = x + e -/
theorem s_cat (h0 : Same B.F0 B.H0) (hv : PE X (.Name x pv) (tVar i)) (hN : X.N.Nodup) (hi : X.N[i]? = some x) (hx : Loc X.env.scope x) (he : PEp X B e r) (hs : swapsWith (.BinOp (.Name x pv) .Add e p0) (some (.Name x pos')) pos.line X.env = pure false := by rfl) (hf : X.fn x = true ∨ X.env.scope.names.lookup x = some .local := by first | exact .inl rfl | exact .inr rfl | assumption) :
    PSp X B (.Assign [.Name x pos'] (.BinOp (.Name x pv) .Add e p0) pos) (fun ρ E => isL i ρ ∧ r ρ fun d => catM i ρ d E.nx) :=
  ps_imp (ps_set hN hi hx (pe_op op_catZ hv he) hs hf) fun σ H Dd ⟨F, ρ, E, I, ⟨⟨ds0, hd0⟩, z⟩, kn, kr, kb, kc⟩ => by
    obtain ⟨a, oo, ha, fa, nm, h00, h5, _⟩ := I.own i _ hd0
    refine ⟨.ref a, ha, F, ρ, _, I, z, fun v F1 H1 d g1 t1 r1 z1 => ?_⟩
    have I1 := I.step g1 t1
    unfold catM at z1
    split at z1
    · rename_i ds es e1
      obtain ⟨a', o', b1, b2, b3, b4, b5, vs, rfl, b6⟩ := I1.own i _ e1
      rw [ha] at b1
      cases b1
      cases r1 with
      | @lst l ws _ h1 h2 =>
        refine ⟨a, l, vs, ws, rfl, rfl, b5, t1.1 _ _ h1, Nat.le_trans (by rw [b6.len, h2.len]; exact z1.1) line_ge, fun p H2 hp e2 => ?_⟩
        exact kn _ _ F1 H2 g1.ff (I1.newM (m := .lst (ds ++ es)) h0 i hp e2 ⟨_, rfl, b6.app h2⟩) z1.2
    · exact z1.elim
/-- y = x.pop() -/
theorem s_pop (hv : PE X (.Name x pv) (tVar i)) (hN : X.N.Nodup) (hj : X.N[j]? = some y) (hy : Loc X.env.scope y) (hbase : attributeBase (.Name x pv) "pop" X.env (eval (.Name x pv) X.env) = eval (.Name x pv) X.env := by rfl) (hline : (apos.endLine == cpos.line) = true := by rfl)
    (hs : swapsWith (.Call (.Attribute (.Name x pv) "pop" apos) [] [] cpos) (some (.Name y pos')) pos.line X.env = pure false := by rfl) (hf : X.fn y = true ∨ X.env.scope.names.lookup y = some .local := by first | exact .inl rfl | exact .inr rfl | assumption) :
    PSp X B (.Assign [.Name y pos'] (.Call (.Attribute (.Name x pv) "pop" apos) [] [] cpos) pos) (fun ρ E => popM i j ρ E.nx) :=
  ps_imp (ps_set hN hj hy (pe_bm0 PySem.F.plainAttrs_list PySem.F.slot_list_pop PySem.F.type_list_pop mt_pop hv hbase hline) hs hf) fun σ H Dd ⟨F, ρ, E, I, z, kn, kr, kb, kc⟩ => by
    change popM i j ρ E.nx at z
    unfold popM at z
    split at z
    · rename_i ds e1
      split at z
      · rename_i d e2
        obtain ⟨a, oo, ha, fa, nm, h00, h5, vs, rfl, b6⟩ := I.own i _ e1
        obtain ⟨v, v1, v2⟩ := b6.get e2
        rw [← b6.len] at v1
        refine ⟨.ref a, ha, .inl ⟨rfl, _, SqL.of h5⟩, a, vs, v, rfl, rfl, h5, v1, ?_⟩
        have I2 := I.put (m' := .lst ds.dropLast) i e1 ha (rfl : upd H a (.lst vs.dropLast) = _) ⟨_, rfl, Rps.last b6⟩
        exact kn _ _ F _ (fun _ _ e => e) (I2.set j v2) z
      · exact z.elim
    · exact z.elim
/-- x != [] -/
theorem z_neE (hr : RoomG k X.A) (hv : PE X (.Name x pv) (tVar i)) (hm : behindInMarks .NotEq (.List [] lp) = false := by rfl) : PTp X B (.Compare (.Name x pv) [.NotEq] [.List [] lp] pos) (fun ρ Q => neE i ρ fun d => tst d Q) := by
  refine pt_imp (pt_cmpR (op_neY hr.units) hv (pe_lstZ pa_nil) hm) (tTest_of (r := fun ρ Q => neE i ρ Q) fun σ H Q h => ?_)
  obtain ⟨F, ρ, Qd, I, z, kk⟩ := h
  have z' : neE i ρ Qd := z
  clear z
  unfold neE at z'
  split at z'
  · rename_i ds e1
    obtain ⟨a, oo, ha, fa, nm, h00, h5, vs, rfl, b6⟩ := I.own i _ e1
    refine ⟨.ref a, ha, Nat.zero_le _, fun p H2 hp e2 => ?_⟩
    obtain ⟨F2, g2, q2, _⟩ := newE I.same hp e2
    obtain ⟨f2, h2⟩ := g2.mu a _ (fun z => nomatch z) fa h5
    have s3 : Same (upd F2 a (.lst vs)) H2 := fun b u e => by
      by_cases hb : b = a
      · subst hb
        rw [upd_same] at e
        cases e
        exact h2
      · rw [upd_ne hb] at e
        exact g2.fh b u e
    have s2 : Same F2 (upd F2 a (.lst vs)) := fun b u e => by
      have hb : b ≠ a := fun z => by rw [z, f2] at e; cases e
      rw [upd_ne hb]
      exact e
    have hpa : p ≠ a := fun z => by rw [z, h5] at hp; cases hp
    have ra : Rp X.K B.ms (upd F2 a (.lst vs)) (.ref a) (.lst ds) := .lst upd_same ((b6.up g2.ff).up s2)
    have rp : Rp X.K B.ms (upd F2 a (.lst vs)) (.ref p) (.lst []) := .lst (by rw [upd_ne hpa]; exact q2) .nil
    refine neL (upd F2 a (.lst vs)) H2 _ _ _ _ (fun d => ∃ b, d = .bl b ∧ Qd d) Q s3 ra rp ?_ fun v F' H' d g' r' q' => ?_
    · refine ⟨⟨z'.1, rfl⟩, ?_⟩
      have : eqD (.lst ds) (.lst []) = ds.isEmpty := by cases ds <;> simp [eqD, eqDs]
      rw [this]
      exact ⟨_, rfl, z'.2⟩
    · obtain ⟨b, rfl, qb⟩ := q'
      cases r'
      obtain ⟨F3, g3⟩ := go_unf f2 h2 g'
      exact kk _ F3 H' _ (g2.trans g3).nil (I.tp.go0 (g2.trans g3)) (.bl b) qb
  · exact z'.elim
/-- l.index(e) -/
theorem y_index (hr : RoomG k X.A) (ho : PEp X B o ro) (he : PEp X B e r) (h1 : starEach [e] X.env = (false, eval e X.env) :: starEach [] X.env := by rfl)
    (hba : attributeBase o "index" X.env (eval o X.env) = eval o X.env := by rfl) (hline : (apos.endLine == cpos.line) = true := by rfl)
    (hfew : ((backTo cpos (starEach [e] X.env)).all (fun x => !x.1) && (backToKw cpos (keywordEach [] X.env)).all (fun x => x.1.isSome) && decide (([e] : List Expr).length + ([] : List Keyword).length + (if ([] : List Keyword).isEmpty then 0 else 1) < 30)) = true := by rfl) :
    PEp X B (.Call (.Attribute o "index" apos) [e] [] cpos) (fun ρ Q => ro ρ fun l => isLs l (r ρ fun d => dIndex l d Q)) :=
  pe_imp (pe_bm PySem.F.plainAttrs_list PySem.F.slot_list_index PySem.F.type_list_index (mt_indexD (hu65 hr)) ho (pa_cons he pa_nil h1) hba hfew hline h1 rfl) fun σ H Q ⟨F, ρ, Qd, I, z, kk⟩ => ⟨F, ρ, _, I, z, fun v F1 H1 l g1 t1 r1 z1 => by
    unfold isLs at z1
    split at z1
    · rename_i ds
      have r1' := r1
      cases r1 with
      | @lst p ws _ q1 q2 =>
        refine ⟨.inl ⟨rfl, _, SqL.of (t1.1 _ _ q1)⟩, F1, ρ, _, I.step g1 t1, z1, fun v2 F2 H2 d g2 t2 r2 z2 => ?_⟩
        obtain ⟨j, z, ⟨o1, o2⟩, hz, hq, hno, q⟩ := z2
        obtain ⟨e1, a1, a2, a3⟩ := okD_pd 8 _ o2
        obtain ⟨e2, b1, b2, b3⟩ := okD_pd 8 _ o1
        simp [pd] at b1
        obtain ⟨es, b1, rfl⟩ := b1
        obtain ⟨ez, z1, z2⟩ := (pds_get b1 j).1 z hz
        refine ⟨p, v2, e1, es, j, ez, rfl, rfl, dp_mono t2.1 _ _ (dp_of (K := X.K) (ms := B.ms) _ _ _ (by simp [pd, b1]) (r1'.up g2.ff)), dp_mono t2.1 _ _ (dp_of _ _ _ a1 r2), shaped_of b2 b3 (by decide), shaped_of a2 a3 (by decide), z2, ?_, fun m e' hm hme => ?_, kk _ F2 H2 _ (g1.trans g2) t2 (.int _) q⟩
        · rw [← eqD_pd _ _ _ _ z1 a1]; exact hq
        · obtain ⟨z', w1, w2⟩ := (pds_get b1 m).2 e' hme
          rw [← eqD_pd _ _ _ _ w2 a1]
          exact hno m z' hm w1
    · exact z1.elim⟩
end
end Y
namespace Y
open PySem PySem.Spec PyProof.Rows L2 Z
/-! ### a class and a subclass of it, with one == -/
structure Two (K : Frg) (C C' g : Addr) : Prop where
  s1 : PySem.W.findIn K (.ref C) "__eq__" = some (some (.ref g))
  s2 : PySem.W.findIn K (.ref C') "__eq__" = some (some (.ref g))
  fn : PySem.W.isFn K (.ref g) = true
  n1 : PySem.W.findIn K (.ref C) "__ne__" = some (some (.builtin "object.__ne__"))
  n2 : PySem.W.findIn K (.ref C') "__ne__" = some (some (.builtin "object.__ne__"))
  o1 : PySem.W.mroIn K C (.type "object") = some true
  o2 : PySem.W.mroIn K C' (.type "object") = some true
  su : PySem.W.subIn K (.ref C') (.ref C) = some true
  nf : PySem.W.notFirst K C' (.ref C) = true
  ne : C ≠ C'
def bTwo (x y : Str) : Frg → Bool := fun K => He.eqO (PySem.W.findIn K (.ref (He.ga K x)) "__eq__") (some (some (.ref (He.ma K (He.ga K x) "__eq__")))) && (He.eqO (PySem.W.findIn K (.ref (He.ga K y)) "__eq__") (some (some (.ref (He.ma K (He.ga K x) "__eq__")))) &&
  (PySem.W.isFn K (.ref (He.ma K (He.ga K x) "__eq__")) && (He.eqO (PySem.W.findIn K (.ref (He.ga K x)) "__ne__") (some (some (.builtin "object.__ne__"))) && (He.eqO (PySem.W.findIn K (.ref (He.ga K y)) "__ne__") (some (some (.builtin "object.__ne__"))) &&
  (decide (PySem.W.mroIn K (He.ga K x) (.type "object") = some true) && (decide (PySem.W.mroIn K (He.ga K y) (.type "object") = some true) && (decide (PySem.W.subIn K (.ref (He.ga K y)) (.ref (He.ga K x)) = some true) && (PySem.W.notFirst K (He.ga K y) (.ref (He.ga K x)) && decide (He.ga K x ≠ He.ga K y)))))))))
theorem two_of {K : Frg} {x y : Str} (h : bTwo x y K = true) : Two K (He.ga K x) (He.ga K y) (He.ma K (He.ga K x) "__eq__") := by
  obtain ⟨h1, h⟩ := He.ba h
  obtain ⟨h2, h⟩ := He.ba h
  obtain ⟨h3, h⟩ := He.ba h
  obtain ⟨h4, h⟩ := He.ba h
  obtain ⟨h5, h⟩ := He.ba h
  obtain ⟨h6, h⟩ := He.ba h
  obtain ⟨h7, h⟩ := He.ba h
  obtain ⟨h8, h⟩ := He.ba h
  obtain ⟨h9, h10⟩ := He.ba h
  exact ⟨He.eqO_ok h1, He.eqO_ok h2, h3, He.eqO_ok h4, He.eqO_ok h5, of_decide_eq_true h6, of_decide_eq_true h7, of_decide_eq_true h8, h9, of_decide_eq_true h10⟩
def bMeth2 (x y m : Str) : Frg → Bool := fun K => bMeth x m K && decide (He.ma K (He.ga K x) m = He.ma K (He.ga K y) m)
theorem meth2_of {K : Frg} {x y m : Str} (h : bMeth2 x y m K = true) : Meth K (He.ga K x) m (He.ma K (He.ga K y) m) := by
  obtain ⟨h1, h2⟩ := He.ba h
  rw [← of_decide_eq_true h2]
  exact meth_of h1
def bProp2 (x y f : Str) : Frg → Bool := fun K => bProp x f K && (decide (He.ma K (He.ga K x) f = He.ma K (He.ga K y) f) && decide (He5.wf K (He.ga K x) "property" f = He5.wf K (He.ga K y) "property" f))
theorem prop2_of {K : Frg} {x y f : Str} (h : bProp2 x y f K = true) : PropOf K (He.ga K x) f (He.ma K (He.ga K y) f) (He5.wf K (He.ga K y) "property" f) := by
  obtain ⟨h1, h⟩ := He.ba h
  obtain ⟨h2, h3⟩ := He.ba h
  rw [← of_decide_eq_true h2, ← of_decide_eq_true h3]
  exact prop_of h1
def bKt (x y : Str) (b : Bool) : Frg → Bool := fun K => decide (PySem.W.kitOne K (.ref (He.ga K x)) (.ref (He.ga K y)) = some b)
theorem kt_of {K : Frg} {x y : Str} {b : Bool} (h : bKt x y b K = true) : PySem.W.kitOne K (.ref (He.ga K x)) (.ref (He.ga K y)) = some b := of_decide_eq_true h
def bNf (x y : Str) : Frg → Bool := fun K => PySem.W.notFirst K (He.ga K x) (.ref (He.ga K y))
theorem nf_of {K : Frg} {x y : Str} (h : bNf x y K = true) : PySem.W.notFirst K (He.ga K x) (.ref (He.ga K y)) = true := h
def rEqT (neg : Bool) (K : PySem.W.Frag) (C C' : Addr) (sp : Sp) (E : XK) : R2 := fun x y H Q => ∃ a dx fs c, x = .ref a ∧ H a = some (.ins c dx fs) ∧ (c = C ∨ c = C') ∧
  ((∃ t, TyX K H y t ∧ PySem.W.notFirst K c t = true ∧ sp [.ref a, y] H (fun v H' => ∃ b, v = .bl b ∧ Q (.bl (if neg then !b else b)) H') E) ∨
   (c = C ∧ ∃ b dy gs, y = .ref b ∧ H b = some (.ins C' dy gs) ∧ sp [.ref b, .ref a] H (fun v H' => ∃ b, v = .bl b ∧ Q (.bl (if neg then !b else b)) H') E))
section
variable {X : Cx} {CX : CXT} {k : Nat} {g C C' : Addr} {sp : Sp} {E : XK}
theorem gop_eqT (W : Two X.K C C' g) (F : FnA X.A X.prog X.w X.K X.mg X.base CX g sp) (hu : X.A.units + 64 < cLine) (hx : Passes CX X E) : OpR X (compareOp .Eq) (rEqT false X.K C C' sp E) := by
  intro pins s σ H x y v u Q I rx ry h
  obtain ⟨a, dx, fs, c, rfl, ea, hc, h⟩ := h
  rcases h with ⟨t, ty, hn, q⟩ | ⟨rfl, b, dy, gs, rfl, eb, q⟩
  · rcases hc with rfl | rfl
    · exact gop_eq W.s1 W.fn F hu hx pins s σ H _ y v u Q I rx ry ⟨a, dx, fs, t, rfl, ea, ty, hn, q⟩
    · exact gop_eq W.s2 W.fn F hu hx pins s σ H _ y v u Q I rx ry ⟨a, dx, fs, t, rfl, ea, ty, hn, q⟩
  · cases (show v = Value.ref a from rx)
    cases (show u = Value.ref b from ry)
    obtain ⟨mA, O, _, _, _, _⟩ := ins_get I.hok ea
    obtain ⟨od, J, _⟩ := O.look
    obtain ⟨mB, O', _, _, _, _⟩ := ins_get I.hok eb
    obtain ⟨od', J', _⟩ := O'.look
    have one : wpAny (model X.prog X.w) X.A (tryCompare (.ref b) "__eq__" (.ref a)) (fun r s' => ∃ b, r = some b ∧ EP X pins σ Q b s') X.xe s := by
      unfold tryCompare
      refine wpAny_bind (PySem.W.ifBound_K I.kIn J' W.s2 W.fn ?_)
      refine wpAny_mono (wpAny_call (run_fnA (us := [.ref b, .ref a]) (vs := [.ref b, .ref a]) F hx I (.cons rfl (.cons rfl .nil)) q)) (fun w s' z => ?_) fun _ _ x => x
      obtain ⟨z', H', I', rz, b, rfl, qz⟩ := z
      cases (show w = Value.bool b from rz)
      exact wpAny_pure ⟨_, rfl, .bl b, H', I', rfl, qz⟩
    show wpAny (model X.prog X.w) X.A (richCompare .Eq (.ref a) (.ref b)) (EP X pins σ Q) X.xe s
    unfold richCompare
    simp only [oneThing_ref]
    refine wpAny_holding (wpAny_bind (wpAny_cRoomFor (by omega) ?_))
    refine wpAny_bind (J.type.here (wpAny_bind (J'.type.here ?_)))
    split
    · refine wpAny_bind ((PySem.W.looks_subIn I.kIn W.su).here ?_)
      simp only [if_true]
      refine wpAny_bind (wpAny_mono one (fun r s' z => ?_) fun _ _ e => e)
      obtain ⟨v, rfl, hq⟩ := z
      exact wpAny_bind (wpAny_rule (wpAny_pure hq))
    · rename_i q
      exact absurd (by simpa using q) W.ne
theorem gop_neT (W : Two X.K C C' g) (F : FnA X.A.in1 X.prog X.w X.K X.mg X.base CX g sp) (hu : X.A.units + 64 < cLine) (hx : Passes CX X E) : OpR X (compareOp .NotEq) (rEqT true X.K C C' sp E) := by
  intro pins s σ H x y v u Q I rx ry h
  obtain ⟨a, dx, fs, c, rfl, ea, hc, h⟩ := h
  rcases h with ⟨t, ty, hn, q⟩ | ⟨rfl, b, dy, gs, rfl, eb, q⟩
  · rcases hc with rfl | rfl
    · exact gop_ne W.n1 W.o1 W.s1 W.fn F hu hx pins s σ H _ y v u Q I rx ry ⟨a, dx, fs, t, rfl, ea, ty, hn, q⟩
    · exact gop_ne W.n2 W.o2 W.s2 W.fn F hu hx pins s σ H _ y v u Q I rx ry ⟨a, dx, fs, t, rfl, ea, ty, hn, q⟩
  · cases (show v = Value.ref a from rx)
    cases (show u = Value.ref b from ry)
    obtain ⟨mA, O, _, _, _, _⟩ := ins_get I.hok ea
    obtain ⟨od, J, _⟩ := O.look
    obtain ⟨mB, O', _, _, _, _⟩ := ins_get I.hok eb
    obtain ⟨od', J', _⟩ := O'.look
    have one : wpAny (model X.prog X.w) X.A (tryCompare (.ref b) "__ne__" (.ref a)) (fun r s' => ∃ b, r = some b ∧ EP X pins σ Q b s') X.xe s := by
      refine ne_try (by omega) I.kIn J' W.n2 W.o2 W.s2 W.fn ?_
      refine codeAny_mono (run_A (us := [.ref b, .ref a]) (vs := [.ref b, .ref a]) F I.env0.in1 hx I (.cons rfl (.cons rfl .nil)) q) fun r s' z => ?_
      cases r with
      | error e => exact z
      | ok fl =>
        cases fl with
        | ret w =>
          obtain ⟨z', H', I', rz, b, rfl, qz⟩ := z
          cases (show w = Value.bool b from rz)
          exact ⟨b, rfl, _, rfl, .bl (!b), H', I', rfl, qz⟩
        | next => exact z
        | brk => exact z
        | cont => exact z
    show wpAny (model X.prog X.w) X.A (richCompare .NotEq (.ref a) (.ref b)) (EP X pins σ Q) X.xe s
    unfold richCompare
    simp only [oneThing_ref]
    refine wpAny_holding (wpAny_bind (wpAny_cRoomFor (by omega) ?_))
    refine wpAny_bind (J.type.here (wpAny_bind (J'.type.here ?_)))
    split
    · refine wpAny_bind ((PySem.W.looks_subIn I.kIn W.su).here ?_)
      simp only [if_true]
      refine wpAny_bind (wpAny_mono one (fun r s' z => ?_) fun _ _ e => e)
      obtain ⟨v, rfl, hq⟩ := z
      exact wpAny_bind (wpAny_rule (wpAny_pure hq))
    · rename_i q
      exact absurd (by simpa using q) W.ne
end
section
variable {K : Frg} {B : Bs} {R : RdF}
/-- == and != of a class or its subclass: the right one any value with a type that is known -/
def dEqT (B : Bs) (R : RdF) (neg : Bool) (C C' : Str) (ns cs : List Str) (x y : D) (Q : D → Prop) : Prop := asO [C, C'] ns x ((match y with | .obj c _ _ => c ∈ C :: C' :: cs | .ty _ | .glob _ | .tape => False | _ => True) ∧ R [x, y] (fun d => tst d fun b => Q (.bl (neg != b))) B.Ed)
theorem eqTL {C C' : Str} {ns cs : List Str} {neg : Bool} {g : Addr} (W : Two K (He.ga K C) (He.ga K C') g) (hC : OwnC K C) (hC' : OwnC K C') (hc : ∀ c ∈ cs, OwnC K c ∧ PySem.W.notFirst K (He.ga K C) (.ref (He.ga K c)) = true ∧ PySem.W.notFirst K (He.ga K C') (.ref (He.ga K c)) = true)
    (hs : ∀ x y Q E, R [x, y] Q E → ∀ ns ds, y = .obj C' ns ds → R [y, x] Q E) : OpI K B (rEqT neg K (He.ga K C) (He.ga K C') (spP K R) (EE K B)) (dEqT B R neg C C' ns cs) := by
  intro F H x y dx dy Qd Q g0 t0 rx ry h k
  obtain ⟨a, d1, f1, c1, rfl, hc1, h1, ht, hh⟩ := asO_of rx h
  have fin : ∀ v F' H' d, Go B.ms F H F' H' → Tp K B.ms F' H' → Rp K B.ms F' v d → (tst d fun b => Qd (.bl (neg != b))) → ∃ b, v = .bl b ∧ Q (.bl (if neg then !b else b)) H' := fun v F' H' d g t r q => by
    unfold tst at q
    split at q
    · cases r
      refine ⟨_, rfl, k _ F' H' _ g t (.bl _) ?_⟩
      cases neg <;> simpa using q
    · exact q.elim
  have c2 : He.ga K c1 = He.ga K C ∨ He.ga K c1 = He.ga K C' := by
    rcases List.mem_cons.mp hc1 with z | z
    · exact .inl (by rw [z])
    rcases List.mem_cons.mp z with z | z
    · exact .inr (by rw [z])
    cases z
  have main : ∀ t, TyX K H y t → PySem.W.notFirst K (He.ga K c1) t = true → rEqT neg K (He.ga K C) (He.ga K C') (spP K R) (EE K B) (.ref a) y H Q := fun t ty nf =>
    ⟨a, d1, f1, _, rfl, t0.1 _ _ h1, c2, .inl ⟨t, ty, nf, sp_callG g0 t0 (.cons rx (.cons ry .nil)) fin hh⟩⟩
  have bt : ∀ n ∈ ["NoneType", "bool", "int", "str", "list", "tuple", "dict"], PySem.W.notFirst K (He.ga K c1) (.type n) = true := fun n hn => by
    rcases List.mem_cons.mp hc1 with rfl | hc1
    · exact hC.2.nf n hn
    rcases List.mem_cons.mp hc1 with rfl | hc1
    · exact hC'.2.nf n hn
    cases hc1
  cases dy with
  | obj c ns' ds' =>
    have ht' : c ∈ C :: C' :: cs := ht
    clear ht
    rcases List.mem_cons.mp ht' with rfl | ht
    · refine main _ (tyX_of ry t0.1 rfl (fun _ _ _ z => by cases z; exact hC)) ?_
      rcases List.mem_cons.mp hc1 with rfl | hc1
      · exact nf_self
      rcases List.mem_cons.mp hc1 with rfl | hc1
      · exact W.nf
      cases hc1
    clear ht'
    rcases List.mem_cons.mp ht with rfl | ht'
    · rcases List.mem_cons.mp hc1 with rfl | hc1
      · cases ry with
        | @obj b dy _ _ vs _ p1 p2 p3 =>
          refine ⟨a, d1, f1, _, rfl, t0.1 _ _ h1, .inl rfl, .inr ⟨rfl, b, dy, _, rfl, t0.1 _ _ p1, sp_callG g0 t0 (.cons (.obj p1 p2 p3) (.cons rx .nil)) fin (hs _ _ _ _ hh _ _ rfl)⟩⟩
      rcases List.mem_cons.mp hc1 with rfl | hc1
      · exact main _ (tyX_of ry t0.1 rfl (fun _ _ _ z => by cases z; exact hC')) nf_self
      cases hc1
    · refine main _ (tyX_of ry t0.1 rfl (fun _ _ _ z => by cases z; exact (hc _ ht').1)) ?_
      rcases List.mem_cons.mp hc1 with rfl | hc1
      · exact (hc _ ht').2.1
      rcases List.mem_cons.mp hc1 with rfl | hc1
      · exact (hc _ ht').2.2
      cases hc1
  | non => exact main _ (tyX_of ry t0.1 rfl (fun _ _ _ z => nomatch z)) (bt _ (by decide))
  | bl _ => exact main _ (tyX_of ry t0.1 rfl (fun _ _ _ z => nomatch z)) (bt _ (by decide))
  | int _ => exact main _ (tyX_of ry t0.1 rfl (fun _ _ _ z => nomatch z)) (bt _ (by decide))
  | str _ => exact main _ (tyX_of ry t0.1 rfl (fun _ _ _ z => nomatch z)) (bt _ (by decide))
  | lst _ => exact main _ (tyX_of ry t0.1 rfl (fun _ _ _ z => nomatch z)) (bt _ (by decide))
  | tup _ => exact main _ (tyX_of ry t0.1 rfl (fun _ _ _ z => nomatch z)) (bt _ (by decide))
  | ty _ => exact ht.elim
  | glob _ => exact ht.elim
  | tape => exact ht.elim
end
section
variable {X : Cx} {B : Bs} {K : Frg} {ms : List Addr} {a b c e o e2 : Expr} {es : List Expr} {ra rb rc r ro r2 : Rd} {rt ru : RdT} {rl : RdA} {pos p0 apos kpos : Pos} {R : RdF} {k : Nat} {f g p : Addr} {x m : Str}
/-! ### o[i], len(o), repr(o) of instances of some classes with one method -/
theorem y_ixOs {cs ns : List Str} (hs : ∀ C ∈ cs, PySem.W.findIn X.K (.ref (He.ga X.K C)) "__getitem__" = some (some (.ref g))) (hf : PySem.W.isFn X.K (.ref g) = true) (hfi : PySem.W.fnIn X.K g = true) (hr : RoomG (k + 1) X.A) (F : FnG X.prog X.w X.K X.mg X.base (L2.CX X.prog X.w) k g (spP X.K R)) (hx : Px X B) (ha : PEp X B a ra) (hb : PEp X B b rb)
    (hsl : ∀ a u, subscripted b true (.ref a) u = runValue (.builtin "lifetime.subscript" ⟨[.ref a, u], []⟩) := by intro _ _; with_unfolding_all rfl) :
    PEp X B (.Subscript a b pos) (fun ρ Q => ra ρ fun x => rb ρ fun y => asO cs ns x (R [x, y] Q B.Ed)) := by
  refine ⟨fun pins s σ H Q I h => ?_⟩
  obtain ⟨F0, ρ, Qd, J, z, kk⟩ := h
  refine Subscript_ (binT ha hb I (R := fun x y H2 => ∃ C ∈ cs, rIxO (He.ga X.K C) (spP X.K R) (EE X.K B) x y H2 Q) ⟨F0, ρ, _, J, z, fun v F1 H1 d g1 t1 r1 z1 => ⟨F1, ρ, _, J.step g1 t1, z1, fun v2 F2 H2 d2 g2 t2 r2 z2 => ?_⟩⟩ fun v u s2 x y H2 I2 rx ry ⟨C, hC, q⟩ => gix_own (hs C hC) hf hfi (F.at hr.in1) hx hsl I2 rx ry q)
  obtain ⟨a, d1, f1, c1, rfl, hc1, h1, hh⟩ := asO_of (r1.up g2.ff) z2
  exact ⟨c1, hc1, a, d1, f1, rfl, t2.1 _ _ h1, sp_call J kk (g1.trans g2) t2 (.cons (r1.up g2.ff) (.one r2)) hh⟩
theorem y_lenOs {cs ns : List Str} (hs : ∀ C ∈ cs, PySem.W.findIn X.K (.ref (He.ga X.K C)) "__len__" = some (some (.ref g))) (hf : PySem.W.isFn X.K (.ref g) = true) (hr : RoomG (k + 1) X.A) (F : FnG X.prog X.w X.K X.mg X.base (L2.CX X.prog X.w) k g (spP X.K R)) (hx : Px X B) (hg : Gl X "len") (hm : X.mg "len" = none) (ha : PEp X B a ra)
    (h1 : starEach [a] X.env = [(false, eval a X.env)] := by rfl) : PEp X B (.Call (.Name "len" p0) [a] [] pos) (fun ρ Q => ra ρ fun d => asO cs ns d (R [d] (fun y => iOf y (Q y)) B.Ed)) := by
  have hc : CallR X (.builtin "len") (fun xs H Q => ∃ C ∈ cs, ∃ a dx fs, xs = [.ref a] ∧ H a = some (.ins (He.ga X.K C) dx fs) ∧ spP X.K R [.ref a] H (fun v H' => ∃ i : Int, v = .int i ∧ (0 ≤ i ∧ i < 2 ^ 63) ∧ Q v H') (EE X.K B)) := by
    intro pins s σ H xs us Q I r h
    obtain ⟨C, hC, a, dx, fs, rfl, ea, q⟩ := h
    obtain ⟨u, rfl, ru⟩ := vals1 r
    obtain rfl : u = Value.ref a := ru
    obtain ⟨mA, O, _, _, _, _⟩ := ins_get I.hok ea
    obtain ⟨od, J, _⟩ := O.look
    obtain ⟨m, hF⟩ := I.fr
    refine PySem.W.len_K hF I.ok.mod.kin J (hs C hC) hf ?_
    refine wpAny_mono (wpAny_call (run_A (us := [.ref a]) (vs := [.ref a]) (F.at hr.in1) I.env0.in1 hx I (.cons rfl .nil) q)) (fun w s' z => ?_) fun _ _ x => x
    obtain ⟨z', H', I', rz, i, rfl, hi, qz⟩ := z
    obtain ⟨t, rfl⟩ := (show ∃ t, w = Value.int i t from rz)
    exact ⟨hi, .int i, H', I'.tok _, ⟨_, rfl⟩, qz⟩
  exact pe_imp (pe_callB hc hg hm (by decide +kernel) (pa_cons ha pa_nil h1) (by decide) (by decide) h1 rfl) fun σ H Q ⟨F0, ρ, Qd, I, z, kk⟩ => ⟨F0, ρ, _, I, z, fun v F1 H1 d g1 t1 r1 z1 => by
    obtain ⟨a, d1, f1, c1, rfl, hc1, h1, hh⟩ := asO_of r1 z1
    refine ⟨c1, hc1, a, d1, f1, rfl, t1.1 _ _ h1, sp_call I (fun v F2 H2 d2 g2 t2 r2 q2 => ?_) g1 t1 (.cons r1 .nil) hh⟩
    unfold iOf at q2
    split at q2
    · cases r2
      exact ⟨_, rfl, q2.1, kk _ F2 H2 _ g2 t2 (.int _) q2.2⟩
    · exact q2.elim⟩
theorem y_reprOs {cs ns : List Str} (hr : RoomG (k + 1) X.A) (hs : ∀ C ∈ cs, PySem.W.findIn X.K (.ref (He.ga X.K C)) "__repr__" = some (some (.ref g))) (hf : PySem.W.isFn X.K (.ref g) = true) (F : FnG X.prog X.w X.K X.mg X.base (L2.CX X.prog X.w) k g (spP X.K R)) (hx : Px X B) (hg : Gl X "repr") (hm : X.mg "repr" = none) (ha : PEp X B a ra)
    (h1 : starEach [a] X.env = [(false, eval a X.env)] := by rfl) :
    PEp X B (.Call (.Name "repr" p0) [a] [] pos) (fun ρ Q => ra ρ fun d => asO cs ns d (R [d] (fun y => sOf y (Q y)) B.Ed)) := by
  have hc : CallR X (.builtin "repr") (fun xs H Q => ∃ C ∈ cs, rReprO (He.ga X.K C) (spP X.K R) (EE X.K B) xs H Q) := by
    intro pins s σ H xs us Q I r h
    obtain ⟨C, hC, h⟩ := h
    exact call_reprO hr.units (hs C hC) hf (F.at hr.in1) hx pins s σ H xs us Q I r h
  exact pe_imp (pe_callB hc hg hm (by decide +kernel) (pa_cons ha pa_nil h1) (by decide) (by decide) h1 rfl) fun σ H Q ⟨F0, ρ, Qd, I, z, kk⟩ => ⟨F0, ρ, _, I, z, fun v F1 H1 d g1 t1 r1 z1 => by
    obtain ⟨a, d1, f1, c1, rfl, hc1, h1, hh⟩ := asO_of r1 z1
    refine ⟨c1, hc1, a, d1, f1, rfl, t1.1 _ _ h1, sp_call I (fun v F2 H2 d2 g2 t2 r2 q2 => ?_) g1 t1 (.cons r1 .nil) hh⟩
    unfold sOf at q2
    split at q2
    · cases r2
      exact ⟨_, rfl, kk _ F2 H2 _ g2 t2 (.str _) q2⟩
    · exact q2.elim⟩
end
end Y
namespace Z
open PySem PySem.Spec PyProof.Rows L2
open PySem.W
section
variable {prog : Program} {w : World} {A : Around} {E : Value → Shared → Prop} {s : Shared} {K : Frg} {x C C' L f f' : Addr} {h₀ : Heap} {m : Str → Option Value} {ox : Obj} {od : Option Obj} {T : String}
/-- a op b, b of a built-in type, however it is told -/
theorem binop_T {op : Operator} {b : Value} {fo ro rc : Option Value} {Q : Value → Shared → Prop} (F : Fr h₀ L s.heap m) (X₀ : K.In h₀) (I : InstAt s.heap x ox C od) (hb : Looks (model prog w) s.heap (typeOf b) (.type T)) (hc : selfFirst K C = true)
    (hs : findIn K (.ref C) (PySem.dunder op.info.2) = some (some (.ref f))) (hf : isFn K (.ref f) = true) (hr : findIn K (.ref C) (dunderR op.info.2) = some rc) (hp : rc = none ∨ ∃ g : Addr, rc = some (.ref g))
    (h1 : findIn K (.type T) (PySem.dunder op.info.2) = some fo) (h2 : findIn K (.type T) (dunderR op.info.2) = some ro) (hsub : subIn K (.type T) (.ref C) = some false)
    (h : wpAny (model prog w) A (call (.ref f) [.ref x, b]) (PySem.W.CmpBack Q) E s) : wpAny (model prog w) A (binaryOp op (.ref x) b) Q E s := by
  have X := X₀.keeps F.keep
  obtain ⟨cd, rest, hcd, hm⟩ := ksp_first hc
  rcases hi : op.info with ⟨sym, nm'⟩
  rw [hi] at hs hr h1 h2
  dsimp only at hs hr h1 h2
  have one := ksp_try X I hs hf h
  obtain ⟨hh, g, d, tt, os⟩ := s
  have L1 : Looks (model prog w) hh (typeOf (.ref x)) (.ref C) := I.type
  have L2 : Looks (model prog w) hh (typeOf b) (.type T) := hb
  have L3 : Looks (model prog w) hh (fillsNumberSlot (.ref C) nm') true := fills_K X hcd hm hs
  have L4 : Looks (model prog w) hh (fillsNumberSlot (.type T) nm') ((fo.isSome && !isSeqSlot fo) || (ro.isSome && !isSeqSlot ro)) := ksp_fillsT X h1 h2
  have L5 : Looks (model prog w) hh (isSubtype (.type T) (.ref C)) false := looks_subIn X hsub
  have L6 : Looks (model prog w) hh (numberSlotInPython (.ref C) nm') true := ksp_inPy X hs hr hp
  have L7 : Looks (model prog w) hh (numberSlotInPython (.type T) nm') false := Looks.of_pure rfl
  have L8 : Looks (model prog w) hh (typeLookup (.type T) (dunderR nm')) ro := looks_findIn X h2
  generalize ((fo.isSome && !isSeqSlot fo) || (ro.isSome && !isSeqSlot ro)) = right at L4
  have hne : (Value.ref C == Value.type T) = false := Bool.eq_false_iff.mpr fun q => by cases beq_iff_eq.mp q
  simp only [binaryOp, hi]
  refine wpAny_holding (wpAny_bind ?_)
  unfold binaryOp1
  refine wpAny_bind (L1.at (wpAny_bind (L2.at (wpAny_bind (L3.at ?_)))))
  simp only [hne, Bool.false_eq_true, if_false]
  cases right with
  | false =>
    ksp_lk
    refine wpAny_mono one (fun r s' hr' => ?_) fun _ _ e => e
    obtain ⟨v, rfl, hq⟩ := hr'
    ksp_lk
    exact hq
  | true =>
    ksp_lk
    refine wpAny_mono one (fun r s' hr' => ?_) fun _ _ e => e
    obtain ⟨v, rfl, hq⟩ := hr'
    ksp_lk
    exact hq
end
section
variable {X : Cx} {CX : CXT} {k : Nat} {f C C' p g g' : Addr} {sp : Sp} {E : XK} {T : String}
def rBinT (K : Frg) (C : Addr) (T : String) (sp : Sp) (E : XK) : R2 := fun x y H Q => ∃ a dx fs, x = .ref a ∧ H a = some (.ins C dx fs) ∧ TyX K H y (.type T) ∧ sp [x, y] H Q E
theorem gop_binT {op : Operator} (b2 : BinT X.K op.info.2 C T) (hs : PySem.W.findIn X.K (.ref C) (PySem.dunder op.info.2) = some (some (.ref g))) (hf : PySem.W.isFn X.K (.ref g) = true) (F : FnA X.A X.prog X.w X.K X.mg X.base CX g sp) (hx : Passes CX X E) : OpR X (binaryOp op) (rBinT X.K C T sp E) := by
  intro pins s σ H x y v u Q I rx ry h
  obtain ⟨a, dx, fs, rfl, ea, ty, q⟩ := h
  cases (show v = Value.ref a from rx)
  obtain ⟨mA, O, _, _, _, _⟩ := ins_get I.hok ea
  obtain ⟨od, J, _⟩ := O.look
  obtain ⟨m, hF⟩ := I.fr
  obtain ⟨rc, r1, r2⟩ := b2.hr
  obtain ⟨fo, h1⟩ := b2.h1
  obtain ⟨ro, h2⟩ := b2.h2
  obtain ⟨P, kx, hP, _⟩ := kit_of I ry ty
  refine binop_T hF I.ok.mod.kin J (kx.ty _ _ I.kIn hP) b2.hc hs hf r1 r2 h1 h2 b2.hsub ?_
  refine wpAny_mono (wpAny_call (run_fnA (us := [.ref a, u]) (vs := [.ref a, y]) F hx I (.cons rfl (.cons ry .nil)) q)) (fun w s' z => ?_) fun _ _ x => x
  obtain ⟨z', H', I', rz, qz⟩ := z
  exact SlX.cmpback rz ⟨z', H', I', rz, qz⟩
end
def bBinT (x : Str) (T : String) (nm : String) : Frg → Bool := fun K => rcB K (He.ga K x) nm && ((PySem.W.findIn K (.type T) (PySem.dunder nm)).isSome && ((PySem.W.findIn K (.type T) (dunderR nm)).isSome && (selfFirst K (He.ga K x) && decide (subIn K (.type T) (.ref (He.ga K x)) = some false))))
theorem binT_of {K : Frg} {x : Str} {T nm : String} (h : bBinT x T nm K = true) : BinT K nm (He.ga K x) T := by
  obtain ⟨h1, h⟩ := He.ba h
  obtain ⟨h2, h⟩ := He.ba h
  obtain ⟨h3, h⟩ := He.ba h
  obtain ⟨h4, h5⟩ := He.ba h
  exact ⟨rcB_ok h1, Option.isSome_iff_exists.mp h2, Option.isSome_iff_exists.mp h3, h4, of_decide_eq_true h5⟩
end Z
namespace Y
open PySem PySem.Spec PyProof.Rows L2 Z
section
variable {X : Cx} {B : Bs} {K : Frg} {R : RdF}
/-- a class or its subclass, op another own class -/
def dBin2s (B : Bs) (R : RdF) (cs : List Str) (ns : List Str) (C' : Str) (ns' : List Str) (x y : D) (Q : D → Prop) : Prop := asO cs ns x (asO [C'] ns' y (R [x, y] Q B.Ed))
theorem bin2sL {C D' C' : Str} {ns ns' : List Str} : OpI K B (fun x y H Q => rBin2 (He.ga K C) (He.ga K C') (spP K R) (EE K B) x y H Q ∨ rBin2 (He.ga K D') (He.ga K C') (spP K R) (EE K B) x y H Q) (dBin2s B R [C, D'] ns C' ns') := by
  intro F H x y dx dy Qd Q g0 t0 rx ry h k
  obtain ⟨a, d1, f1, c1, rfl, hc1, h1, hh⟩ := asO_of rx h
  obtain ⟨b, d2, f2, c2, rfl, hc2, h2, hhh⟩ := asO_of ry hh
  have e2 : c2 = C' := by simpa using hc2
  subst e2
  rcases List.mem_cons.mp hc1 with e1 | hc1
  · subst e1
    exact .inl ⟨a, d1, f1, b, d2, f2, rfl, rfl, t0.1 _ _ h1, t0.1 _ _ h2, sp_callG g0 t0 (.cons rx (.cons ry .nil)) k hhh⟩
  · have e1 : c1 = D' := by simpa using hc1
    subst e1
    exact .inr ⟨a, d1, f1, b, d2, f2, rfl, rfl, t0.1 _ _ h1, t0.1 _ _ h2, sp_callG g0 t0 (.cons rx (.cons ry .nil)) k hhh⟩
/-- a class or its subclass, op a tuple -/
def isTp (d : D) (k : Prop) : Prop := match d with
  | .tup _ => k
  | _ => False
def dBinTs (B : Bs) (R : RdF) (cs : List Str) (ns : List Str) (x y : D) (Q : D → Prop) : Prop := asO cs ns x (isTp y (R [x, y] Q B.Ed))
theorem binTsL {C D' : Str} {ns : List Str} : OpI K B (fun x y H Q => rBinT K (He.ga K C) "tuple" (spP K R) (EE K B) x y H Q ∨ rBinT K (He.ga K D') "tuple" (spP K R) (EE K B) x y H Q) (dBinTs B R [C, D'] ns) := by
  intro F H x y dx dy Qd Q g0 t0 rx ry h k
  obtain ⟨a, d1, f1, c1, rfl, hc1, h1, hh⟩ := asO_of rx h
  unfold isTp at hh
  split at hh
  · rename_i ds
    cases ry with
    | @tup b vs _ h2 h3 =>
      have ty := tyT (sqT t0.1 h2)
      rcases List.mem_cons.mp hc1 with e1 | hc1
      · subst e1
        exact .inl ⟨a, d1, f1, rfl, t0.1 _ _ h1, ty, sp_callG g0 t0 (.cons rx (.cons (.tup h2 h3) .nil)) k hh⟩
      · have e1 : c1 = D' := by simpa using hc1
        subst e1
        exact .inr ⟨a, d1, f1, rfl, t0.1 _ _ h1, ty, sp_callG g0 t0 (.cons rx (.cons (.tup h2 h3) .nil)) k hh⟩
  · exact hh.elim
end
end Y
namespace K13
open PySem PySem.Spec PyProof.Rows L2 Z Y
def topS (i : Nat) : Stmt := PySem.Challenge.pw_carpets_k13_carpets_moved.main.body.getD i (.Pass ⟨0, 0, 0, 0⟩)
abbrev s__law_tape : Stmt := (topS 45)
abbrev N__law_tape : List Str := ["_law_script"]
abbrev ps__law_tape : List Str := ["_law_script"]
theorem sc__law_tape : FnScope N__law_tape ps__law_tape (defScope s__law_tape) := ⟨rfl, rfl, rfl, by decide +kernel, rfl, by decide +kernel, by decide +kernel⟩
abbrev s__law_draw : Stmt := (topS 46)
abbrev N__law_draw : List Str := ["_law_tape_here", "_law_many", "_law_digit", "_law_cell", "_law_near"]
abbrev ps__law_draw : List Str := ["_law_tape_here", "_law_many"]
theorem sc__law_draw : FnScope N__law_draw ps__law_draw (defScope s__law_draw) := ⟨rfl, rfl, rfl, by decide +kernel, rfl, by decide +kernel, by decide +kernel⟩
abbrev s_is_integer : Stmt := (topS 11)
abbrev N_is_integer : List Str := ["value"]
abbrev ps_is_integer : List Str := ["value"]
theorem sc_is_integer : FnScope N_is_integer ps_is_integer (defScope s_is_integer) := ⟨rfl, rfl, rfl, by decide +kernel, rfl, by decide +kernel, by decide +kernel⟩
abbrev s_is_place : Stmt := (topS 12)
abbrev N_is_place : List Str := ["value", "number"]
abbrev ps_is_place : List Str := ["value"]
theorem sc_is_place : FnScope N_is_place ps_is_place (defScope s_is_place) := ⟨rfl, rfl, rfl, by decide +kernel, rfl, by decide +kernel, by decide +kernel⟩
abbrev s_check_place : Stmt := (topS 13)
abbrev N_check_place : List Str := ["value"]
abbrev ps_check_place : List Str := ["value"]
theorem sc_check_place : FnScope N_check_place ps_check_place (defScope s_check_place) := ⟨rfl, rfl, rfl, by decide +kernel, rfl, by decide +kernel, by decide +kernel⟩
abbrev s_plus : Stmt := (topS 17)
abbrev N_plus : List Str := ["one", "other"]
abbrev ps_plus : List Str := ["one", "other"]
theorem sc_plus : FnScope N_plus ps_plus (defScope s_plus) := ⟨rfl, rfl, rfl, by decide +kernel, rfl, by decide +kernel, by decide +kernel⟩
abbrev s_minus : Stmt := (topS 18)
abbrev N_minus : List Str := ["one", "other"]
abbrev ps_minus : List Str := ["one", "other"]
theorem sc_minus : FnScope N_minus ps_minus (defScope s_minus) := ⟨rfl, rfl, rfl, by decide +kernel, rfl, by decide +kernel, by decide +kernel⟩
abbrev s_divisors : Stmt := (topS 16)
abbrev N_divisors : List Str := ["number", "divisor"]
abbrev ps_divisors : List Str := ["number"]
theorem sc_divisors : FnScope N_divisors ps_divisors (defScope s_divisors) := ⟨rfl, rfl, rfl, by decide +kernel, rfl, by decide +kernel, by decide +kernel⟩
abbrev s_are_numbers : Stmt := (topS 27)
abbrev N_are_numbers : List Str := ["numbers", "a", "b", "c", "number"]
abbrev ps_are_numbers : List Str := ["numbers"]
theorem sc_are_numbers : FnScope N_are_numbers ps_are_numbers (defScope s_are_numbers) := ⟨rfl, rfl, rfl, by decide +kernel, rfl, by decide +kernel, by decide +kernel⟩
abbrev s_Net_UinitU : Stmt := (inClass (topS 29) 0)
abbrev N_Net_UinitU : List Str := ["self", "a", "b", "c"]
abbrev ps_Net_UinitU : List Str := ["self", "a", "b", "c"]
theorem sc_Net_UinitU : FnScope N_Net_UinitU ps_Net_UinitU (defScope s_Net_UinitU) := ⟨rfl, rfl, rfl, by decide +kernel, rfl, by decide +kernel, by decide +kernel⟩
abbrev s_Net_numbers : Stmt := (inClass (topS 29) 3)
abbrev N_Net_numbers : List Str := ["self"]
abbrev ps_Net_numbers : List Str := ["self"]
theorem sc_Net_numbers : FnScope N_Net_numbers ps_Net_numbers (defScope s_Net_numbers) := ⟨rfl, rfl, rfl, by decide +kernel, rfl, by decide +kernel, by decide +kernel⟩
abbrev s_Net_UeqU : Stmt := (inClass (topS 29) 11)
abbrev N_Net_UeqU : List Str := ["self", "other"]
abbrev ps_Net_UeqU : List Str := ["self", "other"]
theorem sc_Net_UeqU : FnScope N_Net_UeqU ps_Net_UeqU (defScope s_Net_UeqU) := ⟨rfl, rfl, rfl, by decide +kernel, rfl, by decide +kernel, by decide +kernel⟩
abbrev s_Net_place_in_cell : Stmt := (inClass (topS 29) 6)
abbrev N_Net_place_in_cell : List Str := ["self", "place", "a", "b", "c", "rows"]
abbrev ps_Net_place_in_cell : List Str := ["self", "place"]
theorem sc_Net_place_in_cell : FnScope N_Net_place_in_cell ps_Net_place_in_cell (defScope s_Net_place_in_cell) := ⟨rfl, rfl, rfl, by decide +kernel, rfl, by decide +kernel, by decide +kernel⟩
abbrev s_Net_spots : Stmt := (inClass (topS 29) 15)
abbrev N_Net_spots : List Str := ["self", "a", "b", "c", "y", "x"]
abbrev ps_Net_spots : List Str := ["self"]
theorem sc_Net_spots : FnScope N_Net_spots ps_Net_spots (defScope s_Net_spots) := ⟨rfl, rfl, rfl, by decide +kernel, rfl, by decide +kernel, by decide +kernel⟩
abbrev s_colour_at : Stmt := (topS 38)
abbrev N_colour_at : List Str := ["net", "text", "place", "x", "y"]
abbrev ps_colour_at : List Str := ["net", "text", "place"]
theorem sc_colour_at : FnScope N_colour_at ps_colour_at (defScope s_colour_at) := ⟨rfl, rfl, rfl, by decide +kernel, rfl, by decide +kernel, by decide +kernel⟩
abbrev s_is_kept : Stmt := (topS 39)
abbrev N_is_kept : List Str := ["net", "text", "shift", "place"]
abbrev ps_is_kept : List Str := ["net", "text", "shift"]
theorem sc_is_kept : FnScope N_is_kept ps_is_kept (defScope s_is_kept) := ⟨rfl, rfl, rfl, by decide +kernel, rfl, by decide +kernel, by decide +kernel⟩
abbrev s_kept_net : Stmt := (topS 40)
abbrev N_kept_net : List Str := ["net", "text", "a", "b", "c", "width", "rows", "right", "number"]
abbrev ps_kept_net : List Str := ["net", "text"]
theorem sc_kept_net : FnScope N_kept_net ps_kept_net (defScope s_kept_net) := ⟨rfl, rfl, rfl, by decide +kernel, rfl, by decide +kernel, by decide +kernel⟩
abbrev s_least_cell : Stmt := (topS 41)
abbrev N_least_cell : List Str := ["net", "text", "least", "place"]
abbrev ps_least_cell : List Str := ["net", "text"]
theorem sc_least_cell : FnScope N_least_cell ps_least_cell (defScope s_least_cell) := ⟨rfl, rfl, rfl, by decide +kernel, rfl, by decide +kernel, by decide +kernel⟩
abbrev s_is_row : Stmt := (topS 35)
abbrev N_is_row : List Str := ["value", "signs", "most", "sign"]
abbrev ps_is_row : List Str := ["value", "signs", "most"]
theorem sc_is_row : FnScope N_is_row ps_is_row (defScope s_is_row) := ⟨rfl, rfl, rfl, by decide +kernel, rfl, by decide +kernel, by decide +kernel⟩
abbrev s_check_rows : Stmt := (topS 36)
abbrev N_check_rows : List Str := ["rows", "signs", "most", "index", "row"]
abbrev ps_check_rows : List Str := ["rows", "signs", "most"]
theorem sc_check_rows : FnScope N_check_rows ps_check_rows (defScope s_check_rows) := ⟨rfl, rfl, rfl, by decide +kernel, rfl, by decide +kernel, by decide +kernel⟩
abbrev s_checked_block : Stmt := (topS 37)
abbrev N_checked_block : List Str := ["rows", "shift", "width"]
abbrev ps_checked_block : List Str := ["rows", "shift"]
theorem sc_checked_block : FnScope N_checked_block ps_checked_block (defScope s_checked_block) := ⟨rfl, rfl, rfl, by decide +kernel, rfl, by decide +kernel, by decide +kernel⟩
abbrev s_Carpet_UinitU : Stmt := (inClass (topS 42) 0)
abbrev N_Carpet_UinitU : List Str := ["self", "rows", "shift", "net", "text"]
abbrev ps_Carpet_UinitU : List Str := ["self", "rows", "shift"]
theorem sc_Carpet_UinitU : FnScope N_Carpet_UinitU ps_Carpet_UinitU (defScope s_Carpet_UinitU) := ⟨rfl, rfl, rfl, by decide +kernel, rfl, by decide +kernel, by decide +kernel⟩
abbrev s_Carpet_net : Stmt := (inClass (topS 42) 3)
abbrev N_Carpet_net : List Str := ["self"]
abbrev ps_Carpet_net : List Str := ["self"]
theorem sc_Carpet_net : FnScope N_Carpet_net ps_Carpet_net (defScope s_Carpet_net) := ⟨rfl, rfl, rfl, by decide +kernel, rfl, by decide +kernel, by decide +kernel⟩
abbrev s_Carpet_text : Stmt := (inClass (topS 42) 4)
abbrev N_Carpet_text : List Str := ["self"]
abbrev ps_Carpet_text : List Str := ["self"]
theorem sc_Carpet_text : FnScope N_Carpet_text ps_Carpet_text (defScope s_Carpet_text) := ⟨rfl, rfl, rfl, by decide +kernel, rfl, by decide +kernel, by decide +kernel⟩
abbrev s_Carpet_rows : Stmt := (inClass (topS 42) 5)
abbrev N_Carpet_rows : List Str := ["self", "a", "b", "c", "row"]
abbrev ps_Carpet_rows : List Str := ["self"]
theorem sc_Carpet_rows : FnScope N_Carpet_rows ps_Carpet_rows (defScope s_Carpet_rows) := ⟨rfl, rfl, rfl, by decide +kernel, rfl, by decide +kernel, by decide +kernel⟩
abbrev s_Carpet_colours : Stmt := (inClass (topS 42) 6)
abbrev N_Carpet_colours : List Str := ["self", "colour"]
abbrev ps_Carpet_colours : List Str := ["self"]
theorem sc_Carpet_colours : FnScope N_Carpet_colours ps_Carpet_colours (defScope s_Carpet_colours) := ⟨rfl, rfl, rfl, by decide +kernel, rfl, by decide +kernel, by decide +kernel⟩
abbrev s_Carpet_seen : Stmt := (inClass (topS 42) 7)
abbrev N_Carpet_seen : List Str := ["self", "place"]
abbrev ps_Carpet_seen : List Str := ["self", "place"]
theorem sc_Carpet_seen : FnScope N_Carpet_seen ps_Carpet_seen (defScope s_Carpet_seen) := ⟨rfl, rfl, rfl, by decide +kernel, rfl, by decide +kernel, by decide +kernel⟩
abbrev s_Carpet_UgetitemU : Stmt := (inClass (topS 42) 8)
abbrev N_Carpet_UgetitemU : List Str := ["self", "place"]
abbrev ps_Carpet_UgetitemU : List Str := ["self", "place"]
theorem sc_Carpet_UgetitemU : FnScope N_Carpet_UgetitemU ps_Carpet_UgetitemU (defScope s_Carpet_UgetitemU) := ⟨rfl, rfl, rfl, by decide +kernel, rfl, by decide +kernel, by decide +kernel⟩
abbrev s_Carpet_UlenU : Stmt := (inClass (topS 42) 10)
abbrev N_Carpet_UlenU : List Str := ["self"]
abbrev ps_Carpet_UlenU : List Str := ["self"]
theorem sc_Carpet_UlenU : FnScope N_Carpet_UlenU ps_Carpet_UlenU (defScope s_Carpet_UlenU) := ⟨rfl, rfl, rfl, by decide +kernel, rfl, by decide +kernel, by decide +kernel⟩
abbrev s_Carpet_UeqU : Stmt := (inClass (topS 42) 11)
abbrev N_Carpet_UeqU : List Str := ["self", "other"]
abbrev ps_Carpet_UeqU : List Str := ["self", "other"]
theorem sc_Carpet_UeqU : FnScope N_Carpet_UeqU ps_Carpet_UeqU (defScope s_Carpet_UeqU) := ⟨rfl, rfl, rfl, by decide +kernel, rfl, by decide +kernel, by decide +kernel⟩
abbrev s_Carpet_UreprU : Stmt := (inClass (topS 42) 12)
abbrev N_Carpet_UreprU : List Str := ["self"]
abbrev ps_Carpet_UreprU : List Str := ["self"]
theorem sc_Carpet_UreprU : FnScope N_Carpet_UreprU ps_Carpet_UreprU (defScope s_Carpet_UreprU) := ⟨rfl, rfl, rfl, by decide +kernel, rfl, by decide +kernel, by decide +kernel⟩
abbrev s_Net_size : Stmt := (inClass (topS 29) 4)
abbrev N_Net_size : List Str := ["self"]
abbrev ps_Net_size : List Str := ["self"]
theorem sc_Net_size : FnScope N_Net_size ps_Net_size (defScope s_Net_size) := ⟨rfl, rfl, rfl, by decide +kernel, rfl, by decide +kernel, by decide +kernel⟩
abbrev s_Net_UcontainsU : Stmt := (inClass (topS 29) 7)
abbrev N_Net_UcontainsU : List Str := ["self", "value"]
abbrev ps_Net_UcontainsU : List Str := ["self", "value"]
theorem sc_Net_UcontainsU : FnScope N_Net_UcontainsU ps_Net_UcontainsU (defScope s_Net_UcontainsU) := ⟨rfl, rfl, rfl, by decide +kernel, rfl, by decide +kernel, by decide +kernel⟩
abbrev s_Woven_UinitU : Stmt := (inClass (topS 43) 0)
abbrev N_Woven_UinitU : List Str := ["self", "net", "text"]
abbrev ps_Woven_UinitU : List Str := ["self", "net", "text"]
theorem sc_Woven_UinitU : FnScope N_Woven_UinitU ps_Woven_UinitU (defScope s_Woven_UinitU) := ⟨rfl, rfl, rfl, by decide +kernel, rfl, by decide +kernel, by decide +kernel⟩
abbrev s_Carpet_on : Stmt := (inClass (topS 42) 1)
abbrev N_Carpet_on : List Str := ["net", "text"]
abbrev ps_Carpet_on : List Str := ["net", "text"]
theorem sc_Carpet_on : FnScope N_Carpet_on ps_Carpet_on (defScope s_Carpet_on) := ⟨rfl, rfl, rfl, by decide +kernel, rfl, by decide +kernel, by decide +kernel⟩
abbrev s_turned : Stmt := (topS 22)
abbrev N_turned : List Str := ["kind", "place", "p", "q", "r", "s"]
abbrev ps_turned : List Str := ["kind", "place"]
theorem sc_turned : FnScope N_turned ps_turned (defScope s_turned) := ⟨rfl, rfl, rfl, by decide +kernel, rfl, by decide +kernel, by decide +kernel⟩
abbrev s_joined_kind : Stmt := (topS 23)
abbrev N_joined_kind : List Str := ["first", "second", "east", "north", "matrix", "kind", "other"]
abbrev ps_joined_kind : List Str := ["first", "second"]
theorem sc_joined_kind : FnScope N_joined_kind ps_joined_kind (defScope s_joined_kind) := ⟨rfl, rfl, rfl, by decide +kernel, rfl, by decide +kernel, by decide +kernel⟩
abbrev s_Motion_UinitU : Stmt := (inClass (topS 24) 1)
abbrev N_Motion_UinitU : List Str := ["self", "kind", "shift"]
abbrev ps_Motion_UinitU : List Str := ["self", "kind", "shift"]
theorem sc_Motion_UinitU : FnScope N_Motion_UinitU ps_Motion_UinitU (defScope s_Motion_UinitU) := ⟨rfl, rfl, rfl, by decide +kernel, rfl, by decide +kernel, by decide +kernel⟩
abbrev s_Motion_by : Stmt := (inClass (topS 24) 2)
abbrev N_Motion_by : List Str := ["shift"]
abbrev ps_Motion_by : List Str := ["shift"]
theorem sc_Motion_by : FnScope N_Motion_by ps_Motion_by (defScope s_Motion_by) := ⟨rfl, rfl, rfl, by decide +kernel, rfl, by decide +kernel, by decide +kernel⟩
abbrev s_Motion_kind : Stmt := (inClass (topS 24) 3)
abbrev N_Motion_kind : List Str := ["self"]
abbrev ps_Motion_kind : List Str := ["self"]
theorem sc_Motion_kind : FnScope N_Motion_kind ps_Motion_kind (defScope s_Motion_kind) := ⟨rfl, rfl, rfl, by decide +kernel, rfl, by decide +kernel, by decide +kernel⟩
abbrev s_Motion_image : Stmt := (inClass (topS 24) 6)
abbrev N_Motion_image : List Str := ["self", "place"]
abbrev ps_Motion_image : List Str := ["self", "place"]
theorem sc_Motion_image : FnScope N_Motion_image ps_Motion_image (defScope s_Motion_image) := ⟨rfl, rfl, rfl, by decide +kernel, rfl, by decide +kernel, by decide +kernel⟩
abbrev s_Motion_UmulU : Stmt := (inClass (topS 24) 8)
abbrev N_Motion_UmulU : List Str := ["self", "other"]
abbrev ps_Motion_UmulU : List Str := ["self", "other"]
theorem sc_Motion_UmulU : FnScope N_Motion_UmulU ps_Motion_UmulU (defScope s_Motion_UmulU) := ⟨rfl, rfl, rfl, by decide +kernel, rfl, by decide +kernel, by decide +kernel⟩
abbrev s_Motion_UinvertU : Stmt := (inClass (topS 24) 9)
abbrev N_Motion_UinvertU : List Str := ["self", "kind", "x", "y"]
abbrev ps_Motion_UinvertU : List Str := ["self"]
theorem sc_Motion_UinvertU : FnScope N_Motion_UinvertU ps_Motion_UinvertU (defScope s_Motion_UinvertU) := ⟨rfl, rfl, rfl, by decide +kernel, rfl, by decide +kernel, by decide +kernel⟩
abbrev s_greatest_divisor : Stmt := (topS 14)
abbrev N_greatest_divisor : List Str := ["one", "other"]
abbrev ps_greatest_divisor : List Str := ["one", "other"]
theorem sc_greatest_divisor : FnScope N_greatest_divisor ps_greatest_divisor (defScope s_greatest_divisor) := ⟨rfl, rfl, rfl, by decide +kernel, rfl, by decide +kernel, by decide +kernel⟩
abbrev s_form_of : Stmt := (topS 26)
abbrev N_form_of : List Str := ["shifts", "a", "b", "c", "x", "y", "times"]
abbrev ps_form_of : List Str := ["shifts"]
theorem sc_form_of : FnScope N_form_of ps_form_of (defScope s_form_of) := ⟨rfl, rfl, rfl, by decide +kernel, rfl, by decide +kernel, by decide +kernel⟩
abbrev s_Net_of : Stmt := (inClass (topS 29) 1)
abbrev N_Net_of : List Str := ["shifts", "shift", "numbers"]
abbrev ps_Net_of : List Str := ["shifts"]
theorem sc_Net_of : FnScope N_Net_of ps_Net_of (defScope s_Net_of) := ⟨rfl, rfl, rfl, by decide +kernel, rfl, by decide +kernel, by decide +kernel⟩
abbrev s_Net_spanning : Stmt := (inClass (topS 29) 5)
abbrev N_Net_spanning : List Str := ["self", "a", "b", "c"]
abbrev ps_Net_spanning : List Str := ["self"]
theorem sc_Net_spanning : FnScope N_Net_spanning ps_Net_spanning (defScope s_Net_spanning) := ⟨rfl, rfl, rfl, by decide +kernel, rfl, by decide +kernel, by decide +kernel⟩
abbrev s_Net_UmulU : Stmt := (inClass (topS 29) 10)
abbrev N_Net_UmulU : List Str := ["self", "motion", "one", "other"]
abbrev ps_Net_UmulU : List Str := ["self", "motion"]
theorem sc_Net_UmulU : FnScope N_Net_UmulU ps_Net_UmulU (defScope s_Net_UmulU) := ⟨rfl, rfl, rfl, by decide +kernel, rfl, by decide +kernel, by decide +kernel⟩
abbrev s_Carpet_UaddU : Stmt := (inClass (topS 42) 13)
abbrev N_Carpet_UaddU : List Str := ["self", "shift", "place"]
abbrev ps_Carpet_UaddU : List Str := ["self", "shift"]
theorem sc_Carpet_UaddU : FnScope N_Carpet_UaddU ps_Carpet_UaddU (defScope s_Carpet_UaddU) := ⟨rfl, rfl, rfl, by decide +kernel, rfl, by decide +kernel, by decide +kernel⟩
abbrev s_Carpet_UsubU : Stmt := (inClass (topS 42) 14)
abbrev N_Carpet_UsubU : List Str := ["self", "shift", "place"]
abbrev ps_Carpet_UsubU : List Str := ["self", "shift"]
theorem sc_Carpet_UsubU : FnScope N_Carpet_UsubU ps_Carpet_UsubU (defScope s_Carpet_UsubU) := ⟨rfl, rfl, rfl, by decide +kernel, rfl, by decide +kernel, by decide +kernel⟩
abbrev s_Carpet_UmulU : Stmt := (inClass (topS 42) 15)
abbrev N_Carpet_UmulU : List Str := ["self", "motion", "net", "back", "place"]
abbrev ps_Carpet_UmulU : List Str := ["self", "motion"]
theorem sc_Carpet_UmulU : FnScope N_Carpet_UmulU ps_Carpet_UmulU (defScope s_Carpet_UmulU) := ⟨rfl, rfl, rfl, by decide +kernel, rfl, by decide +kernel, by decide +kernel⟩
abbrev s_Carpet_is_kept_by : Stmt := (inClass (topS 42) 18)
abbrev N_Carpet_is_kept_by : List Str := ["self", "motion"]
abbrev ps_Carpet_is_kept_by : List Str := ["self", "motion"]
theorem sc_Carpet_is_kept_by : FnScope N_Carpet_is_kept_by ps_Carpet_is_kept_by (defScope s_Carpet_is_kept_by) := ⟨rfl, rfl, rfl, by decide +kernel, rfl, by decide +kernel, by decide +kernel⟩
abbrev s__law_great : Stmt := (topS 47)
abbrev N__law_great : List Str := ["_law_tape_here", "_law_size", "_law_high", "_law_value"]
abbrev ps__law_great : List Str := ["_law_tape_here", "_law_size"]
theorem sc__law_great : FnScope N__law_great ps__law_great (defScope s__law_great) := ⟨rfl, rfl, rfl, by decide +kernel, rfl, by decide +kernel, by decide +kernel⟩
abbrev s__law_place : Stmt := (topS 48)
abbrev N__law_place : List Str := ["_law_tape_here"]
abbrev ps__law_place : List Str := ["_law_tape_here"]
theorem sc__law_place : FnScope N__law_place ps__law_place (defScope s__law_place) := ⟨rfl, rfl, rfl, by decide +kernel, rfl, by decide +kernel, by decide +kernel⟩
abbrev s__law_low : Stmt := (topS 49)
abbrev N__law_low : List Str := ["_law_net_here", "_law_place_here", "_law_times"]
abbrev ps__law_low : List Str := ["_law_net_here", "_law_place_here"]
theorem sc__law_low : FnScope N__law_low ps__law_low (defScope s__law_low) := ⟨rfl, rfl, rfl, by decide +kernel, rfl, by decide +kernel, by decide +kernel⟩
abbrev s__law_spots : Stmt := (topS 50)
abbrev N__law_spots : List Str := ["_law_net_here", "_law_at"]
abbrev ps__law_spots : List Str := ["_law_net_here"]
theorem sc__law_spots : FnScope N__law_spots ps__law_spots (defScope s__law_spots) := ⟨rfl, rfl, rfl, by decide +kernel, rfl, by decide +kernel, by decide +kernel⟩
abbrev s__law_seen : Stmt := (topS 51)
abbrev N__law_seen : List Str := ["_law_net_here", "_law_text", "_law_place_here", "_law_x", "_law_y"]
abbrev ps__law_seen : List Str := ["_law_net_here", "_law_text", "_law_place_here"]
theorem sc__law_seen : FnScope N__law_seen ps__law_seen (defScope s__law_seen) := ⟨rfl, rfl, rfl, by decide +kernel, rfl, by decide +kernel, by decide +kernel⟩
abbrev s__law_net : Stmt := (topS 52)
abbrev N__law_net : List Str := ["_law_tape_here", "_law_most", "_law_wide"]
abbrev ps__law_net : List Str := ["_law_tape_here", "_law_most"]
theorem sc__law_net : FnScope N__law_net ps__law_net (defScope s__law_net) := ⟨rfl, rfl, rfl, by decide +kernel, rfl, by decide +kernel, by decide +kernel⟩
abbrev s__law_turned : Stmt := (topS 53)
abbrev N__law_turned : List Str := ["_law_kind", "_law_place_here", "_law_x", "_law_y"]
abbrev ps__law_turned : List Str := ["_law_kind", "_law_place_here"]
theorem sc__law_turned : FnScope N__law_turned ps__law_turned (defScope s__law_turned) := ⟨rfl, rfl, rfl, by decide +kernel, rfl, by decide +kernel, by decide +kernel⟩
abbrev s__law_kinds : Stmt := (topS 54)
abbrev N__law_kinds : List Str := []
abbrev ps__law_kinds : List Str := []
theorem sc__law_kinds : FnScope N__law_kinds ps__law_kinds (defScope s__law_kinds) := ⟨rfl, rfl, rfl, by decide +kernel, rfl, by decide +kernel, by decide +kernel⟩
abbrev s__law_carried : Stmt := (topS 55)
abbrev N__law_carried : List Str := ["_law_move_here", "_law_place_here", "_law_x", "_law_y"]
abbrev ps__law_carried : List Str := ["_law_move_here", "_law_place_here"]
theorem sc__law_carried : FnScope N__law_carried ps__law_carried (defScope s__law_carried) := ⟨rfl, rfl, rfl, by decide +kernel, rfl, by decide +kernel, by decide +kernel⟩
abbrev s__law_divisor : Stmt := (topS 56)
abbrev N__law_divisor : List Str := ["_law_one", "_law_other"]
abbrev ps__law_divisor : List Str := ["_law_one", "_law_other"]
theorem sc__law_divisor : FnScope N__law_divisor ps__law_divisor (defScope s__law_divisor) := ⟨rfl, rfl, rfl, by decide +kernel, rfl, by decide +kernel, by decide +kernel⟩
abbrev s__law_net_of : Stmt := (topS 57)
abbrev N__law_net_of : List Str := ["_law_shifts", "_law_wide", "_law_low_here", "_law_one", "_law_far", "_law_times"]
abbrev ps__law_net_of : List Str := ["_law_shifts"]
theorem sc__law_net_of : FnScope N__law_net_of ps__law_net_of (defScope s__law_net_of) := ⟨rfl, rfl, rfl, by decide +kernel, rfl, by decide +kernel, by decide +kernel⟩
abbrev s__law_keeps : Stmt := (topS 58)
abbrev N__law_keeps : List Str := ["_law_net_here", "_law_kind", "_law_rows", "_law_row"]
abbrev ps__law_keeps : List Str := ["_law_net_here", "_law_kind"]
theorem sc__law_keeps : FnScope N__law_keeps ps__law_keeps (defScope s__law_keeps) := ⟨rfl, rfl, rfl, by decide +kernel, rfl, by decide +kernel, by decide +kernel⟩
abbrev s__law_move : Stmt := (topS 59)
abbrev N__law_move : List Str := ["_law_tape_here", "_law_net_here", "_law_some", "_law_kind"]
abbrev ps__law_move : List Str := ["_law_tape_here", "_law_net_here"]
theorem sc__law_move : FnScope N__law_move ps__law_move (defScope s__law_move) := ⟨rfl, rfl, rfl, by decide +kernel, rfl, by decide +kernel, by decide +kernel⟩
abbrev s__law_tied : Stmt := (topS 60)
abbrev N__law_tied : List Str := ["_law_net_here", "_law_text", "_law_moves", "_law_spots_here", "_law_found", "_law_spot", "_law_line", "_law_here", "_law_move_here"]
abbrev ps__law_tied : List Str := ["_law_net_here", "_law_text", "_law_moves"]
theorem sc__law_tied : FnScope N__law_tied ps__law_tied (defScope s__law_tied) := ⟨rfl, rfl, rfl, by decide +kernel, rfl, by decide +kernel, by decide +kernel⟩
abbrev s__law_letters : Stmt := (topS 61)
abbrev N__law_letters : List Str := ["_law_tape_here", "_law_many", "_law_some", "_law_k"]
abbrev ps__law_letters : List Str := ["_law_tape_here", "_law_many"]
theorem sc__law_letters : FnScope N__law_letters ps__law_letters (defScope s__law_letters) := ⟨rfl, rfl, rfl, by decide +kernel, rfl, by decide +kernel, by decide +kernel⟩
abbrev s__law_square : Stmt := (topS 62)
abbrev N__law_square : List Str := ["_law_tape_here", "_law_most", "_law_side", "_law_some", "_law_net_here"]
abbrev ps__law_square : List Str := ["_law_tape_here", "_law_most"]
theorem sc__law_square : FnScope N__law_square ps__law_square (defScope s__law_square) := ⟨rfl, rfl, rfl, by decide +kernel, rfl, by decide +kernel, by decide +kernel⟩
abbrev s__law_copied : Stmt := (topS 63)
abbrev N__law_copied : List Str := ["_law_tape_here", "_law_net_here", "_law_text", "_law_most", "_law_wide", "_law_high", "_law_larger", "_law_spot"]
abbrev ps__law_copied : List Str := ["_law_tape_here", "_law_net_here", "_law_text", "_law_most"]
theorem sc__law_copied : FnScope N__law_copied ps__law_copied (defScope s__law_copied) := ⟨rfl, rfl, rfl, by decide +kernel, rfl, by decide +kernel, by decide +kernel⟩
abbrev s__law_woven : Stmt := (topS 64)
abbrev N__law_woven : List Str := ["_law_tape_here", "_law_most", "_law_way", "_law_net_here", "_law_moves", "_law_slope", "_law_line", "_law_size", "_law_k", "_law_x", "_law_y"]
abbrev ps__law_woven : List Str := ["_law_tape_here", "_law_most"]
theorem sc__law_woven : FnScope N__law_woven ps__law_woven (defScope s__law_woven) := ⟨rfl, rfl, rfl, by decide +kernel, rfl, by decide +kernel, by decide +kernel⟩
abbrev s__law_is_kept : Stmt := (topS 68)
abbrev N__law_is_kept : List Str := ["_law_net_here", "_law_text", "_law_move_here", "_law_spot"]
abbrev ps__law_is_kept : List Str := ["_law_net_here", "_law_text", "_law_move_here"]
theorem sc__law_is_kept : FnScope N__law_is_kept ps__law_is_kept (defScope s__law_is_kept) := ⟨rfl, rfl, rfl, by decide +kernel, rfl, by decide +kernel, by decide +kernel⟩
abbrev s__law_exact : Stmt := (topS 65)
abbrev N__law_exact : List Str := ["_law_net_here", "_law_text", "_law_kept", "_law_one", "_law_least", "_law_spot"]
abbrev ps__law_exact : List Str := ["_law_net_here", "_law_text"]
theorem sc__law_exact : FnScope N__law_exact ps__law_exact (defScope s__law_exact) := ⟨rfl, rfl, rfl, by decide +kernel, rfl, by decide +kernel, by decide +kernel⟩
abbrev s__law_made : Stmt := (topS 66)
abbrev N__law_made : List Str := ["_law_tape_here", "_law_net_here", "_law_text", "_law_rows", "_law_k"]
abbrev ps__law_made : List Str := ["_law_tape_here", "_law_net_here", "_law_text"]
theorem sc__law_made : FnScope N__law_made ps__law_made (defScope s__law_made) := ⟨rfl, rfl, rfl, by decide +kernel, rfl, by decide +kernel, by decide +kernel⟩
abbrev s__law_image : Stmt := (topS 67)
abbrev N__law_image : List Str := ["_law_net_here", "_law_text", "_law_move_here", "_law_larger", "_law_found", "_law_spot"]
abbrev ps__law_image : List Str := ["_law_net_here", "_law_text", "_law_move_here"]
theorem sc__law_image : FnScope N__law_image ps__law_image (defScope s__law_image) := ⟨rfl, rfl, rfl, by decide +kernel, rfl, by decide +kernel, by decide +kernel⟩
abbrev s__law_any_move : Stmt := (topS 69)
abbrev N__law_any_move : List Str := ["_law_tape_here", "_law_kind"]
abbrev ps__law_any_move : List Str := ["_law_tape_here"]
theorem sc__law_any_move : FnScope N__law_any_move ps__law_any_move (defScope s__law_any_move) := ⟨rfl, rfl, rfl, by decide +kernel, rfl, by decide +kernel, by decide +kernel⟩
abbrev s__law_image_right : Stmt := (topS 70)
abbrev N__law_image_right : List Str := ["_law_carpet", "_law_net_here", "_law_text", "_law_move_here", "_law_image_here", "_law_x", "_law_y", "_law_far", "_law_least", "_law_larger", "_law_letters_here"]
abbrev ps__law_image_right : List Str := ["_law_carpet", "_law_net_here", "_law_text", "_law_move_here"]
theorem sc__law_image_right : FnScope N__law_image_right ps__law_image_right (defScope s__law_image_right) := ⟨rfl, rfl, rfl, by decide +kernel, rfl, by decide +kernel, by decide +kernel⟩
abbrev s_law : Stmt := (topS 71)
abbrev N_law : List Str := ["_law_script", "_law_tape_here", "_law_turn", "_law_net_here", "_law_text", "_law_carpet", "_law_before", "_law_again", "_law_one", "_law_other", "_law_first", "_law_second", "_law_right"]
abbrev ps_law : List Str := ["_law_script"]
theorem sc_law : FnScope N_law ps_law (defScope s_law) := ⟨rfl, rfl, rfl, by decide +kernel, rfl, by decide +kernel, by decide +kernel⟩
abbrev tab_BACK : List (Str × D) := [("left", (.str "right")), ("right", (.str "left"))]
abbrev tab_MATRICES : List (Str × D) := [("none", (.tup [(.int (1)), (.int (0)), (.int (0)), (.int (1))])), ("left", (.tup [(.int (0)), (.int (-1)), (.int (1)), (.int (0))])), ("half", (.tup [(.int (-1)), (.int (0)), (.int (0)), (.int (-1))])), ("right", (.tup [(.int (0)), (.int (1)), (.int (-1)), (.int (0))])), ("flip", (.tup [(.int (1)), (.int (0)), (.int (0)), (.int (-1))])), ("mirror", (.tup [(.int (-1)), (.int (0)), (.int (0)), (.int (1))])), ("swap", (.tup [(.int (0)), (.int (1)), (.int (1)), (.int (0))])), ("cross", (.tup [(.int (0)), (.int (-1)), (.int (-1)), (.int (0))]))]
structure Tx (w : World) (K : Frg) (mg : Str → Option Value) : Prop where
  b_abs : mg "abs" = none
  b_all : mg "all" = none
  b_bool : mg "bool" = none
  b_enumerate : mg "enumerate" = none
  b_int : mg "int" = none
  b_isinstance : mg "isinstance" = none
  b_len : mg "len" = none
  b_list : mg "list" = none
  b_range : mg "range" = none
  b_repr : mg "repr" = none
  b_str : mg "str" = none
  b_tuple : mg "tuple" = none
  bn_Carpet_Motion_mul : Bin2 K "mul" (He.ga K "Carpet") (He.ga K "Motion") (He.ma K (He.ga K "Carpet") "__mul__") (He.ma K (He.ga K "Motion") "__mul__")
  bn_Net_Motion_mul : Bin2 K "mul" (He.ga K "Net") (He.ga K "Motion") (He.ma K (He.ga K "Net") "__mul__") (He.ma K (He.ga K "Motion") "__mul__")
  bn_Woven_Motion_mul : Bin2 K "mul" (He.ga K "Woven") (He.ga K "Motion") (He.ma K (He.ga K "Carpet") "__mul__") (He.ma K (He.ga K "Motion") "__mul__")
  bt_Carpet_tuple_add : BinT K "add" (He.ga K "Carpet") "tuple"
  bt_Carpet_tuple_sub : BinT K "sub" (He.ga K "Carpet") "tuple"
  bt_Woven_tuple_add : BinT K "add" (He.ga K "Woven") "tuple"
  bt_Woven_tuple_sub : BinT K "sub" (He.ga K "Woven") "tuple"
  cl_Carpet : Cls K (He.ga K "Carpet")
  cl_Motion : Cls K (He.ga K "Motion")
  cl_Net : Cls K (He.ga K "Net")
  cl_Woven : Cls K (He.ga K "Woven")
  df_Motion_UinitU : vOk K 4 (.tup [(.int (0)), (.int (0))]) (.ref (He.dflAt ("Motion", some "__init__") 0 K)) = true
  fi_Carpet_UgetitemU : PySem.W.fnIn K (He.ma K (He.ga K "Carpet") "__getitem__") = true
  g_BACK : mg "BACK" = some (.ref (He.ga K "BACK"))
  g_Carpet : mg "Carpet" = some (.ref (He.ga K "Carpet"))
  g_LETTERS : ∃ t, mg "LETTERS" = some (.str "abcdefghijklmnopqrstuvwxyz" t)
  g_MATRICES : mg "MATRICES" = some (.ref (He.ga K "MATRICES"))
  g_MOST_LETTERS : ∃ t, mg "MOST_LETTERS" = some (.int 1000 t)
  g_MOST_PLACES : ∃ t, mg "MOST_PLACES" = some (.int 2000 t)
  g_MOST_ROWS : ∃ t, mg "MOST_ROWS" = some (.int 100 t)
  g_Motion : mg "Motion" = some (.ref (He.ga K "Motion"))
  g_Net : mg "Net" = some (.ref (He.ga K "Net"))
  g_Woven : mg "Woven" = some (.ref (He.ga K "Woven"))
  g__law_any_move : mg "_law_any_move" = some (.ref (He.ga K "_law_any_move"))
  g__law_carried : mg "_law_carried" = some (.ref (He.ga K "_law_carried"))
  g__law_copied : mg "_law_copied" = some (.ref (He.ga K "_law_copied"))
  g__law_divisor : mg "_law_divisor" = some (.ref (He.ga K "_law_divisor"))
  g__law_draw : mg "_law_draw" = some (.ref (He.ga K "_law_draw"))
  g__law_exact : mg "_law_exact" = some (.ref (He.ga K "_law_exact"))
  g__law_great : mg "_law_great" = some (.ref (He.ga K "_law_great"))
  g__law_image : mg "_law_image" = some (.ref (He.ga K "_law_image"))
  g__law_image_right : mg "_law_image_right" = some (.ref (He.ga K "_law_image_right"))
  g__law_is_kept : mg "_law_is_kept" = some (.ref (He.ga K "_law_is_kept"))
  g__law_keeps : mg "_law_keeps" = some (.ref (He.ga K "_law_keeps"))
  g__law_kinds : mg "_law_kinds" = some (.ref (He.ga K "_law_kinds"))
  g__law_letters : mg "_law_letters" = some (.ref (He.ga K "_law_letters"))
  g__law_low : mg "_law_low" = some (.ref (He.ga K "_law_low"))
  g__law_made : mg "_law_made" = some (.ref (He.ga K "_law_made"))
  g__law_move : mg "_law_move" = some (.ref (He.ga K "_law_move"))
  g__law_net : mg "_law_net" = some (.ref (He.ga K "_law_net"))
  g__law_net_of : mg "_law_net_of" = some (.ref (He.ga K "_law_net_of"))
  g__law_place : mg "_law_place" = some (.ref (He.ga K "_law_place"))
  g__law_seen : mg "_law_seen" = some (.ref (He.ga K "_law_seen"))
  g__law_spots : mg "_law_spots" = some (.ref (He.ga K "_law_spots"))
  g__law_square : mg "_law_square" = some (.ref (He.ga K "_law_square"))
  g__law_tape : mg "_law_tape" = some (.ref (He.ga K "_law_tape"))
  g__law_tied : mg "_law_tied" = some (.ref (He.ga K "_law_tied"))
  g__law_turned : mg "_law_turned" = some (.ref (He.ga K "_law_turned"))
  g__law_woven : mg "_law_woven" = some (.ref (He.ga K "_law_woven"))
  g_are_numbers : mg "are_numbers" = some (.ref (He.ga K "are_numbers"))
  g_check_place : mg "check_place" = some (.ref (He.ga K "check_place"))
  g_check_rows : mg "check_rows" = some (.ref (He.ga K "check_rows"))
  g_checked_block : mg "checked_block" = some (.ref (He.ga K "checked_block"))
  g_colour_at : mg "colour_at" = some (.ref (He.ga K "colour_at"))
  g_divisors : mg "divisors" = some (.ref (He.ga K "divisors"))
  g_form_of : mg "form_of" = some (.ref (He.ga K "form_of"))
  g_greatest_divisor : mg "greatest_divisor" = some (.ref (He.ga K "greatest_divisor"))
  g_is_integer : mg "is_integer" = some (.ref (He.ga K "is_integer"))
  g_is_kept : mg "is_kept" = some (.ref (He.ga K "is_kept"))
  g_is_place : mg "is_place" = some (.ref (He.ga K "is_place"))
  g_is_row : mg "is_row" = some (.ref (He.ga K "is_row"))
  g_joined_kind : mg "joined_kind" = some (.ref (He.ga K "joined_kind"))
  g_kept_net : mg "kept_net" = some (.ref (He.ga K "kept_net"))
  g_law : mg "law" = some (.ref (He.ga K "law"))
  g_least_cell : mg "least_cell" = some (.ref (He.ga K "least_cell"))
  g_minus : mg "minus" = some (.ref (He.ga K "minus"))
  g_plus : mg "plus" = some (.ref (He.ga K "plus"))
  g_turned : mg "turned" = some (.ref (He.ga K "turned"))
  k__law_any_move : PySem.W.keepIn K (.ref (He.ga K "_law_any_move")) = true
  k__law_carried : PySem.W.keepIn K (.ref (He.ga K "_law_carried")) = true
  k__law_copied : PySem.W.keepIn K (.ref (He.ga K "_law_copied")) = true
  k__law_divisor : PySem.W.keepIn K (.ref (He.ga K "_law_divisor")) = true
  k__law_draw : PySem.W.keepIn K (.ref (He.ga K "_law_draw")) = true
  k__law_exact : PySem.W.keepIn K (.ref (He.ga K "_law_exact")) = true
  k__law_great : PySem.W.keepIn K (.ref (He.ga K "_law_great")) = true
  k__law_image : PySem.W.keepIn K (.ref (He.ga K "_law_image")) = true
  k__law_image_right : PySem.W.keepIn K (.ref (He.ga K "_law_image_right")) = true
  k__law_is_kept : PySem.W.keepIn K (.ref (He.ga K "_law_is_kept")) = true
  k__law_keeps : PySem.W.keepIn K (.ref (He.ga K "_law_keeps")) = true
  k__law_kinds : PySem.W.keepIn K (.ref (He.ga K "_law_kinds")) = true
  k__law_letters : PySem.W.keepIn K (.ref (He.ga K "_law_letters")) = true
  k__law_low : PySem.W.keepIn K (.ref (He.ga K "_law_low")) = true
  k__law_made : PySem.W.keepIn K (.ref (He.ga K "_law_made")) = true
  k__law_move : PySem.W.keepIn K (.ref (He.ga K "_law_move")) = true
  k__law_net : PySem.W.keepIn K (.ref (He.ga K "_law_net")) = true
  k__law_net_of : PySem.W.keepIn K (.ref (He.ga K "_law_net_of")) = true
  k__law_place : PySem.W.keepIn K (.ref (He.ga K "_law_place")) = true
  k__law_seen : PySem.W.keepIn K (.ref (He.ga K "_law_seen")) = true
  k__law_spots : PySem.W.keepIn K (.ref (He.ga K "_law_spots")) = true
  k__law_square : PySem.W.keepIn K (.ref (He.ga K "_law_square")) = true
  k__law_tape : PySem.W.keepIn K (.ref (He.ga K "_law_tape")) = true
  k__law_tied : PySem.W.keepIn K (.ref (He.ga K "_law_tied")) = true
  k__law_turned : PySem.W.keepIn K (.ref (He.ga K "_law_turned")) = true
  k__law_woven : PySem.W.keepIn K (.ref (He.ga K "_law_woven")) = true
  k_are_numbers : PySem.W.keepIn K (.ref (He.ga K "are_numbers")) = true
  k_check_place : PySem.W.keepIn K (.ref (He.ga K "check_place")) = true
  k_check_rows : PySem.W.keepIn K (.ref (He.ga K "check_rows")) = true
  k_checked_block : PySem.W.keepIn K (.ref (He.ga K "checked_block")) = true
  k_colour_at : PySem.W.keepIn K (.ref (He.ga K "colour_at")) = true
  k_divisors : PySem.W.keepIn K (.ref (He.ga K "divisors")) = true
  k_form_of : PySem.W.keepIn K (.ref (He.ga K "form_of")) = true
  k_greatest_divisor : PySem.W.keepIn K (.ref (He.ga K "greatest_divisor")) = true
  k_is_integer : PySem.W.keepIn K (.ref (He.ga K "is_integer")) = true
  k_is_kept : PySem.W.keepIn K (.ref (He.ga K "is_kept")) = true
  k_is_place : PySem.W.keepIn K (.ref (He.ga K "is_place")) = true
  k_is_row : PySem.W.keepIn K (.ref (He.ga K "is_row")) = true
  k_joined_kind : PySem.W.keepIn K (.ref (He.ga K "joined_kind")) = true
  k_kept_net : PySem.W.keepIn K (.ref (He.ga K "kept_net")) = true
  k_least_cell : PySem.W.keepIn K (.ref (He.ga K "least_cell")) = true
  k_minus : PySem.W.keepIn K (.ref (He.ga K "minus")) = true
  k_plus : PySem.W.keepIn K (.ref (He.ga K "plus")) = true
  k_turned : PySem.W.keepIn K (.ref (He.ga K "turned")) = true
  kf_Net_Carpet : PySem.W.kitOne K (.ref (He.ga K "Net")) (.ref (He.ga K "Carpet")) = some false
  kt_Woven_Carpet : PySem.W.kitOne K (.ref (He.ga K "Woven")) (.ref (He.ga K "Carpet")) = some true
  m_Carpet_UaddU : Meth K (He.ga K "Carpet") "__add__" (He.ma K (He.ga K "Carpet") "__add__")
  m_Carpet_UgetitemU : Meth K (He.ga K "Carpet") "__getitem__" (He.ma K (He.ga K "Carpet") "__getitem__")
  m_Carpet_UmulU : Meth K (He.ga K "Carpet") "__mul__" (He.ma K (He.ga K "Carpet") "__mul__")
  m_Carpet_UsubU : Meth K (He.ga K "Carpet") "__sub__" (He.ma K (He.ga K "Carpet") "__sub__")
  m_Carpet_is_kept_by : Meth K (He.ga K "Carpet") "is_kept_by" (He.ma K (He.ga K "Carpet") "is_kept_by")
  m_Carpet_seen : Meth K (He.ga K "Carpet") "seen" (He.ma K (He.ga K "Carpet") "seen")
  m_Motion_UinvertU : Meth K (He.ga K "Motion") "__invert__" (He.ma K (He.ga K "Motion") "__invert__")
  m_Motion_UmulU : Meth K (He.ga K "Motion") "__mul__" (He.ma K (He.ga K "Motion") "__mul__")
  m_Motion_image : Meth K (He.ga K "Motion") "image" (He.ma K (He.ga K "Motion") "image")
  m_Net_UeqU : Meth K (He.ga K "Net") "__eq__" (He.ma K (He.ga K "Net") "__eq__")
  m_Net_UmulU : Meth K (He.ga K "Net") "__mul__" (He.ma K (He.ga K "Net") "__mul__")
  m_Net_place_in_cell : Meth K (He.ga K "Net") "place_in_cell" (He.ma K (He.ga K "Net") "place_in_cell")
  m_Net_spanning : Meth K (He.ga K "Net") "spanning" (He.ma K (He.ga K "Net") "spanning")
  m_Net_spots : Meth K (He.ga K "Net") "spots" (He.ma K (He.ga K "Net") "spots")
  m_Woven_UaddU : Meth K (He.ga K "Woven") "__add__" (He.ma K (He.ga K "Carpet") "__add__")
  m_Woven_UgetitemU : Meth K (He.ga K "Woven") "__getitem__" (He.ma K (He.ga K "Carpet") "__getitem__")
  m_Woven_UmulU : Meth K (He.ga K "Woven") "__mul__" (He.ma K (He.ga K "Carpet") "__mul__")
  m_Woven_UsubU : Meth K (He.ga K "Woven") "__sub__" (He.ma K (He.ga K "Carpet") "__sub__")
  m_Woven_is_kept_by : Meth K (He.ga K "Woven") "is_kept_by" (He.ma K (He.ga K "Carpet") "is_kept_by")
  m_Woven_seen : Meth K (He.ga K "Woven") "seen" (He.ma K (He.ga K "Carpet") "seen")
  mk_Carpet : Mk K (He.ga K "Carpet") (He.ma K (He.ga K "Carpet") "__init__")
  mk_Motion : Mk K (He.ga K "Motion") (He.ma K (He.ga K "Motion") "__init__")
  mk_Net : Mk K (He.ga K "Net") (He.ma K (He.ga K "Net") "__init__")
  mk_Woven : Mk K (He.ga K "Woven") (He.ma K (He.ga K "Woven") "__init__")
  na_Carpet_own_net : NoAttr K (He.ga K "Carpet") "own_net"
  na_Carpet_own_text : NoAttr K (He.ga K "Carpet") "own_text"
  na_Motion_own_kind : NoAttr K (He.ga K "Motion") "own_kind"
  na_Motion_own_shift : NoAttr K (He.ga K "Motion") "own_shift"
  na_Net_own_numbers : NoAttr K (He.ga K "Net") "own_numbers"
  na_Woven_own_net : NoAttr K (He.ga K "Woven") "own_net"
  na_Woven_own_text : NoAttr K (He.ga K "Woven") "own_text"
  nf_Carpet_Net : PySem.W.notFirst K (He.ga K "Carpet") (.ref (He.ga K "Net")) = true
  nf_Woven_Net : PySem.W.notFirst K (He.ga K "Woven") (.ref (He.ga K "Net")) = true
  ow_Carpet : Own K (He.ga K "Carpet")
  ow_Motion : Own K (He.ga K "Motion")
  ow_Net : Own K (He.ga K "Net")
  ow_Woven : Own K (He.ga K "Woven")
  p_Carpet_net : PropOf K (He.ga K "Carpet") "net" (He.ma K (He.ga K "Carpet") "net") (He5.wf K (He.ga K "Carpet") "property" "net")
  p_Carpet_rows : PropOf K (He.ga K "Carpet") "rows" (He.ma K (He.ga K "Carpet") "rows") (He5.wf K (He.ga K "Carpet") "property" "rows")
  p_Carpet_text : PropOf K (He.ga K "Carpet") "text" (He.ma K (He.ga K "Carpet") "text") (He5.wf K (He.ga K "Carpet") "property" "text")
  p_Motion_kind : PropOf K (He.ga K "Motion") "kind" (He.ma K (He.ga K "Motion") "kind") (He5.wf K (He.ga K "Motion") "property" "kind")
  p_Net_numbers : PropOf K (He.ga K "Net") "numbers" (He.ma K (He.ga K "Net") "numbers") (He5.wf K (He.ga K "Net") "property" "numbers")
  p_Net_size : PropOf K (He.ga K "Net") "size" (He.ma K (He.ga K "Net") "size") (He5.wf K (He.ga K "Net") "property" "size")
  p_Woven_net : PropOf K (He.ga K "Woven") "net" (He.ma K (He.ga K "Carpet") "net") (He5.wf K (He.ga K "Carpet") "property" "net")
  p_Woven_rows : PropOf K (He.ga K "Woven") "rows" (He.ma K (He.ga K "Carpet") "rows") (He5.wf K (He.ga K "Carpet") "property" "rows")
  p_Woven_text : PropOf K (He.ga K "Woven") "text" (He.ma K (He.ga K "Carpet") "text") (He5.wf K (He.ga K "Carpet") "property" "text")
  sm_Carpet_on : SMet K (He.ga K "Carpet") "on" (He.ma K (He.ga K "Carpet") "on") (He5.wf K (He.ga K "Carpet") "staticmethod" "on")
  sm_Motion_by : SMet K (He.ga K "Motion") "by" (He.ma K (He.ga K "Motion") "by") (He5.wf K (He.ga K "Motion") "staticmethod" "by")
  sm_Net_of : SMet K (He.ga K "Net") "of" (He.ma K (He.ga K "Net") "of") (He5.wf K (He.ga K "Net") "staticmethod" "of")
  tb_BACK : KTab K w "BACK" tab_BACK
  tb_MATRICES : KTab K w "MATRICES" tab_MATRICES
  tw_Carpet_Woven : Two K (He.ga K "Carpet") (He.ga K "Woven") (He.ma K (He.ga K "Carpet") "__eq__")
  d__law_tape : DefAt K "_law_tape" "_law_tape" s__law_tape (He.ga K "_law_tape")
  d__law_draw : DefAt K "_law_draw" "_law_draw" s__law_draw (He.ga K "_law_draw")
  d_is_integer : DefAt K "is_integer" "is_integer" s_is_integer (He.ga K "is_integer")
  d_is_place : DefAt K "is_place" "is_place" s_is_place (He.ga K "is_place")
  d_check_place : DefAt K "check_place" "check_place" s_check_place (He.ga K "check_place")
  d_plus : DefAt K "plus" "plus" s_plus (He.ga K "plus")
  d_minus : DefAt K "minus" "minus" s_minus (He.ga K "minus")
  d_divisors : DefAt K "divisors" "divisors" s_divisors (He.ga K "divisors")
  d_are_numbers : DefAt K "are_numbers" "are_numbers" s_are_numbers (He.ga K "are_numbers")
  d_Net_UinitU : DefAt K "__init__" "Net.__init__" s_Net_UinitU (He.ma K (He.ga K "Net") "__init__")
  d_Net_numbers : DefAt K "numbers" "Net.numbers" s_Net_numbers (He5.wf K (He.ga K "Net") "property" "numbers")
  d_Net_UeqU : DefAt K "__eq__" "Net.__eq__" s_Net_UeqU (He.ma K (He.ga K "Net") "__eq__")
  d_Net_place_in_cell : DefAt K "place_in_cell" "Net.place_in_cell" s_Net_place_in_cell (He.ma K (He.ga K "Net") "place_in_cell")
  d_Net_spots : DefAt K "spots" "Net.spots" s_Net_spots (He.ma K (He.ga K "Net") "spots")
  d_colour_at : DefAt K "colour_at" "colour_at" s_colour_at (He.ga K "colour_at")
  d_is_kept : DefAt K "is_kept" "is_kept" s_is_kept (He.ga K "is_kept")
  d_kept_net : DefAt K "kept_net" "kept_net" s_kept_net (He.ga K "kept_net")
  d_least_cell : DefAt K "least_cell" "least_cell" s_least_cell (He.ga K "least_cell")
  d_is_row : DefAt K "is_row" "is_row" s_is_row (He.ga K "is_row")
  d_check_rows : DefAt K "check_rows" "check_rows" s_check_rows (He.ga K "check_rows")
  d_checked_block : DefAt K "checked_block" "checked_block" s_checked_block (He.ga K "checked_block")
  d_Carpet_UinitU : DefAtK K "__init__" "Carpet.__init__" s_Carpet_UinitU (He.ma K (He.ga K "Carpet") "__init__") "shift" (.int (0))
  d_Carpet_net : DefAt K "net" "Carpet.net" s_Carpet_net (He5.wf K (He.ga K "Carpet") "property" "net")
  d_Carpet_text : DefAt K "text" "Carpet.text" s_Carpet_text (He5.wf K (He.ga K "Carpet") "property" "text")
  d_Carpet_rows : DefAt K "rows" "Carpet.rows" s_Carpet_rows (He5.wf K (He.ga K "Carpet") "property" "rows")
  d_Carpet_colours : DefAt K "colours" "Carpet.colours" s_Carpet_colours (He5.wf K (He.ga K "Carpet") "property" "colours")
  d_Carpet_seen : DefAt K "seen" "Carpet.seen" s_Carpet_seen (He.ma K (He.ga K "Carpet") "seen")
  d_Carpet_UgetitemU : DefAt K "__getitem__" "Carpet.__getitem__" s_Carpet_UgetitemU (He.ma K (He.ga K "Carpet") "__getitem__")
  d_Carpet_UlenU : DefAt K "__len__" "Carpet.__len__" s_Carpet_UlenU (He.ma K (He.ga K "Carpet") "__len__")
  d_Carpet_UeqU : DefAt K "__eq__" "Carpet.__eq__" s_Carpet_UeqU (He.ma K (He.ga K "Carpet") "__eq__")
  d_Carpet_UreprU : DefAt K "__repr__" "Carpet.__repr__" s_Carpet_UreprU (He.ma K (He.ga K "Carpet") "__repr__")
  d_Net_size : DefAt K "size" "Net.size" s_Net_size (He5.wf K (He.ga K "Net") "property" "size")
  d_Net_UcontainsU : DefAt K "__contains__" "Net.__contains__" s_Net_UcontainsU (He.ma K (He.ga K "Net") "__contains__")
  d_Woven_UinitU : DefAt K "__init__" "Woven.__init__" s_Woven_UinitU (He.ma K (He.ga K "Woven") "__init__")
  d_Carpet_on : DefAt K "on" "Carpet.on" s_Carpet_on (He5.wf K (He.ga K "Carpet") "staticmethod" "on")
  d_turned : DefAt K "turned" "turned" s_turned (He.ga K "turned")
  d_joined_kind : DefAt K "joined_kind" "joined_kind" s_joined_kind (He.ga K "joined_kind")
  d_Motion_UinitU : DefAtD K "__init__" "Motion.__init__" s_Motion_UinitU (He.ma K (He.ga K "Motion") "__init__") (.tup [(.int (0)), (.int (0))])
  d_Motion_by : DefAt K "by" "Motion.by" s_Motion_by (He5.wf K (He.ga K "Motion") "staticmethod" "by")
  d_Motion_kind : DefAt K "kind" "Motion.kind" s_Motion_kind (He5.wf K (He.ga K "Motion") "property" "kind")
  d_Motion_image : DefAt K "image" "Motion.image" s_Motion_image (He.ma K (He.ga K "Motion") "image")
  d_Motion_UmulU : DefAt K "__mul__" "Motion.__mul__" s_Motion_UmulU (He.ma K (He.ga K "Motion") "__mul__")
  d_Motion_UinvertU : DefAt K "__invert__" "Motion.__invert__" s_Motion_UinvertU (He.ma K (He.ga K "Motion") "__invert__")
  d_greatest_divisor : DefAt K "greatest_divisor" "greatest_divisor" s_greatest_divisor (He.ga K "greatest_divisor")
  d_form_of : DefAt K "form_of" "form_of" s_form_of (He.ga K "form_of")
  d_Net_of : DefAt K "of" "Net.of" s_Net_of (He5.wf K (He.ga K "Net") "staticmethod" "of")
  d_Net_spanning : DefAt K "spanning" "Net.spanning" s_Net_spanning (He.ma K (He.ga K "Net") "spanning")
  d_Net_UmulU : DefAt K "__mul__" "Net.__mul__" s_Net_UmulU (He.ma K (He.ga K "Net") "__mul__")
  d_Carpet_UaddU : DefAt K "__add__" "Carpet.__add__" s_Carpet_UaddU (He.ma K (He.ga K "Carpet") "__add__")
  d_Carpet_UsubU : DefAt K "__sub__" "Carpet.__sub__" s_Carpet_UsubU (He.ma K (He.ga K "Carpet") "__sub__")
  d_Carpet_UmulU : DefAt K "__mul__" "Carpet.__mul__" s_Carpet_UmulU (He.ma K (He.ga K "Carpet") "__mul__")
  d_Carpet_is_kept_by : DefAt K "is_kept_by" "Carpet.is_kept_by" s_Carpet_is_kept_by (He.ma K (He.ga K "Carpet") "is_kept_by")
  d__law_great : DefAt K "_law_great" "_law_great" s__law_great (He.ga K "_law_great")
  d__law_place : DefAt K "_law_place" "_law_place" s__law_place (He.ga K "_law_place")
  d__law_low : DefAt K "_law_low" "_law_low" s__law_low (He.ga K "_law_low")
  d__law_spots : DefAt K "_law_spots" "_law_spots" s__law_spots (He.ga K "_law_spots")
  d__law_seen : DefAt K "_law_seen" "_law_seen" s__law_seen (He.ga K "_law_seen")
  d__law_net : DefAt K "_law_net" "_law_net" s__law_net (He.ga K "_law_net")
  d__law_turned : DefAt K "_law_turned" "_law_turned" s__law_turned (He.ga K "_law_turned")
  d__law_kinds : DefAt K "_law_kinds" "_law_kinds" s__law_kinds (He.ga K "_law_kinds")
  d__law_carried : DefAt K "_law_carried" "_law_carried" s__law_carried (He.ga K "_law_carried")
  d__law_divisor : DefAt K "_law_divisor" "_law_divisor" s__law_divisor (He.ga K "_law_divisor")
  d__law_net_of : DefAt K "_law_net_of" "_law_net_of" s__law_net_of (He.ga K "_law_net_of")
  d__law_keeps : DefAt K "_law_keeps" "_law_keeps" s__law_keeps (He.ga K "_law_keeps")
  d__law_move : DefAt K "_law_move" "_law_move" s__law_move (He.ga K "_law_move")
  d__law_tied : DefAt K "_law_tied" "_law_tied" s__law_tied (He.ga K "_law_tied")
  d__law_letters : DefAt K "_law_letters" "_law_letters" s__law_letters (He.ga K "_law_letters")
  d__law_square : DefAt K "_law_square" "_law_square" s__law_square (He.ga K "_law_square")
  d__law_copied : DefAt K "_law_copied" "_law_copied" s__law_copied (He.ga K "_law_copied")
  d__law_woven : DefAt K "_law_woven" "_law_woven" s__law_woven (He.ga K "_law_woven")
  d__law_is_kept : DefAt K "_law_is_kept" "_law_is_kept" s__law_is_kept (He.ga K "_law_is_kept")
  d__law_exact : DefAt K "_law_exact" "_law_exact" s__law_exact (He.ga K "_law_exact")
  d__law_made : DefAt K "_law_made" "_law_made" s__law_made (He.ga K "_law_made")
  d__law_image : DefAt K "_law_image" "_law_image" s__law_image (He.ga K "_law_image")
  d__law_any_move : DefAt K "_law_any_move" "_law_any_move" s__law_any_move (He.ga K "_law_any_move")
  d__law_image_right : DefAt K "_law_image_right" "_law_image_right" s__law_image_right (He.ga K "_law_image_right")
  d_law : DefAt K "law" "law" s_law (He.ga K "law")
end K13
namespace K13
open PySem PySem.Spec PyProof.Rows L2 Z Y
def fs : List (Frg → Bool) := [bFree "abs", bFree "all", bFree "bool", bFree "enumerate", bFree "int", bFree "isinstance", bFree "len", bFree "list", bFree "range", bFree "repr", bFree "str", bFree "tuple", bBin2 "Carpet" "Motion" "mul" "__mul__", bBin2 "Net" "Motion" "mul" "__mul__", bBin2 "Woven" "Motion" "mul" "__mul__", bBinT "Carpet" "tuple" "add", bBinT "Carpet" "tuple" "sub", bBinT "Woven" "tuple" "add", bBinT "Woven" "tuple" "sub", bCls "Carpet", bCls "Motion", bCls "Net", bCls "Woven", bDfl ("Motion", some "__init__") (.tup [(.int (0)), (.int (0))]), bFi "Carpet" "__getitem__", bGlo "BACK", bGlo "Carpet", bStr "LETTERS" "abcdefghijklmnopqrstuvwxyz", bGlo "MATRICES", bInt "MOST_LETTERS" 1000, bInt "MOST_PLACES" 2000, bInt "MOST_ROWS" 100, bGlo "Motion", bGlo "Net", bGlo "Woven", bGlo "_law_any_move", bGlo "_law_carried", bGlo "_law_copied", bGlo "_law_divisor", bGlo "_law_draw", bGlo "_law_exact", bGlo "_law_great", bGlo "_law_image", bGlo "_law_image_right", bGlo "_law_is_kept", bGlo "_law_keeps", bGlo "_law_kinds", bGlo "_law_letters", bGlo "_law_low", bGlo "_law_made", bGlo "_law_move", bGlo "_law_net", bGlo "_law_net_of", bGlo "_law_place", bGlo "_law_seen", bGlo "_law_spots", bGlo "_law_square", bGlo "_law_tape", bGlo "_law_tied", bGlo "_law_turned", bGlo "_law_woven", bGlo "are_numbers", bGlo "check_place", bGlo "check_rows", bGlo "checked_block", bGlo "colour_at", bGlo "divisors", bGlo "form_of", bGlo "greatest_divisor", bGlo "is_integer", bGlo "is_kept", bGlo "is_place", bGlo "is_row", bGlo "joined_kind", bGlo "kept_net", bGlo "law", bGlo "least_cell", bGlo "minus", bGlo "plus", bGlo "turned", bKeep "_law_any_move", bKeep "_law_carried", bKeep "_law_copied", bKeep "_law_divisor", bKeep "_law_draw", bKeep "_law_exact", bKeep "_law_great", bKeep "_law_image", bKeep "_law_image_right", bKeep "_law_is_kept", bKeep "_law_keeps", bKeep "_law_kinds", bKeep "_law_letters", bKeep "_law_low", bKeep "_law_made", bKeep "_law_move", bKeep "_law_net", bKeep "_law_net_of", bKeep "_law_place", bKeep "_law_seen", bKeep "_law_spots", bKeep "_law_square", bKeep "_law_tape", bKeep "_law_tied", bKeep "_law_turned", bKeep "_law_woven", bKeep "are_numbers", bKeep "check_place", bKeep "check_rows", bKeep "checked_block", bKeep "colour_at", bKeep "divisors", bKeep "form_of", bKeep "greatest_divisor", bKeep "is_integer", bKeep "is_kept", bKeep "is_place", bKeep "is_row", bKeep "joined_kind", bKeep "kept_net", bKeep "least_cell", bKeep "minus", bKeep "plus", bKeep "turned", bKt "Net" "Carpet" false, bKt "Woven" "Carpet" true, bMeth "Carpet" "__add__", bMeth "Carpet" "__getitem__", bMeth "Carpet" "__mul__", bMeth "Carpet" "__sub__", bMeth "Carpet" "is_kept_by", bMeth "Carpet" "seen", bMeth "Motion" "__invert__", bMeth "Motion" "__mul__", bMeth "Motion" "image", bMeth "Net" "__eq__", bMeth "Net" "__mul__", bMeth "Net" "place_in_cell", bMeth "Net" "spanning", bMeth "Net" "spots", bMeth2 "Woven" "Carpet" "__add__", bMeth2 "Woven" "Carpet" "__getitem__", bMeth2 "Woven" "Carpet" "__mul__", bMeth2 "Woven" "Carpet" "__sub__", bMeth2 "Woven" "Carpet" "is_kept_by", bMeth2 "Woven" "Carpet" "seen", bMk "Carpet", bMk "Motion", bMk "Net", bMk "Woven", bNo "Carpet" "own_net", bNo "Carpet" "own_text", bNo "Motion" "own_kind", bNo "Motion" "own_shift", bNo "Net" "own_numbers", bNo "Woven" "own_net", bNo "Woven" "own_text", bNf "Carpet" "Net", bNf "Woven" "Net", bOwn "Carpet", bOwn "Motion", bOwn "Net", bOwn "Woven", bProp "Carpet" "net", bProp "Carpet" "rows", bProp "Carpet" "text", bProp "Motion" "kind", bProp "Net" "numbers", bProp "Net" "size", bProp2 "Woven" "Carpet" "net", bProp2 "Woven" "Carpet" "rows", bProp2 "Woven" "Carpet" "text", bSM "Carpet" "on", bSM "Motion" "by", bSM "Net" "of", bTab "BACK" tab_BACK, bTab "MATRICES" tab_MATRICES, bTwo "Carpet" "Woven"]
def fn : List He5.DefA := [⟨fun K => (He.ga K "_law_tape"), "_law_tape", "_law_tape", defArgs s__law_tape, defBody s__law_tape, defScope s__law_tape, [], []⟩, ⟨fun K => (He.ga K "_law_draw"), "_law_draw", "_law_draw", defArgs s__law_draw, defBody s__law_draw, defScope s__law_draw, [], []⟩, ⟨fun K => (He.ga K "is_integer"), "is_integer", "is_integer", defArgs s_is_integer, defBody s_is_integer, defScope s_is_integer, [], []⟩, ⟨fun K => (He.ga K "is_place"), "is_place", "is_place", defArgs s_is_place, defBody s_is_place, defScope s_is_place, [], []⟩, ⟨fun K => (He.ga K "check_place"), "check_place", "check_place", defArgs s_check_place, defBody s_check_place, defScope s_check_place, [], []⟩, ⟨fun K => (He.ga K "plus"), "plus", "plus", defArgs s_plus, defBody s_plus, defScope s_plus, [], []⟩, ⟨fun K => (He.ga K "minus"), "minus", "minus", defArgs s_minus, defBody s_minus, defScope s_minus, [], []⟩, ⟨fun K => (He.ga K "divisors"), "divisors", "divisors", defArgs s_divisors, defBody s_divisors, defScope s_divisors, [], []⟩, ⟨fun K => (He.ga K "are_numbers"), "are_numbers", "are_numbers", defArgs s_are_numbers, defBody s_are_numbers, defScope s_are_numbers, [], []⟩, ⟨fun K => (He.ma K (He.ga K "Net") "__init__"), "__init__", "Net.__init__", defArgs s_Net_UinitU, defBody s_Net_UinitU, defScope s_Net_UinitU, [], []⟩, ⟨fun K => (He5.wf K (He.ga K "Net") "property" "numbers"), "numbers", "Net.numbers", defArgs s_Net_numbers, defBody s_Net_numbers, defScope s_Net_numbers, [], []⟩, ⟨fun K => (He.ma K (He.ga K "Net") "__eq__"), "__eq__", "Net.__eq__", defArgs s_Net_UeqU, defBody s_Net_UeqU, defScope s_Net_UeqU, [], []⟩, ⟨fun K => (He.ma K (He.ga K "Net") "place_in_cell"), "place_in_cell", "Net.place_in_cell", defArgs s_Net_place_in_cell, defBody s_Net_place_in_cell, defScope s_Net_place_in_cell, [], []⟩, ⟨fun K => (He.ma K (He.ga K "Net") "spots"), "spots", "Net.spots", defArgs s_Net_spots, defBody s_Net_spots, defScope s_Net_spots, [], []⟩, ⟨fun K => (He.ga K "colour_at"), "colour_at", "colour_at", defArgs s_colour_at, defBody s_colour_at, defScope s_colour_at, [], []⟩, ⟨fun K => (He.ga K "is_kept"), "is_kept", "is_kept", defArgs s_is_kept, defBody s_is_kept, defScope s_is_kept, [], []⟩, ⟨fun K => (He.ga K "kept_net"), "kept_net", "kept_net", defArgs s_kept_net, defBody s_kept_net, defScope s_kept_net, [], []⟩, ⟨fun K => (He.ga K "least_cell"), "least_cell", "least_cell", defArgs s_least_cell, defBody s_least_cell, defScope s_least_cell, [], []⟩, ⟨fun K => (He.ga K "is_row"), "is_row", "is_row", defArgs s_is_row, defBody s_is_row, defScope s_is_row, [], []⟩, ⟨fun K => (He.ga K "check_rows"), "check_rows", "check_rows", defArgs s_check_rows, defBody s_check_rows, defScope s_check_rows, [], []⟩, ⟨fun K => (He.ga K "checked_block"), "checked_block", "checked_block", defArgs s_checked_block, defBody s_checked_block, defScope s_checked_block, [], []⟩, ⟨fun K => (He.ma K (He.ga K "Carpet") "__init__"), "__init__", "Carpet.__init__", defArgs s_Carpet_UinitU, defBody s_Carpet_UinitU, defScope s_Carpet_UinitU, [], [("shift", .int (0))]⟩, ⟨fun K => (He5.wf K (He.ga K "Carpet") "property" "net"), "net", "Carpet.net", defArgs s_Carpet_net, defBody s_Carpet_net, defScope s_Carpet_net, [], []⟩, ⟨fun K => (He5.wf K (He.ga K "Carpet") "property" "text"), "text", "Carpet.text", defArgs s_Carpet_text, defBody s_Carpet_text, defScope s_Carpet_text, [], []⟩, ⟨fun K => (He5.wf K (He.ga K "Carpet") "property" "rows"), "rows", "Carpet.rows", defArgs s_Carpet_rows, defBody s_Carpet_rows, defScope s_Carpet_rows, [], []⟩, ⟨fun K => (He5.wf K (He.ga K "Carpet") "property" "colours"), "colours", "Carpet.colours", defArgs s_Carpet_colours, defBody s_Carpet_colours, defScope s_Carpet_colours, [], []⟩, ⟨fun K => (He.ma K (He.ga K "Carpet") "seen"), "seen", "Carpet.seen", defArgs s_Carpet_seen, defBody s_Carpet_seen, defScope s_Carpet_seen, [], []⟩, ⟨fun K => (He.ma K (He.ga K "Carpet") "__getitem__"), "__getitem__", "Carpet.__getitem__", defArgs s_Carpet_UgetitemU, defBody s_Carpet_UgetitemU, defScope s_Carpet_UgetitemU, [], []⟩, ⟨fun K => (He.ma K (He.ga K "Carpet") "__len__"), "__len__", "Carpet.__len__", defArgs s_Carpet_UlenU, defBody s_Carpet_UlenU, defScope s_Carpet_UlenU, [], []⟩, ⟨fun K => (He.ma K (He.ga K "Carpet") "__eq__"), "__eq__", "Carpet.__eq__", defArgs s_Carpet_UeqU, defBody s_Carpet_UeqU, defScope s_Carpet_UeqU, [], []⟩, ⟨fun K => (He.ma K (He.ga K "Carpet") "__repr__"), "__repr__", "Carpet.__repr__", defArgs s_Carpet_UreprU, defBody s_Carpet_UreprU, defScope s_Carpet_UreprU, [], []⟩, ⟨fun K => (He5.wf K (He.ga K "Net") "property" "size"), "size", "Net.size", defArgs s_Net_size, defBody s_Net_size, defScope s_Net_size, [], []⟩, ⟨fun K => (He.ma K (He.ga K "Net") "__contains__"), "__contains__", "Net.__contains__", defArgs s_Net_UcontainsU, defBody s_Net_UcontainsU, defScope s_Net_UcontainsU, [], []⟩, ⟨fun K => (He.ma K (He.ga K "Woven") "__init__"), "__init__", "Woven.__init__", defArgs s_Woven_UinitU, defBody s_Woven_UinitU, defScope s_Woven_UinitU, [], []⟩, ⟨fun K => (He5.wf K (He.ga K "Carpet") "staticmethod" "on"), "on", "Carpet.on", defArgs s_Carpet_on, defBody s_Carpet_on, defScope s_Carpet_on, [], []⟩, ⟨fun K => (He.ga K "turned"), "turned", "turned", defArgs s_turned, defBody s_turned, defScope s_turned, [], []⟩, ⟨fun K => (He.ga K "joined_kind"), "joined_kind", "joined_kind", defArgs s_joined_kind, defBody s_joined_kind, defScope s_joined_kind, [], []⟩, ⟨fun K => (He.ma K (He.ga K "Motion") "__init__"), "__init__", "Motion.__init__", defArgs s_Motion_UinitU, defBody s_Motion_UinitU, defScope s_Motion_UinitU, [.adr (He.dflAt ("Motion", some "__init__") 0)], []⟩, ⟨fun K => (He5.wf K (He.ga K "Motion") "staticmethod" "by"), "by", "Motion.by", defArgs s_Motion_by, defBody s_Motion_by, defScope s_Motion_by, [], []⟩, ⟨fun K => (He5.wf K (He.ga K "Motion") "property" "kind"), "kind", "Motion.kind", defArgs s_Motion_kind, defBody s_Motion_kind, defScope s_Motion_kind, [], []⟩, ⟨fun K => (He.ma K (He.ga K "Motion") "image"), "image", "Motion.image", defArgs s_Motion_image, defBody s_Motion_image, defScope s_Motion_image, [], []⟩, ⟨fun K => (He.ma K (He.ga K "Motion") "__mul__"), "__mul__", "Motion.__mul__", defArgs s_Motion_UmulU, defBody s_Motion_UmulU, defScope s_Motion_UmulU, [], []⟩, ⟨fun K => (He.ma K (He.ga K "Motion") "__invert__"), "__invert__", "Motion.__invert__", defArgs s_Motion_UinvertU, defBody s_Motion_UinvertU, defScope s_Motion_UinvertU, [], []⟩, ⟨fun K => (He.ga K "greatest_divisor"), "greatest_divisor", "greatest_divisor", defArgs s_greatest_divisor, defBody s_greatest_divisor, defScope s_greatest_divisor, [], []⟩, ⟨fun K => (He.ga K "form_of"), "form_of", "form_of", defArgs s_form_of, defBody s_form_of, defScope s_form_of, [], []⟩, ⟨fun K => (He5.wf K (He.ga K "Net") "staticmethod" "of"), "of", "Net.of", defArgs s_Net_of, defBody s_Net_of, defScope s_Net_of, [], []⟩, ⟨fun K => (He.ma K (He.ga K "Net") "spanning"), "spanning", "Net.spanning", defArgs s_Net_spanning, defBody s_Net_spanning, defScope s_Net_spanning, [], []⟩, ⟨fun K => (He.ma K (He.ga K "Net") "__mul__"), "__mul__", "Net.__mul__", defArgs s_Net_UmulU, defBody s_Net_UmulU, defScope s_Net_UmulU, [], []⟩, ⟨fun K => (He.ma K (He.ga K "Carpet") "__add__"), "__add__", "Carpet.__add__", defArgs s_Carpet_UaddU, defBody s_Carpet_UaddU, defScope s_Carpet_UaddU, [], []⟩, ⟨fun K => (He.ma K (He.ga K "Carpet") "__sub__"), "__sub__", "Carpet.__sub__", defArgs s_Carpet_UsubU, defBody s_Carpet_UsubU, defScope s_Carpet_UsubU, [], []⟩, ⟨fun K => (He.ma K (He.ga K "Carpet") "__mul__"), "__mul__", "Carpet.__mul__", defArgs s_Carpet_UmulU, defBody s_Carpet_UmulU, defScope s_Carpet_UmulU, [], []⟩, ⟨fun K => (He.ma K (He.ga K "Carpet") "is_kept_by"), "is_kept_by", "Carpet.is_kept_by", defArgs s_Carpet_is_kept_by, defBody s_Carpet_is_kept_by, defScope s_Carpet_is_kept_by, [], []⟩, ⟨fun K => (He.ga K "_law_great"), "_law_great", "_law_great", defArgs s__law_great, defBody s__law_great, defScope s__law_great, [], []⟩, ⟨fun K => (He.ga K "_law_place"), "_law_place", "_law_place", defArgs s__law_place, defBody s__law_place, defScope s__law_place, [], []⟩, ⟨fun K => (He.ga K "_law_low"), "_law_low", "_law_low", defArgs s__law_low, defBody s__law_low, defScope s__law_low, [], []⟩, ⟨fun K => (He.ga K "_law_spots"), "_law_spots", "_law_spots", defArgs s__law_spots, defBody s__law_spots, defScope s__law_spots, [], []⟩, ⟨fun K => (He.ga K "_law_seen"), "_law_seen", "_law_seen", defArgs s__law_seen, defBody s__law_seen, defScope s__law_seen, [], []⟩, ⟨fun K => (He.ga K "_law_net"), "_law_net", "_law_net", defArgs s__law_net, defBody s__law_net, defScope s__law_net, [], []⟩, ⟨fun K => (He.ga K "_law_turned"), "_law_turned", "_law_turned", defArgs s__law_turned, defBody s__law_turned, defScope s__law_turned, [], []⟩, ⟨fun K => (He.ga K "_law_kinds"), "_law_kinds", "_law_kinds", defArgs s__law_kinds, defBody s__law_kinds, defScope s__law_kinds, [], []⟩, ⟨fun K => (He.ga K "_law_carried"), "_law_carried", "_law_carried", defArgs s__law_carried, defBody s__law_carried, defScope s__law_carried, [], []⟩, ⟨fun K => (He.ga K "_law_divisor"), "_law_divisor", "_law_divisor", defArgs s__law_divisor, defBody s__law_divisor, defScope s__law_divisor, [], []⟩, ⟨fun K => (He.ga K "_law_net_of"), "_law_net_of", "_law_net_of", defArgs s__law_net_of, defBody s__law_net_of, defScope s__law_net_of, [], []⟩, ⟨fun K => (He.ga K "_law_keeps"), "_law_keeps", "_law_keeps", defArgs s__law_keeps, defBody s__law_keeps, defScope s__law_keeps, [], []⟩, ⟨fun K => (He.ga K "_law_move"), "_law_move", "_law_move", defArgs s__law_move, defBody s__law_move, defScope s__law_move, [], []⟩, ⟨fun K => (He.ga K "_law_tied"), "_law_tied", "_law_tied", defArgs s__law_tied, defBody s__law_tied, defScope s__law_tied, [], []⟩, ⟨fun K => (He.ga K "_law_letters"), "_law_letters", "_law_letters", defArgs s__law_letters, defBody s__law_letters, defScope s__law_letters, [], []⟩, ⟨fun K => (He.ga K "_law_square"), "_law_square", "_law_square", defArgs s__law_square, defBody s__law_square, defScope s__law_square, [], []⟩, ⟨fun K => (He.ga K "_law_copied"), "_law_copied", "_law_copied", defArgs s__law_copied, defBody s__law_copied, defScope s__law_copied, [], []⟩, ⟨fun K => (He.ga K "_law_woven"), "_law_woven", "_law_woven", defArgs s__law_woven, defBody s__law_woven, defScope s__law_woven, [], []⟩, ⟨fun K => (He.ga K "_law_is_kept"), "_law_is_kept", "_law_is_kept", defArgs s__law_is_kept, defBody s__law_is_kept, defScope s__law_is_kept, [], []⟩, ⟨fun K => (He.ga K "_law_exact"), "_law_exact", "_law_exact", defArgs s__law_exact, defBody s__law_exact, defScope s__law_exact, [], []⟩, ⟨fun K => (He.ga K "_law_made"), "_law_made", "_law_made", defArgs s__law_made, defBody s__law_made, defScope s__law_made, [], []⟩, ⟨fun K => (He.ga K "_law_image"), "_law_image", "_law_image", defArgs s__law_image, defBody s__law_image, defScope s__law_image, [], []⟩, ⟨fun K => (He.ga K "_law_any_move"), "_law_any_move", "_law_any_move", defArgs s__law_any_move, defBody s__law_any_move, defScope s__law_any_move, [], []⟩, ⟨fun K => (He.ga K "_law_image_right"), "_law_image_right", "_law_image_right", defArgs s__law_image_right, defBody s__law_image_right, defScope s__law_image_right, [], []⟩, ⟨fun K => (He.ga K "law"), "law", "law", defArgs s_law, defBody s_law, defScope s_law, [], []⟩]
def ask : Ask := ⟨fs, fn, [(fun K => He.ga K "BACK", ["left", "right"]), (fun K => He.ga K "MATRICES", ["none", "left", "half", "right", "flip", "mirror", "swap", "cross"])], []⟩
def fs0 : List (Frg → Bool) := [bFree "abs", bFree "all", bFree "bool", bFree "enumerate", bFree "int", bFree "isinstance", bFree "len", bFree "list", bFree "range", bFree "repr", bFree "str", bFree "tuple", bBin2 "Carpet" "Motion" "mul" "__mul__", bBin2 "Net" "Motion" "mul" "__mul__", bBin2 "Woven" "Motion" "mul" "__mul__", bBinT "Carpet" "tuple" "add", bBinT "Carpet" "tuple" "sub", bBinT "Woven" "tuple" "add", bBinT "Woven" "tuple" "sub", bCls "Carpet", bCls "Motion", bCls "Net", bCls "Woven", bDfl ("Motion", some "__init__") (.tup [(.int (0)), (.int (0))]), bFi "Carpet" "__getitem__", bGlo "BACK", bGlo "Carpet", bStr "LETTERS" "abcdefghijklmnopqrstuvwxyz", bGlo "MATRICES", bInt "MOST_LETTERS" 1000, bInt "MOST_PLACES" 2000, bInt "MOST_ROWS" 100, bGlo "Motion", bGlo "Net", bGlo "Woven", bGlo "_law_any_move", bGlo "_law_carried", bGlo "_law_copied", bGlo "_law_divisor", bGlo "_law_draw", bGlo "_law_exact", bGlo "_law_great", bGlo "_law_image", bGlo "_law_image_right", bGlo "_law_is_kept", bGlo "_law_keeps", bGlo "_law_kinds", bGlo "_law_letters", bGlo "_law_low", bGlo "_law_made", bGlo "_law_move", bGlo "_law_net", bGlo "_law_net_of", bGlo "_law_place", bGlo "_law_seen", bGlo "_law_spots", bGlo "_law_square", bGlo "_law_tape", bGlo "_law_tied", bGlo "_law_turned", bGlo "_law_woven", bGlo "are_numbers", bGlo "check_place", bGlo "check_rows", bGlo "checked_block", bGlo "colour_at", bGlo "divisors", bGlo "form_of", bGlo "greatest_divisor", bGlo "is_integer", bGlo "is_kept", bGlo "is_place", bGlo "is_row", bGlo "joined_kind", bGlo "kept_net", bGlo "law", bGlo "least_cell", bGlo "minus", bGlo "plus", bGlo "turned", bKeep "_law_any_move", bKeep "_law_carried", bKeep "_law_copied", bKeep "_law_divisor", bKeep "_law_draw", bKeep "_law_exact", bKeep "_law_great", bKeep "_law_image", bKeep "_law_image_right"]
def fn0 : List He5.DefA := [⟨fun K => (He.ga K "_law_tape"), "_law_tape", "_law_tape", defArgs s__law_tape, defBody s__law_tape, defScope s__law_tape, [], []⟩, ⟨fun K => (He.ga K "_law_draw"), "_law_draw", "_law_draw", defArgs s__law_draw, defBody s__law_draw, defScope s__law_draw, [], []⟩, ⟨fun K => (He.ga K "is_integer"), "is_integer", "is_integer", defArgs s_is_integer, defBody s_is_integer, defScope s_is_integer, [], []⟩, ⟨fun K => (He.ga K "is_place"), "is_place", "is_place", defArgs s_is_place, defBody s_is_place, defScope s_is_place, [], []⟩, ⟨fun K => (He.ga K "check_place"), "check_place", "check_place", defArgs s_check_place, defBody s_check_place, defScope s_check_place, [], []⟩, ⟨fun K => (He.ga K "plus"), "plus", "plus", defArgs s_plus, defBody s_plus, defScope s_plus, [], []⟩, ⟨fun K => (He.ga K "minus"), "minus", "minus", defArgs s_minus, defBody s_minus, defScope s_minus, [], []⟩, ⟨fun K => (He.ga K "divisors"), "divisors", "divisors", defArgs s_divisors, defBody s_divisors, defScope s_divisors, [], []⟩, ⟨fun K => (He.ga K "are_numbers"), "are_numbers", "are_numbers", defArgs s_are_numbers, defBody s_are_numbers, defScope s_are_numbers, [], []⟩, ⟨fun K => (He.ma K (He.ga K "Net") "__init__"), "__init__", "Net.__init__", defArgs s_Net_UinitU, defBody s_Net_UinitU, defScope s_Net_UinitU, [], []⟩, ⟨fun K => (He5.wf K (He.ga K "Net") "property" "numbers"), "numbers", "Net.numbers", defArgs s_Net_numbers, defBody s_Net_numbers, defScope s_Net_numbers, [], []⟩, ⟨fun K => (He.ma K (He.ga K "Net") "__eq__"), "__eq__", "Net.__eq__", defArgs s_Net_UeqU, defBody s_Net_UeqU, defScope s_Net_UeqU, [], []⟩, ⟨fun K => (He.ma K (He.ga K "Net") "place_in_cell"), "place_in_cell", "Net.place_in_cell", defArgs s_Net_place_in_cell, defBody s_Net_place_in_cell, defScope s_Net_place_in_cell, [], []⟩, ⟨fun K => (He.ma K (He.ga K "Net") "spots"), "spots", "Net.spots", defArgs s_Net_spots, defBody s_Net_spots, defScope s_Net_spots, [], []⟩, ⟨fun K => (He.ga K "colour_at"), "colour_at", "colour_at", defArgs s_colour_at, defBody s_colour_at, defScope s_colour_at, [], []⟩, ⟨fun K => (He.ga K "is_kept"), "is_kept", "is_kept", defArgs s_is_kept, defBody s_is_kept, defScope s_is_kept, [], []⟩, ⟨fun K => (He.ga K "kept_net"), "kept_net", "kept_net", defArgs s_kept_net, defBody s_kept_net, defScope s_kept_net, [], []⟩, ⟨fun K => (He.ga K "least_cell"), "least_cell", "least_cell", defArgs s_least_cell, defBody s_least_cell, defScope s_least_cell, [], []⟩, ⟨fun K => (He.ga K "is_row"), "is_row", "is_row", defArgs s_is_row, defBody s_is_row, defScope s_is_row, [], []⟩, ⟨fun K => (He.ga K "check_rows"), "check_rows", "check_rows", defArgs s_check_rows, defBody s_check_rows, defScope s_check_rows, [], []⟩, ⟨fun K => (He.ga K "checked_block"), "checked_block", "checked_block", defArgs s_checked_block, defBody s_checked_block, defScope s_checked_block, [], []⟩, ⟨fun K => (He.ma K (He.ga K "Carpet") "__init__"), "__init__", "Carpet.__init__", defArgs s_Carpet_UinitU, defBody s_Carpet_UinitU, defScope s_Carpet_UinitU, [], [("shift", .int (0))]⟩, ⟨fun K => (He5.wf K (He.ga K "Carpet") "property" "net"), "net", "Carpet.net", defArgs s_Carpet_net, defBody s_Carpet_net, defScope s_Carpet_net, [], []⟩, ⟨fun K => (He5.wf K (He.ga K "Carpet") "property" "text"), "text", "Carpet.text", defArgs s_Carpet_text, defBody s_Carpet_text, defScope s_Carpet_text, [], []⟩, ⟨fun K => (He5.wf K (He.ga K "Carpet") "property" "rows"), "rows", "Carpet.rows", defArgs s_Carpet_rows, defBody s_Carpet_rows, defScope s_Carpet_rows, [], []⟩, ⟨fun K => (He5.wf K (He.ga K "Carpet") "property" "colours"), "colours", "Carpet.colours", defArgs s_Carpet_colours, defBody s_Carpet_colours, defScope s_Carpet_colours, [], []⟩, ⟨fun K => (He.ma K (He.ga K "Carpet") "seen"), "seen", "Carpet.seen", defArgs s_Carpet_seen, defBody s_Carpet_seen, defScope s_Carpet_seen, [], []⟩, ⟨fun K => (He.ma K (He.ga K "Carpet") "__getitem__"), "__getitem__", "Carpet.__getitem__", defArgs s_Carpet_UgetitemU, defBody s_Carpet_UgetitemU, defScope s_Carpet_UgetitemU, [], []⟩, ⟨fun K => (He.ma K (He.ga K "Carpet") "__len__"), "__len__", "Carpet.__len__", defArgs s_Carpet_UlenU, defBody s_Carpet_UlenU, defScope s_Carpet_UlenU, [], []⟩, ⟨fun K => (He.ma K (He.ga K "Carpet") "__eq__"), "__eq__", "Carpet.__eq__", defArgs s_Carpet_UeqU, defBody s_Carpet_UeqU, defScope s_Carpet_UeqU, [], []⟩, ⟨fun K => (He.ma K (He.ga K "Carpet") "__repr__"), "__repr__", "Carpet.__repr__", defArgs s_Carpet_UreprU, defBody s_Carpet_UreprU, defScope s_Carpet_UreprU, [], []⟩, ⟨fun K => (He5.wf K (He.ga K "Net") "property" "size"), "size", "Net.size", defArgs s_Net_size, defBody s_Net_size, defScope s_Net_size, [], []⟩, ⟨fun K => (He.ma K (He.ga K "Net") "__contains__"), "__contains__", "Net.__contains__", defArgs s_Net_UcontainsU, defBody s_Net_UcontainsU, defScope s_Net_UcontainsU, [], []⟩, ⟨fun K => (He.ma K (He.ga K "Woven") "__init__"), "__init__", "Woven.__init__", defArgs s_Woven_UinitU, defBody s_Woven_UinitU, defScope s_Woven_UinitU, [], []⟩, ⟨fun K => (He5.wf K (He.ga K "Carpet") "staticmethod" "on"), "on", "Carpet.on", defArgs s_Carpet_on, defBody s_Carpet_on, defScope s_Carpet_on, [], []⟩, ⟨fun K => (He.ga K "turned"), "turned", "turned", defArgs s_turned, defBody s_turned, defScope s_turned, [], []⟩, ⟨fun K => (He.ga K "joined_kind"), "joined_kind", "joined_kind", defArgs s_joined_kind, defBody s_joined_kind, defScope s_joined_kind, [], []⟩, ⟨fun K => (He.ma K (He.ga K "Motion") "__init__"), "__init__", "Motion.__init__", defArgs s_Motion_UinitU, defBody s_Motion_UinitU, defScope s_Motion_UinitU, [.adr (He.dflAt ("Motion", some "__init__") 0)], []⟩]
def fs1 : List (Frg → Bool) := [bKeep "_law_is_kept", bKeep "_law_keeps", bKeep "_law_kinds", bKeep "_law_letters", bKeep "_law_low", bKeep "_law_made", bKeep "_law_move", bKeep "_law_net", bKeep "_law_net_of", bKeep "_law_place", bKeep "_law_seen", bKeep "_law_spots", bKeep "_law_square", bKeep "_law_tape", bKeep "_law_tied", bKeep "_law_turned", bKeep "_law_woven", bKeep "are_numbers", bKeep "check_place", bKeep "check_rows", bKeep "checked_block", bKeep "colour_at", bKeep "divisors", bKeep "form_of", bKeep "greatest_divisor", bKeep "is_integer", bKeep "is_kept", bKeep "is_place", bKeep "is_row", bKeep "joined_kind", bKeep "kept_net", bKeep "least_cell", bKeep "minus", bKeep "plus", bKeep "turned", bKt "Net" "Carpet" false, bKt "Woven" "Carpet" true, bMeth "Carpet" "__add__", bMeth "Carpet" "__getitem__", bMeth "Carpet" "__mul__", bMeth "Carpet" "__sub__", bMeth "Carpet" "is_kept_by", bMeth "Carpet" "seen", bMeth "Motion" "__invert__", bMeth "Motion" "__mul__", bMeth "Motion" "image", bMeth "Net" "__eq__", bMeth "Net" "__mul__", bMeth "Net" "place_in_cell", bMeth "Net" "spanning", bMeth "Net" "spots", bMeth2 "Woven" "Carpet" "__add__", bMeth2 "Woven" "Carpet" "__getitem__", bMeth2 "Woven" "Carpet" "__mul__", bMeth2 "Woven" "Carpet" "__sub__", bMeth2 "Woven" "Carpet" "is_kept_by", bMeth2 "Woven" "Carpet" "seen", bMk "Carpet", bMk "Motion", bMk "Net", bMk "Woven", bNo "Carpet" "own_net", bNo "Carpet" "own_text", bNo "Motion" "own_kind", bNo "Motion" "own_shift", bNo "Net" "own_numbers", bNo "Woven" "own_net", bNo "Woven" "own_text", bNf "Carpet" "Net", bNf "Woven" "Net", bOwn "Carpet", bOwn "Motion", bOwn "Net", bOwn "Woven", bProp "Carpet" "net", bProp "Carpet" "rows", bProp "Carpet" "text", bProp "Motion" "kind", bProp "Net" "numbers", bProp "Net" "size", bProp2 "Woven" "Carpet" "net", bProp2 "Woven" "Carpet" "rows", bProp2 "Woven" "Carpet" "text", bSM "Carpet" "on", bSM "Motion" "by", bSM "Net" "of", bTab "BACK" tab_BACK, bTab "MATRICES" tab_MATRICES, bTwo "Carpet" "Woven"]
def fn1 : List He5.DefA := [⟨fun K => (He5.wf K (He.ga K "Motion") "staticmethod" "by"), "by", "Motion.by", defArgs s_Motion_by, defBody s_Motion_by, defScope s_Motion_by, [], []⟩, ⟨fun K => (He5.wf K (He.ga K "Motion") "property" "kind"), "kind", "Motion.kind", defArgs s_Motion_kind, defBody s_Motion_kind, defScope s_Motion_kind, [], []⟩, ⟨fun K => (He.ma K (He.ga K "Motion") "image"), "image", "Motion.image", defArgs s_Motion_image, defBody s_Motion_image, defScope s_Motion_image, [], []⟩, ⟨fun K => (He.ma K (He.ga K "Motion") "__mul__"), "__mul__", "Motion.__mul__", defArgs s_Motion_UmulU, defBody s_Motion_UmulU, defScope s_Motion_UmulU, [], []⟩, ⟨fun K => (He.ma K (He.ga K "Motion") "__invert__"), "__invert__", "Motion.__invert__", defArgs s_Motion_UinvertU, defBody s_Motion_UinvertU, defScope s_Motion_UinvertU, [], []⟩, ⟨fun K => (He.ga K "greatest_divisor"), "greatest_divisor", "greatest_divisor", defArgs s_greatest_divisor, defBody s_greatest_divisor, defScope s_greatest_divisor, [], []⟩, ⟨fun K => (He.ga K "form_of"), "form_of", "form_of", defArgs s_form_of, defBody s_form_of, defScope s_form_of, [], []⟩, ⟨fun K => (He5.wf K (He.ga K "Net") "staticmethod" "of"), "of", "Net.of", defArgs s_Net_of, defBody s_Net_of, defScope s_Net_of, [], []⟩, ⟨fun K => (He.ma K (He.ga K "Net") "spanning"), "spanning", "Net.spanning", defArgs s_Net_spanning, defBody s_Net_spanning, defScope s_Net_spanning, [], []⟩, ⟨fun K => (He.ma K (He.ga K "Net") "__mul__"), "__mul__", "Net.__mul__", defArgs s_Net_UmulU, defBody s_Net_UmulU, defScope s_Net_UmulU, [], []⟩, ⟨fun K => (He.ma K (He.ga K "Carpet") "__add__"), "__add__", "Carpet.__add__", defArgs s_Carpet_UaddU, defBody s_Carpet_UaddU, defScope s_Carpet_UaddU, [], []⟩, ⟨fun K => (He.ma K (He.ga K "Carpet") "__sub__"), "__sub__", "Carpet.__sub__", defArgs s_Carpet_UsubU, defBody s_Carpet_UsubU, defScope s_Carpet_UsubU, [], []⟩, ⟨fun K => (He.ma K (He.ga K "Carpet") "__mul__"), "__mul__", "Carpet.__mul__", defArgs s_Carpet_UmulU, defBody s_Carpet_UmulU, defScope s_Carpet_UmulU, [], []⟩, ⟨fun K => (He.ma K (He.ga K "Carpet") "is_kept_by"), "is_kept_by", "Carpet.is_kept_by", defArgs s_Carpet_is_kept_by, defBody s_Carpet_is_kept_by, defScope s_Carpet_is_kept_by, [], []⟩, ⟨fun K => (He.ga K "_law_great"), "_law_great", "_law_great", defArgs s__law_great, defBody s__law_great, defScope s__law_great, [], []⟩, ⟨fun K => (He.ga K "_law_place"), "_law_place", "_law_place", defArgs s__law_place, defBody s__law_place, defScope s__law_place, [], []⟩, ⟨fun K => (He.ga K "_law_low"), "_law_low", "_law_low", defArgs s__law_low, defBody s__law_low, defScope s__law_low, [], []⟩, ⟨fun K => (He.ga K "_law_spots"), "_law_spots", "_law_spots", defArgs s__law_spots, defBody s__law_spots, defScope s__law_spots, [], []⟩, ⟨fun K => (He.ga K "_law_seen"), "_law_seen", "_law_seen", defArgs s__law_seen, defBody s__law_seen, defScope s__law_seen, [], []⟩, ⟨fun K => (He.ga K "_law_net"), "_law_net", "_law_net", defArgs s__law_net, defBody s__law_net, defScope s__law_net, [], []⟩, ⟨fun K => (He.ga K "_law_turned"), "_law_turned", "_law_turned", defArgs s__law_turned, defBody s__law_turned, defScope s__law_turned, [], []⟩, ⟨fun K => (He.ga K "_law_kinds"), "_law_kinds", "_law_kinds", defArgs s__law_kinds, defBody s__law_kinds, defScope s__law_kinds, [], []⟩, ⟨fun K => (He.ga K "_law_carried"), "_law_carried", "_law_carried", defArgs s__law_carried, defBody s__law_carried, defScope s__law_carried, [], []⟩, ⟨fun K => (He.ga K "_law_divisor"), "_law_divisor", "_law_divisor", defArgs s__law_divisor, defBody s__law_divisor, defScope s__law_divisor, [], []⟩, ⟨fun K => (He.ga K "_law_net_of"), "_law_net_of", "_law_net_of", defArgs s__law_net_of, defBody s__law_net_of, defScope s__law_net_of, [], []⟩, ⟨fun K => (He.ga K "_law_keeps"), "_law_keeps", "_law_keeps", defArgs s__law_keeps, defBody s__law_keeps, defScope s__law_keeps, [], []⟩, ⟨fun K => (He.ga K "_law_move"), "_law_move", "_law_move", defArgs s__law_move, defBody s__law_move, defScope s__law_move, [], []⟩, ⟨fun K => (He.ga K "_law_tied"), "_law_tied", "_law_tied", defArgs s__law_tied, defBody s__law_tied, defScope s__law_tied, [], []⟩, ⟨fun K => (He.ga K "_law_letters"), "_law_letters", "_law_letters", defArgs s__law_letters, defBody s__law_letters, defScope s__law_letters, [], []⟩, ⟨fun K => (He.ga K "_law_square"), "_law_square", "_law_square", defArgs s__law_square, defBody s__law_square, defScope s__law_square, [], []⟩, ⟨fun K => (He.ga K "_law_copied"), "_law_copied", "_law_copied", defArgs s__law_copied, defBody s__law_copied, defScope s__law_copied, [], []⟩, ⟨fun K => (He.ga K "_law_woven"), "_law_woven", "_law_woven", defArgs s__law_woven, defBody s__law_woven, defScope s__law_woven, [], []⟩, ⟨fun K => (He.ga K "_law_is_kept"), "_law_is_kept", "_law_is_kept", defArgs s__law_is_kept, defBody s__law_is_kept, defScope s__law_is_kept, [], []⟩, ⟨fun K => (He.ga K "_law_exact"), "_law_exact", "_law_exact", defArgs s__law_exact, defBody s__law_exact, defScope s__law_exact, [], []⟩, ⟨fun K => (He.ga K "_law_made"), "_law_made", "_law_made", defArgs s__law_made, defBody s__law_made, defScope s__law_made, [], []⟩, ⟨fun K => (He.ga K "_law_image"), "_law_image", "_law_image", defArgs s__law_image, defBody s__law_image, defScope s__law_image, [], []⟩, ⟨fun K => (He.ga K "_law_any_move"), "_law_any_move", "_law_any_move", defArgs s__law_any_move, defBody s__law_any_move, defScope s__law_any_move, [], []⟩, ⟨fun K => (He.ga K "_law_image_right"), "_law_image_right", "_law_image_right", defArgs s__law_image_right, defBody s__law_image_right, defScope s__law_image_right, [], []⟩, ⟨fun K => (He.ga K "law"), "law", "law", defArgs s_law, defBody s_law, defScope s_law, [], []⟩]
def ts : List He.Tab := [(fun K => He.ga K "BACK", ["left", "right"]), (fun K => He.ga K "MATRICES", ["none", "left", "half", "right", "flip", "mirror", "swap", "cross"])]
abbrev askC : Ask := ⟨(fs0 ++ fs1), (fn0 ++ fn1), ts, []⟩
theorem askC_eq : askC = ask := by kernel_rfl
theorem tx_of {w : World} {h : Heap} {K : Frg} {mg : Str → Option Value} (X : K.In h) (G : h.Ns mainGlobals mg) (c : Says ask w h K) : Tx w K mg where
  b_abs := free_of X G (c.at 0)
  b_all := free_of X G (c.at 1)
  b_bool := free_of X G (c.at 2)
  b_enumerate := free_of X G (c.at 3)
  b_int := free_of X G (c.at 4)
  b_isinstance := free_of X G (c.at 5)
  b_len := free_of X G (c.at 6)
  b_list := free_of X G (c.at 7)
  b_range := free_of X G (c.at 8)
  b_repr := free_of X G (c.at 9)
  b_str := free_of X G (c.at 10)
  b_tuple := free_of X G (c.at 11)
  bn_Carpet_Motion_mul := bin2_of (c.at 12)
  bn_Net_Motion_mul := bin2_of (c.at 13)
  bn_Woven_Motion_mul := bin2_of (c.at 14)
  bt_Carpet_tuple_add := binT_of (c.at 15)
  bt_Carpet_tuple_sub := binT_of (c.at 16)
  bt_Woven_tuple_add := binT_of (c.at 17)
  bt_Woven_tuple_sub := binT_of (c.at 18)
  cl_Carpet := cls_of (c.at 19)
  cl_Motion := cls_of (c.at 20)
  cl_Net := cls_of (c.at 21)
  cl_Woven := cls_of (c.at 22)
  df_Motion_UinitU := id (c.at 23)
  fi_Carpet_UgetitemU := fi_of (c.at 24)
  g_BACK := glo_of X G (c.at 25)
  g_Carpet := glo_of X G (c.at 26)
  g_LETTERS := str_of X G (c.at 27)
  g_MATRICES := glo_of X G (c.at 28)
  g_MOST_LETTERS := int_of X G (c.at 29)
  g_MOST_PLACES := int_of X G (c.at 30)
  g_MOST_ROWS := int_of X G (c.at 31)
  g_Motion := glo_of X G (c.at 32)
  g_Net := glo_of X G (c.at 33)
  g_Woven := glo_of X G (c.at 34)
  g__law_any_move := glo_of X G (c.at 35)
  g__law_carried := glo_of X G (c.at 36)
  g__law_copied := glo_of X G (c.at 37)
  g__law_divisor := glo_of X G (c.at 38)
  g__law_draw := glo_of X G (c.at 39)
  g__law_exact := glo_of X G (c.at 40)
  g__law_great := glo_of X G (c.at 41)
  g__law_image := glo_of X G (c.at 42)
  g__law_image_right := glo_of X G (c.at 43)
  g__law_is_kept := glo_of X G (c.at 44)
  g__law_keeps := glo_of X G (c.at 45)
  g__law_kinds := glo_of X G (c.at 46)
  g__law_letters := glo_of X G (c.at 47)
  g__law_low := glo_of X G (c.at 48)
  g__law_made := glo_of X G (c.at 49)
  g__law_move := glo_of X G (c.at 50)
  g__law_net := glo_of X G (c.at 51)
  g__law_net_of := glo_of X G (c.at 52)
  g__law_place := glo_of X G (c.at 53)
  g__law_seen := glo_of X G (c.at 54)
  g__law_spots := glo_of X G (c.at 55)
  g__law_square := glo_of X G (c.at 56)
  g__law_tape := glo_of X G (c.at 57)
  g__law_tied := glo_of X G (c.at 58)
  g__law_turned := glo_of X G (c.at 59)
  g__law_woven := glo_of X G (c.at 60)
  g_are_numbers := glo_of X G (c.at 61)
  g_check_place := glo_of X G (c.at 62)
  g_check_rows := glo_of X G (c.at 63)
  g_checked_block := glo_of X G (c.at 64)
  g_colour_at := glo_of X G (c.at 65)
  g_divisors := glo_of X G (c.at 66)
  g_form_of := glo_of X G (c.at 67)
  g_greatest_divisor := glo_of X G (c.at 68)
  g_is_integer := glo_of X G (c.at 69)
  g_is_kept := glo_of X G (c.at 70)
  g_is_place := glo_of X G (c.at 71)
  g_is_row := glo_of X G (c.at 72)
  g_joined_kind := glo_of X G (c.at 73)
  g_kept_net := glo_of X G (c.at 74)
  g_law := glo_of X G (c.at 75)
  g_least_cell := glo_of X G (c.at 76)
  g_minus := glo_of X G (c.at 77)
  g_plus := glo_of X G (c.at 78)
  g_turned := glo_of X G (c.at 79)
  k__law_any_move := keep_of (c.at 80)
  k__law_carried := keep_of (c.at 81)
  k__law_copied := keep_of (c.at 82)
  k__law_divisor := keep_of (c.at 83)
  k__law_draw := keep_of (c.at 84)
  k__law_exact := keep_of (c.at 85)
  k__law_great := keep_of (c.at 86)
  k__law_image := keep_of (c.at 87)
  k__law_image_right := keep_of (c.at 88)
  k__law_is_kept := keep_of (c.at 89)
  k__law_keeps := keep_of (c.at 90)
  k__law_kinds := keep_of (c.at 91)
  k__law_letters := keep_of (c.at 92)
  k__law_low := keep_of (c.at 93)
  k__law_made := keep_of (c.at 94)
  k__law_move := keep_of (c.at 95)
  k__law_net := keep_of (c.at 96)
  k__law_net_of := keep_of (c.at 97)
  k__law_place := keep_of (c.at 98)
  k__law_seen := keep_of (c.at 99)
  k__law_spots := keep_of (c.at 100)
  k__law_square := keep_of (c.at 101)
  k__law_tape := keep_of (c.at 102)
  k__law_tied := keep_of (c.at 103)
  k__law_turned := keep_of (c.at 104)
  k__law_woven := keep_of (c.at 105)
  k_are_numbers := keep_of (c.at 106)
  k_check_place := keep_of (c.at 107)
  k_check_rows := keep_of (c.at 108)
  k_checked_block := keep_of (c.at 109)
  k_colour_at := keep_of (c.at 110)
  k_divisors := keep_of (c.at 111)
  k_form_of := keep_of (c.at 112)
  k_greatest_divisor := keep_of (c.at 113)
  k_is_integer := keep_of (c.at 114)
  k_is_kept := keep_of (c.at 115)
  k_is_place := keep_of (c.at 116)
  k_is_row := keep_of (c.at 117)
  k_joined_kind := keep_of (c.at 118)
  k_kept_net := keep_of (c.at 119)
  k_least_cell := keep_of (c.at 120)
  k_minus := keep_of (c.at 121)
  k_plus := keep_of (c.at 122)
  k_turned := keep_of (c.at 123)
  kf_Net_Carpet := kt_of (c.at 124)
  kt_Woven_Carpet := kt_of (c.at 125)
  m_Carpet_UaddU := meth_of (c.at 126)
  m_Carpet_UgetitemU := meth_of (c.at 127)
  m_Carpet_UmulU := meth_of (c.at 128)
  m_Carpet_UsubU := meth_of (c.at 129)
  m_Carpet_is_kept_by := meth_of (c.at 130)
  m_Carpet_seen := meth_of (c.at 131)
  m_Motion_UinvertU := meth_of (c.at 132)
  m_Motion_UmulU := meth_of (c.at 133)
  m_Motion_image := meth_of (c.at 134)
  m_Net_UeqU := meth_of (c.at 135)
  m_Net_UmulU := meth_of (c.at 136)
  m_Net_place_in_cell := meth_of (c.at 137)
  m_Net_spanning := meth_of (c.at 138)
  m_Net_spots := meth_of (c.at 139)
  m_Woven_UaddU := meth2_of (c.at 140)
  m_Woven_UgetitemU := meth2_of (c.at 141)
  m_Woven_UmulU := meth2_of (c.at 142)
  m_Woven_UsubU := meth2_of (c.at 143)
  m_Woven_is_kept_by := meth2_of (c.at 144)
  m_Woven_seen := meth2_of (c.at 145)
  mk_Carpet := mk_of (c.at 146)
  mk_Motion := mk_of (c.at 147)
  mk_Net := mk_of (c.at 148)
  mk_Woven := mk_of (c.at 149)
  na_Carpet_own_net := no_of (c.at 150)
  na_Carpet_own_text := no_of (c.at 151)
  na_Motion_own_kind := no_of (c.at 152)
  na_Motion_own_shift := no_of (c.at 153)
  na_Net_own_numbers := no_of (c.at 154)
  na_Woven_own_net := no_of (c.at 155)
  na_Woven_own_text := no_of (c.at 156)
  nf_Carpet_Net := nf_of (c.at 157)
  nf_Woven_Net := nf_of (c.at 158)
  ow_Carpet := own_of (c.at 159)
  ow_Motion := own_of (c.at 160)
  ow_Net := own_of (c.at 161)
  ow_Woven := own_of (c.at 162)
  p_Carpet_net := prop_of (c.at 163)
  p_Carpet_rows := prop_of (c.at 164)
  p_Carpet_text := prop_of (c.at 165)
  p_Motion_kind := prop_of (c.at 166)
  p_Net_numbers := prop_of (c.at 167)
  p_Net_size := prop_of (c.at 168)
  p_Woven_net := prop2_of (c.at 169)
  p_Woven_rows := prop2_of (c.at 170)
  p_Woven_text := prop2_of (c.at 171)
  sm_Carpet_on := sm_of (c.at 172)
  sm_Motion_by := sm_of (c.at 173)
  sm_Net_of := sm_of (c.at 174)
  tb_BACK := tab_of (c.at 175) (c.tb 0)
  tb_MATRICES := tab_of (c.at 176) (c.tb 1)
  tw_Carpet_Woven := two_of (c.at 177)
  d__law_tape := c.df 0
  d__law_draw := c.df 1
  d_is_integer := c.df 2
  d_is_place := c.df 3
  d_check_place := c.df 4
  d_plus := c.df 5
  d_minus := c.df 6
  d_divisors := c.df 7
  d_are_numbers := c.df 8
  d_Net_UinitU := c.df 9
  d_Net_numbers := c.df 10
  d_Net_UeqU := c.df 11
  d_Net_place_in_cell := c.df 12
  d_Net_spots := c.df 13
  d_colour_at := c.df 14
  d_is_kept := c.df 15
  d_kept_net := c.df 16
  d_least_cell := c.df 17
  d_is_row := c.df 18
  d_check_rows := c.df 19
  d_checked_block := c.df 20
  d_Carpet_UinitU := defK_of (c.df 21) (fun _ _ => .int _)
  d_Carpet_net := c.df 22
  d_Carpet_text := c.df 23
  d_Carpet_rows := c.df 24
  d_Carpet_colours := c.df 25
  d_Carpet_seen := c.df 26
  d_Carpet_UgetitemU := c.df 27
  d_Carpet_UlenU := c.df 28
  d_Carpet_UeqU := c.df 29
  d_Carpet_UreprU := c.df 30
  d_Net_size := c.df 31
  d_Net_UcontainsU := c.df 32
  d_Woven_UinitU := c.df 33
  d_Carpet_on := c.df 34
  d_turned := c.df 35
  d_joined_kind := c.df 36
  d_Motion_UinitU := defD_of (c.df 37) (c.at 23)
  d_Motion_by := c.df 38
  d_Motion_kind := c.df 39
  d_Motion_image := c.df 40
  d_Motion_UmulU := c.df 41
  d_Motion_UinvertU := c.df 42
  d_greatest_divisor := c.df 43
  d_form_of := c.df 44
  d_Net_of := c.df 45
  d_Net_spanning := c.df 46
  d_Net_UmulU := c.df 47
  d_Carpet_UaddU := c.df 48
  d_Carpet_UsubU := c.df 49
  d_Carpet_UmulU := c.df 50
  d_Carpet_is_kept_by := c.df 51
  d__law_great := c.df 52
  d__law_place := c.df 53
  d__law_low := c.df 54
  d__law_spots := c.df 55
  d__law_seen := c.df 56
  d__law_net := c.df 57
  d__law_turned := c.df 58
  d__law_kinds := c.df 59
  d__law_carried := c.df 60
  d__law_divisor := c.df 61
  d__law_net_of := c.df 62
  d__law_keeps := c.df 63
  d__law_move := c.df 64
  d__law_tied := c.df 65
  d__law_letters := c.df 66
  d__law_square := c.df 67
  d__law_copied := c.df 68
  d__law_woven := c.df 69
  d__law_is_kept := c.df 70
  d__law_exact := c.df 71
  d__law_made := c.df 72
  d__law_image := c.df 73
  d__law_any_move := c.df 74
  d__law_image_right := c.df 75
  d_law := c.df 76
abbrev R : PySem.W.OpenRow := PySem.W.OpenLaw.row PySem.Challenge.rw_carpets_k13_carpets_moved
abbrev hk : PySem.W.Hook := hookZ 2000 ask
def ob (s : PySem.W.SharedT) : AlZ := obsG 2000 ask (HandSHeadRun.getT s)
theorem ob_eq (s : PySem.W.SharedT) : ob s = hk.obs s.abs := obsG_eq (HandSHeadRun.getT_eq s)
def loose : List Str := (["_wall", "CarpetError", "InvalidNet", "InvalidPlace", "InvalidMotion", "InvalidRows", "InvalidNumber", "InvalidText", "LimitExceeded", "is_integer", "is_place", "check_place", "greatest_divisor", "bezout", "divisors", "plus", "minus", "MATRICES", "BACK", "turned"] : List Str) ++ (["joined_kind", "Motion", "form_of", "are_numbers", "common_numbers", "Net", "LETTERS", "MOST_ROWS", "MOST_LETTERS", "MOST_PLACES", "is_row", "check_rows", "checked_block", "colour_at", "is_kept", "kept_net", "least_cell", "Carpet", "Woven", "_law_tape"] : List Str) ++ (["_law_draw", "_law_great", "_law_place", "_law_low", "_law_spots", "_law_seen", "_law_net", "_law_turned", "_law_kinds", "_law_carried", "_law_divisor", "_law_net_of", "_law_keeps", "_law_move", "_law_tied", "_law_letters", "_law_square", "_law_copied", "_law_woven", "_law_exact"] : List Str) ++ (["_law_made", "_law_image", "_law_is_kept", "_law_any_move", "_law_image_right"] : List Str)
abbrev qv : Program := PySem.W.view R.prog [71]
theorem run0_0 (w : World) : HandSHeadRun.RunEq R qv (hookZ 2000 ⟨fs0, fn0, ts, []⟩) (fun s => obsG 2000 ⟨fs0, fn0, ts, []⟩ (HandSHeadRun.getT s)) 12000 loose (w.withFollow "special-get-raises" false) := by
  intro os; kernel_rfl
theorem run0_1 (w : World) : RunP R 2000 ⟨fs1, fn1, [], []⟩ 12000 (w.withFollow "special-get-raises" false) := by
  intro os; kernel_rfl
theorem run0 (w : World) : HandSHeadRun.RunEq R qv hk ob 12000 loose (w.withFollow "special-get-raises" false) := by
  have h := run_add (run0_0 w) (run0_1 w)
  have e : ∀ a : Ask, a = ask → HandSHeadRun.RunEq R qv (hookZ 2000 a) (fun s => obsG 2000 a (HandSHeadRun.getT s)) 12000 loose (w.withFollow "special-get-raises" false) → HandSHeadRun.RunEq R qv (hookZ 2000 ask) (fun s => obsG 2000 ask (HandSHeadRun.getT s)) 12000 loose (w.withFollow "special-get-raises" false) := fun a e h => e ▸ h
  exact e askC askC_eq h
theorem run1_0 (w : World) : HandSHeadRun.RunEq R qv (hookZ 2000 ⟨fs0, fn0, ts, []⟩) (fun s => obsG 2000 ⟨fs0, fn0, ts, []⟩ (HandSHeadRun.getT s)) 12000 loose (w.withFollow "special-get-raises" true) := by
  intro os; kernel_rfl
theorem run1_1 (w : World) : RunP R 2000 ⟨fs1, fn1, [], []⟩ 12000 (w.withFollow "special-get-raises" true) := by
  intro os; kernel_rfl
theorem run1 (w : World) : HandSHeadRun.RunEq R qv hk ob 12000 loose (w.withFollow "special-get-raises" true) := by
  have h := run_add (run1_0 w) (run1_1 w)
  have e : ∀ a : Ask, a = ask → HandSHeadRun.RunEq R qv (hookZ 2000 a) (fun s => obsG 2000 a (HandSHeadRun.getT s)) 12000 loose (w.withFollow "special-get-raises" true) → HandSHeadRun.RunEq R qv (hookZ 2000 ask) (fun s => obsG 2000 ask (HandSHeadRun.getT s)) 12000 loose (w.withFollow "special-get-raises" true) := fun a e h => e ▸ h
  exact e askC askC_eq h
theorem run (w : World) : HandSHeadRun.RunEq R qv hk ob 12000 loose w := PySem.W.byRow2 "special-get-raises" (P := fun w => HandSHeadRun.RunEq R qv hk ob 12000 loose w) run0 run1 w
end K13
namespace MN
/-- what a list of shifts spans -/
inductive Sp (S : List (Int × Int)) : Int → Int → Prop
  | zero : Sp S 0 0
  | add {u v x y : Int} (k : Int) : (u, v) ∈ S → Sp S x y → Sp S (x + k * u) (y + k * v)
theorem Sp.cast {S : List (Int × Int)} {x y x' y' : Int} (h : Sp S x y) (e1 : x' = x) (e2 : y' = y) : Sp S x' y' := by rw [e1, e2]; exact h
theorem Sp.gen {S : List (Int × Int)} {u v : Int} (h : (u, v) ∈ S) : Sp S u v := (Sp.add 1 h .zero).cast (by omega) (by omega)
theorem Sp.sum {S : List (Int × Int)} {x y x' y' : Int} (h : Sp S x y) (h' : Sp S x' y') : Sp S (x + x') (y + y') := by
  induction h with
  | zero => exact h'.cast (by omega) (by omega)
  | add k m _ ih => exact (Sp.add k m ih).cast (by omega) (by omega)
theorem Sp.smul {S : List (Int × Int)} {x y : Int} (n : Int) (h : Sp S x y) : Sp S (n * x) (n * y) := by
  induction h with
  | zero => exact Sp.zero.cast (by omega) (by omega)
  | add k m _ ih => exact (Sp.add (n * k) m ih).cast (by grind) (by grind)
theorem Sp.sub {S : List (Int × Int)} {x y x' y' : Int} (h : Sp S x y) (h' : Sp S x' y') : Sp S (x - x') (y - y') := (h.sum (h'.smul (-1))).cast (by omega) (by omega)
theorem Sp.le {S S' : List (Int × Int)} (g : ∀ u v, (u, v) ∈ S → Sp S' u v) {x y : Int} (h : Sp S x y) : Sp S' x y := by
  induction h with
  | zero => exact .zero
  | add k m _ ih => exact ih.sum ((g _ _ m).smul k)
/-- two lists span the same -/
def Eqv (S S' : List (Int × Int)) : Prop := ∀ x y, Sp S x y ↔ Sp S' x y
theorem Eqv.refl (S : List (Int × Int)) : Eqv S S := fun _ _ => Iff.rfl
theorem Eqv.symm {S S' : List (Int × Int)} (h : Eqv S S') : Eqv S' S := fun x y => (h x y).symm
theorem Eqv.trans {S S' S'' : List (Int × Int)} (h : Eqv S S') (h' : Eqv S' S'') : Eqv S S'' := fun x y => (h x y).trans (h' x y)
theorem Eqv.of {S S' : List (Int × Int)} (g : ∀ u v, (u, v) ∈ S → Sp S' u v) (g' : ∀ u v, (u, v) ∈ S' → Sp S u v) : Eqv S S' := fun _ _ => ⟨Sp.le g, Sp.le g'⟩
theorem eqv_mem {S S' : List (Int × Int)} (g : ∀ p, p ∈ S ↔ p ∈ S') : Eqv S S' := .of (fun _ _ h => .gen ((g _).mp h)) (fun _ _ h => .gen ((g _).mpr h))
theorem eqv_app {S S' : List (Int × Int)} (h : Eqv S S') (R : List (Int × Int)) : Eqv (S ++ R) (S' ++ R) := by
  refine .of (fun u v m => ?_) (fun u v m => ?_)
  · rcases List.mem_append.mp m with m | m
    · exact Sp.le (fun _ _ q => .gen (List.mem_append_left _ q)) ((h _ _).mp (.gen m))
    · exact .gen (List.mem_append_right _ m)
  · rcases List.mem_append.mp m with m | m
    · exact Sp.le (fun _ _ q => .gen (List.mem_append_left _ q)) ((h _ _).mpr (.gen m))
    · exact .gen (List.mem_append_right _ m)
theorem inN_sp {a b c x y : Int} : InN a b c x y ↔ Sp [(a, 0), (b, c)] x y := by
  constructor
  · rintro ⟨m, k, rfl, rfl⟩
    exact (((Sp.gen (u := a) (v := 0) (by simp)).smul m).sum ((Sp.gen (u := b) (v := c) (by simp)).smul k)).cast (by grind) (by grind)
  · intro h
    induction h with
    | zero => exact inN_zero
    | add k m _ ih =>
      obtain ⟨p, q, rfl, rfl⟩ := ih
      rcases List.mem_cons.mp m with e | m
      · cases e
        exact ⟨p + k, q, by grind, by grind⟩
      rcases List.mem_cons.mp m with e | m
      · cases e
        exact ⟨p, q + k, by grind, by grind⟩
      cases m
/-- numbers of a net -/
def Ok (a b c : Int) : Prop := 1 ≤ c ∧ 0 ≤ b ∧ b < a
theorem net_le {a b c a' b' c' : Int} (h : Ok a b c) (h' : Ok a' b' c') (e : ∀ x y, InN a b c x y → InN a' b' c' x y) : a' ∣ a ∧ c' ∣ c := by
  obtain ⟨h1, h2, h3⟩ := h
  obtain ⟨p1, p2, p3⟩ := h'
  have x1 := e a 0 ⟨1, 0, by omega, by omega⟩
  have x2 := e b c ⟨0, 1, by omega, by omega⟩
  rw [inN_iff (by omega)] at x1 x2
  refine ⟨?_, x2.1⟩
  have := x1.2
  simpa using this
theorem net_eq {a b c a' b' c' : Int} (h : Ok a b c) (h' : Ok a' b' c') (e : ∀ x y, InN a b c x y ↔ InN a' b' c' x y) : a = a' ∧ b = b' ∧ c = c' := by
  have l1 := net_le h h' fun x y => (e x y).mp
  have l2 := net_le h' h fun x y => (e x y).mpr
  have ea : a = a' := Int.dvd_antisymm (by have := h.2; omega) (by have := h'.2; omega) l2.1 l1.1
  have ec : c = c' := Int.dvd_antisymm (by have := h.1; omega) (by have := h'.1; omega) l2.2 l1.2
  subst ea ec
  refine ⟨rfl, ?_, rfl⟩
  have x1 := (e b c).mp ⟨0, 1, by omega, by omega⟩
  have x2 : InN a b' c b' c := ⟨0, 1, by omega, by omega⟩
  have x3 := inN_sub x1 x2
  have := (in_cell (by have := h.2; omega) (by have := h.1; omega) x3 ⟨by have := h.2; have := h'.2; omega, by have := h.2; have := h'.2; omega⟩ ⟨by have := h.1; omega, by have := h.1; omega⟩).1
  omega
/-- the answer about a list of shifts -/
def Form (S : List (Int × Int)) : Option (Int × Int × Int) → Prop
  | none => ∀ a b c, Ok a b c → ¬ (Sp S a 0 ∧ Sp S b c)
  | some (a, b, c) => Ok a b c ∧ ∀ x y, InN a b c x y ↔ Sp S x y
theorem form_uni {S : List (Int × Int)} {r r' : Option (Int × Int × Int)} (h : Form S r) (h' : Form S r') : r = r' := by
  rcases r with _ | ⟨a, b, c⟩ <;> rcases r' with _ | ⟨a', b', c'⟩
  · rfl
  · exact (h _ _ _ h'.1 ⟨(h'.2 _ _).mp ⟨1, 0, by omega, by omega⟩, (h'.2 _ _).mp ⟨0, 1, by omega, by omega⟩⟩).elim
  · exact (h' _ _ _ h.1 ⟨(h.2 _ _).mp ⟨1, 0, by omega, by omega⟩, (h.2 _ _).mp ⟨0, 1, by omega, by omega⟩⟩).elim
  · obtain ⟨rfl, rfl, rfl⟩ := net_eq h.1 h'.1 fun x y => (h.2 x y).trans (h'.2 x y).symm
    rfl
theorem form_congr {S S' : List (Int × Int)} (e : Eqv S S') {r : Option (Int × Int × Int)} (h : Form S r) : Form S' r := by
  rcases r with _ | ⟨a, b, c⟩
  · intro a b c o z
    exact h a b c o ⟨(e _ _).mpr z.1, (e _ _).mpr z.2⟩
  · exact ⟨h.1, fun x y => (h.2 x y).trans (e x y)⟩
theorem form_net {a b c : Int} (h : Ok a b c) : Form [(a, 0), (b, c)] (some (a, b, c)) := ⟨h, fun _ _ => inN_sp⟩
/-- a step of Euclid's way -/
theorem eqv_step {b c x y t : Int} {R : List (Int × Int)} {a : Int} : Eqv ((a, 0) :: (b, c) :: (x, y) :: R) ((a, 0) :: (x, y) :: (b - t * x, c - t * y) :: R) := by
  refine .of (fun u v m => ?_) (fun u v m => ?_)
  · simp only [List.mem_cons, Prod.mk.injEq] at m
    rcases m with ⟨rfl, rfl⟩ | ⟨rfl, rfl⟩ | ⟨rfl, rfl⟩ | m
    · exact .gen (by simp)
    · exact ((Sp.gen (u := u - t * x) (v := v - t * y) (by simp)).sum ((Sp.gen (u := x) (v := y) (by simp)).smul t)).cast (by grind) (by grind)
    · exact .gen (by simp)
    · exact .gen (by simp [m])
  · simp only [List.mem_cons, Prod.mk.injEq] at m
    rcases m with ⟨rfl, rfl⟩ | ⟨rfl, rfl⟩ | ⟨rfl, rfl⟩ | m
    · exact .gen (by simp)
    · exact .gen (by simp)
    · exact (Sp.gen (u := b) (v := c) (by simp)).sub ((Sp.gen (u := x) (v := y) (by simp)).smul t)
    · exact .gen (by simp [m])
theorem bezN : ∀ (n m : Nat), ∃ s t : Int, ((Nat.gcd n m : Nat) : Int) = s * n + t * m := by
  intro n m
  induction n, m using Nat.gcd.induction with
  | H0 n => exact ⟨0, 1, by simp⟩
  | H1 m n h ih =>
    obtain ⟨s, t, e⟩ := ih
    refine ⟨t - s * (n / m : Nat), s, ?_⟩
    rw [Nat.gcd_rec, e]
    have : (n : Int) = m * (n / m : Nat) + (n % m : Nat) := by exact_mod_cast (Nat.div_add_mod n m).symm
    grind
theorem bez (a x : Int) : ∃ s t : Int, ((Int.gcd a x : Nat) : Int) = s * a + t * x := by
  obtain ⟨s, t, e⟩ := bezN a.natAbs x.natAbs
  have h1 : Int.gcd a x = Nat.gcd a.natAbs x.natAbs := rfl
  rw [h1, e]
  rcases Int.natAbs_eq a with ha | ha <;> rcases Int.natAbs_eq x with hx | hx
  · exact ⟨s, t, by rw [← ha, ← hx]⟩
  · exact ⟨s, -t, by grind⟩
  · exact ⟨-s, t, by grind⟩
  · exact ⟨-s, -t, by grind⟩
theorem eqv_gcd {b c x a : Int} {R : List (Int × Int)} : Eqv ((a, 0) :: (b, c) :: (x, 0) :: R) (((Int.gcd a x : Int), 0) :: (b, c) :: R) := by
  refine .of (fun u v m => ?_) (fun u v m => ?_)
  · simp only [List.mem_cons, Prod.mk.injEq] at m
    rcases m with ⟨rfl, rfl⟩ | ⟨rfl, rfl⟩ | ⟨rfl, rfl⟩ | m
    · obtain ⟨k, hk⟩ := Int.gcd_dvd_left u x
      exact ((Sp.gen (u := (Int.gcd u x : Int)) (v := 0) (by simp)).smul k).cast (by grind) (by omega)
    · exact .gen (by simp)
    · obtain ⟨k, hk⟩ := Int.gcd_dvd_right a u
      exact ((Sp.gen (u := (Int.gcd a u : Int)) (v := 0) (by simp)).smul k).cast (by grind) (by omega)
    · exact .gen (by simp [m])
  · simp only [List.mem_cons, Prod.mk.injEq] at m
    rcases m with ⟨rfl, rfl⟩ | ⟨rfl, rfl⟩ | m
    · obtain ⟨s, t, e⟩ := bez a x
      exact (((Sp.gen (u := a) (v := 0) (by simp)).smul s).sum ((Sp.gen (u := x) (v := 0) (by simp)).smul t)).cast e (by omega)
    · exact .gen (by simp)
    · exact .gen (by simp [m])
end MN
namespace MN
/-! ### Euclid's way with shifts: sizes and spans -/
def wgt (c y : Int) : Nat := c.natAbs + (if c * y < 0 then 2 * y.natAbs else 0)
structure Eu (M Y : Nat) (b c x y : Int) : Prop where
  phi : b.natAbs * y.natAbs + x.natAbs * wgt c y ≤ M
  hb : b.natAbs ≤ M
  hx : x.natAbs ≤ M
  hc : c.natAbs ≤ Y
  hy : y.natAbs ≤ Y
theorem fdiv_facts {c y : Int} (h : y ≠ 0) : (c - c.fdiv y * y).natAbs < y.natAbs ∧ 0 ≤ y * (c - c.fdiv y * y) ∧ (c - c.fdiv y * y).natAbs + (c.fdiv y).natAbs * y.natAbs ≤ wgt c y := by
  have e := Int.fmod_add_mul_fdiv c y
  have er : c - c.fdiv y * y = c.fmod y := by rw [Int.mul_comm]; omega
  rw [er]
  generalize hr : c.fmod y = r at *
  generalize ht : c.fdiv y = t at *
  rcases Int.lt_or_gt_of_ne h with hy | hy
  · have h12 : y < r ∧ r ≤ 0 := by
      rw [← hr, Int.fmod_eq_emod]
      have e1 := Int.emod_nonneg c (show y ≠ 0 by omega)
      have e2 := Int.emod_lt_of_neg c hy
      split
      · rename_i q
        rcases q with q | q
        · omega
        · have := Int.emod_eq_zero_of_dvd q
          omega
      · rename_i q
        have : c % y ≠ 0 := fun z => q (.inr (Int.dvd_of_emod_eq_zero z))
        omega
    obtain ⟨h1, h2⟩ := h12
    have k1 : 0 ≤ y * r := by
      have := Int.mul_nonneg (a := -y) (b := -r) (by omega) (by omega)
      rwa [Int.neg_mul_neg] at this
    refine ⟨by omega, k1, ?_⟩
    unfold wgt
    have nt : t.natAbs * y.natAbs = (t * y).natAbs := (Int.natAbs_mul t y).symm
    rw [nt]
    have ec : t * y = c - r := by rw [Int.mul_comm]; omega
    rw [ec]
    by_cases hcy : c * y < 0
    · rw [if_pos hcy]
      omega
    · rw [if_neg hcy]
      have hc0 : c ≤ 0 := by
        rcases Int.lt_or_le 0 c with z | z
        · exact absurd (Int.mul_neg_of_pos_of_neg z hy) hcy
        · exact z
      have t0 : 0 ≤ t := by
        rcases Int.lt_or_le t 0 with z | z
        · have : y * t ≥ -y := by
            have := Int.mul_le_mul_of_nonneg_left (a := t) (b := -1) (c := -y) (by omega) (by omega)
            simp only [Int.neg_mul, Int.mul_neg, Int.mul_one] at this
            omega
          omega
        · exact z
      have : y * t ≤ 0 := by
        have := Int.mul_nonneg (a := -y) (b := t) (by omega) t0
        rw [Int.neg_mul] at this
        omega
      omega
  · have h1 : r < y := by rw [← hr]; exact Int.fmod_lt_of_pos c hy
    have h2 : 0 ≤ r := by rw [← hr]; exact Int.fmod_nonneg_of_pos c hy
    have k1 : 0 ≤ y * r := Int.mul_nonneg (by omega) h2
    refine ⟨by omega, k1, ?_⟩
    unfold wgt
    have nt : t.natAbs * y.natAbs = (t * y).natAbs := (Int.natAbs_mul t y).symm
    rw [nt]
    have ec : t * y = c - r := by rw [Int.mul_comm]; omega
    rw [ec]
    by_cases hcy : c * y < 0
    · rw [if_pos hcy]
      omega
    · rw [if_neg hcy]
      have hc0 : 0 ≤ c := by
        rcases Int.lt_or_le c 0 with z | z
        · exact absurd (Int.mul_neg_of_neg_of_pos z hy) hcy
        · exact z
      have t0 : 0 ≤ t := by
        rcases Int.lt_or_le t 0 with z | z
        · have : y * t ≤ -y := by
            have := Int.mul_le_mul_of_nonneg_left (a := t) (b := -1) (c := y) (by omega) (by omega)
            omega
          omega
        · exact z
      have : 0 ≤ y * t := Int.mul_nonneg (by omega) t0
      omega
theorem Eu.step {M Y : Nat} {b c x y : Int} (h : Eu M Y b c x y) (hy : y ≠ 0) : Eu M Y x y (b - c.fdiv y * x) (c - c.fdiv y * y) := by
  obtain ⟨f1, f2, f3⟩ := fdiv_facts (c := c) hy
  obtain ⟨p, hb, hx, hc, hyy⟩ := h
  have w' : wgt y (c - c.fdiv y * y) = y.natAbs := by unfold wgt; rw [if_neg (by omega)]; omega
  have ex : (b - c.fdiv y * x).natAbs ≤ b.natAbs + (c.fdiv y).natAbs * x.natAbs := by
    have := Int.natAbs_sub_le b (c.fdiv y * x)
    rw [Int.natAbs_mul] at this
    exact this
  have ph : x.natAbs * (c - c.fdiv y * y).natAbs + (b - c.fdiv y * x).natAbs * y.natAbs ≤ M := by
    have m1 : (b - c.fdiv y * x).natAbs * y.natAbs ≤ (b.natAbs + (c.fdiv y).natAbs * x.natAbs) * y.natAbs := Nat.mul_le_mul_right _ ex
    have m2 : x.natAbs * ((c - c.fdiv y * y).natAbs + (c.fdiv y).natAbs * y.natAbs) ≤ x.natAbs * wgt c y := Nat.mul_le_mul_left _ f3
    have m3 : (b.natAbs + (c.fdiv y).natAbs * x.natAbs) * y.natAbs = b.natAbs * y.natAbs + x.natAbs * ((c.fdiv y).natAbs * y.natAbs) := by
      rw [Nat.add_mul, Nat.mul_comm (c.fdiv y).natAbs x.natAbs, Nat.mul_assoc]
    have m4 : x.natAbs * ((c - c.fdiv y * y).natAbs + (c.fdiv y).natAbs * y.natAbs) = x.natAbs * (c - c.fdiv y * y).natAbs + x.natAbs * ((c.fdiv y).natAbs * y.natAbs) := Nat.mul_add _ _ _
    omega
  have y1 : 1 ≤ y.natAbs := by omega
  refine ⟨by rw [w']; exact ph, hx, ?_, hyy, by omega⟩
  have := Nat.le_mul_of_pos_right (b - c.fdiv y * x).natAbs (show 0 < y.natAbs by omega)
  omega
theorem Eu.start {m n : Nat} {b c x y : Int} (hm : n + 1 ≤ m) (hb : b.natAbs ≤ 2 ^ m) (hc : c.natAbs ≤ 2 ^ n) (hx : x.natAbs ≤ 2 ^ n) (hy : y.natAbs ≤ 2 ^ n) : Eu (2 ^ (m + n + 2)) (2 ^ n) b c x y := by
  have p1 : 2 ^ m ≤ 2 ^ (m + n + 2) := Nat.pow_le_pow_right (by decide) (by omega)
  have p2 : 2 ^ n ≤ 2 ^ (m + n + 2) := Nat.pow_le_pow_right (by decide) (by omega)
  have w : wgt c y ≤ 3 * 2 ^ n := by
    unfold wgt
    split <;> omega
  have q1 : b.natAbs * y.natAbs ≤ 2 ^ (m + n) := by
    rw [Nat.pow_add]
    exact Nat.mul_le_mul hb hy
  have q2 : x.natAbs * wgt c y ≤ 2 ^ n * (3 * 2 ^ n) := Nat.mul_le_mul hx w
  have q3 : 2 ^ n * (3 * 2 ^ n) ≤ 3 * 2 ^ (m + n) := by
    have : 2 ^ n * 2 ^ n ≤ 2 ^ (m + n) := by
      rw [← Nat.pow_add]
      exact Nat.pow_le_pow_right (by decide) (by omega)
    have e : 2 ^ n * (3 * 2 ^ n) = 3 * (2 ^ n * 2 ^ n) := by rw [Nat.mul_left_comm]
    omega
  have q4 : 2 ^ (m + n + 2) = 4 * 2 ^ (m + n) := by rw [Nat.pow_add, Nat.mul_comm]
  exact ⟨by omega, by omega, by omega, hc, hy⟩
theorem abs_fdiv_le (c y : Int) : (c.fdiv y).natAbs ≤ c.natAbs := by
  rcases Decidable.em (y = 0) with h | h
  · subst h; simp
  · obtain ⟨f1, f2, f3⟩ := fdiv_facts (c := c) h
    have y1 : 1 ≤ y.natAbs := by omega
    have e := Int.fmod_add_mul_fdiv c y
    have nt : (c.fdiv y).natAbs * y.natAbs = (y * c.fdiv y).natAbs := by rw [Nat.mul_comm]; exact (Int.natAbs_mul y _).symm
    have er : c - c.fdiv y * y = c.fmod y := by rw [Int.mul_comm]; omega
    rw [er] at f1 f2 f3
    have l1 := Nat.le_mul_of_pos_right (c.fdiv y).natAbs (show 0 < y.natAbs by omega)
    rcases Nat.lt_or_ge c.natAbs (c.fdiv y).natAbs with z | z
    · exfalso
      -- |t| ≥ |c| + 1, so |t y| ≥ |t| |y| ≥ (|c| + 1) |y| ≥ |c| + |y| > |c| + |r|
      have l2 : (c.natAbs + 1) * y.natAbs ≤ (c.fdiv y).natAbs * y.natAbs := Nat.mul_le_mul_right _ z
      have l3 : c.natAbs + y.natAbs ≤ (c.natAbs + 1) * y.natAbs := by
        rw [Nat.add_mul, Nat.one_mul]
        have := Nat.le_mul_of_pos_right c.natAbs (show 0 < y.natAbs by omega)
        omega
      omega
    · exact z
/-! ### the answer -/
theorem form_none {S : List (Int × Int)} {a b c : Int} (e : Eqv S [(a, 0), (b, c)]) (h : a = 0 ∨ c = 0) : Form S none := by
  intro a' b' c' ok ⟨h1, h2⟩
  have z : ∀ x y, Sp S x y → ∃ m k : Int, x = m * a + k * b ∧ y = k * c := fun x y q => inN_sp.mpr ((e x y).mp q)
  obtain ⟨m, k, e1, e2⟩ := z _ _ h1
  obtain ⟨m', k', e3, e4⟩ := z _ _ h2
  obtain ⟨o1, o2, o3⟩ := ok
  rcases h with rfl | rfl
  · by_cases hc : c = 0
    · subst hc; simp at e4; omega
    · have : k = 0 := by
        rcases Int.mul_eq_zero.mp e2.symm with q | q
        · exact q
        · exact absurd q hc
      subst this
      simp at e1
      omega
  · simp at e4; omega
theorem form_pos {S : List (Int × Int)} {a b c : Int} (e : Eqv S [(a, 0), (b, c)]) (ha : 0 < a) (hc : 0 < c) : Form S (some (a, b % a, c)) := by
  refine ⟨⟨by omega, Int.emod_nonneg b (by omega), Int.emod_lt_of_pos b ha⟩, fun x y => ?_⟩
  rw [e x y, ← inN_sp]
  have hb := Int.emod_add_mul_ediv b a
  constructor
  · rintro ⟨m, k, h1, h2⟩
    exact ⟨m - k * (b / a), k, by grind, h2⟩
  · rintro ⟨m, k, h1, h2⟩
    exact ⟨m + k * (b / a), k, by grind, h2⟩
theorem form_neg {S : List (Int × Int)} {a b c : Int} (e : Eqv S [(a, 0), (b, c)]) (ha : 0 < a) (hc : c < 0) : Form S (some (a, -b % a, -c)) := by
  have e2 : Eqv [(a, 0), (b, c)] [(a, 0), (-b, -c)] := by
    intro x y
    rw [← inN_sp, ← inN_sp]
    constructor
    · rintro ⟨m, k, h1, h2⟩
      exact ⟨m, -k, by grind, by grind⟩
    · rintro ⟨m, k, h1, h2⟩
      exact ⟨m, -k, by grind, by grind⟩
  exact form_pos (e.trans e2) ha (by omega)
theorem eqv_nil : Eqv [] [((0 : Int), (0 : Int)), (0, 0)] := .of (fun _ _ m => nomatch m) (fun u v m => by
  simp at m
  obtain ⟨rfl, rfl⟩ := m
  exact .zero)
/-- one more shift -/
theorem eqv_more {S : List (Int × Int)} {a b c x y : Int} (e : Eqv S [(a, 0), (b, c)]) : Eqv (S ++ [(x, y)]) [(a, 0), (b, c), (x, y)] := eqv_app e [(x, y)]
/-! ### sizes of nets -/
def det (p q : Int × Int) : Int := p.1 * q.2 - q.1 * p.2
theorem det_dvd {a b c x y x' y' : Int} (h : InN a b c x y) (h' : InN a b c x' y') : a * c ∣ x * y' - x' * y := by
  obtain ⟨m, k, h1, h2⟩ := h
  obtain ⟨m', k', h3, h4⟩ := h'
  exact ⟨m * k' - m' * k, by subst h1 h2 h3 h4; grind⟩
theorem sp_two {p q : Int × Int} {x y : Int} (h : Sp [p, q] x y) : ∃ m k : Int, x = m * p.1 + k * q.1 ∧ y = m * p.2 + k * q.2 := by
  induction h with
  | zero => exact ⟨0, 0, by omega, by omega⟩
  | add n mem _ ih =>
    obtain ⟨m, k, h1, h2⟩ := ih
    rcases List.mem_cons.mp mem with e | mem
    · cases e; exact ⟨m + n, k, by grind, by grind⟩
    rcases List.mem_cons.mp mem with e | mem
    · cases e; exact ⟨m, k + n, by grind, by grind⟩
    cases mem
theorem det_ne {p q : Int × Int} {a b c : Int} (h : Form [p, q] (some (a, b, c))) : det p q ≠ 0 := by
  obtain ⟨⟨o1, o2, o3⟩, h⟩ := h
  obtain ⟨m, k, e1, e2⟩ := sp_two ((h a 0).mp ⟨1, 0, by omega, by omega⟩)
  obtain ⟨m', k', e3, e4⟩ := sp_two ((h b c).mp ⟨0, 1, by omega, by omega⟩)
  intro z
  have key : a * c = (m * k' - m' * k) * det p q := by
    unfold det
    have : a * c = a * c - b * 0 := by omega
    rw [this]
    conv => lhs; rw [e1, e4, e3, e2]
    grind
  rw [z, Int.mul_zero] at key
  have := Int.mul_pos (a := a) (b := c) (by omega) (by omega)
  omega
theorem form_size {S : List (Int × Int)} {a b c : Int} (h : Form S (some (a, b, c))) {p q : Int × Int} (hp : p ∈ S) (hq : q ∈ S) (hd : det p q ≠ 0) : a * c ≤ (det p q).natAbs ∧ a ≤ (det p q).natAbs ∧ c ≤ (det p q).natAbs := by
  obtain ⟨⟨o1, o2, o3⟩, h⟩ := h
  have d := det_dvd ((h _ _).mpr (.gen hp)) ((h _ _).mpr (.gen hq))
  have l := Int.le_of_dvd (show 0 < ((det p q).natAbs : Int) by omega) (Int.dvd_natAbs.mpr d)
  have l1 : a * 1 ≤ a * c := Int.mul_le_mul_of_nonneg_left o1 (by omega)
  have l2 : 1 * c ≤ a * c := Int.mul_le_mul_of_nonneg_right (by omega) (by omega)
  exact ⟨l, by omega, by omega⟩
theorem form_mem {S : List (Int × Int)} {a b c x y : Int} (h : Form S (some (a, b, c))) (hp : (x, y) ∈ S) : low a b c x y = (0, 0) := by
  obtain ⟨⟨o1, o2, o3⟩, h⟩ := h
  rw [low_zero (by omega) (by omega)]
  exact (h _ _).mpr (.gen hp)
theorem fmod_gcd (x y : Int) : Int.gcd y (x.fmod y) = Int.gcd x y := by
  have e := Int.fmod_add_mul_fdiv x y
  have h := Int.gcd_add_mul_right_right y (x.fmod y) (x.fdiv y)
  rw [show x.fmod y + x.fdiv y * y = x by rw [Int.mul_comm]; exact e] at h
  rw [← h, Int.gcd_comm]
theorem fmod_lt {x y : Int} (h : y ≠ 0) : (x.fmod y).natAbs < y.natAbs := by
  have := (fdiv_facts (c := x) h).1
  have e := Int.fmod_add_mul_fdiv x y
  rw [show x - x.fdiv y * y = x.fmod y by rw [Int.mul_comm]; omega] at this
  exact this
/-! ### nets and lists of shifts -/
theorem form_eqv {S : List (Int × Int)} {a b c : Int} (h : Form S (some (a, b, c))) : Eqv S [(a, 0), (b, c)] := fun x y => (h.2 x y).symm.trans inN_sp
theorem form_step {S : List (Int × Int)} {a b c : Int} {p : Int × Int} {r : Option (Int × Int × Int)} (h : Form S (some (a, b, c))) (h' : Form [(a, 0), (b, c), p] r) : Form (S ++ [p]) r := form_congr (eqv_app (form_eqv h) [p]).symm h'
theorem not_none {S : List (Int × Int)} {a b c : Int} (o : Ok a b c) (h1 : Sp S a 0) (h2 : Sp S b c) : ¬ Form S none := fun z => z a b c o ⟨h1, h2⟩
theorem some_not_none {S : List (Int × Int)} {r : Int × Int × Int} (h : Form S (some r)) : ¬ Form S none := fun z => nomatch form_uni h z
theorem eqv_again {a b c : Int} : Eqv [(a, 0), (b, c)] [(a * 7 + b, c), (0 - b, 0 - c), (a, 0), (0, 0)] := by
  refine .of (fun u v m => ?_) (fun u v m => ?_)
  · simp only [List.mem_cons, Prod.mk.injEq, List.not_mem_nil, or_false] at m
    rcases m with ⟨rfl, rfl⟩ | ⟨rfl, rfl⟩
    · exact .gen (by simp)
    · exact ((Sp.gen (u := 0 - u) (v := 0 - v) (by simp)).smul (-1)).cast (by omega) (by omega)
  · simp only [List.mem_cons, Prod.mk.injEq, List.not_mem_nil, or_false] at m
    have ga : Sp [(a, 0), (b, c)] a 0 := .gen (by simp)
    have gb : Sp [(a, 0), (b, c)] b c := .gen (by simp)
    rcases m with ⟨rfl, rfl⟩ | ⟨rfl, rfl⟩ | ⟨rfl, rfl⟩ | ⟨rfl, rfl⟩
    · exact ((ga.smul 7).sum gb).cast (by omega) (by omega)
    · exact (gb.smul (-1)).cast (by omega) (by omega)
    · exact ga
    · exact .zero
theorem eqv_swap {a b c : Int} : Eqv [(a, 0), (b, c)] [(b, c), (a, 0)] := eqv_mem fun p => by simp only [List.mem_cons, List.not_mem_nil, or_false]; exact Or.comm
theorem eqv_rev4 {p q r s : Int × Int} : Eqv [p, q, r, s] [s, r, q, p] := eqv_mem fun x => by simp only [List.mem_cons, List.not_mem_nil, or_false]; grind
theorem eqv_sides {p q r s : Int × Int} : Eqv [p, q, r, s] [r, (0 - q.1, 0 - q.2), s, (p.1 + r.1, p.2 + r.2), r] := by
  obtain ⟨p1, p2⟩ := p
  obtain ⟨q1, q2⟩ := q
  obtain ⟨r1, r2⟩ := r
  obtain ⟨s1, s2⟩ := s
  refine .of (fun u v m => ?_) (fun u v m => ?_)
  · simp only [List.mem_cons, Prod.mk.injEq, List.not_mem_nil, or_false] at m
    rcases m with ⟨rfl, rfl⟩ | ⟨rfl, rfl⟩ | ⟨rfl, rfl⟩ | ⟨rfl, rfl⟩
    · exact ((Sp.gen (u := u + r1) (v := v + r2) (by simp)).sub (Sp.gen (u := r1) (v := r2) (by simp))).cast (by omega) (by omega)
    · exact ((Sp.gen (u := 0 - u) (v := 0 - v) (by simp)).smul (-1)).cast (by omega) (by omega)
    · exact .gen (by simp)
    · exact .gen (by simp)
  · simp only [List.mem_cons, Prod.mk.injEq, List.not_mem_nil, or_false] at m
    rcases m with ⟨rfl, rfl⟩ | ⟨rfl, rfl⟩ | ⟨rfl, rfl⟩ | ⟨rfl, rfl⟩ | ⟨rfl, rfl⟩
    · exact .gen (by simp)
    · exact ((Sp.gen (u := q1) (v := q2) (by simp)).smul (-1)).cast (by omega) (by omega)
    · exact .gen (by simp)
    · exact (Sp.gen (u := p1) (v := p2) (by simp)).sum (Sp.gen (u := r1) (v := r2) (by simp))
    · exact .gen (by simp)
theorem form_unit : Form [((0 : Int), (1 : Int)), (1, 0)] (some (1, 0, 1)) := form_congr (eqv_mem fun p => by simp only [List.mem_cons, List.not_mem_nil, or_false]; exact Or.comm) (form_net ⟨by decide, by decide, by decide⟩)
end MN
namespace Y
open PySem PySem.Spec PyProof.Rows L2 Z
/-! ### promises of carpets.integers and carpets.nets -/
def knD (d : D) : Prop := match d with
  | .obj _ _ _ | .ty _ | .glob _ | .tape => False
  | _ => True
def isIntD (d : D) : Bool := match d with
  | .int _ => true
  | _ => false
def R_is_integer : RdF := ar1 fun d Q _ => knD d ∧ Q (.bl (isIntD d))
def knP (d : D) : Prop := match d with
  | .tup [a, b] => knD a ∧ knD b
  | d => knD d
def isPl (d : D) : Bool := match d with
  | .tup [a, b] => isIntD a && isIntD b
  | _ => false
def R_is_place : RdF := ar1 fun d Q _ => knP d ∧ Q (.bl (isPl d))
def R_check_place_n : RdF := ar1 fun d Q _ => knP d ∧ isPl d = true ∧ Q .non
def R_greatest_divisor : RdF := ar2 fun x y Q _ => match x, y with
  | .int x, .int y => Q (.int ((Int.gcd x y : Nat) : Int))
  | _, _ => False
def R_are_numbers : RdF := ar1 fun d Q _ => match d with
  | .tup [.int a, .int b, .int c] => Q (.bl (decide (1 ≤ c) && (decide (0 ≤ b) && decide (b < a))))
  | _ => False
abbrev nsNet : List Str := ["own_numbers"]
abbrev dNet (a b c : Int) : D := .obj "Net" ["own_numbers"] [.tup [.int a, .int b, .int c]]
abbrev dPl (x y : Int) : D := .tup [.int x, .int y]
def R_Net_UinitU : RdF := ar3 fun x y z Q _ => match x, y, z with
  | .int a, .int b, .int c => (1 ≤ c ∧ 0 ≤ b ∧ b < a) ∧ Q (dNet a b c)
  | _, _, _ => False
/-! ### nets of shifts -/
def plD (p : Int × Int) : D := .tup [.int p.1, .int p.2]
def optN : Option (Int × Int × Int) → D
  | none => .non
  | some (a, b, c) => .tup [.int a, .int b, .int c]
def SzF (r : Option (Int × Int × Int)) : Prop := ∀ a b c, r = some (a, b, c) → Sz 4000 a ∧ Sz 4000 c
def shOk (S : List (Int × Int)) : Prop := ∃ n, (∀ p ∈ S, Sz n p.1 ∧ Sz n p.2) ∧ (S.length + 2) * (n + 2) ≤ 4000
def R_form_of : RdF := ar1 fun d Q _ => match d with
  | .tup ds => ∃ S : List (Int × Int), ds = S.map plD ∧ shOk S ∧ ∀ r, MN.Form S r → SzF r → Q (optN r)
  | _ => False
/-- the numbers of a net of shifts, if there is one -/
def R_Net_of : RdF := fun ds Q _ => ∃ S : List (Int × Int), ds = S.map plD ∧ shOk S ∧ ¬ MN.Form S none ∧ ∀ a b c, MN.Form S (some (a, b, c)) → Sz 4000 a → Sz 4000 c → Q (dNet a b c)
theorem R_Net_of_len : ∀ ds Q E, R_Net_of ds Q E → ds.length ≤ 100000 := by
  rintro ds Q E ⟨S, rfl, ⟨n, _, h⟩, _⟩
  rw [List.length_map]
  have : (S.length + 2) * 2 ≤ (S.length + 2) * (n + 2) := Nat.mul_le_mul_left _ (by omega)
  omega
theorem sz_le2 {n : Nat} {x : Int} (h : Sz n x) : x.natAbs ≤ 2 ^ n := Nat.le_of_lt h
theorem sz_of_le {n m : Nat} {x : Int} (h : x.natAbs ≤ 2 ^ n) (hm : n < m) : Sz m x := Nat.lt_of_le_of_lt h (Nat.pow_lt_pow_right (by decide) hm)
theorem map_get {α β : Type} {f : α → β} {S : List α} {i : Nat} {d : β} (h : (S.map f)[i]? = some d) : ∃ p, S[i]? = some p ∧ d = f p := by
  rw [List.getElem?_map] at h
  obtain ⟨p, h1, rfl⟩ := Option.map_eq_some_iff.mp h
  exact ⟨p, h1, rfl⟩
/-! ### methods of nets -/
def R_Net_numbers : RdF := ar1 fun d Q _ => ∃ a b c : Int, d = dNet a b c ∧ Q (.tup [.int a, .int b, .int c])
def R_Net_size : RdF := ar1 fun d Q _ => ∃ a b c : Int, d = dNet a b c ∧ (Sz 4000 a ∧ Sz 4000 c) ∧ Q (.int (a * c))
def R_Net_spanning : RdF := ar1 fun d Q _ => ∃ a b c : Int, d = dNet a b c ∧ Q (.lst [dPl a 0, dPl b c])
def R_Net_place_in_cell : RdF := ar2 fun s p Q _ => ∃ a b c x y : Int, s = dNet a b c ∧ p = dPl x y ∧ (MN.Ok a b c ∧ Sz 4000 a ∧ Sz 4000 c ∧ Sz 4000 y) ∧ Q (dPl (MN.low a b c x y).1 (MN.low a b c x y).2)
def R_Net_UcontainsU : RdF := ar2 fun s v Q _ => ∃ a b c : Int, s = dNet a b c ∧ (MN.Ok a b c ∧ Sz 4000 a ∧ Sz 4000 c) ∧ ((∃ x y : Int, v = dPl x y ∧ Sz 4000 y ∧ Q (.bl (decide (MN.low a b c x y = (0, 0))))) ∨ (knP v ∧ isPl v = false ∧ Q (.bl false)))
def R_Net_UeqU : RdF := ar2 fun s v Q _ => ∃ a b c : Int, s = dNet a b c ∧ ((∃ a' b' c' : Int, v = dNet a' b' c' ∧ Q (.bl (decide (a = a' ∧ b = b' ∧ c = c')))) ∨ (knD v ∧ Q (.bl false)))
def R_Net_whole : RdF := ar1 fun d Q _ => d = .glob "Net" ∧ Q (dNet 1 0 1)
theorem eqN3 {a b c d e f : Int} : eqD (.tup [.int a, .int b, .int c]) (.tup [.int d, .int e, .int f]) = decide (a = d ∧ b = e ∧ c = f) := by
  simp only [eqD, eqDs, Bool.and_true]
  by_cases h1 : a = d <;> by_cases h2 : b = e <;> by_cases h3 : c = f <;> simp [h1, h2, h3]
theorem eqN2 {a b d e : Int} : eqD (.tup [.int a, .int b]) (.tup [.int d, .int e]) = decide (a = d ∧ b = e) := by
  simp only [eqD, eqDs, Bool.and_true]
  by_cases h1 : a = d <;> by_cases h2 : b = e <;> simp [h1, h2]
theorem leN {n : Nat} (h : Nat.ble n 100000 = true) : n ≤ 100000 := Nat.le_of_ble_eq_true h
/-! ### the law's own draws -/
def R__law_great : RdF := ar2 fun t n Q _ => match t, n with
  | .tape, .int n => (60 ≤ n ∧ Sz 1000 n) ∧ ∀ d, -n < d → d < n → Q (.int d)
  | _, _ => False
def R__law_place : RdF := ar1 fun t Q _ => match t with
  | .tape => ∀ x y, Sz 100 x → Sz 100 y → Q (dPl x y)
  | _ => False
def R__law_net : RdF := ar2 fun t n Q _ => match t, n with
  | .tape, .int n => (0 < n ∧ Sz 1000 n) ∧ ∀ a b c, MN.Ok a b c → a * c ≤ n → Q (.tup [.int a, .int b, .int c])
  | _, _ => False
def R__law_net_of : RdF := ar1 fun d Q _ => match d with
  | .lst ds => ∃ S : List (Int × Int), ds = S.map plD ∧ shOk S ∧ ∀ r, MN.Form S r → SzF r → Q (optN r)
  | _ => False
theorem szP {n : Nat} {x : Int} (h : Nat.blt x.natAbs (2 ^ 100) = true) (hn : 100 ≤ n) : Sz n x := (sz_lit (n := 100) h).mono hn
theorem dIx_l {ds : List D} {i : Int} {d : D} {Q : D → Prop} (e : atI ds i = some d) (h : Q d) : dIx (.lst ds) (.int i) Q := by
  show (match atI ds i with | some d => Q d | none => False)
  rw [e]
  exact h
theorem dIx_t {ds : List D} {i : Int} {d : D} {Q : D → Prop} (e : atI ds i = some d) (h : Q d) : dIx (.tup ds) (.int i) Q := by
  show (match atI ds i with | some d => Q d | none => False)
  rw [e]
  exact h
theorem atI_D {α : Type} {ds : List α} {k : Int} (h0 : 0 ≤ k) (h1 : k < ds.length) : ∃ d, atI ds k = some d ∧ d ∈ ds := by
  obtain ⟨j, rfl⟩ := Int.eq_ofNat_of_zero_le h0
  have hj : j < ds.length := by omega
  exact ⟨ds[j], atI_nat (List.getElem?_eq_getElem hj), List.getElem_mem hj⟩
theorem cut_take {α : Type} {xs : List α} {n : Nat} (hn : n ≤ 1000000) : cutD xs none (some (n : Int)) = xs.take n := by
  unfold cutD
  have e1 : HT.sIx xs.length 0 none = 0 := rfl
  have e2 : HT.sIx xs.length xs.length (some (n : Int)) = min n xs.length := by
    unfold HT.sIx
    simp
    omega
  rw [e1, e2, List.drop_zero]
  simp [List.take_eq_take_min]
theorem cut_drop {α : Type} {xs : List α} {n : Nat} : cutD xs (some (n : Int)) none = xs.drop n := by
  unfold cutD
  rw [HT.sIx_none, HT.sIx_nat]
  rcases Nat.le_total n xs.length with h | h
  · rw [Nat.min_eq_left h]
    exact List.take_of_length_le (by rw [List.length_drop]; omega)
  · rw [Nat.min_eq_right h, List.drop_eq_nil_of_le (Nat.le_refl _), List.drop_eq_nil_of_le h]
    simp
/-- up to six shifts of the law -/
def shS (S : List (Int × Int)) : Prop := ∀ p ∈ S, Sz 100 p.1 ∧ Sz 100 p.2
theorem shOk_of {S : List (Int × Int)} {n : Nat} (h : ∀ p ∈ S, Sz n p.1 ∧ Sz n p.2) (hl : (S.length + 2) * (n + 2) ≤ 4000) : shOk S := ⟨n, h, hl⟩
def R__law_shifts : RdF := ar1 fun t Q _ => match t with
  | .tape => ∀ p q rest, rest.length ≤ 4 → shS (p :: q :: rest) → Q (.lst ((p :: q :: rest).map plD))
  | _ => False
def R__law_of : RdF := ar1 fun d Q _ => ∃ p q rest, d = .lst ((p :: q :: rest).map plD) ∧ (rest.length ≤ 4 ∧ shS (p :: q :: rest)) ∧ ¬ MN.Form [p, q] none ∧ ∀ a b c, MN.Form (p :: q :: rest) (some (a, b, c)) → Sz 210 a → Sz 210 c → Q (dNet a b c)
theorem det_size {p q : Int × Int} (h1 : Sz 100 p.1) (h2 : Sz 100 p.2) (h3 : Sz 100 q.1) (h4 : Sz 100 q.2) : (MN.det p q).natAbs < 2 ^ 201 := sz_sub (a := 200) (sz_mul h1 h4) (sz_mul h3 h2)
theorem net_size {S : List (Int × Int)} {p q : Int × Int} {a b c : Int} (hp : p ∈ S) (hq : q ∈ S) (hd : MN.det p q ≠ 0) (z : shS S) (h : MN.Form S (some (a, b, c))) : Sz 210 a ∧ Sz 210 c := by
  obtain ⟨_, l1, l2⟩ := MN.form_size h hp hq hd
  have hs := det_size (z p hp).1 (z p hp).2 (z q hq).1 (z q hq).2
  obtain ⟨⟨o1, o2, o3⟩, _⟩ := h
  have k : ∀ x : Int, 0 ≤ x → x ≤ (MN.det p q).natAbs → Sz 210 x := fun x x0 x1 => Sz.mono (a := 201) (Nat.lt_of_le_of_lt (by omega) hs) (by decide)
  exact ⟨k a (by omega) l1, k c (by omega) l2⟩
theorem atI_0 {α : Type} {x : α} {xs : List α} : atI (x :: xs) 0 = some x := atI_nat (j := 0) rfl
theorem atI_1 {α : Type} {x y : α} {xs : List α} : atI (x :: y :: xs) 1 = some y := atI_nat (j := 1) rfl
theorem dSl_drop {xs : List D} {n : Nat} {Q : D → Prop} (h : Q (.lst (xs.drop n))) : dSl (.lst xs) (some (n : Int)) none Q := by
  unfold dSl
  dsimp only
  rw [cut_drop]
  exact h
theorem dSl_take {xs : List D} {n : Nat} {Q : D → Prop} (hn : n ≤ 1000000) (h : Q (.lst (xs.take n))) : dSl (.lst xs) none (some (n : Int)) Q := by
  unfold dSl
  dsimp only
  rw [cut_take hn]
  exact h
theorem ltN {n m : Nat} (h : Nat.ble n m = true) : n ≤ m := Nat.le_of_ble_eq_true h
end Y
namespace MN
/-- (w, r, u) are the numbers of the net of the common shifts -/
def Meet (a b c p q r W R U : Int) : Prop := Ok W R U ∧ (∀ x y, InN W R U x y ↔ (InN a b c x y ∧ InN p q r x y)) ∧ W ≤ a * p ∧ U ≤ a * (c * r)
theorem gcd_parts {c r : Int} (hc : 0 < c) : ∃ g c' r' m n : Int, g = (Int.gcd c r : Int) ∧ 0 < g ∧ c = g * c' ∧ r = g * r' ∧ m * c' + n * r' = 1 := by
  obtain ⟨m, n, e⟩ := bez c r
  have hg : 0 < (Int.gcd c r : Int) := by
    have : 0 < Int.gcd c r := Int.gcd_pos_of_ne_zero_left _ (by omega)
    omega
  obtain ⟨c', hc'⟩ := Int.gcd_dvd_left c r
  obtain ⟨r', hr'⟩ := Int.gcd_dvd_right c r
  refine ⟨_, c', r', m, n, rfl, hg, hc', hr', ?_⟩
  have e2 : (Int.gcd c r : Int) * (m * c' + n * r') = (Int.gcd c r : Int) * 1 := by
    calc (Int.gcd c r : Int) * (m * c' + n * r') = m * ((Int.gcd c r : Int) * c') + n * ((Int.gcd c r : Int) * r') := by grind
      _ = m * c + n * r := by rw [← hc', ← hr']
      _ = (Int.gcd c r : Int) * 1 := by rw [← e]; omega
  exact Int.eq_of_mul_eq_mul_left (by omega) e2
theorem ml1 {g c' r' k1 k2 y : Int} (h1 : y = k1 * (g * c')) (h2 : y = k2 * (g * r')) : g * (k1 * c') = g * (k2 * r') := by grind
theorem ml2 {b q c' r' j x D m1 m2 a' p' : Int} (h1 : x = m1 * (D * a') + r' * j * b) (h2 : x = m2 * (D * p') + c' * j * q) : j * (b * r' - q * c') = D * (m2 * p' - m1 * a') := by grind
theorem ml3 {G D' j d' z : Int} (h : j * (G * d') = G * D' * z) : G * (j * d') = G * (D' * z) := by grind
theorem ml4 {j u v D' d' z : Int} (h : j * d' = D' * z) (e3 : u * D' + v * d' = 1) : j = D' * (j * u + v * z) := by
  calc j = j * (u * D' + v * d') := by rw [e3]; omega
    _ = j * u * D' + v * (j * d') := by grind
    _ = _ := by rw [h]; grind
theorem ml5 {D' i d' z : Int} (h : D' * i * d' = D' * z) : D' * (i * d') = D' * z := by grind
theorem ml6 {m1 m2 s t a' p' : Int} (e2 : s * a' + t * p' = 1) : m1 + s * (m2 * p' - m1 * a') = p' * (m1 * t + s * m2) := by
  have : m1 * (s * a' + t * p') = m1 := by rw [e2]; omega
  grind
theorem ml7 {a b m1 r' D' i d' s p' t m2 k : Int} (h : a * (m1 + s * (i * d')) = a * (p' * (m1 * t + s * m2))) : m1 * a + r' * (D' * i) * b = (m1 * t + s * m2 + i * k) * (a * p') + i * (D' * (b * r') - a * (d' * s) - k * (a * p')) := by grind
theorem ml8 {r' D' i g c' : Int} : r' * (D' * i) * (g * c') = i * (D' * (c' * r' * g)) := by grind
/-- the numbers that the program finds, in parts -/
structure MP (a b c p q r : Int) (g c' r' m n D a' p' s t G D' d' u v : Int) : Prop where
  hg : 0 < g
  ec : c = g * c'
  er : r = g * r'
  e1 : m * c' + n * r' = 1
  hD : 0 < D
  ea : a = D * a'
  ep : p = D * p'
  e2 : s * a' + t * p' = 1
  hG : 0 < G
  eD : D = G * D'
  ed : b * r' - q * c' = G * d'
  e3 : u * D' + v * d' = 1
theorem meet_of {a b c p q r g c' r' m n D a' p' s t G D' d' u v : Int} (h : Ok a b c) (h' : Ok p q r) (x : MP a b c p q r g c' r' m n D a' p' s t G D' d' u v) (R : Int) (hR : R = (D' * (b * r') - a * (d' * s)) % (a * p')) :
    Meet a b c p q r (a * p') R (D' * (c' * r' * g)) ∧ ∃ β, Form [(a, 0), (b, c), (p, 0), (q, r)] (some (G, β, g)) ∧ a * p' * (D' * (c' * r' * g)) * (G * g) = a * c * (p * r) := by
  obtain ⟨hg, ec, er, e1, hD, ea, ep, e2, hG, eD, ed, e3⟩ := x
  have ha : 0 < a := by have := h.2; omega
  have hp : 0 < p := by have := h'.2; omega
  have hc : 0 < c := by have := h.1; omega
  have hr : 0 < r := by have := h'.1; omega
  have hc' : 0 < c' := by
    rcases Int.lt_or_le 0 c' with z | z
    · exact z
    · have := Int.mul_nonpos_of_nonneg_of_nonpos (Int.le_of_lt hg) z; omega
  have hr' : 0 < r' := by
    rcases Int.lt_or_le 0 r' with z | z
    · exact z
    · have := Int.mul_nonpos_of_nonneg_of_nonpos (Int.le_of_lt hg) z; omega
  have ha' : 0 < a' := by
    rcases Int.lt_or_le 0 a' with z | z
    · exact z
    · have := Int.mul_nonpos_of_nonneg_of_nonpos (Int.le_of_lt hD) z; omega
  have hp' : 0 < p' := by
    rcases Int.lt_or_le 0 p' with z | z
    · exact z
    · have := Int.mul_nonpos_of_nonneg_of_nonpos (Int.le_of_lt hD) z; omega
  have hD' : 0 < D' := by
    rcases Int.lt_or_le 0 D' with z | z
    · exact z
    · have := Int.mul_nonpos_of_nonneg_of_nonpos (Int.le_of_lt hG) z; omega
  have hW : 0 < a * p' := Int.mul_pos ha hp'
  have hU : 0 < D' * (c' * r' * g) := Int.mul_pos hD' (Int.mul_pos (Int.mul_pos hc' hr') hg)
  have eW : a * p' = a' * p := by rw [ea, ep]; grind
  obtain ⟨k, hk⟩ : ∃ k, R = (D' * (b * r') - a * (d' * s)) - k * (a * p') := ⟨(D' * (b * r') - a * (d' * s)) / (a * p'), by rw [hR, Int.emod_def]; grind⟩
  have okW : Ok (a * p') R (D' * (c' * r' * g)) := ⟨hU, by rw [hR]; exact Int.emod_nonneg _ (by omega), by rw [hR]; exact Int.emod_lt_of_pos _ hW⟩
  refine ⟨⟨okW, fun x y => ⟨?_, ?_⟩, ?_, ?_⟩, m * b + n * q - (m * b + n * q) / G * G, ?_, ?_⟩
  · rintro ⟨i, j, hx, hy⟩
    constructor
    · exact ⟨i * p' - j * (d' * s) - j * k * p', j * (D' * r'), by rw [hx, hk]; grind, by rw [hy, ec]; grind⟩
    · refine ⟨i * a' + j * (d' * t) - j * k * a', j * (D' * c'), ?_, by rw [hy, er]; grind⟩
      have key : D' * (b * r') - a * (d' * s) = p * (d' * t) + D' * c' * q := by
        have z1 : D' * (b * r' - q * c') = D * d' := by rw [ed, eD]; grind
        have z2 : D * d' - a * (d' * s) = p * (d' * t) := by
          have : D * d' * (s * a' + t * p') = D * d' := by rw [e2]; omega
          rw [ea, ep]
          grind
        grind
      rw [hx, hk, key, eW]
      grind
  · rintro ⟨⟨m1, k1, hx, hy⟩, m2, k2, hx2, hy2⟩
    have q1 : k1 * c' = k2 * r' := by
      have : g * (k1 * c') = g * (k2 * r') := ml1 (y := y) (by rw [← ec]; exact hy) (by rw [← er]; exact hy2)
      exact Int.eq_of_mul_eq_mul_left (by omega) this
    have j1 : k1 = r' * (m * k2 + n * k1) := by
      calc k1 = k1 * (m * c' + n * r') := by rw [e1]; omega
        _ = m * (k1 * c') + n * (k1 * r') := by grind
        _ = m * (k2 * r') + n * (k1 * r') := by rw [q1]
        _ = _ := by grind
    have j2 : k2 = c' * (m * k2 + n * k1) := by
      calc k2 = k2 * (m * c' + n * r') := by rw [e1]; omega
        _ = m * (k2 * c') + n * (k2 * r') := by grind
        _ = m * (k2 * c') + n * (k1 * c') := by rw [q1]
        _ = _ := by grind
    generalize m * k2 + n * k1 = j at j1 j2
    subst j1
    subst j2
    have q2 : j * (G * d') = D * (m2 * p' - m1 * a') := by
      rw [← ed]
      exact ml2 (x := x) (by rw [← ea]; exact hx) (by rw [← ep]; exact hx2)
    have q3 : j * d' = D' * (m2 * p' - m1 * a') := by
      have : G * (j * d') = G * (D' * (m2 * p' - m1 * a')) := ml3 (by rw [← eD]; exact q2)
      exact Int.eq_of_mul_eq_mul_left (by omega) this
    have q4 : j = D' * (j * u + v * (m2 * p' - m1 * a')) := ml4 q3 e3
    generalize j * u + v * (m2 * p' - m1 * a') = i at q4
    subst q4
    have q5 : i * d' = m2 * p' - m1 * a' := by
      have : D' * (i * d') = D' * (m2 * p' - m1 * a') := ml5 q3
      exact Int.eq_of_mul_eq_mul_left (by omega) this
    refine ⟨m1 * t + s * m2 + i * k, i, ?_, by rw [hy, ec]; exact ml8⟩
    rw [hx, hk]
    have q6 : m1 + s * (i * d') = p' * (m1 * t + s * m2) := by
      rw [q5]
      exact ml6 e2
    exact ml7 (by rw [q6])
  · rw [ep]
    exact Int.mul_le_mul_of_nonneg_left (by have := Int.mul_le_mul_of_nonneg_right (show (1 : Int) ≤ D by omega) (Int.le_of_lt hp'); omega) (Int.le_of_lt ha)
  · have hDa : D' ≤ a := by
      have e4 : a = D' * (G * a') := by rw [ea, eD]; grind
      have := Int.mul_le_mul_of_nonneg_left (show (1 : Int) ≤ G * a' from Int.mul_pos hG ha') (Int.le_of_lt hD')
      omega
    have h5 : c' * r' * g ≤ c * r := by
      rw [ec, er]
      have e5 : g * c' * (g * r') = g * (c' * r' * g) := by grind
      rw [e5]
      have h6 : 0 < c' * r' * g := Int.mul_pos (Int.mul_pos hc' hr') hg
      have := Int.mul_le_mul_of_nonneg_right (show (1 : Int) ≤ g by omega) (Int.le_of_lt h6)
      omega
    exact Int.mul_le_mul hDa h5 (Int.le_of_lt (Int.mul_pos (Int.mul_pos hc' hr') hg)) (Int.le_of_lt ha)
  · have e0 : m * b + n * q - (m * b + n * q) / G * G = (m * b + n * q) % G := by rw [Int.emod_def]; grind
    rw [e0]
    refine form_pos ?_ hG hg
    refine .of (fun x y z => ?_) (fun x y z => ?_)
    · -- each of the four in the net of (G, 0), (β, g)
      have inG : ∀ i : Int, Sp [(G, 0), (m * b + n * q, g)] (i * G) 0 := fun i => ((Sp.gen (u := G) (v := 0) (by simp)).smul i).cast rfl (by omega)
      have inB : ∀ i : Int, Sp [(G, 0), (m * b + n * q, g)] (i * (m * b + n * q)) (i * g) := fun i => (Sp.gen (u := m * b + n * q) (v := g) (by simp)).smul i
      simp only [List.mem_cons, List.not_mem_nil, or_false, Prod.mk.injEq] at z
      rcases z with ⟨rfl, rfl⟩ | ⟨rfl, rfl⟩ | ⟨rfl, rfl⟩ | ⟨rfl, rfl⟩
      · exact (inG (D' * a')).cast (by rw [ea, eD]; grind) rfl
      · refine ((inG (n * d')).sum (inB c')).cast ?_ (by rw [ec]; grind)
        have : x * (m * c' + n * r') = x := by rw [e1]; omega
        have z2 : n * (x * r' - q * c') = n * (G * d') := by rw [ed]
        grind
      · exact (inG (D' * p')).cast (by rw [ep, eD]; grind) rfl
      · refine ((inG (-m * d')).sum (inB r')).cast ?_ (by rw [er]; grind)
        have : x * (m * c' + n * r') = x := by rw [e1]; omega
        have z2 : m * (b * r' - x * c') = m * (G * d') := by rw [ed]
        grind
    · have g1 : Sp [(a, 0), (b, c), (p, 0), (q, r)] a 0 := .gen (by simp)
      have g2 : Sp [(a, 0), (b, c), (p, 0), (q, r)] b c := .gen (by simp)
      have g3 : Sp [(a, 0), (b, c), (p, 0), (q, r)] p 0 := .gen (by simp)
      have g4 : Sp [(a, 0), (b, c), (p, 0), (q, r)] q r := .gen (by simp)
      have gD : Sp [(a, 0), (b, c), (p, 0), (q, r)] D 0 := ((g1.smul s).sum (g3.smul t)).cast (by
        have : D * (s * a' + t * p') = D := by rw [e2]; omega
        rw [ea, ep]
        grind) (by omega)
      have gd : Sp [(a, 0), (b, c), (p, 0), (q, r)] (G * d') 0 := ((g2.smul r').sub (g4.smul c')).cast (by rw [← ed]; grind) (by rw [ec, er]; grind)
      simp only [List.mem_cons, List.not_mem_nil, or_false, Prod.mk.injEq] at z
      rcases z with ⟨rfl, rfl⟩ | ⟨rfl, rfl⟩
      · refine ((gD.smul u).sum (gd.smul v)).cast ?_ (by omega)
        have : x * (u * D' + v * d') = x := by rw [e3]; omega
        rw [eD]
        grind
      · refine ((g2.smul m).sum (g4.smul n)).cast rfl ?_
        have : y * (m * c' + n * r') = y := by rw [e1]; omega
        rw [ec, er]
        grind
  · have e5 : D' * G = D := by rw [eD]; grind
    calc a * p' * (D' * (c' * r' * g)) * (G * g) = a * (p' * (D' * G)) * ((g * c') * (g * r')) := by grind
      _ = a * c * (p * r) := by rw [e5, ← ec, ← er, ep]; grind
theorem meet_prog {a b c p q r s t g up f e D G rows W : Int} (h : Ok a b c) (h' : Ok p q r) (eg : g = (Int.gcd c r : Int)) (eup : up = c * r / g) (ef : f = b * (up / c)) (ee : e = q * (up / r)) (eD : D = (Int.gcd a p : Int)) (hs : D = s * a + t * p)
    (eG : G = (Int.gcd D (f - e) : Int)) (er : rows = D / G) (eW : W = a * p / D) :
    Meet a b c p q r W ((rows * f + a * ((rows * e - rows * f) / D * s)) % W) (rows * up) ∧ ∀ A B C, Form [(a, 0), (b, c), (p, 0), (q, r)] (some (A, B, C)) → W * (rows * up) * (A * C) = a * c * (p * r) := by
  have ha : 0 < a := by have := h.2; omega
  have hp : 0 < p := by have := h'.2; omega
  have hc : 0 < c := by have := h.1; omega
  have hr : 0 < r := by have := h'.1; omega
  obtain ⟨g0, c', r', m, n, rfl, hg, ec, er', e1⟩ := gcd_parts (r := r) hc
  rw [← eg] at hg ec er'
  obtain ⟨D0, a', p', _, _, rfl, hD, ea, ep, _⟩ := gcd_parts (r := p) ha
  rw [← eD] at hD ea ep
  have e2 : s * a' + t * p' = 1 := by
    have : D * (s * a' + t * p') = D * 1 := by
      calc D * (s * a' + t * p') = s * (D * a') + t * (D * p') := by grind
        _ = s * a + t * p := by rw [← ea, ← ep]
        _ = D * 1 := by rw [← hs]; omega
    exact Int.eq_of_mul_eq_mul_left (by omega) this
  have up1 : up = c' * r' * g := by
    rw [eup]
    have : c * r = g * (c' * r' * g) := by rw [ec, er']; grind
    rw [this, Int.mul_ediv_cancel_left _ (by omega)]
  have up2 : up / c = r' := by
    have : up = c * r' := by rw [up1, ec]; grind
    rw [this, Int.mul_ediv_cancel_left _ (by omega)]
  have up3 : up / r = c' := by
    have : up = r * c' := by rw [up1, er']; grind
    rw [this, Int.mul_ediv_cancel_left _ (by omega)]
  rw [up2] at ef
  rw [up3] at ee
  obtain ⟨G0, D', d', u, v, rfl, hG, eD2, ed, e3⟩ := gcd_parts (r := f - e) hD
  rw [← eG] at hG eD2 ed
  have erow : rows = D' := by rw [er, eD2, Int.mul_ediv_cancel_left _ (by omega)]
  have hW : W = a * p' := by
    rw [eW]
    have : a * p = D * (a * p') := by rw [ep]; grind
    rw [this, Int.mul_ediv_cancel_left _ (by omega)]
  have x : MP a b c p q r g c' r' m n D a' p' s t G D' d' u v := ⟨hg, ec, er', e1, hD, ea, ep, e2, hG, eD2, by rw [← ed, ef, ee], e3⟩
  have dv : (rows * e - rows * f) / D = -d' := by
    have : rows * e - rows * f = D * (-d') := by
      rw [erow]
      calc D' * e - D' * f = -(D' * (f - e)) := by grind
        _ = -(D' * (G * d')) := by rw [ed]
        _ = D * (-d') := by rw [eD2]; grind
    rw [this, Int.mul_ediv_cancel_left _ (by omega)]
  obtain ⟨z1, β, z2, z3⟩ := meet_of h h' x _ rfl
  rw [dv, hW, erow, up1]
  have e9 : D' * f + a * (-d' * s) = D' * (b * r') - a * (d' * s) := by rw [ef]; grind
  rw [e9]
  refine ⟨z1, fun A B C hF => ?_⟩
  have := form_uni hF z2
  simp only [Option.some.injEq, Prod.mk.injEq] at this
  obtain ⟨rfl, _, rfl⟩ := this
  exact z3
theorem meet_uni {a b c p q r W R U W' R' U' : Int} (h : Meet a b c p q r W R U) (h' : Meet a b c p q r W' R' U') : W = W' ∧ R = R' ∧ U = U' := net_eq h.1 h'.1 fun x y => (h.2.1 x y).trans (h'.2.1 x y).symm
theorem meet_size {a b c p q r W R U A B C : Int} (h : Ok a b c) (h' : Ok p q r) (hM : Meet a b c p q r W R U) (hF : Form [(a, 0), (b, c), (p, 0), (q, r)] (some (A, B, C))) : W * U * (A * C) = a * c * (p * r) := by
  obtain ⟨s, t, e⟩ := bez a p
  obtain ⟨z1, z2⟩ := meet_prog h h' rfl rfl rfl rfl rfl e rfl rfl rfl
  obtain ⟨e1, _, e2⟩ := meet_uni hM z1
  rw [e1, e2]
  exact z2 A B C hF
/-- Euclid's steps with factors -/
structure Bz (a p f0 f1 s0 s1 : Int) : Prop where
  f : ∃ t, f0 = f1 * a + t * p
  s : ∃ t, s0 = s1 * a + t * p
  g : Int.gcd f0 s0 = Int.gcd a p
  pos : 0 < f0
  nn : 0 ≤ s0
  sg : f1 * s1 ≤ 0
  sum : f0.natAbs * s1.natAbs + f1.natAbs * s0.natAbs = p.natAbs
  le : f1.natAbs ≤ p.natAbs
theorem Bz.start {a p : Int} (ha : 0 < a) (hp : 0 < p) : Bz a p a 1 p 0 := ⟨⟨0, by omega⟩, ⟨1, by omega⟩, rfl, ha, by omega, by omega, by simp, by simp; omega⟩
theorem Bz.step {a p f0 f1 s0 s1 : Int} (h : Bz a p f0 f1 s0 s1) (hs : 0 < s0) : Bz a p s0 s1 (f0 - f0 / s0 * s0) (f1 - f0 / s0 * s1) := by
  obtain ⟨⟨t, e1⟩, ⟨t', e2⟩, hg, hp, hn, sg, sm, le⟩ := h
  have hq : 0 ≤ f0 / s0 := Int.ediv_nonneg (by omega) (by omega)
  have e3 : f0 - f0 / s0 * s0 = f0 % s0 := by rw [Int.emod_def]; grind
  have hr := Int.emod_nonneg f0 (show s0 ≠ 0 by omega)
  have hr2 := Int.emod_lt_of_pos f0 hs
  have sq : 0 ≤ s1 * s1 := by
    rcases Int.le_total 0 s1 with z | z
    · exact Int.mul_nonneg z z
    · exact Int.mul_nonneg_of_nonpos_of_nonpos z z
  have abs : (f1 - f0 / s0 * s1).natAbs = f1.natAbs + (f0 / s0).natAbs * s1.natAbs := by
    rcases Int.le_total 0 s1 with z | z
    · have z2 : f1 ≤ 0 ∨ s1 = 0 := by
        rcases Int.lt_or_le 0 f1 with y | y
        · right
          rcases Int.lt_or_le 0 s1 with y' | y'
          · have := Int.mul_pos y y'; omega
          · omega
        · exact .inl y
      rcases z2 with z2 | z2
      · have : 0 ≤ f0 / s0 * s1 := Int.mul_nonneg hq z
        rw [← Int.natAbs_mul]
        omega
      · rw [z2]; simp
    · have z2 : 0 ≤ f1 ∨ s1 = 0 := by
        rcases Int.lt_or_le f1 0 with y | y
        · right
          rcases Int.lt_or_le s1 0 with y' | y'
          · have := Int.mul_pos_of_neg_of_neg y y'; omega
          · omega
        · exact .inl y
      rcases z2 with z2 | z2
      · have : f0 / s0 * s1 ≤ 0 := Int.mul_nonpos_of_nonneg_of_nonpos hq z
        rw [← Int.natAbs_mul]
        omega
      · rw [z2]; simp
  refine ⟨⟨t', e2⟩, ⟨t - f0 / s0 * t', ?_⟩, ?_, hs, by omega, ?_, ?_, ?_⟩
  · generalize f0 / s0 = k at *
    calc f0 - k * s0 = (f1 * a + t * p) - k * (s1 * a + t' * p) := by rw [← e1, ← e2]
      _ = _ := by grind
  · rw [e3, ← hg, ← fmod_gcd f0 s0, Int.fmod_eq_emod_of_nonneg _ (by omega)]
  · have : s1 * (f1 - f0 / s0 * s1) = f1 * s1 - f0 / s0 * (s1 * s1) := by grind
    rw [this]
    have := Int.mul_nonneg hq sq
    omega
  · rw [abs, ← sm]
    have e4 : f0.natAbs = (f0 / s0).natAbs * s0.natAbs + (f0 - f0 / s0 * s0).natAbs := by
      rw [← Int.natAbs_mul]
      have : 0 ≤ f0 / s0 * s0 := Int.mul_nonneg hq (by omega)
      omega
    rw [e4]
    grind
  · have h1 : 1 ≤ f0.natAbs := by omega
    have := Nat.mul_le_mul_right s1.natAbs h1
    omega
theorem Bz.fin {a p f0 f1 s1 : Int} (h : Bz a p f0 f1 0 s1) : f0 = (Int.gcd a p : Int) ∧ (∃ t, f0 = f1 * a + t * p) ∧ f1.natAbs ≤ p.natAbs := by
  refine ⟨?_, h.f, h.le⟩
  rw [← h.g]
  have := h.pos
  simp
  omega
end MN
namespace MN
/-- both spanning shifts of (a, b, c) belong to (p, q, r) -/
def inside (a b c p q r : Int) : Bool := decide (low p q r a 0 = (0, 0)) && decide (low p q r b c = (0, 0))
theorem inside_iff {a b c p q r : Int} (h : Ok p q r) : inside a b c p q r = true ↔ ∀ x y, InN a b c x y → InN p q r x y := by
  have hp : 0 < p := by have := h.2; omega
  have hr : 0 < r := by have := h.1; omega
  unfold inside
  rw [Bool.and_eq_true, decide_eq_true_eq, decide_eq_true_eq, low_zero hp hr, low_zero hp hr]
  constructor
  · rintro ⟨h1, h2⟩ x y ⟨m, k, rfl, rfl⟩
    have := inN_add (inN_mul m h1) (inN_mul k h2)
    rw [Int.mul_zero, Int.zero_add] at this
    exact this
  · intro h
    exact ⟨h a 0 ⟨1, 0, by omega, by omega⟩, h b c ⟨0, 1, by omega, by omega⟩⟩
theorem bool_ext {x y : Bool} (h : x = true ↔ y = true) : x = y := by cases x <;> cases y <;> simp_all
theorem meet_first {a b c p q r W R U : Int} (h : Ok a b c) (h' : Ok p q r) (m : Meet a b c p q r W R U) : decide (W = a ∧ R = b ∧ U = c) = inside a b c p q r := by
  refine bool_ext ?_
  rw [decide_eq_true_eq, inside_iff h']
  constructor
  · rintro ⟨rfl, rfl, rfl⟩ x y z
    exact ((m.2.1 x y).mp z).2
  · intro z
    exact net_eq m.1 h fun x y => ⟨fun w => ((m.2.1 x y).mp w).1, fun w => (m.2.1 x y).mpr ⟨w, z x y w⟩⟩
theorem join_in {a b c p q r A B C : Int} (f : Form [(a, 0), (b, c), (p, 0), (q, r)] (some (A, B, C))) : (∀ x y, InN a b c x y → InN A B C x y) ∧ (∀ x y, InN p q r x y → InN A B C x y) := by
  refine ⟨fun x y z => (f.2 x y).mpr ?_, fun x y z => (f.2 x y).mpr ?_⟩
  · refine Sp.le (fun u v m => ?_) (inN_sp.mp z)
    refine .gen ?_
    simp only [List.mem_cons, List.not_mem_nil, or_false] at m ⊢
    rcases m with m | m
    · exact .inl m
    · exact .inr (.inl m)
  · refine Sp.le (fun u v m => ?_) (inN_sp.mp z)
    refine .gen ?_
    simp only [List.mem_cons, List.not_mem_nil, or_false] at m ⊢
    rcases m with m | m
    · exact .inr (.inr (.inl m))
    · exact .inr (.inr (.inr m))
/-- the least net with both -/
theorem join_le {a b c p q r A B C a' b' c' : Int} (f : Form [(a, 0), (b, c), (p, 0), (q, r)] (some (A, B, C))) (h1 : ∀ x y, InN a b c x y → InN a' b' c' x y) (h2 : ∀ x y, InN p q r x y → InN a' b' c' x y) : ∀ x y, InN A B C x y → InN a' b' c' x y := fun x y z => by
  have := (f.2 x y).mp z
  refine inN_sp.mpr (Sp.le (fun u v m => inN_sp.mp ?_) this)
  simp only [List.mem_cons, List.not_mem_nil, or_false, Prod.mk.injEq] at m
  rcases m with ⟨rfl, rfl⟩ | ⟨rfl, rfl⟩ | ⟨rfl, rfl⟩ | ⟨rfl, rfl⟩
  · exact h1 _ _ ⟨1, 0, by omega, by omega⟩
  · exact h1 _ _ ⟨0, 1, by omega, by omega⟩
  · exact h2 _ _ ⟨1, 0, by omega, by omega⟩
  · exact h2 _ _ ⟨0, 1, by omega, by omega⟩
theorem join_second {a b c p q r A B C : Int} (h' : Ok p q r) (f : Form [(a, 0), (b, c), (p, 0), (q, r)] (some (A, B, C))) : decide (A = p ∧ B = q ∧ C = r) = inside a b c p q r := by
  refine bool_ext ?_
  rw [decide_eq_true_eq, inside_iff h']
  constructor
  · rintro ⟨rfl, rfl, rfl⟩
    exact (join_in f).1
  · intro z
    exact net_eq f.1 h' fun x y => ⟨join_le f z (fun _ _ w => w) x y, (join_in f).2 x y⟩
theorem join_not_none {a b c : Int} {S : List (Int × Int)} (h : Ok a b c) : ¬ Form ((a, 0) :: (b, c) :: S) none := not_none h (.gen (by simp)) (.gen (by simp))
theorem join_ex {a b c p q r : Int} (h : Ok a b c) (h' : Ok p q r) : ∃ A B C, Form [(a, 0), (b, c), (p, 0), (q, r)] (some (A, B, C)) := by
  obtain ⟨s, t, e⟩ := bez a p
  have ha : 0 < a := by have := h.2; omega
  have hc : 0 < c := by have := h.1; omega
  obtain ⟨g, c', r', m, n, _, hg, ec, er', e1⟩ := gcd_parts (r := r) hc
  obtain ⟨D, a', p', s, t, _, hD, ea, ep, e2⟩ := gcd_parts (r := p) ha
  obtain ⟨G, D', d', u, v, _, hG, eD2, ed, e3⟩ := gcd_parts (r := b * r' - q * c') hD
  obtain ⟨_, β, z, _⟩ := meet_of h h' (⟨hg, ec, er', e1, hD, ea, ep, e2, hG, eD2, ed, e3⟩ : MP a b c p q r g c' r' m n D a' p' s t G D' d' u v) _ rfl
  exact ⟨_, _, _, z⟩
end MN
namespace Y
open PySem PySem.Spec PyProof.Rows L2 Z
abbrev n3 (a b c : Int) : D := .tup [.int a, .int b, .int c]
def n3D (n : Int × Int × Int) : D := n3 n.1 n.2.1 n.2.2
def R_check_number_n : RdF := ar3 fun v lo hi Q _ => match v, lo, hi with
  | .int i, .int l, .non => l ≤ i ∧ Q .non
  | .int i, .int l, .int h => (l ≤ i ∧ i ≤ h) ∧ Q .non
  | _, _, _ => False
def R_bezout : RdF := ar2 fun x y Q _ => match x, y with
  | .int a, .int p => (0 < a ∧ 0 < p ∧ Sz 1000 a ∧ Sz 1000 p) ∧ ∀ s t : Int, ((Int.gcd a p : Nat) : Int) = s * a + t * p → s.natAbs ≤ p.natAbs → Q (dPl ((Int.gcd a p : Nat) : Int) s)
  | _, _ => False
/-- two nets of moderate numbers -/
def okN (n : Nat) (a b c : Int) : Prop := MN.Ok a b c ∧ Sz n a ∧ Sz n c
theorem okN.mono {n m : Nat} {a b c : Int} (h : okN n a b c) (z : n ≤ m) : okN m a b c := ⟨h.1, h.2.1.mono z, h.2.2.mono z⟩
theorem okN.b {n : Nat} {a b c : Int} (h : okN n a b c) : Sz n b := sz_le h.1.2.1 (Int.le_of_lt h.1.2.2) h.2.1
def R_common_numbers : RdF := ar2 fun x y Q _ => ∃ a b c p q r : Int, x = n3 a b c ∧ y = n3 p q r ∧ (okN 900 a b c ∧ okN 900 p q r) ∧ ∀ W R U, MN.Meet a b c p q r W R U → Q (n3 W R U)
def R_Net_UandU : RdF := ar2 fun x y Q _ => ∃ a b c p q r : Int, x = dNet a b c ∧ y = dNet p q r ∧ (okN 900 a b c ∧ okN 900 p q r) ∧ ∀ W R U, MN.Meet a b c p q r W R U → Q (dNet W R U)
def R_Net_UorU : RdF := ar2 fun x y Q _ => ∃ a b c p q r : Int, x = dNet a b c ∧ y = dNet p q r ∧ (okN 600 a b c ∧ okN 600 p q r) ∧ ∀ A B C, MN.Form [(a, 0), (b, c), (p, 0), (q, r)] (some (A, B, C)) → Q (dNet A B C)
def R_Net_is_within : RdF := ar2 fun x y Q _ => ∃ a b c p q r : Int, x = dNet a b c ∧ y = dNet p q r ∧ (okN 4000 p q r ∧ Sz 4000 c) ∧ Q (.bl (MN.inside a b c p q r))
def R_Net_scaled : RdF := ar2 fun x y Q _ => ∃ a b c f : Int, x = dNet a b c ∧ y = .int f ∧ (okN 1000 a b c ∧ 1 ≤ f ∧ Sz 1000 f) ∧ Q (dNet (a * f) (b * f) (c * f))
def R__law_low : RdF := ar2 fun n p Q _ => ∃ a b c x y : Int, n = n3 a b c ∧ p = dPl x y ∧ (okN 4000 a b c ∧ Sz 4000 y) ∧ Q (dPl (MN.low a b c x y).1 (MN.low a b c x y).2)
def R__law_rows : RdF := ar1 fun n Q _ => ∃ a b c : Int, n = n3 a b c ∧ Q (.lst [dPl a 0, dPl b c])
theorem meet_sz {n : Nat} {a b c p q r W R U : Int} (h : okN n a b c) (h' : okN n p q r) (m : MN.Meet a b c p q r W R U) : okN (3 * n) W R U := by
  obtain ⟨o, _, l1, l2⟩ := m
  obtain ⟨⟨o1, o2, o3⟩, sa, sc⟩ := h
  obtain ⟨⟨p1, p2, p3⟩, sp, sr⟩ := h'
  have s1 : Sz (n + n) (a * p) := sz_mul sa sp
  have s2 : Sz (n + (n + n)) (a * (c * r)) := sz_mul sa (sz_mul sc sr)
  exact ⟨o, (sz_le (by have := o.2; omega) l1 s1).mono (by omega), (sz_le (by have := o.1; omega) l2 s2).mono (by omega)⟩
theorem join_sz {n : Nat} {a b c p q r A B C : Int} (h : okN n a b c) (f : MN.Form [(a, 0), (b, c), (p, 0), (q, r)] (some (A, B, C))) : okN n A B C := by
  obtain ⟨⟨o1, o2, o3⟩, sa, sc⟩ := h
  obtain ⟨d1, d2⟩ := MN.net_le ⟨o1, o2, o3⟩ f.1 (MN.join_in f).1
  have l1 := Int.le_of_dvd (by omega) d1
  have l2 := Int.le_of_dvd (by omega) d2
  exact ⟨f.1, sz_le (by have := f.1.2; omega) l1 sa, sz_le (by have := f.1.1; omega) l2 sc⟩
theorem rngD_get {lo : Int} {n i : Nat} {d : D} (h : (rngD lo n)[i]? = some d) : ∃ v : Int, d = .int v ∧ lo ≤ v ∧ v < lo + n := by
  unfold rngD at h
  obtain ⟨j, h1, rfl⟩ := map_get h
  have hj : j < n := by
    have := List.mem_of_getElem? h1
    exact List.mem_range.mp this
  exact ⟨_, rfl, by omega, by omega⟩
theorem rngC_get {lo c : Int} {n i : Nat} {d : D} (h : (rngC lo c n)[i]? = some d) : ∃ j : Nat, j < n ∧ d = .int (lo + (j : Nat) * c) := by
  unfold rngC at h
  obtain ⟨j, h1, rfl⟩ := map_get h
  exact ⟨j, List.mem_range.mp (List.mem_of_getElem? h1), rfl⟩
/-! ### k04 -/
def R__law_three : RdF := ar1 fun t Q _ => match t with
  | .tape => ∀ l m n : Int × Int × Int, (∀ x ∈ [l, m, n], okN 20 x.1 x.2.1 x.2.2) → Q (.lst [n3D l, n3D m, n3D n])
  | _ => False
def R__law_pair_right : RdF := ar2 fun x y Q _ => ∃ a b c p q r : Int, x = n3 a b c ∧ y = n3 p q r ∧ (okN 60 a b c ∧ okN 60 p q r) ∧ Q (.bl true)
def R__law_great_net : RdF := ar1 fun t Q _ => match t with
  | .tape => ∀ a b c, okN 50 a b c → Q (n3 a b c)
  | _ => False
def R__law_great_right : RdF := ar1 fun t Q _ => match t with
  | .tape => Q (.bl true)
  | _ => False
end Y
namespace MN
/-! ### turns and mirror images -/
abbrev Mat := Int × Int × Int × Int
def turn (M : Mat) (p : Int × Int) : Int × Int := (M.1 * p.1 + M.2.1 * p.2, M.2.2.1 * p.1 + M.2.2.2 * p.2)
def tr (M : Mat) : Mat := (M.1, M.2.2.1, M.2.1, M.2.2.2)
def Orth (M : Mat) : Prop := M.1 * M.1 + M.2.2.1 * M.2.2.1 = 1 ∧ M.2.1 * M.2.1 + M.2.2.2 * M.2.2.2 = 1 ∧ M.1 * M.2.1 + M.2.2.1 * M.2.2.2 = 0 ∧ M.1 * M.1 + M.2.1 * M.2.1 = 1 ∧ M.2.2.1 * M.2.2.1 + M.2.2.2 * M.2.2.2 = 1 ∧ M.1 * M.2.2.1 + M.2.1 * M.2.2.2 = 0
instance (M : Mat) : Decidable (Orth M) := by unfold Orth; infer_instance
theorem orth_tr {M : Mat} (h : Orth M) : Orth (tr M) := by
  obtain ⟨p, q, r, s⟩ := M
  obtain ⟨h1, h2, h3, h4, h5, h6⟩ := h
  exact ⟨h4, h5, h6, h1, h2, h3⟩
theorem turn_tr {M : Mat} (h : Orth M) (u : Int × Int) : turn (tr M) (turn M u) = u := by
  obtain ⟨p, q, r, s⟩ := M
  obtain ⟨x, y⟩ := u
  obtain ⟨h1, h2, h3, h4, h5, h6⟩ := h
  simp only [turn, tr] at *
  refine Prod.ext ?_ ?_ <;> simp only <;> grind
theorem turn_tr' {M : Mat} (h : Orth M) (u : Int × Int) : turn M (turn (tr M) u) = u := turn_tr (orth_tr h) u
theorem sp_turn (M : Mat) {S : List (Int × Int)} {x y : Int} (h : Sp S x y) : Sp (S.map (turn M)) (turn M (x, y)).1 (turn M (x, y)).2 := by
  induction h with
  | zero => simp only [turn, Int.mul_zero, Int.add_zero]; exact .zero
  | @add u v x y n mem _ ih =>
    exact (Sp.sum (Sp.smul n (Sp.gen (S := S.map (turn M)) (u := (turn M (u, v)).1) (v := (turn M (u, v)).2) (List.mem_map.mpr ⟨(u, v), mem, rfl⟩))) ih).cast (by simp only [turn]; grind) (by simp only [turn]; grind)
def Img (M : Mat) (a b c a' b' c' : Int) : Prop := Ok a' b' c' ∧ (∀ x y, InN a' b' c' (turn M (x, y)).1 (turn M (x, y)).2 ↔ InN a b c x y) ∧ a' * c' = a * c
theorem img_tr {M : Mat} (h : Orth M) {a b c a' b' c' : Int} (i : Img M a b c a' b' c') (x y : Int) : InN a' b' c' x y ↔ InN a b c (turn (tr M) (x, y)).1 (turn (tr M) (x, y)).2 := by
  have := i.2.1 (turn (tr M) (x, y)).1 (turn (tr M) (x, y)).2
  have e : turn M ((turn (tr M) (x, y)).1, (turn (tr M) (x, y)).2) = (x, y) := turn_tr' h (x, y)
  rw [e] at this
  exact this
theorem img_uni {M : Mat} (h : Orth M) {a b c a' b' c' p q r : Int} (i : Img M a b c a' b' c') (j : Img M a b c p q r) : a' = p ∧ b' = q ∧ c' = r := net_eq i.1 j.1 fun x y => (img_tr h i x y).trans (img_tr h j x y).symm
theorem inN_turn {M : Mat} (h : Orth M) {a b c x y : Int} : Sp [turn M (a, 0), turn M (b, c)] (turn M (x, y)).1 (turn M (x, y)).2 ↔ InN a b c x y := by
  constructor
  · intro z
    obtain ⟨m, k, e1, e2⟩ := sp_two z
    have e3 : turn M (x, y) = turn M (m * a + k * b, k * c) := by
      refine Prod.ext ?_ ?_
      · rw [e1]; simp only [turn]; grind
      · rw [e2]; simp only [turn]; grind
    have e4 := congrArg (turn (tr M)) e3
    rw [turn_tr h, turn_tr h] at e4
    exact ⟨m, k, congrArg (·.1) e4, congrArg (·.2) e4⟩
  · intro z
    exact sp_turn M (inN_sp.mp z)
theorem det_turn {M : Mat} (h : Orth M) (p q : Int × Int) : det (turn M p) (turn M q) = det p q ∨ det (turn M p) (turn M q) = - det p q := by
  obtain ⟨a, b, c, d⟩ := M
  obtain ⟨h1, h2, h3, h4, h5, h6⟩ := h
  obtain ⟨x, y⟩ := p
  obtain ⟨u, v⟩ := q
  simp only [turn, det] at *
  have e : (a * d - b * c) * (a * d - b * c) = 1 := by grind
  have e2 : a * d - b * c = 1 ∨ a * d - b * c = -1 := by
    generalize a * d - b * c = t at e
    have e' : t * t - 1 = 0 := by omega
    have e'' : (t - 1) * (t + 1) = 0 := by grind
    rcases Int.mul_eq_zero.mp e'' with h | h
    · exact .inl (by omega)
    · exact .inr (by omega)
  rcases e2 with e2 | e2
  · exact .inl (by grind)
  · exact .inr (by grind)
theorem img_form {M : Mat} (h : Orth M) {a b c a' b' c' : Int} (o : Ok a b c) (f : Form [turn M (a, 0), turn M (b, c)] (some (a', b', c'))) : Img M a b c a' b' c' := by
  have hi : ∀ x y, InN a' b' c' (turn M (x, y)).1 (turn M (x, y)).2 ↔ InN a b c x y := fun x y => (f.2 _ _).trans (inN_turn h)
  refine ⟨f.1, hi, ?_⟩
  have ha : 0 < a := by have := o.2; omega
  have hc : 0 < c := by have := o.1; omega
  have ha' : 0 < a' := by have := f.1.2; omega
  have hc' : 0 < c' := by have := f.1.1; omega
  have d1 : a' * c' ∣ a * c := by
    have z := det_dvd ((hi a 0).mpr ⟨1, 0, by omega, by omega⟩) ((hi b c).mpr ⟨0, 1, by omega, by omega⟩)
    have z' : a' * c' ∣ det (turn M (a, 0)) (turn M (b, c)) := z
    rcases det_turn h (a, 0) (b, c) with e | e
    · rw [e] at z'
      have : det (a, 0) (b, c) = a * c := by simp only [det]; omega
      rwa [this] at z'
    · rw [e] at z'
      have : det (a, 0) (b, c) = a * c := by simp only [det]; omega
      rw [this] at z'
      exact Int.dvd_neg.mp z'
  have d2 : a * c ∣ a' * c' := by
    have i1 : InN a b c (turn (tr M) (a', 0)).1 (turn (tr M) (a', 0)).2 := by
      have := hi (turn (tr M) (a', 0)).1 (turn (tr M) (a', 0)).2
      have e : turn M ((turn (tr M) (a', 0)).1, (turn (tr M) (a', 0)).2) = (a', 0) := turn_tr' h _
      rw [e] at this
      exact this.mp ⟨1, 0, by omega, by omega⟩
    have i2 : InN a b c (turn (tr M) (b', c')).1 (turn (tr M) (b', c')).2 := by
      have := hi (turn (tr M) (b', c')).1 (turn (tr M) (b', c')).2
      have e : turn M ((turn (tr M) (b', c')).1, (turn (tr M) (b', c')).2) = (b', c') := turn_tr' h _
      rw [e] at this
      exact this.mp ⟨0, 1, by omega, by omega⟩
    have z' : a * c ∣ det (turn (tr M) (a', 0)) (turn (tr M) (b', c')) := det_dvd i1 i2
    have : det (a', 0) (b', c') = a' * c' := by simp only [det]; omega
    rcases det_turn (orth_tr h) (a', 0) (b', c') with e | e
    · rw [e, this] at z'
      exact z'
    · rw [e, this] at z'
      exact Int.dvd_neg.mp z'
  exact Int.dvd_antisymm (Int.le_of_lt (Int.mul_pos ha' hc')) (Int.le_of_lt (Int.mul_pos ha hc)) d1 d2
theorem turn_not_none {M : Mat} (h : Orth M) {a b c : Int} (o : Ok a b c) : ¬ Form [turn M (a, 0), turn M (b, c)] none := by
  have ha : 0 < a := by have := o.2; omega
  have hc : 0 < c := by have := o.1; omega
  have hN : 0 < a * c := Int.mul_pos ha hc
  have all : ∀ u v : Int, Sp [turn M (a, 0), turn M (b, c)] (a * c * u) (a * c * v) := fun u v => by
    have e : turn M (turn (tr M) (a * c * u, a * c * v)) = (a * c * u, a * c * v) := turn_tr' h _
    have z : InN a b c (turn (tr M) (a * c * u, a * c * v)).1 (turn (tr M) (a * c * u, a * c * v)).2 := by
      refine ⟨c * (turn (tr M) (u, v)).1 - b * (turn (tr M) (u, v)).2, a * (turn (tr M) (u, v)).2, ?_, ?_⟩ <;> simp only [turn] <;> grind
    have := (inN_turn h).mpr z
    have e' : turn M ((turn (tr M) (a * c * u, a * c * v)).1, (turn (tr M) (a * c * u, a * c * v)).2) = (a * c * u, a * c * v) := e
    rw [e'] at this
    exact this
  exact not_none (a := a * c) (b := 0) (c := a * c) ⟨by omega, by omega, hN⟩ ((all 1 0).cast (by omega) (by omega)) ((all 0 1).cast (by omega) (by omega))
/-! ### what is carried along -/
section
variable {M M' : Mat} {a b c a' b' c' p q r p' q' r' : Int}
theorem img_meet (h : Orth M) {W R U W' R' U' W2 R2 U2 : Int} (i : Img M a b c a' b' c') (j : Img M p q r p' q' r') (m : Meet a b c p q r W R U) (k : Img M W R U W' R' U') (m2 : Meet a' b' c' p' q' r' W2 R2 U2) : W' = W2 ∧ R' = R2 ∧ U' = U2 := by
  refine net_eq k.1 m2.1 fun x y => ?_
  rw [img_tr h k, m.2.1, m2.2.1, img_tr h i, img_tr h j]
theorem img_join (h : Orth M) {A B C A' B' C' A2 B2 C2 : Int} (i : Img M a b c a' b' c') (j : Img M p q r p' q' r') (f : Form [(a, 0), (b, c), (p, 0), (q, r)] (some (A, B, C))) (k : Img M A B C A' B' C') (f2 : Form [(a', 0), (b', c'), (p', 0), (q', r')] (some (A2, B2, C2))) : A' = A2 ∧ B' = B2 ∧ C' = C2 := by
  have sub1 : ∀ x y, InN a b c x y → InN A B C x y := fun x y z => (f.2 x y).mpr (Sp.le (fun u v m => .gen (by simp only [List.mem_cons, List.not_mem_nil, or_false] at m ⊢; rcases m with m | m; exact .inl m; exact .inr (.inl m))) (inN_sp.mp z))
  have sub2 : ∀ x y, InN p q r x y → InN A B C x y := fun x y z => (f.2 x y).mpr (Sp.le (fun u v m => .gen (by simp only [List.mem_cons, List.not_mem_nil, or_false] at m ⊢; rcases m with m | m; exact .inr (.inr (.inl m)); exact .inr (.inr (.inr m)))) (inN_sp.mp z))
  refine net_eq k.1 f2.1 fun x y => ⟨fun z => ?_, fun z => ?_⟩
  · rw [img_tr h k, f.2] at z
    have z2 := sp_turn M z
    have e : turn M ((turn (tr M) (x, y)).1, (turn (tr M) (x, y)).2) = (x, y) := turn_tr' h _
    rw [e] at z2
    refine inN_sp.mpr (Sp.le (fun u v m => ?_) z2)
    refine inN_sp.mp ?_
    obtain ⟨t, mt, et⟩ := List.mem_map.mp m
    have g1 : ∀ x y, InN a' b' c' x y → InN A2 B2 C2 x y := fun x y z => (f2.2 x y).mpr (Sp.le (fun u v m => .gen (by simp only [List.mem_cons, List.not_mem_nil, or_false] at m ⊢; rcases m with m | m; exact .inl m; exact .inr (.inl m))) (inN_sp.mp z))
    have g2 : ∀ x y, InN p' q' r' x y → InN A2 B2 C2 x y := fun x y z => (f2.2 x y).mpr (Sp.le (fun u v m => .gen (by simp only [List.mem_cons, List.not_mem_nil, or_false] at m ⊢; rcases m with m | m; exact .inr (.inr (.inl m)); exact .inr (.inr (.inr m)))) (inN_sp.mp z))
    have eu : u = (turn M t).1 := (congrArg (·.1) et).symm
    have ev : v = (turn M t).2 := (congrArg (·.2) et).symm
    rw [eu, ev]
    simp only [List.mem_cons, List.not_mem_nil, or_false] at mt
    rcases mt with rfl | rfl | rfl | rfl
    · exact g1 _ _ ((i.2.1 _ _).mpr ⟨1, 0, by omega, by omega⟩)
    · exact g1 _ _ ((i.2.1 _ _).mpr ⟨0, 1, by omega, by omega⟩)
    · exact g2 _ _ ((j.2.1 _ _).mpr ⟨1, 0, by omega, by omega⟩)
    · exact g2 _ _ ((j.2.1 _ _).mpr ⟨0, 1, by omega, by omega⟩)
  · rw [f2.2] at z
    refine inN_sp.mpr (Sp.le (fun u v m => inN_sp.mp ?_) z)
    have t1 : ∀ x y, InN a' b' c' x y → InN A' B' C' x y := fun x y z => (img_tr h k x y).mpr (sub1 _ _ ((img_tr h i x y).mp z))
    have t2 : ∀ x y, InN p' q' r' x y → InN A' B' C' x y := fun x y z => (img_tr h k x y).mpr (sub2 _ _ ((img_tr h j x y).mp z))
    simp only [List.mem_cons, List.not_mem_nil, or_false, Prod.mk.injEq] at m
    rcases m with ⟨rfl, rfl⟩ | ⟨rfl, rfl⟩ | ⟨rfl, rfl⟩ | ⟨rfl, rfl⟩
    · exact t1 _ _ ⟨1, 0, by omega, by omega⟩
    · exact t1 _ _ ⟨0, 1, by omega, by omega⟩
    · exact t2 _ _ ⟨1, 0, by omega, by omega⟩
    · exact t2 _ _ ⟨0, 1, by omega, by omega⟩
/-- one motion behind another -/
def comp (M M' : Mat) : Mat := (M'.1 * M.1 + M'.2.1 * M.2.2.1, M'.1 * M.2.1 + M'.2.1 * M.2.2.2, M'.2.2.1 * M.1 + M'.2.2.2 * M.2.2.1, M'.2.2.1 * M.2.1 + M'.2.2.2 * M.2.2.2)
theorem turn_comp (M M' : Mat) (u : Int × Int) : turn (comp M M') u = turn M' (turn M u) := by
  refine Prod.ext ?_ ?_ <;> simp only [turn, comp] <;> grind
theorem img_comp {W R U W' R' U' : Int} (h : Orth M) (h' : Orth M') (h2 : Orth (comp M M')) (i : Img M a b c a' b' c') (j : Img M' a' b' c' W R U) (k : Img (comp M M') a b c W' R' U') : W = W' ∧ R = R' ∧ U = U' := by
  refine net_eq j.1 k.1 fun x y => ?_
  have key : ∀ u : Int × Int, InN W R U (turn (comp M M') u).1 (turn (comp M M') u).2 ↔ InN W' R' U' (turn (comp M M') u).1 (turn (comp M M') u).2 := fun u => by
    rw [k.2.1 u.1 u.2, turn_comp]
    exact (j.2.1 _ _).trans (i.2.1 _ _)
  have := key (turn (tr (comp M M')) (x, y))
  rw [turn_tr' h2] at this
  exact this
theorem img_back {W R U : Int} (h : Orth M) (o : Ok a b c) (i : Img M a b c a' b' c') (j : Img (tr M) a' b' c' W R U) : W = a ∧ R = b ∧ U = c := by
  refine net_eq j.1 o fun x y => ?_
  have := j.2.1 (turn M (x, y)).1 (turn M (x, y)).2
  have e : turn (tr M) ((turn M (x, y)).1, (turn M (x, y)).2) = (x, y) := turn_tr h _
  rw [e] at this
  exact this.trans (i.2.1 x y)
theorem img_whole (h : Orth M) (i : Img M 1 0 1 a b c) : a = 1 ∧ b = 0 ∧ c = 1 := by
  refine net_eq i.1 ⟨by decide, by decide, by decide⟩ fun x y => ?_
  rw [img_tr h i]
  exact ⟨fun _ => ⟨x, y, by omega, by omega⟩, fun _ => ⟨(turn (tr M) (x, y)).1, (turn (tr M) (x, y)).2, by omega, by omega⟩⟩
theorem img_pos (i : Img M a b c a' b' c') : a' ≤ a * c ∧ c' ≤ a * c := by
  obtain ⟨⟨o1, o2, o3⟩, _, e⟩ := i
  have l1 : a' * 1 ≤ a' * c' := Int.mul_le_mul_of_nonneg_left o1 (by omega)
  have l2 : 1 * c' ≤ a' * c' := Int.mul_le_mul_of_nonneg_right (by omega) (by omega)
  omega
end
end MN
namespace Y
open PySem PySem.Spec PyProof.Rows L2 Z
open MN (Mat turn tr Orth comp Img)
/-! ### kinds of motions -/
def matL : List (Str × Mat) := [("none", (1, 0, 0, 1)), ("left", (0, -1, 1, 0)), ("half", (-1, 0, 0, -1)), ("right", (0, 1, -1, 0)), ("flip", (1, 0, 0, -1)), ("mirror", (-1, 0, 0, 1)), ("swap", (0, 1, 1, 0)), ("cross", (0, -1, -1, 0))]
def mat (k : Str) : Option Mat := matL.lookup k
def matD (M : Mat) : D := .tup [.int M.1, .int M.2.1, .int M.2.2.1, .int M.2.2.2]
def tabM : List (Str × D) := matL.map fun q => (q.1, matD q.2)
theorem lookup_mem {α β : Type} [BEq α] [LawfulBEq α] {k : α} {v : β} : ∀ {l : List (α × β)}, l.lookup k = some v → (k, v) ∈ l
  | [], h => by cases h
  | (a, b) :: l, h => by
    rw [List.lookup_cons] at h
    cases e : k == a with
    | true =>
      rw [e] at h
      cases h
      rw [beq_iff_eq.mp e]
      exact List.mem_cons_self
    | false =>
      rw [e] at h
      exact List.mem_cons_of_mem _ (lookup_mem h)
theorem lookup_map {α β γ : Type} [BEq α] {f : β → γ} {k : α} : ∀ {l : List (α × β)}, (l.map fun q => (q.1, f q.2)).lookup k = (l.lookup k).map f
  | [] => rfl
  | (a, b) :: l => by
    rw [List.map_cons, List.lookup_cons, List.lookup_cons]
    cases k == a with
    | true => rfl
    | false => exact lookup_map
theorem mat_mem {k : Str} {M : Mat} (h : mat k = some M) : (k, M) ∈ matL := lookup_mem h
theorem tabM_look {k : Str} {M : Mat} (h : mat k = some M) : tabM.lookup k = some (matD M) := by
  unfold tabM
  rw [lookup_map]
  unfold mat at h
  rw [h]
  rfl
theorem mat_orth {k : Str} {M : Mat} (h : mat k = some M) : Orth M := (show ∀ q ∈ matL, Orth q.2 by decide) _ (mat_mem h)
theorem mat_small {k : Str} {M : Mat} (h : mat k = some M) : (M.1.natAbs ≤ 1 ∧ M.2.1.natAbs ≤ 1) ∧ M.2.2.1.natAbs ≤ 1 ∧ M.2.2.2.natAbs ≤ 1 := (show ∀ q ∈ matL, (q.2.1.natAbs ≤ 1 ∧ q.2.2.1.natAbs ≤ 1) ∧ q.2.2.2.1.natAbs ≤ 1 ∧ q.2.2.2.2.natAbs ≤ 1 by decide) _ (mat_mem h)
theorem mat_comp {k l : Str} {M N : Mat} (h : mat k = some M) (h' : mat l = some N) : ∃ u, (u, comp M N) ∈ matL := by
  have := (show ∀ p ∈ matL, ∀ q ∈ matL, (matL.any fun r => decide (r.2 = comp p.2 q.2)) = true by decide) _ (mat_mem h) _ (mat_mem h')
  obtain ⟨r, h1, h2⟩ := List.any_eq_true.mp this
  have e := of_decide_eq_true h2
  exact ⟨r.1, by rw [← e]; exact h1⟩
theorem mat_of_mem {k : Str} {M : Mat} (h : (k, M) ∈ matL) : mat k = some M := by
  unfold matL at h
  simp only [List.mem_cons, List.not_mem_nil, or_false, Prod.mk.injEq] at h
  rcases h with ⟨rfl, rfl⟩ | ⟨rfl, rfl⟩ | ⟨rfl, rfl⟩ | ⟨rfl, rfl⟩ | ⟨rfl, rfl⟩ | ⟨rfl, rfl⟩ | ⟨rfl, rfl⟩ | ⟨rfl, rfl⟩ <;> decide +kernel
theorem mat_cases {k : Str} {M : Mat} (h : mat k = some M) : (k = "none" ∧ M = (1, 0, 0, 1)) ∨ (k = "left" ∧ M = (0, -1, 1, 0)) ∨ (k = "half" ∧ M = (-1, 0, 0, -1)) ∨ (k = "right" ∧ M = (0, 1, -1, 0)) ∨ (k = "flip" ∧ M = (1, 0, 0, -1)) ∨ (k = "mirror" ∧ M = (-1, 0, 0, 1)) ∨ (k = "swap" ∧ M = (0, 1, 1, 0)) ∨ (k = "cross" ∧ M = (0, -1, -1, 0)) := by
  have h := mat_mem h
  unfold matL at h
  simpa only [List.mem_cons, List.not_mem_nil, or_false, Prod.mk.injEq] using h
/-- the kind of the way back -/
def backL : List (Str × D) := [("left", .str "right"), ("right", .str "left")]
theorem mat_back {k : Str} {M : Mat} (h : mat k = some M) : ∃ t, (backL.lookup k).getD (.str k) = .str t ∧ mat t = some (tr M) := by
  rcases mat_cases h with ⟨rfl, rfl⟩ | ⟨rfl, rfl⟩ | ⟨rfl, rfl⟩ | ⟨rfl, rfl⟩ | ⟨rfl, rfl⟩ | ⟨rfl, rfl⟩ | ⟨rfl, rfl⟩ | ⟨rfl, rfl⟩
  · exact ⟨"none", rfl, rfl⟩
  · exact ⟨"right", rfl, rfl⟩
  · exact ⟨"half", rfl, rfl⟩
  · exact ⟨"left", rfl, rfl⟩
  · exact ⟨"flip", rfl, rfl⟩
  · exact ⟨"mirror", rfl, rfl⟩
  · exact ⟨"swap", rfl, rfl⟩
  · exact ⟨"cross", rfl, rfl⟩
theorem orth_comp {k l : Str} {M N : Mat} (h : mat k = some M) (h' : mat l = some N) : Orth (comp M N) := by
  obtain ⟨u, hu⟩ := mat_comp h h'
  exact (show ∀ q ∈ matL, Orth q.2 by decide) _ hu
theorem sz1 {n : Nat} {x : Int} (h : x.natAbs ≤ 1) : Sz (n + 1) x := Nat.lt_of_le_of_lt h (Nat.one_lt_two_pow (by omega))
theorem sz_turn {k : Str} {M : Mat} (h : mat k = some M) {n : Nat} {x y : Int} (hx : Sz n x) (hy : Sz n y) : Sz n (turn M (x, y)).1 ∧ Sz n (turn M (x, y)).2 := by
  rcases mat_cases h with ⟨rfl, rfl⟩ | ⟨rfl, rfl⟩ | ⟨rfl, rfl⟩ | ⟨rfl, rfl⟩ | ⟨rfl, rfl⟩ | ⟨rfl, rfl⟩ | ⟨rfl, rfl⟩ | ⟨rfl, rfl⟩ <;>
    (unfold Sz at *; simp only [turn]; exact ⟨by omega, by omega⟩)
/-! ### promises of carpets.motions -/
def R_turned : RdF := ar2 fun k p Q _ => ∃ s M x y, k = .str s ∧ p = dPl x y ∧ (mat s = some M ∧ Sz 4000 x ∧ Sz 4000 y) ∧ Q (plD (turn M (x, y)))
def R_joined_kind : RdF := ar2 fun k l Q _ => ∃ s t M N, k = .str s ∧ l = .str t ∧ (mat s = some M ∧ mat t = some N) ∧ ∀ u, mat u = some (comp M N) → Q (.str u)
abbrev nsMot : List Str := ["own_kind", "own_shift"]
abbrev dMot (k : Str) (x y : Int) : D := .obj "Motion" ["own_kind", "own_shift"] [.str k, dPl x y]
def R_Motion_UinitU : RdF := ar2 fun k s Q _ => ∃ t M x y, k = .str t ∧ s = dPl x y ∧ mat t = some M ∧ Q (dMot t x y)
def R_Motion_kind : RdF := ar1 fun d Q _ => ∃ k x y, d = dMot k x y ∧ Q (.str k)
def R_Motion_shift : RdF := ar1 fun d Q _ => ∃ k x y, d = dMot k x y ∧ Q (dPl x y)
def R_plus : RdF := ar2 fun p q Q _ => ∃ x y u v, p = dPl x y ∧ q = dPl u v ∧ Q (dPl (x + u) (y + v))
def R_Motion_image : RdF := ar2 fun d p Q _ => ∃ k M x y u v, d = dMot k x y ∧ p = dPl u v ∧ (mat k = some M ∧ Sz 4000 u ∧ Sz 4000 v) ∧ Q (dPl ((turn M (u, v)).1 + x) ((turn M (u, v)).2 + y))
def R_Motion_UmulU : RdF := ar2 fun d e Q _ => ∃ k l M N x y u v, d = dMot k x y ∧ e = dMot l u v ∧ (mat k = some M ∧ mat l = some N ∧ Sz 4000 x ∧ Sz 4000 y) ∧ ∀ t, mat t = some (comp M N) → Q (dMot t ((turn N (x, y)).1 + u) ((turn N (x, y)).2 + v))
def R_Motion_UinvertU : RdF := ar1 fun d Q _ => ∃ k M x y, d = dMot k x y ∧ (mat k = some M ∧ Sz 4000 x ∧ Sz 4000 y) ∧ ∀ t, mat t = some (tr M) → Q (dMot t (-(turn (tr M) (x, y)).1) (-(turn (tr M) (x, y)).2))
def R_Net_UmulU : RdF := ar2 fun d e Q _ => ∃ a b c k M x y, d = dNet a b c ∧ e = dMot k x y ∧ (okN 600 a b c ∧ mat k = some M) ∧ ∀ a' b' c', Img M a b c a' b' c' → Q (dNet a' b' c')
/-! ### k09 -/
def R__law_turned : RdF := ar2 fun k p Q _ => ∃ s M x y, k = .str s ∧ p = dPl x y ∧ mat s = some M ∧ Q (plD (turn M (x, y)))
def R__law_kinds : RdF := ar0 fun Q _ => Q (.lst (matL.map fun q => .str q.1))
def R__law_image_net : RdF := ar2 fun d e Q _ => ∃ a b c k M, d = n3 a b c ∧ e = .str k ∧ (okN 600 a b c ∧ mat k = some M) ∧ ∀ a' b' c', Img M a b c a' b' c' → Q (n3 a' b' c')
def R__law_square : RdF := ar2 fun t n Q _ => match t, n with
  | .tape, .int n => (4 ≤ n ∧ n ≤ 1000) ∧ ∀ a b c, MN.Ok a b c → a * c ≤ n → Q (n3 a b c)
  | _, _ => False
def R__law_right : RdF := ar3 fun t d e Q _ => match t with
  | .tape => ∃ a b c p q r, d = n3 a b c ∧ e = n3 p q r ∧ (MN.Ok a b c ∧ a * c ≤ 30 ∧ MN.Ok p q r ∧ p * r ≤ 30) ∧ Q (.bl true)
  | _ => False
end Y
namespace Y
open PySem PySem.Spec PyProof.Rows L2 Z
theorem getT_to {tab : List (Str × D)} {k t : Str} {z : D} {Q : D → Prop} (e : (tab.lookup k).getD z = .str t) (h : Q (.str t)) : dGetT tab (.str k) z Q := by
  show Q ((tab.lookup k).getD z)
  rw [e]
  exact h
theorem small_ok {a b c : Int} (o : MN.Ok a b c) (n : a * c ≤ 1000) : okN 20 a b c := by
  obtain ⟨o1, o2, o3⟩ := o
  have l1 : a * 1 ≤ a * c := Int.mul_le_mul_of_nonneg_left o1 (by omega)
  have l2 : 1 * c ≤ a * c := Int.mul_le_mul_of_nonneg_right (by omega) (by omega)
  have p : (2 : Nat) ^ 20 = 1048576 := by decide
  refine ⟨⟨o1, o2, o3⟩, ?_, ?_⟩
  · show a.natAbs < 2 ^ 20
    omega
  · show c.natAbs < 2 ^ 20
    omega
theorem img_sz {n : Nat} {M : MN.Mat} {a b c a' b' c' : Int} (o : okN n a b c) (i : MN.Img M a b c a' b' c') : okN (n + n) a' b' c' := by
  obtain ⟨l1, l2⟩ := MN.img_pos i
  have z := sz_mul o.2.1 o.2.2
  exact ⟨i.1, sz_le (by have := i.1.2; omega) l1 z, sz_le (by have := i.1.1; omega) l2 z⟩
theorem img_small {M : MN.Mat} {a b c a' b' c' : Int} (n : a * c ≤ 1000) (i : MN.Img M a b c a' b' c') : okN 20 a' b' c' := small_ok i.1 (by rw [i.2.2]; exact n)
theorem img_inside {M : MN.Mat} (h : MN.Orth M) {a b c p q r a' b' c' p' q' r' : Int} (o : MN.Ok p q r) (i : MN.Img M a b c a' b' c') (j : MN.Img M p q r p' q' r') : MN.inside a' b' c' p' q' r' = MN.inside a b c p q r := by
  refine MN.bool_ext ?_
  rw [MN.inside_iff o, MN.inside_iff j.1]
  constructor
  · intro z x y w
    exact (j.2.1 x y).mp (z _ _ ((i.2.1 x y).mpr w))
  · intro z x y w
    exact (MN.img_tr h j x y).mpr (z _ _ ((MN.img_tr h i x y).mp w))
theorem img_low {M : MN.Mat} {a b c a' b' c' x y : Int} (o : MN.Ok a b c) (i : MN.Img M a b c a' b' c') : decide (MN.low a' b' c' (MN.turn M (x, y)).1 (MN.turn M (x, y)).2 = (0, 0)) = decide (MN.low a b c x y = (0, 0)) := by
  refine decide_eq_decide.mpr ?_
  rw [MN.low_zero (by have := i.1.2; omega) (by have := i.1.1; omega), MN.low_zero (by have := o.2; omega) (by have := o.1; omega)]
  exact i.2.1 x y
theorem eqM (m n : MN.Mat) : eqD (matD m) (matD n) = decide (m = n) := by
  obtain ⟨a, b, c, d⟩ := m
  obtain ⟨p, q, r, s⟩ := n
  simp only [matD, eqD, eqDs, Bool.and_true, Prod.mk.injEq]
  by_cases h1 : a = p <;> by_cases h2 : b = q <;> by_cases h3 : c = r <;> by_cases h4 : d = s <;> simp [h1, h2, h3, h4]
theorem rngD_at {lo : Int} {n i : Nat} {d : D} (h : (rngD lo n)[i]? = some d) : i < n ∧ d = .int (lo + (i : Nat)) := by
  unfold rngD at h
  obtain ⟨j, h1, rfl⟩ := map_get h
  have hi := lt_of_get h1
  rw [List.length_range] at hi
  rw [List.getElem?_range hi] at h1
  cases h1
  exact ⟨hi, rfl⟩
end Y
namespace MN
/-! ### motions: a turn, then a shift -/
abbrev Mtn := Mat × Int × Int
def mmul (m n : Mtn) : Mtn := (comp m.1 n.1, (turn n.1 m.2).1 + n.2.1, (turn n.1 m.2).2 + n.2.2)
def mone : Mtn := ((1, 0, 0, 1), 0, 0)
def minv (m : Mtn) : Mtn := (tr m.1, -(turn (tr m.1) m.2).1, -(turn (tr m.1) m.2).2)
def mapp (m : Mtn) (p : Int × Int) : Int × Int := ((turn m.1 p).1 + m.2.1, (turn m.1 p).2 + m.2.2)
theorem mmul_assoc (l m n : Mtn) : mmul (mmul l m) n = mmul l (mmul m n) := by
  obtain ⟨⟨a, b, c, d⟩, x, y⟩ := l
  obtain ⟨⟨a', b', c', d'⟩, x', y'⟩ := m
  obtain ⟨⟨a2, b2, c2, d2⟩, x2, y2⟩ := n
  simp only [mmul, comp, turn, Prod.mk.injEq]
  refine ⟨⟨?_, ?_, ?_, ?_⟩, ?_, ?_⟩ <;> grind
theorem mone_mul (m : Mtn) : mmul mone m = m := by
  obtain ⟨⟨a, b, c, d⟩, x, y⟩ := m
  simp only [mmul, mone, comp, turn, Prod.mk.injEq]
  refine ⟨⟨?_, ?_, ?_, ?_⟩, ?_, ?_⟩ <;> grind
theorem mul_mone (m : Mtn) : mmul m mone = m := by
  obtain ⟨⟨a, b, c, d⟩, x, y⟩ := m
  simp only [mmul, mone, comp, turn, Prod.mk.injEq]
  refine ⟨⟨?_, ?_, ?_, ?_⟩, ?_, ?_⟩ <;> grind
theorem mul_minv {m : Mtn} (h : Orth m.1) : mmul m (minv m) = mone := by
  obtain ⟨⟨a, b, c, d⟩, x, y⟩ := m
  obtain ⟨h1, h2, h3, h4, h5, h6⟩ := h
  simp only [mmul, minv, mone, comp, turn, tr, Prod.mk.injEq] at *
  refine ⟨⟨?_, ?_, ?_, ?_⟩, ?_, ?_⟩ <;> grind
theorem minv_mul {m : Mtn} (h : Orth m.1) : mmul (minv m) m = mone := by
  obtain ⟨⟨a, b, c, d⟩, x, y⟩ := m
  obtain ⟨h1, h2, h3, h4, h5, h6⟩ := h
  simp only [mmul, minv, mone, comp, turn, tr, Prod.mk.injEq] at *
  refine ⟨⟨?_, ?_, ?_, ?_⟩, ?_, ?_⟩ <;> grind
theorem mapp_mul (m n : Mtn) (p : Int × Int) : mapp (mmul m n) p = mapp n (mapp m p) := by
  obtain ⟨⟨a, b, c, d⟩, x, y⟩ := m
  obtain ⟨⟨a', b', c', d'⟩, x', y'⟩ := n
  obtain ⟨u, v⟩ := p
  refine Prod.ext ?_ ?_ <;> simp only [mapp, mmul, comp, turn] <;> grind
theorem mapp_one (p : Int × Int) : mapp mone p = p := by
  obtain ⟨u, v⟩ := p
  refine Prod.ext ?_ ?_ <;> simp only [mapp, mone, turn] <;> grind
theorem mapp_inv {m : Mtn} (h : Orth m.1) (p : Int × Int) : mapp (minv m) (mapp m p) = p := by rw [← mapp_mul, mul_minv h, mapp_one]
theorem mapp_inv' {m : Mtn} (h : Orth m.1) (p : Int × Int) : mapp m (mapp (minv m) p) = p := by rw [← mapp_mul, minv_mul h, mapp_one]
theorem minv_minv {m : Mtn} (h : Orth m.1) : minv (minv m) = m := by
  have h' : Orth (minv m).1 := orth_tr h
  have e : mmul m (mmul (minv m) (minv (minv m))) = m := by rw [mul_minv h', mul_mone]
  rw [← mmul_assoc, mul_minv h, mone_mul] at e
  exact e
theorem minv_unique {m n : Mtn} (h : Orth m.1) (e : mmul m n = mone) : n = minv m := by
  have z : mmul (minv m) (mmul m n) = minv m := by rw [e, mul_mone]
  rw [← mmul_assoc, minv_mul h, mone_mul] at z
  exact z
theorem minv_prod {m n : Mtn} (h : Orth m.1) (h' : Orth n.1) (h2 : Orth (comp m.1 n.1)) : minv (mmul m n) = mmul (minv n) (minv m) := by
  refine (minv_unique (m := mmul m n) h2 ?_).symm
  rw [mmul_assoc, ← mmul_assoc n, mul_minv h', mone_mul, mul_minv h]
/-! ### powers -/
def npow (m : Mtn) : Nat → Mtn
  | 0 => mone
  | n + 1 => mmul (npow m n) m
theorem npow_add (m : Mtn) (a b : Nat) : npow m (a + b) = mmul (npow m a) (npow m b) := by
  induction b with
  | zero => exact (mul_mone _).symm
  | succ b ih =>
    show mmul (npow m (a + b)) m = mmul (npow m a) (mmul (npow m b) m)
    rw [ih, mmul_assoc]
theorem npow_one (m : Mtn) : npow m 1 = m := mone_mul m
def zpow (m : Mtn) (n : Int) : Mtn := if 0 ≤ n then npow m n.toNat else npow (minv m) n.natAbs
theorem zpow_succ {m : Mtn} (h : Orth m.1) (n : Int) : zpow m (n + 1) = mmul (zpow m n) m := by
  unfold zpow
  by_cases h0 : 0 ≤ n
  · rw [if_pos (by omega), if_pos h0, show (n + 1).toNat = n.toNat + 1 by omega]
    rfl
  · rw [if_neg h0]
    by_cases h1 : n = -1
    · subst h1
      rw [if_pos (by decide)]
      show mone = mmul (npow (minv m) 1) m
      rw [npow_one, minv_mul h]
    · rw [if_neg (by omega), show n.natAbs = (n + 1).natAbs + 1 by omega]
      show _ = mmul (mmul (npow (minv m) (n + 1).natAbs) (minv m)) m
      rw [mmul_assoc, minv_mul h, mul_mone]
theorem zpow_four {m : Mtn} (h : Orth m.1) (n : Int) : mmul (zpow m n) (zpow m 4) = zpow m (n + 4) := by
  rw [show n + 4 = n + 1 + 1 + 1 + 1 by omega, zpow_succ h, zpow_succ h, zpow_succ h, zpow_succ h]
  show mmul (zpow m n) (mmul (mmul (mmul (mmul mone m) m) m) m) = _
  rw [mone_mul]
  simp only [mmul_assoc]
theorem zpow_two (m : Mtn) (n : Int) : zpow m (2 * n) = zpow (zpow m n) 2 := by
  show _ = mmul (mmul mone (zpow m n)) (zpow m n)
  rw [mone_mul]
  unfold zpow
  by_cases h0 : 0 ≤ n
  · rw [if_pos (by omega), if_pos h0, show (2 * n).toNat = n.toNat + n.toNat by omega, npow_add]
  · rw [if_neg (by omega), if_neg h0, show (2 * n).natAbs = n.natAbs + n.natAbs by omega, npow_add]
theorem zpow_nat (m : Mtn) (n : Nat) : zpow m (n : Int) = npow m n := by
  unfold zpow
  rw [if_pos (by omega), Int.toNat_natCast]
theorem zpow_neg_nat {m : Mtn} (n : Nat) : zpow m (0 - (n : Int)) = npow (minv m) n := by
  unfold zpow
  by_cases h : n = 0
  · subst h
    rfl
  · rw [if_neg (by omega), show (0 - (n : Int)).natAbs = n by omega]
theorem npow_comm (m : Mtn) (n : Nat) : mmul m (npow m n) = mmul (npow m n) m := by
  have := npow_add m 1 n
  rw [npow_one] at this
  rw [← this, Nat.add_comm]
  rfl
theorem npow_inv {m : Mtn} (h : Orth m.1) : ∀ n : Nat, mmul (npow m n) (npow (minv m) n) = mone
  | 0 => mone_mul _
  | n + 1 => by
    show mmul (mmul (npow m n) m) (npow (minv m) (n + 1)) = mone
    rw [Nat.add_comm n 1, npow_add (minv m) 1 n, npow_one, mmul_assoc, ← mmul_assoc m, mul_minv h, mone_mul, npow_inv h n]
theorem mapp_pow (m : Mtn) (p : Int × Int) (n : Nat) : mapp (npow m (n + 1)) p = mapp m (mapp (npow m n) p) := mapp_mul _ _ _
theorem mapp_pow_inv {m : Mtn} (h : Orth m.1) (p : Int × Int) (n : Nat) : mapp (npow (minv m) n) (mapp (npow m n) p) = p := by rw [← mapp_mul, npow_inv h, mapp_one]
/-! ### sizes -/
def nrm (p : Int × Int) : Nat := p.1.natAbs + p.2.natAbs
end MN
namespace Y
open PySem PySem.Spec PyProof.Rows L2 Z
open MN (Mat Mtn turn tr Orth comp mmul mone minv mapp npow zpow nrm)
theorem nrm_turn {k : Str} {M : Mat} (h : mat k = some M) (p : Int × Int) : nrm (turn M p) = nrm p := by
  rcases mat_cases h with ⟨rfl, rfl⟩ | ⟨rfl, rfl⟩ | ⟨rfl, rfl⟩ | ⟨rfl, rfl⟩ | ⟨rfl, rfl⟩ | ⟨rfl, rfl⟩ | ⟨rfl, rfl⟩ | ⟨rfl, rfl⟩ <;> (simp only [nrm, turn]; omega)
abbrev mvD (k : Str) (m : Mtn) : D := .tup [.str k, dPl m.2.1 m.2.2]
abbrev dM (k : Str) (m : Mtn) : D := dMot k m.2.1 m.2.2
/-- a motion of moderate shift, and its kind -/
structure okK (n : Nat) (k : Str) (m : Mtn) : Prop where
  mt : mat k = some m.1
  sz : nrm m.2 < 2 ^ n
theorem okK.mono {n n' : Nat} {k : Str} {m : Mtn} (h : okK n k m) (z : n ≤ n') : okK n' k m := ⟨h.mt, Nat.lt_of_lt_of_le h.sz (Nat.pow_le_pow_right (by decide) z)⟩
theorem okK.x {n : Nat} {k : Str} {m : Mtn} (h : okK n k m) : Sz n m.2.1 := Nat.lt_of_le_of_lt (Nat.le_add_right _ _) h.sz
theorem okK.y {n : Nat} {k : Str} {m : Mtn} (h : okK n k m) : Sz n m.2.2 := Nat.lt_of_le_of_lt (Nat.le_add_left _ _) h.sz
theorem okK.orth {n : Nat} {k : Str} {m : Mtn} (h : okK n k m) : Orth m.1 := mat_orth h.mt
theorem nrm_add (p q : Int × Int) : nrm (p.1 + q.1, p.2 + q.2) ≤ nrm p + nrm q := by
  unfold nrm
  dsimp only
  omega
theorem nrm_mul {l : Str} {m n : Mtn} (h : mat l = some n.1) : nrm (mmul m n).2 ≤ nrm m.2 + nrm n.2 := by
  have := nrm_add (turn n.1 m.2) n.2
  rw [nrm_turn h] at this
  exact this
theorem pow2 (n : Nat) : (2 : Nat) ^ (n + 1) = 2 ^ n + 2 ^ n := by rw [Nat.pow_succ]; omega
theorem okK.mul {a : Nat} {k l t : Str} {m n : Mtn} (h : okK a k m) (h' : okK a l n) (ht : mat t = some (mmul m n).1) : okK (a + 1) t (mmul m n) := ⟨ht, by
  have := nrm_mul (m := m) h'.mt
  have := h.sz
  have := h'.sz
  have := pow2 a
  omega⟩
theorem mat_tr {k : Str} {M : Mat} (h : mat k = some M) : ∃ t, mat t = some (tr M) := by
  obtain ⟨t, _, ht⟩ := mat_back h
  exact ⟨t, ht⟩
theorem okK.inv {a : Nat} {k t : Str} {m : Mtn} (h : okK a k m) (ht : mat t = some (minv m).1) : okK a t (minv m) := ⟨ht, by
  obtain ⟨t', ht'⟩ := mat_tr h.mt
  have e : nrm (minv m).2 = nrm (turn (tr m.1) m.2) := by unfold nrm minv; dsimp only; omega
  rw [e, nrm_turn ht']
  exact h.sz⟩
theorem nrm_inv {k : Str} {m : Mtn} (h : mat k = some m.1) : nrm (minv m).2 = nrm m.2 := by
  obtain ⟨t', ht'⟩ := mat_tr h
  have e : nrm (minv m).2 = nrm (turn (tr m.1) m.2) := by unfold nrm minv; dsimp only; omega
  rw [e, nrm_turn ht']
theorem mat_inj {k l : Str} {M : Mat} (h : mat k = some M) (h' : mat l = some M) : k = l := by
  rcases mat_cases h with ⟨rfl, rfl⟩ | ⟨rfl, rfl⟩ | ⟨rfl, rfl⟩ | ⟨rfl, rfl⟩ | ⟨rfl, rfl⟩ | ⟨rfl, rfl⟩ | ⟨rfl, rfl⟩ | ⟨rfl, rfl⟩ <;>
    (rcases mat_cases h' with ⟨rfl, e⟩ | ⟨rfl, e⟩ | ⟨rfl, e⟩ | ⟨rfl, e⟩ | ⟨rfl, e⟩ | ⟨rfl, e⟩ | ⟨rfl, e⟩ | ⟨rfl, e⟩ <;> first | rfl | (exfalso; revert e; decide))
theorem npow_ok {k : Str} {m : Mtn} (h : mat k = some m.1) : ∀ i : Nat, (∃ t, mat t = some (npow m i).1) ∧ nrm (npow m i).2 ≤ i * nrm m.2
  | 0 => ⟨⟨"none", rfl⟩, by simp [npow, mone, nrm]⟩
  | i + 1 => by
    obtain ⟨⟨t, ht⟩, hn⟩ := npow_ok h i
    obtain ⟨u, hu⟩ := mat_comp ht h
    refine ⟨⟨u, mat_of_mem hu⟩, ?_⟩
    have := nrm_mul (m := npow m i) h
    show nrm (mmul (npow m i) m).2 ≤ (i + 1) * nrm m.2
    rw [Nat.add_mul, Nat.one_mul]
    omega
theorem zpow_base {k : Str} {m : Mtn} (h : mat k = some m.1) (j : Int) : ∃ t b, mat t = some b.1 ∧ nrm b.2 = nrm m.2 ∧ zpow m j = npow b j.natAbs := by
  by_cases h0 : 0 ≤ j
  · refine ⟨k, m, h, rfl, ?_⟩
    unfold zpow
    rw [if_pos h0, show j.toNat = j.natAbs by omega]
  · obtain ⟨t, ht⟩ := mat_tr h
    refine ⟨t, minv m, ht, nrm_inv h, ?_⟩
    unfold zpow
    rw [if_neg h0]
theorem zpow_ok {a b : Nat} {k t : Str} {m : Mtn} (h : okK a k m) {j : Int} (hj : Sz b j) (ht : mat t = some (zpow m j).1) : okK (a + b) t (zpow m j) := by
  obtain ⟨u, c, h1, h2, h3⟩ := zpow_base h.mt j
  refine ⟨ht, ?_⟩
  rw [h3]
  have := (npow_ok h1 j.natAbs).2
  rw [h2] at this
  refine Nat.lt_of_le_of_lt this ?_
  rw [Nat.pow_add, Nat.mul_comm]
  have hs := h.sz
  rcases Nat.eq_zero_or_pos j.natAbs with e | e
  · rw [e, Nat.mul_zero]
    exact Nat.mul_pos (Nat.two_pow_pos _) (Nat.two_pow_pos _)
  · exact Nat.mul_lt_mul_of_lt_of_le hs (Nat.le_of_lt hj) (Nat.two_pow_pos _)
theorem zpow_kind {k : Str} {m : Mtn} (h : mat k = some m.1) (j : Int) : ∃ t, mat t = some (zpow m j).1 := by
  obtain ⟨u, c, h1, h2, h3⟩ := zpow_base h j
  rw [h3]
  exact (npow_ok h1 _).1
theorem eqMot {k l : Str} {m n : Mtn} (h : mat k = some m.1) (h' : mat l = some n.1) : decide (k = l ∧ m.2.1 = n.2.1 ∧ m.2.2 = n.2.2) = decide (m = n) := by
  refine decide_eq_decide.mpr ⟨fun ⟨e1, e2, e3⟩ => ?_, fun e => ?_⟩
  · subst e1
    rw [h] at h'
    exact Prod.ext (Option.some.inj h') (Prod.ext e2 e3)
  · subst e
    exact ⟨mat_inj h h', rfl, rfl⟩
/-! ### promises -/
def R_Motion_is_mirrored : RdF := ar1 fun d Q _ => ∃ k x y, d = dMot k x y ∧ Q (.bl (anyD (.str k) [.str "flip", .str "mirror", .str "swap", .str "cross"]))
def motText (k : Str) (x y : Int) : Str := (((("Motion(" : Str) ++ shD (.str k)) ++ ", ") ++ shD (dPl x y)) ++ ")"
def R_Motion_UreprU : RdF := ar1 fun d Q _ => ∃ k m, d = dM k m ∧ okK 1000 k m ∧ Q (.str (motText k m.2.1 m.2.2))
def R_Motion_UeqU : RdF := ar2 fun s v Q _ => ∃ k x y, s = dMot k x y ∧ ((∃ l u w, v = dMot l u w ∧ Q (.bl (decide (k = l ∧ x = u ∧ y = w)))) ∨ (knD v ∧ Q (.bl false)))
def R_Motion_by : RdF := ar1 fun p Q _ => ∃ x y, p = dPl x y ∧ Q (dMot "none" x y)
def R_Motion_UcallU : RdF := ar2 fun d p Q _ => ∃ k m x y, d = dM k m ∧ p = dPl x y ∧ (mat k = some m.1 ∧ Sz 4000 x ∧ Sz 4000 y) ∧ Q (plD (mapp m (x, y)))
def R_Motion_repeated : RdF := ar2 fun d n Q _ => ∃ k m j, d = dM k m ∧ n = .int j ∧ (okK 400 k m ∧ Sz 200 j) ∧ ∀ t, mat t = some (zpow m j).1 → Q (dM t (zpow m j))
def R__law_carried : RdF := ar2 fun d p Q _ => ∃ k m x y, d = mvD k m ∧ p = dPl x y ∧ mat k = some m.1 ∧ Q (plD (mapp m (x, y)))
def R__law_far_move : RdF := ar1 fun t Q _ => match t with
  | .tape => ∀ k m, okK 110 k m → Q (mvD k m)
  | _ => False
def R__law_told : RdF := ar1 fun d Q _ => ∃ k x y, d = dMot k x y ∧ Q (.tup [.str k, dPl x y])
def plsS (ps : List (Int × Int)) : Prop := ∀ p ∈ ps, Sz 100 p.1 ∧ Sz 100 p.2
def R__law_right7 : RdF := ar2 fun d l Q _ => ∃ k m ps, d = mvD k m ∧ l = .lst (ps.map plD) ∧ (okK 110 k m ∧ plsS ps) ∧ Q (.bl true)
def R__law_products_right : RdF := ar2 fun l p Q _ => ∃ k1 m1 k2 m2 k3 m3 ps, l = .lst [mvD k1 m1, mvD k2 m2, mvD k3 m3] ∧ p = .lst (ps.map plD) ∧ ((okK 110 k1 m1 ∧ okK 110 k2 m2 ∧ okK 110 k3 m3) ∧ plsS ps) ∧ Q (.bl true)
def R__law_powers_right : RdF := ar3 fun t d p Q _ => match t with
  | .tape => ∃ k m x y, d = mvD k m ∧ p = dPl x y ∧ (okK 110 k m ∧ Sz 100 x ∧ Sz 100 y) ∧ Q (.bl true)
  | _ => False
/-! ### texts -/
theorem sh_le {n : Nat} {d : D} (h : shP n d) (hb : (toP d).bulk ≤ 40) : (shD d).length ≤ 80000 := by
  have z := PyData.shown_le_bulk 1921 (by decide) (toP d) (sh_short d h)
  have z2 : (1921 + 2) * (toP d).bulk ≤ (1921 + 2) * 40 := Nat.mul_le_mul_left _ hb
  show (toP d).shown.length ≤ _
  omega
theorem mat_str {k : Str} {M : Mat} (h : mat k = some M) : (∀ c ∈ k.cps.toList, c < 16 ^ 8) ∧ (PyData.str k).bulk ≤ 10 ∧ PyData.strOk k = true := by
  rcases mat_cases h with ⟨rfl, rfl⟩ | ⟨rfl, rfl⟩ | ⟨rfl, rfl⟩ | ⟨rfl, rfl⟩ | ⟨rfl, rfl⟩ | ⟨rfl, rfl⟩ | ⟨rfl, rfl⟩ | ⟨rfl, rfl⟩ <;> exact ⟨by decide +kernel, by decide +kernel, by decide +kernel⟩
theorem sh_le2 {n b : Nat} {d : D} (h : shP n d) (hb : (toP d).bulk ≤ b) : (shD d).length ≤ 1923 * b + 1921 := by
  have z := PyData.shown_le_bulk 1921 (by decide) (toP d) (sh_short d h)
  have z2 : (1921 + 2) * (toP d).bulk ≤ (1921 + 2) * b := Nat.mul_le_mul_left _ hb
  show (toP d).shown.length ≤ _
  omega
theorem okMv {k : Str} {M : Mat} (h : mat k = some M) {x y : Int} : okD 8 (.tup [.str k, dPl x y]) = true := by
  have s3 := (mat_str h).2.2
  simp [okD, s3]
theorem eqMv {k l : Str} {x y u v : Int} : eqD (.tup [.str k, dPl x y]) (.tup [.str l, dPl u v]) = decide (k = l ∧ x = u ∧ y = v) := by
  simp only [eqD, eqDs, Bool.and_true]
  by_cases h1 : k = l <;> by_cases h2 : x = u <;> by_cases h3 : y = v <;> simp [h1, h2, h3]
theorem sh_pl {n : Nat} {x y : Int} (hx : Sz 1900 x) (hy : Sz 1900 y) : shP n (dPl x y) := ⟨hx, hy, trivial⟩
theorem strLenA (a b : Str) : (a ++ b).length = a.length + b.length := PySem.strLen_append a b
theorem Str_empty_app (a : Str) : Str.empty ++ a = a := by
  cases a
  show Str.mk _ = _
  simp [Str.empty]
theorem mapp_sz {n : Nat} {k : Str} {m : Mtn} (h : okK n k m) {p : Int × Int} (hp : nrm p < 2 ^ n) : nrm (mapp m p) < 2 ^ (n + 1) := by
  have h1 := nrm_add (turn m.1 p) m.2
  rw [nrm_turn h.mt] at h1
  have h2 := h.sz
  have h3 := pow2 n
  show nrm ((turn m.1 p).1 + m.2.1, (turn m.1 p).2 + m.2.2) < _
  omega
theorem nrm_x {n : Nat} {p : Int × Int} (h : nrm p < 2 ^ n) : Sz n p.1 := Nat.lt_of_le_of_lt (Nat.le_add_right _ _) h
theorem nrm_y {n : Nat} {p : Int × Int} (h : nrm p < 2 ^ n) : Sz n p.2 := Nat.lt_of_le_of_lt (Nat.le_add_left _ _) h
theorem nrm_of {n : Nat} {p : Int × Int} (hx : Sz n p.1) (hy : Sz n p.2) : nrm p < 2 ^ (n + 1) := by
  have z1 : p.1.natAbs < 2 ^ n := hx
  have z2 : p.2.natAbs < 2 ^ n := hy
  have := pow2 n
  unfold nrm
  omega
theorem npow_small {k t : Str} {m : Mtn} (o : okK 110 k m) {i : Nat} (hi : i ≤ 8) (ht : mat t = some (npow m i).1) : okK 120 t (npow m i) := ⟨ht, by
  have h1 := (npow_ok o.mt i).2
  have h2 : i * nrm m.2 ≤ 8 * 2 ^ 110 := Nat.mul_le_mul hi (Nat.le_of_lt o.sz)
  have h3 : 8 * 2 ^ 110 < (2 : Nat) ^ 120 := by decide
  omega⟩
end Y
namespace MN
/-! ### the places of a cell -/
def rowL (a : Nat) (y : Int) : List (Int × Int) := (List.range a).map fun x => ((x : Nat), y)
def spotsL (a : Nat) : Nat → List (Int × Int)
  | 0 => []
  | c + 1 => spotsL a c ++ rowL a ((c : Nat) : Int)
theorem spotsL_len (a : Nat) : ∀ c, (spotsL a c).length = a * c
  | 0 => rfl
  | c + 1 => by simp [spotsL, rowL, spotsL_len a c, Nat.mul_succ]
theorem rowL_mem {a : Nat} {y : Int} {p : Int × Int} : p ∈ rowL a y ↔ 0 ≤ p.1 ∧ p.1 < a ∧ p.2 = y := by
  unfold rowL
  rw [List.mem_map]
  constructor
  · rintro ⟨x, hx, rfl⟩
    have := List.mem_range.mp hx
    exact ⟨by omega, by show (x : Int) < a; omega, rfl⟩
  · rintro ⟨h1, h2, h3⟩
    exact ⟨p.1.toNat, List.mem_range.mpr (by omega), Prod.ext (by show ((p.1.toNat : Nat) : Int) = p.1; omega) h3.symm⟩
theorem spotsL_mem {a : Nat} {p : Int × Int} : ∀ {c : Nat}, p ∈ spotsL a c ↔ 0 ≤ p.1 ∧ p.1 < a ∧ 0 ≤ p.2 ∧ p.2 < c
  | 0 => by
    constructor
    · intro h; cases h
    · rintro ⟨_, _, h1, h2⟩; exact absurd h1 (by omega)
  | c + 1 => by
    rw [spotsL, List.mem_append, spotsL_mem, rowL_mem]
    constructor
    · rintro (⟨h1, h2, h3, h4⟩ | ⟨h1, h2, h3⟩)
      · exact ⟨h1, h2, h3, by omega⟩
      · exact ⟨h1, h2, by omega, by omega⟩
    · rintro ⟨h1, h2, h3, h4⟩
      by_cases h : p.2 = (c : Int)
      · exact .inr ⟨h1, h2, h⟩
      · exact .inl ⟨h1, h2, h3, by omega⟩
theorem spotsL_get {a : Nat} : ∀ {c x y : Nat}, x < a → y < c → (spotsL a c)[y * a + x]? = some ((x : Int), (y : Int))
  | 0, _, _, _, h => absurd h (by omega)
  | c + 1, x, y, hx, hy => by
    unfold spotsL
    by_cases h : y < c
    · have hl : y * a + x < (spotsL a c).length := by
        rw [spotsL_len]
        have : (y + 1) * a ≤ c * a := Nat.mul_le_mul_right a h
        rw [Nat.add_mul, Nat.one_mul] at this
        rw [Nat.mul_comm a c]
        omega
      rw [List.getElem?_append_left hl]
      exact spotsL_get hx h
    · have e : y = c := by omega
      subst e
      have hl : (spotsL a y).length = y * a := by rw [spotsL_len, Nat.mul_comm]
      rw [List.getElem?_append_right (by omega), hl, show y * a + x - y * a = x by omega]
      unfold rowL
      rw [List.getElem?_map, List.getElem?_range hx]
      rfl
/-! ### colours -/
/-- the colour at a place: the text's letter at its place of the cell -/
def col (t : List Nat) (a b c : Int) (p : Int × Int) : Nat := t.getD ((low a b c p.1 p.2).2 * a + (low a b c p.1 p.2).1).toNat 0
theorem col_net {t : List Nat} {a b c : Int} (h : Ok a b c) {p q : Int × Int} (hn : InN a b c (p.1 - q.1) (p.2 - q.2)) : col t a b c p = col t a b c q := by
  unfold col
  rw [(low_eq (by have := h.2; omega) (by have := h.1; omega)).mpr hn]
theorem col_low {t : List Nat} {a b c : Int} (h : Ok a b c) (p : Int × Int) : col t a b c (low a b c p.1 p.2) = col t a b c p := by
  refine (col_net h ?_).symm
  exact low_in a b c p.1 p.2
/-- a shift keeps all colours -/
def Keeps (f : Int × Int → Nat) (x y : Int) : Prop := ∀ p : Int × Int, f (p.1 + x, p.2 + y) = f p
section
variable {f : Int × Int → Nat}
theorem keeps_zero : Keeps f 0 0 := fun p => by rw [Int.add_zero, Int.add_zero]
theorem keeps_add {x y u v : Int} (h : Keeps f x y) (h' : Keeps f u v) : Keeps f (x + u) (y + v) := fun p => by
  have := h' (p.1 + x, p.2 + y)
  dsimp only at this
  rw [← Int.add_assoc, ← Int.add_assoc, this, h p]
theorem keeps_neg {x y : Int} (h : Keeps f x y) : Keeps f (-x) (-y) := fun p => by
  have := h (p.1 + -x, p.2 + -y)
  dsimp only at this
  rw [show p.1 + -x + x = p.1 by omega, show p.2 + -y + y = p.2 by omega] at this
  exact this.symm
theorem keeps_nat {x y : Int} (h : Keeps f x y) : ∀ n : Nat, Keeps f ((n : Int) * x) ((n : Int) * y)
  | 0 => by simpa using keeps_zero (f := f)
  | n + 1 => by
    have := keeps_add (keeps_nat h n) h
    rw [show ((n + 1 : Nat) : Int) * x = (n : Int) * x + x by rw [Int.natCast_succ, Int.add_mul, Int.one_mul], show ((n + 1 : Nat) : Int) * y = (n : Int) * y + y by rw [Int.natCast_succ, Int.add_mul, Int.one_mul]]
    exact this
theorem keeps_mul {x y : Int} (h : Keeps f x y) (n : Int) : Keeps f (n * x) (n * y) := by
  rcases Int.le_total 0 n with z | z
  · obtain ⟨k, rfl⟩ := Int.eq_ofNat_of_zero_le z
    exact keeps_nat h k
  · obtain ⟨k, hk⟩ := Int.eq_ofNat_of_zero_le (show 0 ≤ -n by omega)
    have := keeps_neg (keeps_nat h k)
    rw [← Int.neg_mul, ← Int.neg_mul, show -(k : Int) = n by omega] at this
    exact this
end
theorem keeps_net {t : List Nat} {a b c x y : Int} (h : Ok a b c) (hn : InN a b c x y) : Keeps (col t a b c) x y := fun p => col_net h (by rw [show p.1 + x - p.1 = x by omega, show p.2 + y - p.2 = y by omega]; exact hn)
/-- looking at the cell is enough -/
theorem keeps_cell {t : List Nat} {a b c x y : Int} (h : Ok a b c) (hc : ∀ p ∈ spotsL a.toNat c.toNat, col t a b c p = col t a b c (p.1 + x, p.2 + y)) : Keeps (col t a b c) x y := fun p => by
  have ha : 0 < a := by have := h.2; omega
  have hcc : 0 < c := by have := h.1; omega
  obtain ⟨r1, r2, r3, r4⟩ := low_rng (a := a) (b := b) (c := c) (x := p.1) (y := p.2) ha hcc
  have m := hc (low a b c p.1 p.2) (spotsL_mem.mpr ⟨r1, by omega, r3, by omega⟩)
  rw [col_low h] at m
  rw [m]
  refine col_net h ?_
  have := low_in a b c p.1 p.2
  rw [show p.1 + x - ((low a b c p.1 p.2).1 + x) = p.1 - (low a b c p.1 p.2).1 by omega, show p.2 + y - ((low a b c p.1 p.2).2 + y) = p.2 - (low a b c p.1 p.2).2 by omega]
  exact this
/-- the net of all shifts that keep -/
def Exact (f : Int × Int → Nat) (w q r : Int) : Prop := Ok w q r ∧ ∀ x y, InN w q r x y ↔ Keeps f x y
theorem exact_uni {f : Int × Int → Nat} {w q r w' q' r' : Int} (h : Exact f w q r) (h' : Exact f w' q' r') : w = w' ∧ q = q' ∧ r = r' := net_eq h.1 h'.1 fun x y => (h.2 x y).trans (h'.2 x y).symm
theorem exact_of {f : Int × Int → Nat} {w q r : Int} (hw : 0 < w) (hr : 0 < r) (q0 : 0 ≤ q) (q1 : q < w) (k1 : Keeps f w 0) (m1 : ∀ x, Keeps f x 0 → w ∣ x) (k2 : Keeps f q r) (m2 : ∀ x y, Keeps f x y → r ∣ y) : Exact f w q r := by
  refine ⟨⟨by omega, q0, q1⟩, fun x y => ⟨fun ⟨m, k, e1, e2⟩ => ?_, fun h => ?_⟩⟩
  · rw [e1, e2]
    have := keeps_add (keeps_mul k1 m) (keeps_mul k2 k)
    rw [Int.mul_zero, Int.zero_add] at this
    exact this
  · obtain ⟨k, hk⟩ := m2 x y h
    have h2 := keeps_add h (keeps_mul k2 (-k))
    rw [show y + -k * r = 0 by rw [hk, Int.neg_mul, Int.mul_comm]; omega] at h2
    obtain ⟨m, hm⟩ := m1 _ h2
    refine ⟨m, k, ?_, by rw [hk, Int.mul_comm]⟩
    rw [Int.neg_mul, Int.mul_comm w m] at hm
    omega
/-! ### divisors, ascending -/
def upL (n : Nat) : List Int := (List.range n).map fun i => ((i : Nat) : Int) + 1
def divL (n : Int) : List Int := (upL n.toNat).filter fun d => decide (n % d = 0)
theorem upL_mem {n : Nat} {d : Int} : d ∈ upL n ↔ 1 ≤ d ∧ d ≤ n := by
  unfold upL
  rw [List.mem_map]
  constructor
  · rintro ⟨i, hi, rfl⟩
    have := List.mem_range.mp hi
    omega
  · rintro ⟨h1, h2⟩
    exact ⟨(d - 1).toNat, List.mem_range.mpr (by omega), by omega⟩
theorem divL_mem {n d : Int} (hn : 0 < n) : d ∈ divL n ↔ 0 < d ∧ d ∣ n := by
  unfold divL
  rw [List.mem_filter, upL_mem, decide_eq_true_eq]
  constructor
  · rintro ⟨⟨h1, h2⟩, h3⟩
    exact ⟨by omega, Int.dvd_of_emod_eq_zero h3⟩
  · rintro ⟨h1, h2⟩
    exact ⟨⟨by omega, by have := Int.le_of_dvd hn h2; omega⟩, Int.emod_eq_zero_of_dvd h2⟩
theorem divL_sorted (n : Int) : (divL n).Pairwise (· < ·) := by
  unfold divL
  refine List.Pairwise.filter _ ?_
  unfold upL
  rw [List.pairwise_map]
  exact List.pairwise_lt_range.imp fun h => by omega
/-- in an ascending list what is less stands ahead -/
theorem ahead {l : List Int} (hs : l.Pairwise (· < ·)) {i : Nat} {r g : Int} (hr : l[i]? = some r) (hg : g ∈ l) (h : g < r) : g ∈ l.take i := by
  obtain ⟨j, hj⟩ := List.mem_iff_getElem?.mp hg
  have hji : j < i := by
    rcases Nat.lt_or_ge j i with z | z
    · exact z
    · exfalso
      have hjl : j < l.length := by
        rcases Nat.lt_or_ge j l.length with y | y
        · exact y
        · rw [List.getElem?_eq_none y] at hj; cases hj
      have hil : i < l.length := by omega
      rw [List.getElem?_eq_getElem hjl] at hj
      rw [List.getElem?_eq_getElem hil] at hr
      have e1 := Option.some.inj hj
      have e2 := Option.some.inj hr
      rcases Nat.eq_or_lt_of_le z with e | e
      · subst e
        omega
      · have := List.pairwise_iff_getElem.mp hs i j hil hjl e
        omega
  rw [List.mem_iff_getElem?]
  exact ⟨j, by rw [List.getElem?_take_of_lt hji]; exact hj⟩
/-- the first divisor that keeps a row -/
theorem width_min {f : Int × Int → Nat} {a w : Int} (ha : 0 < a) (ka : Keeps f a 0) (hw : w ∈ divL a) (kw : Keeps f w 0) (first : ∀ d ∈ divL a, d < w → ¬ Keeps f d 0) : ∀ x, Keeps f x 0 → w ∣ x := fun x hx => by
  obtain ⟨w0, wa⟩ := (divL_mem ha).mp hw
  obtain ⟨s, t, e⟩ := bez w x
  have kg : Keeps f ((Int.gcd w x : Nat) : Int) 0 := by
    have := keeps_add (keeps_mul kw s) (keeps_mul hx t)
    rw [Int.mul_zero, Int.mul_zero, Int.add_zero, ← e] at this
    exact this
  have gw : ((Int.gcd w x : Nat) : Int) ∣ w := Int.gcd_dvd_left w x
  have g0 : 0 < ((Int.gcd w x : Nat) : Int) := by
    have : Int.gcd w x ≠ 0 := fun z => by
      rw [Int.gcd_eq_zero_iff] at z
      omega
    omega
  have gl := Int.le_of_dvd w0 gw
  have gm : ((Int.gcd w x : Nat) : Int) ∈ divL a := (divL_mem ha).mpr ⟨g0, Int.dvd_trans gw wa⟩
  have : ¬ ((Int.gcd w x : Nat) : Int) < w := fun z => first _ gm z kg
  have e2 : ((Int.gcd w x : Nat) : Int) = w := by omega
  rw [← e2]
  exact Int.gcd_dvd_right w x
theorem keeps_mod {f : Int × Int → Nat} {w x y : Int} (kw : Keeps f w 0) (h : Keeps f x y) : Keeps f (x % w) y := by
  have := keeps_add h (keeps_mul kw (-(x / w)))
  rw [Int.mul_zero, Int.add_zero] at this
  have e : x + -(x / w) * w = x % w := by
    have := Int.emod_add_mul_ediv x w
    rw [Int.neg_mul, Int.mul_comm (x / w) w]
    omega
  rw [e] at this
  exact this
theorem rows_min {f : Int × Int → Nat} {c w r q : Int} (hc : 0 < c) (hw : 0 < w) (kw : Keeps f w 0) (hr : r ∈ divL c) (kr : Keeps f q r) (first : ∀ d ∈ divL c, d < r → ∀ u, 0 ≤ u → u < w → ¬ Keeps f u d) : ∀ x y, Keeps f x y → r ∣ y := fun x y hx => by
  obtain ⟨r0, rc⟩ := (divL_mem hc).mp hr
  obtain ⟨s, t, e⟩ := bez r y
  have kg : Keeps f (s * q + t * x) ((Int.gcd r y : Nat) : Int) := by
    have := keeps_add (keeps_mul kr s) (keeps_mul hx t)
    rw [← e] at this
    exact this
  have gr : ((Int.gcd r y : Nat) : Int) ∣ r := Int.gcd_dvd_left r y
  have g0 : 0 < ((Int.gcd r y : Nat) : Int) := by
    have : Int.gcd r y ≠ 0 := fun z => by
      rw [Int.gcd_eq_zero_iff] at z
      omega
    omega
  have gl := Int.le_of_dvd r0 gr
  have gm : ((Int.gcd r y : Nat) : Int) ∈ divL c := (divL_mem hc).mpr ⟨g0, Int.dvd_trans gr rc⟩
  have : ¬ ((Int.gcd r y : Nat) : Int) < r := fun z => first _ gm z _ (Int.emod_nonneg _ (by omega)) (Int.emod_lt_of_pos _ hw) (keeps_mod kw kg)
  have e2 : ((Int.gcd r y : Nat) : Int) = r := by omega
  rw [← e2]
  exact Int.gcd_dvd_right r y
/-! ### the least cell -/
/-- the text of the cell of a net, of what f tells -/
def cellT (f : Int × Int → Nat) (a c : Int) : List Nat := (spotsL a.toNat c.toNat).map f
theorem cellT_len {f : Int × Int → Nat} {a c : Int} : (cellT f a c).length = a.toNat * c.toNat := by rw [cellT, List.length_map, spotsL_len]
theorem cellT_col {f : Int × Int → Nat} {a b c : Int} (h : Ok a b c) (k : ∀ x y, InN a b c x y → Keeps f x y) (p : Int × Int) : col (cellT f a c) a b c p = f p := by
  have ha : 0 < a := by have := h.2; omega
  have hc : 0 < c := by have := h.1; omega
  obtain ⟨r1, r2, r3, r4⟩ := low_rng (a := a) (b := b) (c := c) (x := p.1) (y := p.2) ha hc
  unfold col cellT
  generalize hu : (low a b c p.1 p.2).1 = u at *
  generalize hv : (low a b c p.1 p.2).2 = v at *
  obtain ⟨u', rfl⟩ := Int.eq_ofNat_of_zero_le r1
  obtain ⟨v', rfl⟩ := Int.eq_ofNat_of_zero_le r3
  obtain ⟨a', rfl⟩ := Int.eq_ofNat_of_zero_le (Int.le_of_lt ha)
  obtain ⟨c', rfl⟩ := Int.eq_ofNat_of_zero_le (Int.le_of_lt hc)
  have e : ((v' : Int) * (a' : Int) + (u' : Int)).toNat = v' * a' + u' := by
    rw [← Int.natCast_mul, ← Int.natCast_add, Int.toNat_natCast]
  rw [e, List.getD_eq_getElem?_getD, List.getElem?_map, Int.toNat_natCast, Int.toNat_natCast, spotsL_get (by omega) (by omega)]
  show f ((u' : Int), (v' : Int)) = f p
  have kk := k _ _ (low_in (a' : Int) b (c' : Int) p.1 p.2) ((u' : Int), (v' : Int))
  rw [hu, hv] at kk
  dsimp only at kk
  rw [show (u' : Int) + (p.1 - (u' : Int)) = p.1 by omega, show (v' : Int) + (p.2 - (v' : Int)) = p.2 by omega] at kk
  exact kk.symm
end MN
namespace Y
open PySem PySem.Spec PyProof.Rows L2 Z
open MN (spotsL rowL upL Keeps Exact cellT)
/-! ### carpets -/
def chr1 (n : Nat) : Str := ⟨#[n]⟩
def ofL (l : List Nat) : Str := ⟨l.toArray⟩
theorem join_chrs : ∀ l : List Nat, Txt.join ("" : Str) (l.map chr1) = ofL l := by
  have key : ∀ l : List Nat, Str.join (Str.ofString "") (l.map chr1) = ofL l := by
    intro l
    induction l with
    | nil => rfl
    | cons x l ih =>
      cases l with
      | nil => rfl
      | cons y r =>
        show chr1 x ++ Str.ofString "" ++ Str.join (Str.ofString "") ((y :: r).map chr1) = ofL (x :: y :: r)
        rw [ih]
        show Str.mk (#[x] ++ (Str.ofString "").cps ++ (y :: r).toArray) = Str.mk _
        have : (Str.ofString "").cps = #[] := by decide +kernel
        rw [this]
        simp
  intro l
  unfold Txt.join
  rw [StrLaws.glued_eq_join]
  exact key l
theorem strsOf_str : ∀ l : List Str, strsOf (l.map D.str) = some l
  | [] => rfl
  | x :: l => by
    show (strsOf (l.map D.str)).map (x :: ·) = _
    rw [strsOf_str l]
    rfl
noncomputable def keepB (f : Int × Int → Nat) (x y : Int) : Bool := @decide (Keeps f x y) (Classical.propDecidable _)
theorem keepB_iff {f : Int × Int → Nat} {x y : Int} : keepB f x y = true ↔ Keeps f x y := by unfold keepB; exact @decide_eq_true_iff _ (Classical.propDecidable _)
theorem keepB_false {f : Int × Int → Nat} {x y : Int} : keepB f x y = false ↔ ¬ Keeps f x y := by
  rw [← keepB_iff]
  cases keepB f x y <;> simp
/-- a net of moderate size and a text with a sign for each place of its cell -/
structure okT (t : Str) (a b c : Int) : Prop where
  ok : MN.Ok a b c
  mx : a * c ≤ 5000
  ln : (t.cps.toList.length : Int) = a * c
theorem okT.a {t : Str} {a b c : Int} (h : okT t a b c) : 0 < a := by have := h.ok.2; omega
theorem okT.c {t : Str} {a b c : Int} (h : okT t a b c) : 0 < c := by have := h.ok.1; omega
theorem okT.al {t : Str} {a b c : Int} (h : okT t a b c) : a ≤ 5000 := by
  have := h.mx
  have l1 : a * 1 ≤ a * c := Int.mul_le_mul_of_nonneg_left (by have := h.c; omega) (by have := h.a; omega)
  omega
theorem okT.cl {t : Str} {a b c : Int} (h : okT t a b c) : c ≤ 5000 := by
  have := h.mx
  have l2 : 1 * c ≤ a * c := Int.mul_le_mul_of_nonneg_right (by have := h.a; omega) (by have := h.c; omega)
  omega
theorem sz13 {x : Int} (h0 : 0 ≤ x) (h : x ≤ 8000) : Sz 13 x := by
  show x.natAbs < 2 ^ 13
  have : (2 : Nat) ^ 13 = 8192 := by decide
  omega
theorem okT.sa {t : Str} {a b c : Int} (h : okT t a b c) : Sz 13 a := sz13 (by have := h.a; omega) (by have := h.al; omega)
theorem okT.sc {t : Str} {a b c : Int} (h : okT t a b c) : Sz 13 c := sz13 (by have := h.c; omega) (by have := h.cl; omega)
def colF (t : Str) (a b c : Int) : Int × Int → Nat := MN.col t.cps.toList a b c
abbrev nsCar : List Str := ["own_net", "own_text"]
abbrev dCar (C : Str) (a b c : Int) (t : Str) : D := .obj C ["own_net", "own_text"] [dNet a b c, .str t]
def R_minus : RdF := ar2 fun p q Q _ => ∃ x y u v, p = dPl x y ∧ q = dPl u v ∧ Q (dPl (x - u) (y - v))
def R_divisors : RdF := ar1 fun d Q _ => ∃ n : Int, d = .int n ∧ (1 ≤ n ∧ n ≤ 20000) ∧ Q (.lst ((MN.divL n).map D.int))
def R_Net_spots : RdF := ar1 fun d Q _ => ∃ a b c : Int, d = dNet a b c ∧ (MN.Ok a b c ∧ a * c ≤ 20000) ∧ Q (.lst ((spotsL a.toNat c.toNat).map plD))
def R_colour_at : RdF := ar3 fun n d p Q _ => ∃ a b c t x y, n = dNet a b c ∧ d = .str t ∧ p = dPl x y ∧ (okT t a b c ∧ Sz 4000 y) ∧ Q (.str (chr1 (colF t a b c (x, y))))
def R_is_kept : RdF := ar3 fun n d p Q _ => ∃ a b c t x y, n = dNet a b c ∧ d = .str t ∧ p = dPl x y ∧ (okT t a b c ∧ Sz 3000 y) ∧ Q (.bl (keepB (colF t a b c) x y))
def R_kept_net : RdF := ar2 fun n d Q _ => ∃ a b c t, n = dNet a b c ∧ d = .str t ∧ okT t a b c ∧ ∀ w q r, Exact (colF t a b c) w q r → w ≤ a → r ≤ c → Q (dNet w q r)
def R_least_cell : RdF := ar2 fun n d Q _ => ∃ a b c t, n = dNet a b c ∧ d = .str t ∧ okT t a b c ∧ ∀ w q r, Exact (colF t a b c) w q r → w ≤ a → r ≤ c → Q (.tup [dNet w q r, .str (ofL (cellT (colF t a b c) w r))])
/-- the carpet of f: the least net and the text of its cell -/
structure Carp (f : Int × Int → Nat) (w q r : Int) (t : Str) : Prop where
  ex : Exact f w q r
  mx : w * r ≤ 5000
  tx : t = ofL (cellT f w r)
theorem Carp.okT {f : Int × Int → Nat} {w q r : Int} {t : Str} (h : Carp f w q r t) : okT t w q r := by
  refine ⟨h.ex.1, h.mx, ?_⟩
  rw [h.tx]
  have hw : 0 < w := by have := h.ex.1.2; omega
  have hr : 0 < r := by have := h.ex.1.1; omega
  show (((cellT f w r).toArray.toList.length : Nat) : Int) = _
  rw [List.toList_toArray, MN.cellT_len]
  obtain ⟨w', rfl⟩ := Int.eq_ofNat_of_zero_le (Int.le_of_lt hw)
  obtain ⟨r', rfl⟩ := Int.eq_ofNat_of_zero_le (Int.le_of_lt hr)
  simp
theorem Carp.col {f : Int × Int → Nat} {w q r : Int} {t : Str} (h : Carp f w q r t) (p : Int × Int) : colF t w q r p = f p := by
  unfold colF
  rw [h.tx]
  show MN.col ((cellT f w r).toArray.toList) w q r p = f p
  rw [List.toList_toArray]
  exact MN.cellT_col h.ex.1 (fun x y z => (h.ex.2 x y).mp z) p
theorem carp_of {a b c w q r : Int} {t : Str} (o : Y.okT t a b c) (e : Exact (colF t a b c) w q r) (hw : w ≤ a) (hr : r ≤ c) : Carp (colF t a b c) w q r (ofL (cellT (colF t a b c) w r)) := by
  refine ⟨e, ?_, rfl⟩
  have := o.mx
  have : w * r ≤ a * c := Int.mul_le_mul hw hr (by have := e.1.1; omega) (by have := o.a; omega)
  omega
theorem sum_chr1 : ∀ l : List Nat, ((l.map chr1).map (·.length)).sum = l.length
  | [] => rfl
  | _ :: l => by
    show 1 + ((l.map chr1).map (·.length)).sum = l.length + 1
    rw [sum_chr1 l]
    omega
end Y
namespace Y
open PySem PySem.Spec PyProof.Rows L2 Z
open MN (spotsL rowL upL Keeps Exact cellT)
/-! ### blocks of letters -/
abbrev LETS : Str := "abcdefghijklmnopqrstuvwxyz"
def lowC (c : Nat) : Prop := 97 ≤ c ∧ c ≤ 122
def occ (t s : Str) : Bool := !(Builtin.Str.occurrences t s 0 t.length 1).isEmpty
theorem occ_low {c : Nat} (h : lowC c) : occ LETS ⟨#[c]⟩ = true := by
  have key : ∀ i : Fin 26, occ LETS ⟨#[97 + i.val]⟩ = true := by decide +kernel
  have := key ⟨c - 97, by have := h.1; have := h.2; omega⟩
  dsimp only at this
  rw [show 97 + (c - 97) = c by have := h.1; omega] at this
  exact this
def lowS (t : Str) : Prop := ∀ c ∈ t.cps.toList, lowC c
theorem lowS_ok {t : Str} (h : lowS t) : PyData.strOk t = true := by
  unfold PyData.strOk
  rw [← Array.all_toList, List.all_eq_true]
  intro c hc
  have := (h c hc).2
  exact decide_eq_true (by omega)
theorem lowS_sh {t : Str} (h : lowS t) : ∀ c ∈ t.cps.toList, c < 16 ^ 8 := fun c hc => by
  have := (h c hc).2
  have : (122 : Nat) < 16 ^ 8 := by decide
  omega
structure Blk (rs : List Str) (w : Nat) : Prop where
  n1 : 1 ≤ rs.length
  n2 : rs.length ≤ 100
  w1 : 1 ≤ w
  w2 : w ≤ 100
  mx : rs.length * w ≤ 1000
  row : ∀ r ∈ rs, r.cps.toList.length = w
  low : ∀ r ∈ rs, lowS r
def seqOf (v : D) (ds : List D) : Prop := v = .lst ds ∨ v = .tup ds
def rowTxt (rs : List Str) : Str := ofL (rs.flatMap fun r => r.cps.toList)
theorem join_rows (rs : List Str) : Txt.join ("" : Str) rs = rowTxt rs := by
  have key : ∀ l : List Str, Str.join (Str.ofString "") l = rowTxt l := by
    intro l
    induction l with
    | nil => rfl
    | cons x l ih =>
      cases l with
      | nil =>
        show x = rowTxt [x]
        unfold rowTxt ofL
        simp
      | cons y r =>
        show x ++ Str.ofString "" ++ Str.join (Str.ofString "") (y :: r) = rowTxt (x :: y :: r)
        rw [ih]
        show Str.mk (x.cps ++ (Str.ofString "").cps ++ ((y :: r).flatMap fun r => r.cps.toList).toArray) = Str.mk _
        have : (Str.ofString "").cps = #[] := by decide +kernel
        rw [this]
        apply congrArg Str.mk
        apply Array.ext'
        simp
  unfold Txt.join
  rw [StrLaws.glued_eq_join]
  exact key rs
theorem flat_len {w : Nat} : ∀ {rs : List Str}, (∀ r ∈ rs, r.cps.toList.length = w) → (rs.flatMap fun r => r.cps.toList).length = rs.length * w
  | [], _ => by simp
  | r :: rs, h => by
    rw [List.flatMap_cons, List.length_append, flat_len (fun x hx => h x (List.mem_cons_of_mem _ hx)), h r List.mem_cons_self, List.length_cons, Nat.add_mul]
    omega
theorem flat_get {w : Nat} : ∀ {rs : List Str} {y x : Nat} {r : Str}, (∀ r ∈ rs, r.cps.toList.length = w) → rs[y]? = some r → x < w → (rs.flatMap fun r => r.cps.toList)[y * w + x]? = r.cps.toList[x]?
  | [], y, x, r, h, e, hx => by cases e
  | q :: rs, 0, x, r, h, e, hx => by
    have e' : q = r := by simpa using e
    subst e'
    rw [List.flatMap_cons, Nat.zero_mul, Nat.zero_add, List.getElem?_append_left (by rw [h q List.mem_cons_self]; exact hx)]
  | q :: rs, y + 1, x, r, h, e, hx => by
    have hq := h q List.mem_cons_self
    rw [List.flatMap_cons, List.getElem?_append_right (by rw [hq, Nat.add_mul]; omega), hq, show (y + 1) * w + x - w = y * w + x by rw [Nat.add_mul]; omega]
    exact flat_get (fun x hx => h x (List.mem_cons_of_mem _ hx)) (by simpa using e) hx
theorem rowTxt_ln {rs : List Str} {w : Nat} (h : ∀ r ∈ rs, r.cps.toList.length = w) : (rowTxt rs).cps.toList.length = rs.length * w := by
  show ((rs.flatMap fun r => r.cps.toList).toArray.toList).length = _
  rw [List.toList_toArray, flat_len h]
theorem Blk.okT {rs : List Str} {w : Nat} (h : Blk rs w) (sh : Int) : okT (rowTxt rs) w (sh % w) rs.length := by
  have h1 := h.n1
  have h2 := h.w1
  refine ⟨⟨by omega, Int.emod_nonneg _ (by omega), Int.emod_lt_of_pos _ (by omega)⟩, ?_, ?_⟩
  · have := h.mx
    have e : ((w : Nat) : Int) * ((rs.length : Nat) : Int) = ((rs.length * w : Nat) : Int) := by rw [Int.natCast_mul, Int.mul_comm]
    omega
  · rw [rowTxt_ln h.row, Int.natCast_mul, Int.mul_comm]
/-- the colours of a block -/
def blkF (rs : List Str) (w : Nat) (sh : Int) : Int × Int → Nat := colF (rowTxt rs) w (sh % w) rs.length
theorem blkF_eq {rs : List Str} {w : Nat} (h : Blk rs w) (sh x y : Int) : ∃ r c, rs[(y - y / rs.length * rs.length).toNat]? = some r ∧ r.cps.toList[((x - sh * (y / rs.length)) % w).toNat]? = some c ∧ blkF rs w sh (x, y) = c ∧ r ∈ rs := by
  have h1 := h.n1
  have h2 := h.w1
  have hn : (0 : Int) < rs.length := by omega
  have hw : (0 : Int) < w := by omega
  have ey : y - y / rs.length * rs.length = y % rs.length := by
    have := Int.emod_add_mul_ediv y rs.length
    rw [Int.mul_comm] at this
    omega
  have y0 := Int.emod_nonneg y (show (rs.length : Int) ≠ 0 by omega)
  have y1 := Int.emod_lt_of_pos y hn
  have x0 := Int.emod_nonneg (x - sh * (y / rs.length)) (show (w : Int) ≠ 0 by omega)
  have x1 := Int.emod_lt_of_pos (x - sh * (y / rs.length)) hw
  have ex : (x - y / rs.length * (sh % w)) % w = (x - sh * (y / rs.length)) % w := by
    have e := Int.emod_add_mul_ediv sh w
    have : x - y / rs.length * (sh % w) = (x - sh * (y / rs.length)) + (w : Int) * (sh / w * (y / rs.length)) := by
      have e2 : sh * (y / rs.length) = (sh % w) * (y / rs.length) + (w : Int) * (sh / w) * (y / rs.length) := by rw [← Int.add_mul, e]
      rw [e2, Int.mul_comm (y / rs.length) (sh % w), Int.mul_assoc]
      omega
    rw [this, Int.add_mul_emod_self_left]
  have hy : (y - y / rs.length * rs.length).toNat < rs.length := by omega
  obtain ⟨r, hr⟩ : ∃ r, rs[(y - y / rs.length * rs.length).toNat]? = some r := ⟨_, List.getElem?_eq_getElem hy⟩
  have hm : r ∈ rs := List.mem_of_getElem? hr
  have hx : ((x - sh * (y / rs.length)) % w).toNat < w := by omega
  obtain ⟨c, hc⟩ : ∃ c, r.cps.toList[((x - sh * (y / rs.length)) % w).toNat]? = some c := ⟨_, List.getElem?_eq_getElem (by rw [h.row _ hm]; exact hx)⟩
  refine ⟨r, c, hr, hc, ?_, hm⟩
  unfold blkF colF MN.col MN.low rowTxt ofL
  dsimp only
  rw [ex]
  have et : ((y - y / rs.length * rs.length) * w + (x - sh * (y / rs.length)) % w).toNat = (y - y / rs.length * rs.length).toNat * w + ((x - sh * (y / rs.length)) % w).toNat := by
    have p0 : 0 ≤ (y - y / rs.length * rs.length) * (w : Int) := Int.mul_nonneg (by omega) (by omega)
    rw [Int.toNat_add p0 x0, Int.toNat_mul (by omega) (by omega), Int.toNat_natCast]
  rw [et, List.getD_eq_getElem?_getD, flat_get h.row hr hx, hc]
  rfl
theorem blkF_low {rs : List Str} {w : Nat} (h : Blk rs w) (sh : Int) (p : Int × Int) : lowC (blkF rs w sh p) := by
  obtain ⟨r, c, _, e2, e3, hm⟩ := blkF_eq h sh p.1 p.2
  rw [show blkF rs w sh p = c from e3]
  exact h.low r hm c (List.mem_of_getElem? e2)
/-! ### rows of a text -/
def rowsL (t : Str) (a c : Int) : List Str := (List.range c.toNat).map fun k => cutS t (some (a * ((k : Nat) : Int))) (some (a * ((k : Nat) : Int) + a))
theorem cutS_row {t : Str} {a k : Nat} : (cutS t (some ((a : Int) * (k : Int))) (some ((a : Int) * (k : Int) + a))).cps.toList = (t.cps.toList.drop (a * k)).take a := by
  unfold cutS
  have e1 : (a : Int) * (k : Int) = ((a * k : Nat) : Int) := by rw [Int.natCast_mul]
  have e2 : (a : Int) * (k : Int) + a = ((a * k + a : Nat) : Int) := by rw [Int.natCast_add, Int.natCast_mul]
  rw [e1, ← Int.natCast_add, HT.sIx_nat, HT.sIx_nat]
  show (List.toArray _).toList = _
  rw [List.toList_toArray]
  have hl : t.length = t.cps.toList.length := by rw [Array.length_toList]; rfl
  rw [hl]
  generalize t.cps.toList = l
  apply List.ext_getElem?
  intro i
  rw [List.getElem?_take, List.getElem?_take, List.getElem?_drop, List.getElem?_drop]
  by_cases h : a * k ≤ l.length
  · rw [Nat.min_eq_left h]
    by_cases h2 : i < a
    · rw [if_pos h2]
      by_cases h3 : i < min (a * k + a) l.length - a * k
      · rw [if_pos h3]
      · rw [if_neg h3, List.getElem?_eq_none (by omega)]
    · rw [if_neg h2, if_neg (by omega)]
  · rw [Nat.min_eq_right (by omega)]
    rw [if_neg (by omega)]
    split
    · rw [List.getElem?_eq_none (by omega)]
    · rfl
theorem rowsL_flat {t : Str} {a : Nat} : ∀ c : Nat, ((rowsL t a c).flatMap fun r => r.cps.toList) = t.cps.toList.take (a * c) := by
  intro c
  unfold rowsL
  rw [Int.toNat_natCast]
  induction c with
  | zero => simp
  | succ c ih =>
    rw [List.range_succ, List.map_append, List.flatMap_append, ih]
    simp only [List.map_cons, List.map_nil, List.flatMap_cons, List.flatMap_nil, List.append_nil]
    rw [cutS_row, Nat.mul_succ, List.take_add]
theorem rowsL_mem {t : Str} {a c : Nat} (hl : t.cps.toList.length = a * c) {r : Str} (h : r ∈ rowsL t a c) : r.cps.toList.length = a ∧ ∀ x ∈ r.cps.toList, x ∈ t.cps.toList := by
  unfold rowsL at h
  rw [Int.toNat_natCast] at h
  obtain ⟨k, hk, rfl⟩ := List.mem_map.mp h
  have hk := List.mem_range.mp hk
  rw [cutS_row]
  refine ⟨?_, fun x hx => List.mem_of_mem_drop (List.mem_of_mem_take hx)⟩
  rw [List.length_take, List.length_drop, hl]
  have : a * (k + 1) ≤ a * c := Nat.mul_le_mul_left a hk
  rw [Nat.mul_succ] at this
  omega
theorem rowsL_len {t : Str} {a c : Int} : (rowsL t a c).length = c.toNat := by simp [rowsL]
theorem ofL_toList (t : Str) : ofL t.cps.toList = t := by
  unfold ofL
  rw [Array.toArray_toList]
/-- the rows of a carpet make it again -/
theorem rows_again {t : Str} {a b c : Int} (o : Y.okT t a b c) (ht : lowS t) (ha : a ≤ 100) (hc : c ≤ 100) (hm : a * c ≤ 1000) : Blk (rowsL t a c) a.toNat ∧ ((rowsL t a c).length : Int) = c ∧ blkF (rowsL t a c) a.toNat b = colF t a b c := by
  have a0 := o.a
  have c0 := o.c
  obtain ⟨a', rfl⟩ := Int.eq_ofNat_of_zero_le (Int.le_of_lt a0)
  obtain ⟨c', rfl⟩ := Int.eq_ofNat_of_zero_le (Int.le_of_lt c0)
  have hl : t.cps.toList.length = a' * c' := by
    have := o.ln
    have e : ((a' : Int) * (c' : Int)) = ((a' * c' : Nat) : Int) := by rw [Int.natCast_mul]
    omega
  have hn : (rowsL t a' c').length = c' := by rw [rowsL_len, Int.toNat_natCast]
  have hm' : c' * a' ≤ 1000 := by
    have e : ((a' : Int) * (c' : Int)) = ((c' * a' : Nat) : Int) := by rw [Int.natCast_mul, Int.mul_comm]
    omega
  refine ⟨⟨by rw [hn]; omega, by rw [hn]; omega, by rw [Int.toNat_natCast]; omega, by rw [Int.toNat_natCast]; omega, by rw [hn, Int.toNat_natCast]; exact hm', fun r hr => ?_, fun r hr x hx => ht x ((rowsL_mem hl hr).2 x hx)⟩, by rw [hn], ?_⟩
  · rw [Int.toNat_natCast]; exact (rowsL_mem hl hr).1
  · unfold blkF
    have e1 : rowTxt (rowsL t a' c') = t := by
      unfold rowTxt
      rw [rowsL_flat, List.take_of_length_le (by omega), ofL_toList]
    have e2 : b % ((a' : Nat) : Int) = b := Int.emod_eq_of_lt o.ok.2.1 o.ok.2.2
    rw [e1, hn, Int.toNat_natCast, e2]
/-! ### contracts -/
def colsL (t : Str) : List Str := (LETS.cps.toList.map fun c => (⟨#[c]⟩ : Str)).filter fun s => occ t s
def R_is_row : RdF := ar3 fun v s m Q _ => ∃ (t : Str) (n : Int), v = .str t ∧ s = .str LETS ∧ m = .int n ∧ (1 ≤ t.cps.toList.length ∧ (t.cps.toList.length : Int) ≤ n ∧ n ≤ 5000 ∧ lowS t) ∧ Q (.bl true)
def R_check_rows : RdF := ar3 fun v s m Q _ => ∃ rs w, seqOf v (rs.map D.str) ∧ s = .str LETS ∧ m = .int 100 ∧ Blk rs w ∧ Q .non
def R_checked_block : RdF := ar2 fun v s Q _ => ∃ rs w sh, seqOf v (rs.map D.str) ∧ s = .int sh ∧ Blk rs w ∧ Q (.tup [dNet w (sh % w) rs.length, .str (rowTxt rs)])
def R_Carpet_UinitU : RdF := ar2 fun v s Q _ => ∃ rs w0 sh, seqOf v (rs.map D.str) ∧ s = .int sh ∧ Blk rs w0 ∧ ∀ w q r t, Carp (blkF rs w0 sh) w q r t → w ≤ w0 → r ≤ rs.length → Q (dCar "Carpet" w q r t)
def R_Carpet_net (cs : List Str) : RdF := ar1 fun d Q _ => ∃ C a b c t, d = dCar C a b c t ∧ C ∈ cs ∧ Q (dNet a b c)
def R_Carpet_text (cs : List Str) : RdF := ar1 fun d Q _ => ∃ C a b c t, d = dCar C a b c t ∧ C ∈ cs ∧ Q (.str t)
def R_Carpet_rows (cs : List Str) : RdF := ar1 fun d Q _ => ∃ C a b c t, d = dCar C a b c t ∧ C ∈ cs ∧ okT t a b c ∧ Q (.lst ((rowsL t a c).map D.str))
def R_Carpet_colours (cs : List Str) : RdF := ar1 fun d Q _ => ∃ C a b c t, d = dCar C a b c t ∧ C ∈ cs ∧ Q (.str (Txt.join "" (colsL t)))
def R_Carpet_seen (cs : List Str) : RdF := ar2 fun d p Q _ => ∃ C a b c t x y, d = dCar C a b c t ∧ C ∈ cs ∧ p = dPl x y ∧ (okT t a b c ∧ Sz 4000 y) ∧ Q (.str (chr1 (colF t a b c (x, y))))
def R_Carpet_UgetitemU (cs : List Str) : RdF := ar2 fun d p Q _ => ∃ C a b c t x y, d = dCar C a b c t ∧ C ∈ cs ∧ p = dPl x y ∧ (okT t a b c ∧ Sz 4000 y) ∧ Q (.str (chr1 (colF t a b c (x, y))))
def R_Carpet_UlenU (cs : List Str) : RdF := ar1 fun d Q _ => ∃ C a b c t, d = dCar C a b c t ∧ C ∈ cs ∧ okT t a b c ∧ Q (.int (a * c))
def R_Carpet_UeqU (cs : List Str) : RdF := ar2 fun d v Q _ => ∃ C a b c t C' a' b' c' t', d = dCar C a b c t ∧ C ∈ cs ∧ v = dCar C' a' b' c' t' ∧ C' ∈ cs ∧ Q (.bl (decide ((a = a' ∧ b = b' ∧ c = c') ∧ t = t')))
/-- what repr shows of a carpet -/
def carS (a b c : Int) (t : Str) : Str := ((("Carpet(" : Str) ++ shD (.lst ((rowsL t a c).map D.str))) ++ (", shift=" : Str)) ++ shD (.int b) ++ (")" : Str)
def R_Carpet_UreprU (cs : List Str) : RdF := ar1 fun d Q _ => ∃ C a b c t, d = dCar C a b c t ∧ C ∈ cs ∧ (okT t a b c ∧ lowS t ∧ a * c ≤ 2000) ∧ Q (.str (carS a b c t))
theorem slen (t : Str) : t.length = t.cps.toList.length := by rw [Array.length_toList]; rfl
theorem chrs_LETS : chrs LETS = (LETS.cps.toList.map fun c => (⟨#[c]⟩ : Str)).map D.str := by
  unfold chrs
  rw [List.map_map]
  rfl
theorem cols_sum (t : Str) : ((colsL t).map (·.length)).sum + (colsL t).length * ("" : Str).length ≤ 100000 := by
  have e2 : ("" : Str).length = 0 := by decide +kernel
  have key : ∀ l : List Str, (∀ s ∈ l, s.length = 1) → (l.map (·.length)).sum = l.length := by
    intro l
    induction l with
    | nil => intro _; rfl
    | cons x l ih =>
      intro h
      rw [List.map_cons, List.sum_cons, ih (fun s hs => h s (List.mem_cons_of_mem _ hs)), h x List.mem_cons_self, List.length_cons]
      omega
  have h1 : ∀ s ∈ colsL t, s.length = 1 := by
    intro s hs
    obtain ⟨h, _⟩ := List.mem_filter.mp hs
    obtain ⟨c, _, rfl⟩ := List.mem_map.mp h
    rfl
  rw [e2, Nat.mul_zero, key _ h1]
  have := List.length_filter_le (fun s => occ t s) (LETS.cps.toList.map fun c => (⟨#[c]⟩ : Str))
  have e3 : (LETS.cps.toList.map fun c => (⟨#[c]⟩ : Str)).length = 26 := by decide +kernel
  unfold colsL
  omega
theorem rows_bulk {t : Str} {a b c : Int} (o : Y.okT t a b c) : (toP (.lst ((rowsL t a c).map D.str))).bulk ≤ (a * c + c).toNat := by
  have a0 := o.a
  have c0 := o.c
  obtain ⟨a', rfl⟩ := Int.eq_ofNat_of_zero_le (Int.le_of_lt a0)
  obtain ⟨c', rfl⟩ := Int.eq_ofNat_of_zero_le (Int.le_of_lt c0)
  have hl : t.cps.toList.length = a' * c' := by
    have := o.ln
    have e : ((a' : Int) * (c' : Int)) = ((a' * c' : Nat) : Int) := by rw [Int.natCast_mul]
    omega
  have key : ∀ l : List Str, (∀ r ∈ l, r.cps.toList.length = a') → PyData.bulkAll (toPs (l.map D.str)) = l.length * a' + l.length := by
    intro l
    induction l with
    | nil => intro _; simp [toPs, PyData.bulkAll]
    | cons x l ih =>
      intro h
      show x.cps.size + 1 + PyData.bulkAll (toPs (l.map D.str)) = _
      rw [ih (fun r hr => h r (List.mem_cons_of_mem _ hr))]
      have := h x List.mem_cons_self
      rw [Array.length_toList] at this
      rw [this, List.length_cons, Nat.add_mul]
      omega
  show PyData.bulkAll (toPs ((rowsL t a' c').map D.str)) ≤ _
  rw [key _ fun r hr => (rowsL_mem hl hr).1, rowsL_len, Int.toNat_natCast]
  have e : ((a' : Int) * (c' : Int) + (c' : Int)) = ((c' * a' + c' : Nat) : Int) := by rw [Int.natCast_add, Int.natCast_mul, Int.mul_comm]
  rw [e, Int.toNat_natCast]
  exact Nat.le_refl _
theorem rows_low {t : Str} {a b c : Int} (o : Y.okT t a b c) (ht : lowS t) : ∀ r ∈ rowsL t a c, lowS r := by
  have a0 := o.a
  have c0 := o.c
  obtain ⟨a', rfl⟩ := Int.eq_ofNat_of_zero_le (Int.le_of_lt a0)
  obtain ⟨c', rfl⟩ := Int.eq_ofNat_of_zero_le (Int.le_of_lt c0)
  have hl : t.cps.toList.length = a' * c' := by
    have := o.ln
    have e : ((a' : Int) * (c' : Int)) = ((a' * c' : Nat) : Int) := by rw [Int.natCast_mul]
    omega
  intro r hr x hx
  exact ht x ((rowsL_mem hl hr).2 x hx)
theorem strs_shP {n : Nat} : ∀ {l : List Str}, (∀ r ∈ l, lowS r) → shPs n (l.map D.str)
  | [], _ => trivial
  | x :: l, h => ⟨lowS_sh (h x List.mem_cons_self), strs_shP fun r hr => h r (List.mem_cons_of_mem _ hr)⟩
theorem strs_short : ∀ {l : List Str}, (∀ r ∈ l, lowS r) → PyData.leavesShortAll 8 (toPs (l.map D.str)) = true
  | [], _ => rfl
  | x :: l, h => by
    show ((PyData.str x).leavesShort 8 && PyData.leavesShortAll 8 (toPs (l.map D.str))) = true
    rw [strs_short fun r hr => h r (List.mem_cons_of_mem _ hr), Bool.and_true]
    show (x.cps.toList.all fun c => decide (c < 16 ^ 8)) = true
    exact List.all_eq_true.mpr fun c hc => decide_eq_true (lowS_sh (h x List.mem_cons_self) c hc)
theorem strs_depth : ∀ {l : List Str}, PyData.depthAll (toPs (l.map D.str)) ≤ 1
  | [] => by simp [toPs, PyData.depthAll]
  | x :: l => by
    have := strs_depth (l := l)
    simp [toPs, toP, PyData.depthAll, PyData.depth] at this ⊢
    omega
/-- repr of the rows of a carpet -/
theorem rows_sh {t : Str} {a b c : Int} (o : Y.okT t a b c) (ht : lowS t) (mx : a * c ≤ 2000) : (shP 0 (.lst ((rowsL t a c).map D.str)) ∧ (toP (.lst ((rowsL t a c).map D.str))).bulk ≤ 8000 ∧ (toP (.lst ((rowsL t a c).map D.str))).depth ≤ 40) ∧ (shD (.lst ((rowsL t a c).map D.str))).length ≤ 50000 := by
  have hc : c ≤ a * c := by
    have l2 : 1 * c ≤ a * c := Int.mul_le_mul_of_nonneg_right (by have := o.a; omega) (by have := o.c; omega)
    omega
  have hb := rows_bulk o
  have hb2 : (toP (.lst ((rowsL t a c).map D.str))).bulk ≤ 4000 := by omega
  have hp : shP 0 (.lst ((rowsL t a c).map D.str)) := strs_shP (rows_low o ht)
  refine ⟨⟨hp, by omega, ?_⟩, ?_⟩
  · show PyData.depthAll (toPs ((rowsL t a c).map D.str)) + 1 ≤ 40
    have := strs_depth (l := rowsL t a c)
    omega
  · have z := PyData.shown_le_bulk 8 (by decide) (toP (.lst ((rowsL t a c).map D.str))) (show PyData.leavesShortAll 8 (toPs ((rowsL t a c).map D.str)) = true from strs_short (rows_low o ht))
    have z2 : (8 + 2) * (toP (.lst ((rowsL t a c).map D.str))).bulk ≤ (8 + 2) * 4000 := Nat.mul_le_mul_left _ hb2
    unfold shD
    omega
theorem int_sh {b : Int} (h : Sz 1900 b) : (shD (.int b)).length ≤ 1921 := int_text_len_1921 (sz1900 h)
theorem len_app (x y : Str) : (x ++ y).length = x.length + y.length := by
  show (x.cps ++ y.cps).size = x.cps.size + y.cps.size
  exact Array.size_append
theorem empty_app (x : Str) : Str.empty ++ x = x := by
  show Str.mk (#[] ++ x.cps) = x
  rw [Array.empty_append]
end Y
namespace Y
open PySem PySem.Spec PyProof.Rows L2 Z
open MN (spotsL rowL upL Keeps Exact cellT)
def R__law_spots : RdF := ar1 fun d Q _ => ∃ a b c : Int, d = .tup [.int a, .int b, .int c] ∧ (1 ≤ a ∧ 1 ≤ c ∧ a * c ≤ 5000) ∧ Q (.lst ((spotsL a.toNat c.toNat).map plD))
def R__law_block : RdF := ar1 fun d Q _ => d = .tape ∧ ∀ rs w sh, Blk rs w → Sz 100 sh → rs.length ≤ 12 → w ≤ 12 → Q (.lst [.lst (rs.map D.str), .int sh])
def R__law_by_block : RdF := ar3 fun r o p Q _ => ∃ rs w sh x y, r = .lst (rs.map D.str) ∧ o = .int sh ∧ p = dPl x y ∧ (Blk rs w ∧ Sz 1000 sh ∧ Sz 1000 x ∧ Sz 1000 y) ∧ Q (.str (chr1 (blkF rs w sh (x, y))))
def R__law_cell_right : RdF := ar1 fun d Q _ => ∃ rs w0 sh w q r t, d = dCar "Carpet" w q r t ∧ (Blk rs w0 ∧ Carp (blkF rs w0 sh) w q r t ∧ w ≤ w0 ∧ r ≤ rs.length) ∧ Q (.bl true)
theorem spots_range {a : Nat} (ha : 0 < a) : ∀ c : Nat, spotsL a c = (List.range (a * c)).map fun i : Nat => ((i : Int) % (a : Int), (i : Int) / (a : Int))
  | 0 => by simp [spotsL]
  | c + 1 => by
    rw [spotsL, spots_range ha c, Nat.mul_succ, List.range_add, List.map_append]
    congr 1
    unfold rowL
    rw [List.map_map]
    refine List.map_congr_left fun i hi => ?_
    have hi := List.mem_range.mp hi
    show ((i : Int), (c : Int)) = (((a * c + i : Nat) : Int) % (a : Int), ((a * c + i : Nat) : Int) / (a : Int))
    rw [Int.natCast_add, Int.natCast_mul]
    refine Prod.ext ?_ ?_
    · show (i : Int) = ((a : Int) * c + i) % a
      rw [Int.add_comm, Int.add_mul_emod_self_left, Int.emod_eq_of_lt (by omega) (by omega)]
    · show (c : Int) = ((a : Int) * c + i) / a
      rw [Int.add_comm, Int.add_mul_ediv_left _ _ (by omega), Int.ediv_eq_zero_of_lt (by omega) (by omega)]
      omega
theorem eqDs_strs : ∀ l : List Str, eqDs (l.map D.str) (l.map D.str) = true
  | [] => by simp [eqDs]
  | x :: l => by simp [eqDs, eqD, eqDs_strs l]
theorem okD_strs {l : List Str} (h : ∀ r ∈ l, lowS r) : okD 8 (.lst (l.map D.str)) = true := by
  show (l.map D.str).all (okD 7) = true
  rw [List.all_map, List.all_eq_true]
  intro x hx
  exact lowS_ok (h x hx)
theorem Carp.low {rs : List Str} {w0 : Nat} {sh w q r : Int} {t : Str} (hb : Blk rs w0) (h : Carp (blkF rs w0 sh) w q r t) : lowS t := by
  intro c hc
  rw [h.tx] at hc
  unfold ofL cellT at hc
  rw [List.toList_toArray] at hc
  obtain ⟨p, _, rfl⟩ := List.mem_map.mp hc
  exact blkF_low hb sh p
theorem Carp.bnd {rs : List Str} {w0 : Nat} {sh w q r : Int} {t : Str} (hb : Blk rs w0) (h : Carp (blkF rs w0 sh) w q r t) (hw : w ≤ w0) (hr : r ≤ rs.length) : (0 < w ∧ w ≤ 100) ∧ (0 < r ∧ r ≤ 100) ∧ w * r ≤ 1000 := by
  have o := h.okT
  have := hb.n2
  have := hb.w2
  refine ⟨⟨o.a, by omega⟩, ⟨o.c, by omega⟩, ?_⟩
  have m : w * r ≤ (w0 : Int) * (rs.length : Int) := Int.mul_le_mul hw hr (by have := o.c; omega) (by omega)
  have := hb.mx
  have e : (w0 : Int) * (rs.length : Int) = ((rs.length * w0 : Nat) : Int) := by rw [Int.natCast_mul, Int.mul_comm]
  omega
theorem bulk_strs {a : Nat} : ∀ l : List Str, (∀ r ∈ l, r.cps.toList.length = a) → PyData.bulkAll (toPs (l.map D.str)) = l.length * a + l.length := by
  intro l
  induction l with
  | nil => intro _; simp [toPs, PyData.bulkAll]
  | cons x l ih =>
    intro h
    show x.cps.size + 1 + PyData.bulkAll (toPs (l.map D.str)) = _
    rw [ih (fun r hr => h r (List.mem_cons_of_mem _ hr))]
    have := h x List.mem_cons_self
    rw [Array.length_toList] at this
    rw [this, List.length_cons, Nat.add_mul]
    omega
theorem Blk.sh {rs : List Str} {w : Nat} (h : Blk rs w) : shP 0 (.lst (rs.map D.str)) ∧ (toP (.lst (rs.map D.str))).bulk ≤ 8000 ∧ (toP (.lst (rs.map D.str))).depth ≤ 40 := by
  refine ⟨strs_shP h.low, ?_, ?_⟩
  · show PyData.bulkAll (toPs (rs.map D.str)) ≤ 8000
    rw [bulk_strs rs h.row]
    have := h.mx
    have := h.n2
    omega
  · show PyData.depthAll (toPs (rs.map D.str)) + 1 ≤ 40
    have := strs_depth (l := rs)
    omega
theorem Blk.zero {rs : List Str} {w : Nat} (h : Blk rs w) : ∃ r0 c, atI (rs.map D.str) 0 = some (.str r0) ∧ r0.length ≤ 100000 ∧ atI r0.cps.toList 0 = some c ∧ blkF rs w 0 (0, (rs.length : Int)) = c := by
  have n1 := h.n1
  have w1 := h.w1
  obtain ⟨r, c, e1, e2, e3, hm⟩ := blkF_eq h 0 0 rs.length
  have e : (rs.length : Int) / (rs.length : Int) = 1 := Int.ediv_self (by omega)
  rw [e] at e1 e2
  have i0 : ((rs.length : Int) - 1 * (rs.length : Int)).toNat = 0 := by omega
  have j0 : ((0 - 0 * 1 : Int) % (w : Int)).toNat = 0 := by simp
  rw [i0] at e1
  rw [j0] at e2
  refine ⟨r, c, atI_nat (j := 0) (by rw [List.getElem?_map, e1]; rfl), ?_, atI_nat (j := 0) e2, e3⟩
  rw [slen, h.row r hm]
  have := h.w2
  omega
end Y
namespace MN
/-! ### motions that keep a net and colours -/
theorem inN_kept {M : Mat} {a b c : Int} (h1 : InN a b c (turn M (a, 0)).1 (turn M (a, 0)).2) (h2 : InN a b c (turn M (b, c)).1 (turn M (b, c)).2) {x y : Int} (h : InN a b c x y) : InN a b c (turn M (x, y)).1 (turn M (x, y)).2 := by
  obtain ⟨m, k, rfl, rfl⟩ := h
  have := inN_add (inN_mul m h1) (inN_mul k h2)
  have e1 : (turn M (m * a + k * b, k * c)).1 = m * (turn M (a, 0)).1 + k * (turn M (b, c)).1 := by simp only [turn]; grind
  have e2 : (turn M (m * a + k * b, k * c)).2 = m * (turn M (a, 0)).2 + k * (turn M (b, c)).2 := by simp only [turn]; grind
  rw [e1, e2]
  exact this
theorem kept_all {t : List Nat} {a b c : Int} {m : Mtn} (o : Ok a b c) (h1 : InN a b c (turn m.1 (a, 0)).1 (turn m.1 (a, 0)).2) (h2 : InN a b c (turn m.1 (b, c)).1 (turn m.1 (b, c)).2)
    (h : ∀ p ∈ spotsL a.toNat c.toNat, col t a b c (mapp m p) = col t a b c p) : ∀ p, col t a b c (mapp m p) = col t a b c p := by
  intro p
  have ha : 0 < a := by have := o.2; omega
  have hc : 0 < c := by have := o.1; omega
  obtain ⟨r1, r2, r3, r4⟩ := low_rng (a := a) (b := b) (c := c) (x := p.1) (y := p.2) ha hc
  have z := h (low a b c p.1 p.2) (spotsL_mem.mpr ⟨r1, by omega, r3, by omega⟩)
  rw [col_low o] at z
  rw [← z]
  refine col_net o ?_
  have i := inN_kept h1 h2 (low_in a b c p.1 p.2)
  have e1 : (mapp m p).1 - (mapp m (low a b c p.1 p.2)).1 = (turn m.1 (p.1 - (low a b c p.1 p.2).1, p.2 - (low a b c p.1 p.2).2)).1 := by simp only [mapp, turn]; grind
  have e2 : (mapp m p).2 - (mapp m (low a b c p.1 p.2)).2 = (turn m.1 (p.1 - (low a b c p.1 p.2).1, p.2 - (low a b c p.1 p.2).2)).2 := by simp only [mapp, turn]; grind
  rw [e1, e2]
  exact i
/-- the shifts of a cell that keep, with the net, span all that keep -/
theorem exact_span {t : List Nat} {a b c w q r : Int} {S : List (Int × Int)} (o : Ok a b c) (hS : ∀ p, p ∈ S ↔ p = (a, 0) ∨ p = (b, c) ∨ (p ∈ spotsL a.toNat c.toNat ∧ Keeps (col t a b c) p.1 p.2)) (h : Form S (some (w, q, r))) : Exact (col t a b c) w q r ∧ w ≤ a ∧ r ≤ c := by
  have ha : 0 < a := by have := o.2; omega
  have hc : 0 < c := by have := o.1; omega
  have gen : ∀ p ∈ S, Keeps (col t a b c) p.1 p.2 := by
    intro p hp
    rcases (hS p).mp hp with rfl | rfl | ⟨_, h⟩
    · exact keeps_net o ⟨1, 0, by omega, by omega⟩
    · exact keeps_net o ⟨0, 1, by omega, by omega⟩
    · exact h
  have ex : Exact (col t a b c) w q r := by
    refine ⟨h.1, fun x y => (h.2 x y).trans ⟨fun s => ?_, fun k => ?_⟩⟩
    · induction s with
      | zero => exact keeps_zero
      | add n m _ ih => exact keeps_add ih (keeps_mul (gen _ m) n)
    · obtain ⟨r1, r2, r3, r4⟩ := low_rng (a := a) (b := b) (c := c) (x := x) (y := y) ha hc
      have kl : Keeps (col t a b c) (low a b c x y).1 (low a b c x y).2 := by
        have i := keeps_neg (keeps_net (t := t) o (low_in a b c x y))
        have := keeps_add k i
        rw [show x + -(x - (low a b c x y).1) = (low a b c x y).1 by omega, show y + -(y - (low a b c x y).2) = (low a b c x y).2 by omega] at this
        exact this
      have s1 : Sp S (low a b c x y).1 (low a b c x y).2 := .gen ((hS _).mpr (.inr (.inr ⟨spotsL_mem.mpr ⟨r1, by omega, r3, by omega⟩, kl⟩)))
      obtain ⟨m, n, e1, e2⟩ := low_in a b c x y
      have s2 := ((Sp.gen (u := a) (v := 0) ((hS (a, 0)).mpr (.inl rfl))).smul m).sum ((Sp.gen (u := b) (v := c) ((hS (b, c)).mpr (.inr (.inl rfl)))).smul n)
      exact (s1.sum s2).cast (by omega) (by omega)
  refine ⟨ex, ?_⟩
  have := net_le o h.1 fun x y i => (ex.2 x y).mpr (keeps_net o i)
  exact ⟨Int.le_of_dvd ha this.1, Int.le_of_dvd hc this.2⟩
theorem form_not_none {S : List (Int × Int)} {a b c : Int} (o : Ok a b c) (h1 : (a, 0) ∈ S) (h2 : (b, c) ∈ S) : ¬ Form S none := fun h => h a b c o ⟨.gen h1, .gen h2⟩
/-- a net within, written with larger numbers -/
theorem larger_in {a b c w h x y : Int} (hh : InN (a * w) (b * h % (a * w)) (c * h) x y) : InN a b c x y := by
  obtain ⟨m, k, rfl, rfl⟩ := hh
  have e := Int.emod_add_mul_ediv (b * h) (a * w)
  refine ⟨m * w - k * (b * h / (a * w)) * w, k * h, ?_, by grind⟩
  have e2 : b * h % (a * w) = b * h - a * w * (b * h / (a * w)) := by omega
  rw [e2]
  grind
/-- two colourings agree on the cell of one net, and its shifts keep both -/
theorem same_cell {f g : Int × Int → Nat} {a b c : Int} (o : Ok a b c) (kf : ∀ x y, InN a b c x y → Keeps f x y) (kg : ∀ x y, InN a b c x y → Keeps g x y) (h : ∀ x y, 0 ≤ x → x < a → 0 ≤ y → y < c → f (x, y) = g (x, y)) : f = g := by
  funext p
  have ha : 0 < a := by have := o.2; omega
  have hc : 0 < c := by have := o.1; omega
  obtain ⟨r1, r2, r3, r4⟩ := low_rng (a := a) (b := b) (c := c) (x := p.1) (y := p.2) ha hc
  have z := h _ _ r1 r2 r3 r4
  have i := low_in a b c p.1 p.2
  have k1 := kf _ _ i (low a b c p.1 p.2)
  have k2 := kg _ _ i (low a b c p.1 p.2)
  rw [show (low a b c p.1 p.2).1 + (p.1 - (low a b c p.1 p.2).1) = p.1 by omega, show (low a b c p.1 p.2).2 + (p.2 - (low a b c p.1 p.2).2) = p.2 by omega] at k1 k2
  have e : f p = f (low a b c p.1 p.2) := k1
  have e' : g p = g (low a b c p.1 p.2) := k2
  rw [e, e']
  exact z
theorem keeps_span {f : Int × Int → Nat} {a b c : Int} (h1 : Keeps f a 0) (h2 : Keeps f b c) : ∀ x y, InN a b c x y → Keeps f x y := by
  rintro x y ⟨m, k, rfl, rfl⟩
  have := keeps_add (keeps_mul h1 m) (keeps_mul h2 k)
  rw [Int.mul_zero, Int.zero_add] at this
  exact this
end MN
namespace Y
open PySem PySem.Spec PyProof.Rows L2 Z
open MN (spotsL rowL upL Keeps Exact cellT)
/-! ### helpers -/
theorem dIx_s {t : Str} {i : Int} {x : Nat} {Q : D → Prop} (hl : t.cps.toList.length ≤ 100000) (e : atI t.cps.toList i = some x) (h : Q (.str (chr1 x))) : dIx (.str t) (.int i) Q := by
  show t.length ≤ 100000 ∧ (match atI t.cps.toList i with | some c => Q (.str ⟨#[c]⟩) | none => False)
  rw [e, slen]
  exact ⟨hl, h⟩
theorem okT.tl {t : Str} {a b c : Int} (o : Y.okT t a b c) : t.cps.toList.length ≤ 100000 := by
  have := o.ln
  have := o.mx
  omega
theorem ix_col {t : Str} {a b c x y : Int} {Q : D → Prop} (o : Y.okT t a b c) (h : Q (.str (chr1 (colF t a b c (x, y))))) : dIx (.str t) (.int ((MN.low a b c x y).2 * a + (MN.low a b c x y).1)) Q := by
  have ha := o.a
  have hc := o.c
  obtain ⟨r1, r2, r3, r4⟩ := MN.low_rng (a := a) (b := b) (c := c) (x := x) (y := y) ha hc
  have i0 : 0 ≤ (MN.low a b c x y).2 * a + (MN.low a b c x y).1 := Int.add_nonneg (Int.mul_nonneg r3 (by omega)) r1
  have i1 : (MN.low a b c x y).2 * a + (MN.low a b c x y).1 < a * c := by
    have h1 : ((MN.low a b c x y).2 + 1) * a ≤ c * a := Int.mul_le_mul_of_nonneg_right (by omega) (by omega)
    rw [Int.add_mul, Int.one_mul, Int.mul_comm c a] at h1
    omega
  obtain ⟨k, hk⟩ := Int.eq_ofNat_of_zero_le i0
  have hl : k < t.cps.toList.length := by have := o.ln; omega
  rw [hk]
  refine dIx_s o.tl (atI_nat (List.getElem?_eq_getElem hl)) ?_
  have e2 : colF t a b c (x, y) = t.cps.toList[k] := by
    unfold colF MN.col
    dsimp only
    rw [hk, Int.toNat_natCast, List.getD_eq_getElem?_getD, List.getElem?_eq_getElem hl]
    rfl
  rw [e2] at h
  exact h
theorem join_ok {l : List Nat} {Q : D → Prop} (hl : l.length ≤ 100000) (h : Q (.str (ofL l))) : dJoin (.str ("" : Str)) (.lst (l.map fun x => D.str (chr1 x))) Q := by
  have e : (l.map fun x => D.str (chr1 x)) = (l.map chr1).map D.str := by rw [List.map_map]; rfl
  rw [e]
  show (match strsOf ((l.map chr1).map D.str) with | some ys => (ys.map (·.length)).sum + ys.length * ("" : Str).length ≤ 100000 ∧ Q (.str (Txt.join ("" : Str) ys)) | none => False)
  rw [strsOf_str]
  have e2 : ("" : Str).length = 0 := by decide +kernel
  refine ⟨?_, ?_⟩
  · rw [sum_chr1, e2, Nat.mul_zero]
    exact hl
  · rw [join_chrs]
    exact h
theorem chr1_inj {x y : Nat} (h : chr1 x = chr1 y) : x = y := by
  unfold chr1 at h
  injection h with h
  have : (#[x] : Array Nat).toList = #[y].toList := by rw [h]
  simpa using this
theorem spots_ln {t : Str} {a b c : Int} (o : Y.okT t a b c) : ((spotsL a.toNat c.toNat).length : Int) = a * c := by
  have a0 := o.a
  have c0 := o.c
  obtain ⟨a', rfl⟩ := Int.eq_ofNat_of_zero_le (Int.le_of_lt a0)
  obtain ⟨c', rfl⟩ := Int.eq_ofNat_of_zero_le (Int.le_of_lt c0)
  rw [MN.spotsL_len, Int.toNat_natCast, Int.toNat_natCast, Int.natCast_mul]
theorem spots_le {t : Str} {a b c : Int} (o : Y.okT t a b c) : (spotsL a.toNat c.toNat).length ≤ 5000 := by
  have := spots_ln o
  have := o.mx
  omega
theorem col_mem {t : Str} {a b c : Int} (o : Y.okT t a b c) (p : Int × Int) : colF t a b c p ∈ t.cps.toList := by
  obtain ⟨r1, r2, r3, r4⟩ := MN.low_rng (a := a) (b := b) (c := c) (x := p.1) (y := p.2) o.a o.c
  have i0 : 0 ≤ (MN.low a b c p.1 p.2).2 * a + (MN.low a b c p.1 p.2).1 := Int.add_nonneg (Int.mul_nonneg r3 (by have := o.a; omega)) r1
  have i1 : (MN.low a b c p.1 p.2).2 * a + (MN.low a b c p.1 p.2).1 < a * c := by
    have h1 : ((MN.low a b c p.1 p.2).2 + 1) * a ≤ c * a := Int.mul_le_mul_of_nonneg_right (by omega) (by have := o.a; omega)
    rw [Int.add_mul, Int.one_mul, Int.mul_comm c a] at h1
    omega
  unfold colF MN.col
  have hl : ((MN.low a b c p.1 p.2).2 * a + (MN.low a b c p.1 p.2).1).toNat < t.cps.toList.length := by have := o.ln; omega
  rw [List.getD_eq_getElem?_getD, List.getElem?_eq_getElem hl]
  exact List.getElem_mem hl
/-- a comprehension over xs, each item with its own answer -/
theorem mapI_fil {α : Type} {tg : Tg} {rt : RdT} {re : Rd} {ρ : Ev} {xs : List α} {f g : α → D} {p : α → Bool} {Q : List D → Prop}
    (h : ∀ x ∈ xs, ∀ (k : D → Prop) (k' : Prop), (p x = true → k (g x)) → (p x = false → k') → tgD tg (f x) ρ fun ρ2 => rt ρ2 fun b => ifB b (re ρ2 k) k') (hq : Q ((xs.filter p).map g)) : mapI tg rt re ρ (xs.map f) Q := by
  refine ⟨fun i acc => acc = ((xs.take i).filter p).map g, rfl, fun i d acc hd hj => ?_, fun out hj => ?_⟩
  · obtain ⟨x, hx, rfl⟩ := map_get hd
    refine h x (List.mem_of_getElem? hx) _ _ (fun e => ?_) (fun e => ?_)
    · show acc ++ [_] = _
      rw [hj, List.take_succ, hx, List.filter_append, List.map_append]
      simp [e]
    · show acc = _
      rw [hj, List.take_succ, hx, List.filter_append, List.map_append]
      simp [e]
  · rw [List.length_map, List.take_length] at hj
    rw [hj]
    exact hq
theorem mapI_fun {α : Type} {tg : Tg} {re : Rd} {ρ : Ev} {xs : List α} {f g : α → D} {Q : List D → Prop} (h : ∀ x ∈ xs, ∀ k : D → Prop, k (g x) → tgD tg (f x) ρ fun ρ2 => re ρ2 k) (hq : Q (xs.map g)) : mapI tg rYes re ρ (xs.map f) Q := by
  refine ⟨fun i acc => acc = (xs.take i).map g, rfl, fun i d acc hd hj => ?_, fun out hj => ?_⟩
  · obtain ⟨x, hx, rfl⟩ := map_get hd
    have z := h x (List.mem_of_getElem? hx) (fun y => acc ++ [y] = (xs.take (i + 1)).map g) (by rw [hj, List.take_succ, hx, List.map_append]; rfl)
    have key : ∀ (tg : Tg) (d : D) (q q' : Ev → Prop), (∀ ρ, q ρ → q' ρ) → tgD tg d ρ q → tgD tg d ρ q' := by
      intro tg d q q' hq
      have st : ∀ (is : List Nat) (ds : List D) (ρ : Ev), stN is ds ρ q → stN is ds ρ q' := by
        intro is
        induction is with
        | nil => intro ds ρ z; cases ds with
          | nil => exact hq _ z
          | cons _ _ => exact z
        | cons i is ih => intro ds ρ z; cases ds with
          | nil => exact z
          | cons d ds => exact ih ds _ z
      cases tg with
      | nm i => exact fun z => hq _ z
      | tp is => cases d <;> first | exact fun z => st _ _ _ z | exact fun z => z
    exact key _ _ _ _ (fun ρ2 z2 => ifB_T rfl z2) z
  · rw [List.length_map, List.take_length] at hj
    rw [hj]
    exact hq
/-! ### drawn carpets: a net and a text of its cell -/
def letSets : List Str := ["ab", "abc", "az", "qrb"]
def lets (t : Str) : Prop := ∃ s ∈ letSets, ∀ x ∈ t.cps.toList, x ∈ s.cps.toList
theorem lets_low {t : Str} (h : lets t) : lowS t := by
  obtain ⟨s, hs, h⟩ := h
  intro c hc
  have key : ∀ s ∈ letSets, ∀ c ∈ s.cps.toList, 97 ≤ c ∧ c ≤ 122 := by decide +kernel
  exact key s hs c (h c hc)
abbrev wovD (a b c : Int) (t : Str) : D := .tup [n3 a b c, .str t]
/-- a drawn carpet of at most n places -/
structure Wv (n : Int) (a b c : Int) (t : Str) : Prop where
  ok : MN.Ok a b c
  mx : a * c ≤ n
  ln : (t.cps.toList.length : Int) = a * c
  le : lets t
theorem Wv.okT {n a b c : Int} {t : Str} (h : Wv n a b c t) (hn : n ≤ 5000) : okT t a b c := ⟨h.ok, by have := h.mx; omega, h.ln⟩
def R__law_seen : RdF := ar3 fun n d p Q _ => ∃ a b c t x y, n = n3 a b c ∧ d = .str t ∧ p = dPl x y ∧ (okT t a b c ∧ Sz 4000 y) ∧ Q (.str (chr1 (colF t a b c (x, y))))
/-- a kind carries a net to itself -/
def keepsN (M : MN.Mat) (a b c : Int) : Bool := decide (MN.low a b c (MN.turn M (a, 0)).1 (MN.turn M (a, 0)).2 = (0, 0)) && decide (MN.low a b c (MN.turn M (b, c)).1 (MN.turn M (b, c)).2 = (0, 0))
theorem keepsN_id {a b c : Int} (o : MN.Ok a b c) : keepsN (1, 0, 0, 1) a b c = true := by
  have ha : 0 < a := by have := o.2; omega
  have hc : 0 < c := by have := o.1; omega
  unfold keepsN
  have e1 : MN.turn (1, 0, 0, 1) (a, 0) = (a, 0) := by simp [MN.turn]
  have e2 : MN.turn (1, 0, 0, 1) (b, c) = (b, c) := by simp [MN.turn]
  rw [e1, e2, decide_eq_true ((MN.low_zero ha hc).mpr ⟨1, 0, by omega, by omega⟩), decide_eq_true ((MN.low_zero ha hc).mpr ⟨0, 1, by omega, by omega⟩)]
  rfl
def R__law_keeps : RdF := ar2 fun n k Q _ => ∃ a b c s M, n = n3 a b c ∧ k = .str s ∧ (okN 600 a b c ∧ mat s = some M) ∧ Q (.bl (keepsN M a b c))
def R__law_move : RdF := ar2 fun t n Q _ => ∃ a b c, t = .tape ∧ n = n3 a b c ∧ okN 600 a b c ∧ ∀ k m, mat k = some m.1 → (-2 ≤ m.2.1 ∧ m.2.1 ≤ 2) → (-2 ≤ m.2.2 ∧ m.2.2 ≤ 2) → keepsN m.1 a b c = true → Q (mvD k m)
def R__law_letters : RdF := ar2 fun t d Q _ => ∃ n, t = .tape ∧ d = .int n ∧ (0 ≤ n ∧ n ≤ 5000) ∧ ∀ t, (t.cps.toList.length : Int) = n → lets t → Q (.str t)
def R__law_tied : RdF := ar3 fun n d l Q _ => ∃ (a b c : Int) (t : Str) (mv : List (Str × MN.Mtn)), n = n3 a b c ∧ d = .str t ∧ l = .lst (mv.map fun q => mvD q.1 q.2) ∧ (okT t a b c ∧ a * c ≤ 2000 ∧ PyData.strOk t = true ∧ mv.length ≤ 4 ∧ (∀ q ∈ mv, mat q.1 = some q.2.1) ∧ ∀ q ∈ mv, Sz 100 q.2.2.1 ∧ Sz 100 q.2.2.2) ∧ ∀ t' : Str, (t'.cps.toList.length : Int) = a * c → (∀ x ∈ t'.cps.toList, x ∈ t.cps.toList) → Q (.str t')
def R__law_copied : RdF := ar4 fun t n d m Q _ => ∃ a b c s k, t = .tape ∧ n = n3 a b c ∧ d = .str s ∧ m = .int k ∧ (okT s a b c ∧ 0 ≤ k ∧ k ≤ 5000) ∧ ∀ a' b' c' s', okT s' a' b' c' → (a' * c' ≤ k ∨ (a' = a ∧ c' = c)) → a ∣ a' → c ∣ c' → colF s' a' b' c' = colF s a b c → (∀ x ∈ s'.cps.toList, x ∈ s.cps.toList) → Q (wovD a' b' c' s')
def R__law_woven : RdF := ar2 fun t d Q _ => ∃ n, t = .tape ∧ d = .int n ∧ (4 ≤ n ∧ n ≤ 1000) ∧ ∀ a b c t, Wv n a b c t → Q (wovD a b c t)
def R__law_exact : RdF := ar2 fun n d Q _ => ∃ a b c t, n = n3 a b c ∧ d = .str t ∧ (okT t a b c ∧ a * c ≤ 200) ∧ ∀ w q r t', Carp (colF t a b c) w q r t' → w ≤ a → r ≤ c → Q (wovD w q r t')
/-- whether a motion keeps the colours, and its kind the net -/
noncomputable def keepM (f : Int × Int → Nat) (a b c : Int) (m : MN.Mtn) : Bool := @decide (keepsN m.1 a b c = true ∧ ∀ p, f (MN.mapp m p) = f p) (Classical.propDecidable _)
theorem keepM_iff {f : Int × Int → Nat} {a b c : Int} {m : MN.Mtn} : keepM f a b c m = true ↔ keepsN m.1 a b c = true ∧ ∀ p, f (MN.mapp m p) = f p := by unfold keepM; exact @decide_eq_true_iff _ (Classical.propDecidable _)
theorem keepsN_iff {M : MN.Mat} {a b c : Int} (o : MN.Ok a b c) : keepsN M a b c = true ↔ MN.InN a b c (MN.turn M (a, 0)).1 (MN.turn M (a, 0)).2 ∧ MN.InN a b c (MN.turn M (b, c)).1 (MN.turn M (b, c)).2 := by
  have ha : 0 < a := by have := o.2; omega
  have hc : 0 < c := by have := o.1; omega
  unfold keepsN
  rw [Bool.and_eq_true, decide_eq_true_eq, decide_eq_true_eq, MN.low_zero ha hc, MN.low_zero ha hc]
theorem keepM_none {f : Int × Int → Nat} {a b c x y : Int} (o : MN.Ok a b c) : keepM f a b c ((1, 0, 0, 1), x, y) = keepB f x y := by
  refine MN.bool_ext ?_
  rw [keepM_iff, keepB_iff]
  have e : ∀ p : Int × Int, MN.mapp ((1, 0, 0, 1), x, y) p = (p.1 + x, p.2 + y) := fun p => by simp [MN.mapp, MN.turn]
  constructor
  · rintro ⟨_, h⟩ p
    have := h p
    rw [e] at this
    exact this
  · intro h
    refine ⟨keepsN_id o, fun p => ?_⟩
    rw [e]
    exact h p
def R__law_is_kept : RdF := ar3 fun n d l Q _ => ∃ a b c t k m, n = n3 a b c ∧ d = .str t ∧ l = mvD k m ∧ (okT t a b c ∧ mat k = some m.1 ∧ Sz 1000 m.2.1 ∧ Sz 1000 m.2.2) ∧ Q (.bl (keepM (colF t a b c) a b c m))
def carCs : List Str := ["Carpet", "Woven"]
def R__law_made : RdF := ar3 fun t n d Q _ => ∃ a b c s, t = .tape ∧ n = n3 a b c ∧ d = .str s ∧ (okT s a b c ∧ lowS s ∧ a ≤ 100 ∧ c ≤ 100 ∧ a * c ≤ 1000) ∧ ∀ C w q r t', C ∈ carCs → Carp (colF s a b c) w q r t' → w ≤ a → r ≤ c → Q (dCar C w q r t')
noncomputable def sameF (f g : Int × Int → Nat) : Bool := @decide (f = g) (Classical.propDecidable _)
theorem sameF_iff {f g : Int × Int → Nat} : sameF f g = true ↔ f = g := by unfold sameF; exact @decide_eq_true_iff _ (Classical.propDecidable _)
theorem sameF_false {f g : Int × Int → Nat} : sameF f g = false ↔ ¬ f = g := by
  rw [← sameF_iff]
  cases sameF f g <;> simp
def R__law_same : RdF := ar2 fun x y Q _ => ∃ a b c s a' b' c' s', x = wovD a b c s ∧ y = wovD a' b' c' s' ∧ (okT s a b c ∧ okT s' a' b' c' ∧ a * c ≤ 100 ∧ a' * c' ≤ 100) ∧ Q (.bl (sameF (colF s a b c) (colF s' a' b' c')))
def R__law_keeps_all : RdF := ar2 fun x y Q _ => ∃ a b c s a' b' c' s', x = wovD a b c s ∧ y = wovD a' b' c' s' ∧ (okT s a b c ∧ okT s' a' b' c' ∧ a * c ≤ 100 ∧ a' * c' ≤ 100) ∧ Q (.bl (keepB (colF s' a' b' c') a 0 && keepB (colF s' a' b' c') b c))
/-! ### carpets of both classes -/
def R_Woven_UinitU : RdF := ar2 fun n d Q _ => ∃ a b c t, n = dNet a b c ∧ d = .str t ∧ okT t a b c ∧ ∀ w q r t', Carp (colF t a b c) w q r t' → w ≤ a → r ≤ c → Q (dCar "Woven" w q r t')
def R_Carpet_on : RdF := ar2 fun n d Q _ => ∃ a b c t, n = dNet a b c ∧ d = .str t ∧ (okT t a b c ∧ a * c ≤ 2000 ∧ lowS t) ∧ ∀ w q r t', Carp (colF t a b c) w q r t' → w ≤ a → r ≤ c → Q (dCar "Woven" w q r t')
def R_Carpet_eq2 (cs : List Str) : RdF := ar2 fun d v Q _ => ∃ C a b c t, d = dCar C a b c t ∧ C ∈ carCs ∧ ((∃ C' a' b' c' t', v = dCar C' a' b' c' t' ∧ C' ∈ carCs ∧ Q (.bl (decide ((a = a' ∧ b = b' ∧ c = c') ∧ t = t')))) ∨ (knD v ∧ Q (.bl false)) ∨ (∃ x ns ds, v = .obj x ns ds ∧ x ∈ cs ∧ ¬ x ∈ carCs ∧ Q (.bl false)))
theorem R_Carpet_UeqU_sym {cs : List Str} : ∀ x y Q E, R_Carpet_eq2 cs [x, y] Q E → ∀ ns ds, y = .obj "Woven" ns ds → R_Carpet_eq2 cs [y, x] Q E := by
  rintro x y Q E ⟨C, a, b, c, t, rfl, hC, h⟩ ns ds rfl
  rcases h with ⟨C', a', b', c', t', e, hC', h⟩ | ⟨h, _⟩ | ⟨x, ns, ds, e, _, h, _⟩
  · cases e
    refine ⟨_, a', b', c', t', rfl, hC', .inl ⟨C, a, b, c, t, rfl, hC, ?_⟩⟩
    have : decide ((a' = a ∧ b' = b ∧ c' = c) ∧ t' = t) = decide ((a = a' ∧ b = b' ∧ c = c') ∧ t = t') := decide_eq_decide.mpr ⟨fun ⟨⟨z1, z2, z3⟩, z4⟩ => ⟨⟨z1.symm, z2.symm, z3.symm⟩, z4.symm⟩, fun ⟨⟨z1, z2, z3⟩, z4⟩ => ⟨⟨z1.symm, z2.symm, z3.symm⟩, z4.symm⟩⟩
    rw [this]
    exact h
  · exact h.elim
  · cases e
    exact absurd (show ("Woven" : Str) ∈ carCs from .tail _ (.head _)) h
end Y
namespace Y
open PySem PySem.Spec PyProof.Rows L2 Z
open MN (spotsL rowL upL Keeps Exact cellT)
/-! ### dicts from places to letters -/
def kvP (ps : List ((Int × Int) × Nat)) : List (List Int × D) := ps.map fun q => ([q.1.1, q.1.2], .str (chr1 q.2))
theorem kvP_len (ps : List ((Int × Int) × Nat)) : (kvP ps).length = ps.length := by simp [kvP]
theorem kvP_look (p : Int × Int) : ∀ ps : List ((Int × Int) × Nat), (p ∉ ps.map (·.1) ∧ lookI (kvP ps) [p.1, p.2] = none) ∨ ∃ n, (p, n) ∈ ps ∧ lookI (kvP ps) [p.1, p.2] = some (.str (chr1 n))
  | [] => .inl ⟨by simp, rfl⟩
  | ((x, y), n) :: ps => by
    by_cases h : ([x, y] : List Int) = [p.1, p.2]
    · refine .inr ⟨n, ?_, ?_⟩
      · have h1 : x = p.1 := by simpa using (List.cons.inj h).1
        have h2 : y = p.2 := by simpa using (List.cons.inj (List.cons.inj h).2).1
        subst h1 h2
        exact List.mem_cons_self
      · show ((List.find? _ (([x, y], D.str (chr1 n)) :: kvP ps)).map (·.2)) = _
        rw [List.find?_cons_of_pos (by simpa using h)]
        rfl
    · have e : lookI (kvP (((x, y), n) :: ps)) [p.1, p.2] = lookI (kvP ps) [p.1, p.2] := by
        show ((List.find? _ (([x, y], D.str (chr1 n)) :: kvP ps)).map (·.2)) = _
        rw [List.find?_cons_of_neg (by simpa using h)]
        rfl
      have hp : p ≠ (x, y) := fun z => h (by rw [z])
      rcases kvP_look p ps with ⟨h1, h2⟩ | ⟨m, h1, h2⟩
      · exact .inl ⟨by rw [List.map_cons, List.mem_cons]; rintro (z | z); exact hp z; exact h1 z, by rw [e]; exact h2⟩
      · exact .inr ⟨m, List.mem_cons_of_mem _ h1, by rw [e]; exact h2⟩
theorem kvP_put {ps : List ((Int × Int) × Nat)} {p : Int × Int} {n : Nat} (h : lookI (kvP ps) [p.1, p.2] = none) : putI (kvP ps) [p.1, p.2] (.str (chr1 n)) = kvP (ps ++ [(p, n)]) := by
  unfold putI
  rw [h]
  simp [kvP]
theorem dget_pl {ρ : Ev} {i : Nat} {kvs : List (List Int × D)} {p : Int × Int} {Q : Option D → Prop} (e : ρ[i]? = some (.mu (.dct kvs))) (h : Q (lookI kvs [p.1, p.2])) : dgetM i ρ (plD p) Q := by
  unfold dgetM
  rw [e]
  exact h
theorem dput_pl {ρ : Ev} {i : Nat} {kvs : List (List Int × D)} {p : Int × Int} {d : D} {Q : Ev → Prop} (e : ρ[i]? = some (.mu (.dct kvs))) (hl : kvs.length < 100000) (h : Q (ρ.set i (.mu (.dct (putI kvs [p.1, p.2] d))))) : dputM i ρ (plD p) d Q := by
  unfold dputM
  rw [e]
  exact ⟨hl, h⟩
theorem dget_v {ρ : Ev} {i j : Nat} {kvs : List (List Int × D)} {p : Int × Int} {Q : Option D → Prop} (e1 : ρ[j]? = some (.val (plD p))) (e : ρ[i]? = some (.mu (.dct kvs))) (h : Q (lookI kvs [p.1, p.2])) : rVar j ρ fun kd => dgetM i ρ kd Q := by
  unfold rVar
  rw [e1]
  exact dget_pl e h
theorem dput_v {ρ : Ev} {i j : Nat} {kvs : List (List Int × D)} {p : Int × Int} {d : D} {Q : Ev → Prop} (e1 : ρ[j]? = some (.val (plD p))) (e : ρ[i]? = some (.mu (.dct kvs))) (hl : kvs.length < 100000) (h : Q (ρ.set i (.mu (.dct (putI kvs [p.1, p.2] d))))) : rVar j ρ fun kd => dputM i ρ kd d Q := by
  unfold rVar
  rw [e1]
  exact dput_pl e hl h
theorem keyI_pl (p : Int × Int) : keyI (plD p) = some [p.1, p.2] := rfl
/-- so many different things of a list -/
theorem nodup_le {α : Type} [DecidableEq α] : ∀ {l m : List α}, l.Nodup → (∀ x ∈ l, x ∈ m) → l.length ≤ m.length
  | [], _, _, _ => Nat.zero_le _
  | x :: l, m, hn, hm => by
    have hx := hm x List.mem_cons_self
    have hn' := List.nodup_cons.mp hn
    have := nodup_le (l := l) (m := m.erase x) hn'.2 fun y hy => (List.mem_erase_of_ne (fun (e : y = x) => hn'.1 (e ▸ hy))).mpr (hm y (List.mem_cons_of_mem _ hy))
    rw [List.length_erase_of_mem hx] at this
    have : 0 < m.length := List.length_pos_of_mem hx
    rw [List.length_cons]
    omega
theorem okD_pls (l : List (Int × Int)) : okD 8 (.lst (l.map plD)) = true := by
  show (l.map plD).all (okD 7) = true
  rw [List.all_map, List.all_eq_true]
  intro _ _
  rfl
theorem eqD_pl (p q : Int × Int) : eqD (plD p) (plD q) = decide (p = q) := by
  show eqD (.tup [.int p.1, .int p.2]) (.tup [.int q.1, .int q.2]) = _
  rw [eqN2]
  exact decide_eq_decide.mpr ⟨fun z => Prod.ext z.1 z.2, fun z => by rw [z]; exact ⟨rfl, rfl⟩⟩
/-- l.index(p) -/
theorem idx_pl {l : List (Int × Int)} {p : Int × Int} {Q : D → Prop} (hp : p ∈ l) (h : ∀ j : Nat, j < l.length → Q (.int (j : Nat))) : dIndex (.lst (l.map plD)) (plD p) Q := by
  have key : ∀ l : List (Int × Int), p ∈ l → ∃ j : Nat, l[j]? = some p ∧ ∀ m q, m < j → l[m]? = some q → q ≠ p := by
    intro l
    induction l with
    | nil => intro h; cases h
    | cons x l ih =>
      intro h
      by_cases e : x = p
      · exact ⟨0, by rw [e]; rfl, fun m q hm => absurd hm (Nat.not_lt_zero _)⟩
      · obtain ⟨j, h1, h2⟩ := ih (by rcases List.mem_cons.mp h with z | z; exact absurd z.symm e; exact z)
        refine ⟨j + 1, by simpa using h1, fun m q hm hq => ?_⟩
        cases m with
        | zero => have : x = q := by simpa using hq
                  rw [← this]; exact e
        | succ m => exact h2 m q (by omega) (by simpa using hq)
  obtain ⟨j, h1, h2⟩ := key l hp
  refine ⟨j, plD p, ⟨okD_pls l, rfl⟩, by rw [List.getElem?_map, h1]; rfl, by rw [eqD_pl]; simp, fun m z hm hz => ?_, h j (lt_of_get h1)⟩
  obtain ⟨q, hq, rfl⟩ := map_get hz
  rw [eqD_pl]
  exact decide_eq_false (h2 m q hm hq)
theorem v_ {ρ : Ev} {i : Nat} {d : D} {Q : D → Prop} (e : ρ[i]? = some (.val d)) (h : Q d) : rVar i ρ Q := by
  unfold rVar
  rw [e]
  exact h
theorem idx_v {ρ : Ev} {i j : Nat} {l : List (Int × Int)} {p : Int × Int} {Q : D → Prop} (e1 : ρ[i]? = some (.val (.lst (l.map plD)))) (e2 : ρ[j]? = some (.val (plD p))) (hp : p ∈ l) (h : ∀ j : Nat, j < l.length → Q (.int (j : Nat))) : rVar i ρ fun l => isLs l (rVar j ρ fun d => dIndex l d Q) :=
  v_ e1 (show rVar j ρ fun d => dIndex _ d Q from v_ e2 (idx_pl hp h))
theorem mapI_pls {α : Type} {tg : Tg} {re : Rd} {ρ : Ev} {xs : List α} {f g : α → D} {Q : List D → Prop} (h : ∀ x ∈ xs, ∀ k : D → Prop, k (g x) → tgD tg (f x) ρ fun ρ2 => re ρ2 k) (hq : Q (xs.map g)) : mapI tg rYes re ρ (xs.map f) Q := mapI_fun h hq
/-- each item with an answer that only some promise binds -/
theorem mapI_rel {α β : Type} {tg : Tg} {re : Rd} {ρ : Ev} {xs : List α} {f : α → D} {g : β → D} {R : α → β → Prop} {Q : List D → Prop} (h : ∀ x ∈ xs, ∀ k : D → Prop, (∀ y, R x y → k (g y)) → tgD tg (f x) ρ fun ρ2 => re ρ2 k) (hq : ∀ ys : List β, ys.length = xs.length → (∀ (i : Nat) x y, xs[i]? = some x → ys[i]? = some y → R x y) → Q (ys.map g)) : mapI tg rYes re ρ (xs.map f) Q := by
  refine ⟨fun i acc => i ≤ xs.length ∧ ∃ ys : List β, ys.length = i ∧ (∀ (j : Nat) x y, xs[j]? = some x → ys[j]? = some y → R x y) ∧ acc = ys.map g, ⟨Nat.zero_le _, [], rfl, fun j x y _ h => by simp at h, rfl⟩, fun i d acc hd hj => ?_, fun out hj => ?_⟩
  · obtain ⟨x, hx, rfl⟩ := map_get hd
    obtain ⟨hi, ys, y1, y2, rfl⟩ := hj
    have hi2 := lt_of_get hx
    have z := h x (List.mem_of_getElem? hx) (fun y => i + 1 ≤ xs.length ∧ ∃ ys' : List β, ys'.length = i + 1 ∧ (∀ (j : Nat) x y, xs[j]? = some x → ys'[j]? = some y → R x y) ∧ ys.map g ++ [y] = ys'.map g) (fun y hy => ⟨hi2, ys ++ [y], by simp [y1], fun j x' y' h1 h2 => ?_, by simp⟩)
    · have key : ∀ (tg : Tg) (d : D) (q q' : Ev → Prop), (∀ ρ, q ρ → q' ρ) → tgD tg d ρ q → tgD tg d ρ q' := by
        intro tg d q q' hq
        have st : ∀ (is : List Nat) (ds : List D) (ρ : Ev), stN is ds ρ q → stN is ds ρ q' := by
          intro is
          induction is with
          | nil => intro ds ρ z; cases ds with
            | nil => exact hq _ z
            | cons _ _ => exact z
          | cons i is ih => intro ds ρ z; cases ds with
            | nil => exact z
            | cons d ds => exact ih ds _ z
        cases tg with
        | nm i => exact fun z => hq _ z
        | tp is => cases d <;> first | exact fun z => st _ _ _ z | exact fun z => z
      exact key _ _ _ _ (fun ρ2 z2 => ifB_T rfl z2) z
    · rcases Nat.lt_or_ge j ys.length with z | z
      · rw [List.getElem?_append_left z] at h2
        exact y2 j x' y' h1 h2
      · have hj : j = ys.length := by
          have := lt_of_get h2
          simp at this
          omega
        subst hj
        rw [List.getElem?_append_right (Nat.le_refl _)] at h2
        have e1 : y = y' := by simpa using h2
        rw [y1, hx] at h1
        have e2 := Option.some.inj h1
        subst e1 e2
        exact hy
  · rw [List.length_map] at hj
    obtain ⟨_, ys, y1, y2, rfl⟩ := hj
    exact hq ys y1 y2
end Y
namespace Y
open PySem PySem.Spec PyProof.Rows L2 Z
open MN (spotsL rowL upL Keeps Exact cellT)
/-! ### equal carpets -/
theorem carp_uni {f : Int × Int → Nat} {w q r w' q' r' : Int} {t t' : Str} (h : Carp f w q r t) (h' : Carp f w' q' r' t') : w = w' ∧ q = q' ∧ r = r' ∧ t = t' := by
  obtain ⟨rfl, rfl, rfl⟩ := MN.exact_uni h.ex h'.ex
  exact ⟨rfl, rfl, rfl, h.tx.trans h'.tx.symm⟩
theorem carp_eq {f f' : Int × Int → Nat} {w q r w' q' r' : Int} {t t' : Str} (h : Carp f w q r t) (h' : Carp f' w' q' r' t') : decide ((w = w' ∧ q = q' ∧ r = r') ∧ t = t') = sameF f f' := by
  refine MN.bool_ext ?_
  rw [decide_eq_true_eq, sameF_iff]
  constructor
  · rintro ⟨⟨rfl, rfl, rfl⟩, rfl⟩
    funext p
    rw [← h.col, ← h'.col]
  · rintro rfl
    obtain ⟨e1, e2, e3, e4⟩ := carp_uni h h'
    exact ⟨⟨e1, e2, e3⟩, e4⟩
/-- a drawn carpet and what the package made of it -/
abbrev Ent := (Int × Int × Int × Str) × (Str × Int × Int × Int × Str)
def entD (e : Ent) : D := .tup [wovD e.1.1 e.1.2.1 e.1.2.2.1 e.1.2.2.2, dCar e.2.1 e.2.2.1 e.2.2.2.1 e.2.2.2.2.1 e.2.2.2.2.2]
structure EntOk (n : Int) (e : Ent) : Prop where
  wv : Wv n e.1.1 e.1.2.1 e.1.2.2.1 e.1.2.2.2
  cl : e.2.1 ∈ carCs
  cp : Carp (colF e.1.2.2.2 e.1.1 e.1.2.1 e.1.2.2.1) e.2.2.1 e.2.2.2.1 e.2.2.2.2.1 e.2.2.2.2.2
/-- what is made of a drawn carpet is small -/
theorem Wv.bnd {n a b c w q r : Int} {t u : Str} (W : Wv n a b c t) (hn : n ≤ 5000) (cp : Carp (colF t a b c) w q r u) (hw : w ≤ a) (hr : r ≤ c) : (w ≤ n ∧ r ≤ n ∧ w * r ≤ n) ∧ lowS u ∧ (a ≤ n ∧ c ≤ n) := by
  have o := W.okT hn
  have o2 := cp.okT
  have m : w * r ≤ a * c := Int.mul_le_mul hw hr (by have := o2.c; omega) (by have := o.a; omega)
  have := W.mx
  have l1 : w * 1 ≤ w * r := Int.mul_le_mul_of_nonneg_left (by have := o2.c; omega) (by have := o2.a; omega)
  have l2 : 1 * r ≤ w * r := Int.mul_le_mul_of_nonneg_right (by have := o2.a; omega) (by have := o2.c; omega)
  have l3 : a * 1 ≤ a * c := Int.mul_le_mul_of_nonneg_left (by have := o.c; omega) (by have := o.a; omega)
  have l4 : 1 * c ≤ a * c := Int.mul_le_mul_of_nonneg_right (by have := o.a; omega) (by have := o.c; omega)
  refine ⟨⟨by omega, by omega, by omega⟩, fun x hx => ?_, by omega, by omega⟩
  rw [cp.tx] at hx
  unfold ofL MN.cellT at hx
  rw [List.toList_toArray] at hx
  obtain ⟨p, _, rfl⟩ := List.mem_map.mp hx
  exact lets_low W.le _ (col_mem o p)
theorem Wv.ac {n a b c : Int} {t : Str} (W : Wv n a b c t) : 0 < a ∧ 0 < c ∧ a ≤ n ∧ c ≤ n := by
  have a0 : 0 < a := by have := W.ok.2; omega
  have c0 : 0 < c := by have := W.ok.1; omega
  have := W.mx
  have l3 : a * 1 ≤ a * c := Int.mul_le_mul_of_nonneg_left (by omega) (by omega)
  have l4 : 1 * c ≤ a * c := Int.mul_le_mul_of_nonneg_right (by omega) (by omega)
  omega
theorem sameF_self (f : Int × Int → Nat) : sameF f f = true := sameF_iff.mpr rfl
theorem sameF_comm (f g : Int × Int → Nat) : sameF f g = sameF g f := MN.bool_ext (by rw [sameF_iff, sameF_iff]; exact ⟨Eq.symm, Eq.symm⟩)
theorem memT {C : Str} {cs : List Str} (h : C ∈ carCs) : C ∈ ("Carpet" : Str) :: ("Woven" : Str) :: cs := by
  rcases List.mem_cons.mp h with rfl | z
  · exact .head _
  · exact .tail _ (by rcases List.mem_cons.mp z with rfl | z; exact .head _; cases z)
/-- == and != of two carpets -/
theorem eqT_car {B : Bs} {neg : Bool} {cs cs0 : List Str} {C C' : Str} {f f' : Int × Int → Nat} {w q r w' q' r' : Int} {t t' : Str} {Q : D → Prop} (hC : C ∈ carCs) (hC' : C' ∈ carCs) (h : Carp f w q r t) (h' : Carp f' w' q' r' t') (k : Q (.bl (neg != sameF f f'))) : dEqT B (R_Carpet_eq2 cs) neg "Carpet" "Woven" ["own_net", "own_text"] cs0 (dCar C w q r t) (dCar C' w' q' r' t') Q := by
  refine ⟨hC, rfl, ?_, C, w, q, r, t, rfl, hC, .inl ⟨C', w', q', r', t', rfl, hC', ?_⟩⟩
  · rcases List.mem_cons.mp hC' with rfl | z
    · exact .head _
    · exact .tail _ (by rcases List.mem_cons.mp z with rfl | z; exact .head _; cases z)
  · show Q (.bl (neg != decide _))
    rw [carp_eq h h']
    exact k
theorem low_self {a b c x y : Int} (x0 : 0 ≤ x) (x1 : x < a) (y0 : 0 ≤ y) (y1 : y < c) : MN.low a b c x y = (x, y) := by
  unfold MN.low
  rw [Int.ediv_eq_zero_of_lt y0 y1]
  simp [Int.emod_eq_of_lt x0 x1]
theorem cell_text {t : Str} {a b c : Int} (o : Y.okT t a b c) : ofL (cellT (colF t a b c) a c) = t := by
  have a0 := o.a
  have c0 := o.c
  have ln := o.ln
  obtain ⟨a', rfl⟩ := Int.eq_ofNat_of_zero_le (Int.le_of_lt a0)
  obtain ⟨c', rfl⟩ := Int.eq_ofNat_of_zero_le (Int.le_of_lt c0)
  have ap : 0 < a' := by omega
  have hl : t.cps.toList.length = a' * c' := by
    have : ((t.cps.toList.length : Nat) : Int) = ((a' * c' : Nat) : Int) := by rw [Int.natCast_mul]; exact ln
    exact Int.ofNat.inj this
  have e : cellT (colF t a' b c') a' c' = t.cps.toList := by
    unfold cellT
    rw [Int.toNat_natCast, Int.toNat_natCast, spots_range ap, List.map_map]
    apply List.ext_getElem?
    intro i
    rw [List.getElem?_map]
    rcases Nat.lt_or_ge i (a' * c') with z | z
    · rw [List.getElem?_range z]
      show some (colF t a' b c' ((i : Int) % (a' : Int), (i : Int) / (a' : Int))) = _
      have h1 : (0 : Int) ≤ (i : Int) % (a' : Int) := Int.emod_nonneg _ (by omega)
      have h2 : (i : Int) % (a' : Int) < a' := Int.emod_lt_of_pos _ a0
      have h3 : (0 : Int) ≤ (i : Int) / (a' : Int) := Int.ediv_nonneg (by omega) (by omega)
      have h4 : (i : Int) / (a' : Int) < c' := Int.ediv_lt_of_lt_mul a0 (by rw [← Int.natCast_mul, Nat.mul_comm]; omega)
      unfold colF MN.col
      dsimp only
      rw [low_self h1 h2 h3 h4]
      dsimp only
      have : (i : Int) / (a' : Int) * (a' : Int) + (i : Int) % (a' : Int) = (i : Int) := by
        have := Int.emod_add_mul_ediv (i : Int) a'
        rw [Int.mul_comm] at this
        omega
      rw [this, Int.toNat_natCast, List.getD_eq_getElem?_getD, List.getElem?_eq_getElem (by omega)]
      rfl
    · rw [List.getElem?_eq_none (by simpa using z), List.getElem?_eq_none (by omega)]
      rfl
  rw [e, ofL_toList]
/-- all letters of the cell differ -/
theorem carp_inj {t : Str} {a b c : Int} (o : Y.okT t a b c) (h : t.cps.toList.Nodup) : Carp (colF t a b c) a b c t := by
  have a0 := o.a
  have c0 := o.c
  have ln := o.ln
  refine ⟨⟨o.ok, fun x y => ⟨fun k => MN.keeps_net o.ok k, fun k => ?_⟩⟩, o.mx, (cell_text o).symm⟩
  have k0 := k (0, 0)
  dsimp only at k0
  rw [Int.zero_add, Int.zero_add] at k0
  unfold colF MN.col at k0
  dsimp only at k0
  rw [low_self (Int.le_refl 0) a0 (Int.le_refl 0) c0] at k0
  dsimp only at k0
  obtain ⟨r1, r2, r3, r4⟩ := MN.low_rng (a := a) (b := b) (c := c) (x := x) (y := y) a0 c0
  refine (MN.low_zero a0 c0).mp ?_
  generalize MN.low a b c x y = p at *
  have i0 : 0 ≤ p.2 * a := Int.mul_nonneg r3 (by omega)
  have i1 : p.2 * a + p.1 < a * c := by
    have h1 : (p.2 + 1) * a ≤ c * a := Int.mul_le_mul_of_nonneg_right (by omega) (by omega)
    rw [Int.add_mul, Int.one_mul, Int.mul_comm c a] at h1
    omega
  have l1 : (p.2 * a + p.1).toNat < t.cps.toList.length := by omega
  have l0 : 0 < t.cps.toList.length := by omega
  rw [Int.zero_mul, Int.zero_add, Int.toNat_zero, List.getD_eq_getElem?_getD, List.getD_eq_getElem?_getD, List.getElem?_eq_getElem l1, List.getElem?_eq_getElem l0] at k0
  have k1 : t.cps.toList[(p.2 * a + p.1).toNat] = t.cps.toList[0] := k0
  have ez : (p.2 * a + p.1).toNat = 0 := by
    rcases Nat.eq_zero_or_pos (p.2 * a + p.1).toNat with z | z
    · exact z
    · exact absurd k1.symm (List.pairwise_iff_getElem.mp h 0 _ l0 l1 z)
  have p1 : p.1 = 0 := by omega
  have p2 : p.2 = 0 := by
    rcases Int.lt_or_eq_of_le r3 with z | z
    · have : 0 < p.2 * a := Int.mul_pos z a0
      omega
    · exact z.symm
  exact Prod.ext p1 p2
end Y
namespace Y
open PySem PySem.Spec PyProof.Rows L2 Z
open MN (spotsL rowL upL Keeps Exact cellT Mtn mapp minv mmul turn tr Orth Img)
/-! ### carpets that are moved -/
theorem okT_cell {g : Int × Int → Nat} {a b c : Int} (ok : MN.Ok a b c) (mx : a * c ≤ 5000) : Y.okT (ofL (cellT g a c)) a b c := by
  refine ⟨ok, mx, ?_⟩
  have a0 : 0 < a := by have := ok.2; omega
  have c0 : 0 < c := by have := ok.1; omega
  show (((cellT g a c).toArray.toList.length : Nat) : Int) = _
  rw [List.toList_toArray, MN.cellT_len, Int.natCast_mul]
  have e1 : ((a.toNat : Nat) : Int) = a := by omega
  have e2 : ((c.toNat : Nat) : Int) = c := by omega
  rw [e1, e2]
theorem col_cell {g : Int × Int → Nat} {a b c : Int} (ok : MN.Ok a b c) (k : ∀ x y, MN.InN a b c x y → Keeps g x y) : colF (ofL (cellT g a c)) a b c = g := by
  funext p
  unfold colF ofL
  rw [List.toList_toArray]
  exact MN.cellT_col ok k p
theorem cell_mem {g : Int × Int → Nat} {a c : Int} {x : Nat} (h : x ∈ (ofL (cellT g a c)).cps.toList) : ∃ p, x = g p := by
  unfold ofL cellT at h
  rw [List.toList_toArray] at h
  obtain ⟨p, _, rfl⟩ := List.mem_map.mp h
  exact ⟨p, rfl⟩
/-- join of what g tells of the places of a cell -/
theorem join_cell {g : Int × Int → Nat} {a b c : Int} {Q : D → Prop} (ok : MN.Ok a b c) (mx : a * c ≤ 5000) (h : Q (.str (ofL (cellT g a c)))) : dJoin (.str ("" : Str)) (.lst ((spotsL a.toNat c.toNat).map fun p => D.str (chr1 (g p)))) Q := by
  have e : ((spotsL a.toNat c.toNat).map fun p => D.str (chr1 (g p))) = (cellT g a c).map fun x => D.str (chr1 x) := by
    unfold cellT
    rw [List.map_map]
    rfl
  rw [e]
  refine join_ok ?_ h
  have := spots_le (okT_cell (g := g) ok mx)
  rw [cellT, List.length_map]
  omega
theorem okT.keep {t : Str} {a b c x y : Int} (o : Y.okT t a b c) (z : MN.InN a b c x y) : Keeps (colF t a b c) x y := MN.keeps_net o.ok z
def shF (f : Int × Int → Nat) (x y : Int) : Int × Int → Nat := fun p => f (p.1 - x, p.2 - y)
def movF (f : Int × Int → Nat) (m : Mtn) : Int × Int → Nat := fun p => f (mapp (minv m) p)
theorem keeps_sh {f : Int × Int → Nat} {u v x y : Int} (h : Keeps f x y) : Keeps (shF f u v) x y := fun p => by
  have := h (p.1 - u, p.2 - v)
  unfold shF
  dsimp only at *
  rw [show p.1 + x - u = p.1 - u + x by omega, show p.2 + y - v = p.2 - v + y by omega]
  exact this
theorem sh_sh (f : Int × Int → Nat) (x y u v : Int) : shF (shF f x y) u v = shF f (x + u) (y + v) := by
  funext p
  unfold shF
  dsimp only
  rw [show p.1 - u - x = p.1 - (x + u) by omega, show p.2 - v - y = p.2 - (y + v) by omega]
theorem sh_zero (f : Int × Int → Nat) : shF f 0 0 = f := by
  funext p
  unfold shF
  rw [Int.sub_zero, Int.sub_zero]
theorem mapp_shift (x y : Int) (p : Int × Int) : mapp (minv ((1, 0, 0, 1), x, y)) p = (p.1 - x, p.2 - y) := by
  simp only [mapp, minv, turn, tr]
  refine Prod.ext ?_ ?_ <;> dsimp only <;> omega
theorem mov_shift (f : Int × Int → Nat) (x y : Int) : movF f ((1, 0, 0, 1), x, y) = shF f x y := by
  funext p
  unfold movF shF
  rw [mapp_shift]
theorem mapp_add (m : Mtn) (p : Int × Int) (x y : Int) : mapp m (p.1 + x, p.2 + y) = ((mapp m p).1 + (turn m.1 (x, y)).1, (mapp m p).2 + (turn m.1 (x, y)).2) := by
  simp only [mapp, turn]
  refine Prod.ext ?_ ?_ <;> dsimp only <;> grind
theorem keeps_mov {f : Int × Int → Nat} {m : Mtn} (h : Orth m.1) {x y : Int} : Keeps (movF f m) x y ↔ Keeps f (turn (tr m.1) (x, y)).1 (turn (tr m.1) (x, y)).2 := by
  have e : ∀ p : Int × Int, movF f m (p.1 + x, p.2 + y) = f ((mapp (minv m) p).1 + (turn (tr m.1) (x, y)).1, (mapp (minv m) p).2 + (turn (tr m.1) (x, y)).2) := fun p => by
    unfold movF
    rw [mapp_add]
    rfl
  constructor
  · intro k p
    have := k (mapp m p)
    rw [e, MN.mapp_inv h] at this
    rw [this]
    unfold movF
    rw [MN.mapp_inv h]
  · intro k p
    rw [e]
    exact k (mapp (minv m) p)
theorem keeps_img {f : Int × Int → Nat} {m : Mtn} (h : Orth m.1) {a b c a' b' c' : Int} (i : Img m.1 a b c a' b' c') (k : ∀ x y, MN.InN a b c x y → Keeps f x y) : ∀ x y, MN.InN a' b' c' x y → Keeps (movF f m) x y := fun x y z => (keeps_mov h).mpr (k _ _ ((MN.img_tr h i x y).mp z))
theorem exact_mov {f : Int × Int → Nat} {m : Mtn} (h : Orth m.1) {w q r a' b' c' : Int} (e : Exact f w q r) (i : Img m.1 w q r a' b' c') : Exact (movF f m) a' b' c' :=
  ⟨i.1, fun x y => (MN.img_tr h i x y).trans ((e.2 _ _).trans (keeps_mov h).symm)⟩
theorem mov_mov {f : Int × Int → Nat} {m n : Mtn} (h : Orth m.1) (h' : Orth n.1) (h2 : Orth (MN.comp m.1 n.1)) : movF (movF f m) n = movF f (mmul m n) := by
  funext p
  unfold movF
  rw [MN.minv_prod h h' h2, MN.mapp_mul]
theorem mov_back {f : Int × Int → Nat} {m : Mtn} (h : Orth m.1) : movF (movF f m) (minv m) = f := by
  funext p
  unfold movF
  rw [MN.minv_minv h, MN.mapp_inv h]
theorem mov_at {f : Int × Int → Nat} {m : Mtn} (h : Orth m.1) (p : Int × Int) : movF f m (mapp m p) = f p := by
  unfold movF
  rw [MN.mapp_inv h]
def R_Carpet_UaddU : RdF := ar2 fun d s Q _ => ∃ C w q r t x y, d = dCar C w q r t ∧ s = dPl x y ∧ (C ∈ carCs ∧ okT t w q r ∧ Sz 3000 y) ∧ ∀ w' q' r' t', Carp (shF (colF t w q r) x y) w' q' r' t' → w' ≤ w → r' ≤ r → Q (dCar "Woven" w' q' r' t')
def R_Carpet_UsubU : RdF := ar2 fun d s Q _ => ∃ C w q r t x y, d = dCar C w q r t ∧ s = dPl x y ∧ (C ∈ carCs ∧ okT t w q r ∧ Sz 3000 y) ∧ ∀ w' q' r' t', Carp (shF (colF t w q r) (-x) (-y)) w' q' r' t' → w' ≤ w → r' ≤ r → Q (dCar "Woven" w' q' r' t')
def R_Carpet_UmulU : RdF := ar2 fun d e Q _ => ∃ C w q r t k m, d = dCar C w q r t ∧ e = dM k m ∧ (C ∈ carCs ∧ okT t w q r ∧ mat k = some m.1 ∧ Sz 1000 m.2.1 ∧ Sz 1000 m.2.2) ∧ ∀ w' q' r' t', Carp (movF (colF t w q r) m) w' q' r' t' → w' * r' ≤ w * r → Q (dCar "Woven" w' q' r' t')
def R_Carpet_is_kept_by : RdF := ar2 fun d e Q _ => ∃ f C w q r t k m, d = dCar C w q r t ∧ e = dM k m ∧ (C ∈ carCs ∧ Carp f w q r t ∧ mat k = some m.1 ∧ Sz 1000 m.2.1 ∧ Sz 1000 m.2.2) ∧ Q (.bl (sameF (movF f m) f))
def R__law_any_move : RdF := ar1 fun t Q _ => t = .tape ∧ ∀ k m, mat k = some m.1 → Sz 100 m.2.1 → Sz 100 m.2.2 → Q (mvD k m)
def R__law_image : RdF := ar3 fun n d l Q _ => ∃ a b c t k m, n = n3 a b c ∧ d = .str t ∧ l = mvD k m ∧ (okT t a b c ∧ a * c ≤ 1000 ∧ mat k = some m.1 ∧ Sz 1000 m.2.1 ∧ Sz 1000 m.2.2) ∧ ∀ a' b' c' t', Img m.1 a b c a' b' c' → okT t' a' b' c' → colF t' a' b' c' = movF (colF t a b c) m → (∀ x ∈ t'.cps.toList, x ∈ t.cps.toList) → Q (wovD a' b' c' t')
def R__law_image_right : RdF := ar4 fun d n s l Q _ => ∃ C w q r u a b c t k m, d = dCar C w q r u ∧ n = n3 a b c ∧ s = .str t ∧ l = mvD k m ∧ (C ∈ carCs ∧ Carp (colF t a b c) w q r u ∧ okT t a b c ∧ a * c ≤ 100 ∧ mat k = some m.1 ∧ Sz 100 m.2.1 ∧ Sz 100 m.2.2) ∧ Q (.bl true)
end Y
namespace Y
open PySem PySem.Spec PyProof.Rows L2 Z
open MN (spotsL rowL upL Keeps Exact cellT Mtn mapp minv mmul turn tr Orth Img)
theorem look_cons (k0 : List Int) (d0 : D) (kvs : List (List Int × D)) (k : List Int) : lookI ((k0, d0) :: kvs) k = if k0 = k then some d0 else lookI kvs k := by
  unfold lookI
  by_cases h : k0 = k
  · rw [List.find?_cons_of_pos (by simpa using h), if_pos h]; rfl
  · rw [List.find?_cons_of_neg (by simpa using h), if_neg h]
theorem look_app (kvs : List (List Int × D)) (k0 : List Int) (d0 : D) (k : List Int) : lookI (kvs ++ [(k0, d0)]) k = (lookI kvs k).or (if k0 = k then some d0 else none) := by
  induction kvs with
  | nil => rw [List.nil_append, look_cons]; rfl
  | cons x xs ih =>
    obtain ⟨k1, d1⟩ := x
    rw [List.cons_append, look_cons, look_cons, ih]
    by_cases h : k1 = k
    · rw [if_pos h, if_pos h]; rfl
    · rw [if_neg h, if_neg h]
theorem look_map (kvs : List (List Int × D)) (k0 : List Int) (d0 : D) (k : List Int) : lookI (kvs.map fun kv => if kv.1 = k0 then (kv.1, d0) else kv) k = if k = k0 then (lookI kvs k).map (fun _ => d0) else lookI kvs k := by
  induction kvs with
  | nil => split <;> rfl
  | cons x xs ih =>
    obtain ⟨k1, d1⟩ := x
    rw [List.map_cons]
    dsimp only
    by_cases h1 : k1 = k0
    · rw [if_pos h1, look_cons, look_cons, ih]
      by_cases h : k1 = k
      · rw [if_pos h, if_pos h, if_pos (h.symm.trans h1)]; rfl
      · rw [if_neg h, if_neg h]
    · rw [if_neg h1, look_cons, look_cons, ih]
      by_cases h : k1 = k
      · rw [if_pos h, if_pos h, if_neg (fun e => h1 (h.trans e))]
      · rw [if_neg h, if_neg h]
theorem look_put (kvs : List (List Int × D)) (k0 : List Int) (d0 : D) (k : List Int) : lookI (putI kvs k0 d0) k = if k = k0 then some d0 else lookI kvs k := by
  unfold putI
  by_cases h : (lookI kvs k0).isSome = true
  · rw [if_pos h, look_map]
    by_cases e : k = k0
    · rw [if_pos e, if_pos e, e]
      obtain ⟨d, hd⟩ := Option.isSome_iff_exists.mp h
      rw [hd]; rfl
    · rw [if_neg e, if_neg e]
  · have hn : lookI kvs k0 = none := by simpa using h
    rw [if_neg (by simpa using h), look_app]
    by_cases e : k = k0
    · rw [if_pos e, if_pos e.symm, e, hn]; rfl
    · rw [if_neg e, if_neg (fun z => e z.symm)]
      cases lookI kvs k <;> rfl
/-- each place of the image's cell is met -/
theorem img_meets {m : Mtn} (ho : Orth m.1) {a b c a' b' c' : Int} (ok : MN.Ok a b c) (i : Img m.1 a b c a' b' c') {p : Int × Int} (hp : p ∈ spotsL a'.toNat c'.toNat) : ∃ s ∈ spotsL a.toNat c.toNat, MN.low a' b' c' (mapp m s).1 (mapp m s).2 = p := by
  have a0 : 0 < a := by have := ok.2; omega
  have c0 : 0 < c := by have := ok.1; omega
  have a0' : 0 < a' := by have := i.1.2; omega
  have c0' : 0 < c' := by have := i.1.1; omega
  generalize hv : mapp (minv m) p = v
  obtain ⟨r1, r2, r3, r4⟩ := MN.low_rng (a := a) (b := b) (c := c) (x := v.1) (y := v.2) a0 c0
  refine ⟨MN.low a b c v.1 v.2, MN.spotsL_mem.mpr ⟨r1, by omega, r3, by omega⟩, ?_⟩
  obtain ⟨m1, m2, m3, m4⟩ := MN.spotsL_mem.mp hp
  have e : MN.low a' b' c' p.1 p.2 = (p.1, p.2) := low_self m1 (by omega) m3 (by omega)
  rw [show p = (p.1, p.2) from rfl, ← e, MN.low_eq a0' c0']
  have ii := (i.2.1 (v.1 - (MN.low a b c v.1 v.2).1) (v.2 - (MN.low a b c v.1 v.2).2)).mpr (MN.low_in a b c v.1 v.2)
  have ip : mapp m v = p := by rw [← hv]; exact MN.mapp_inv' ho p
  generalize MN.low a b c v.1 v.2 = s at *
  have neg := MN.inN_mul (-1) ii
  have e1 : (mapp m s).1 - p.1 = -1 * (turn m.1 (v.1 - s.1, v.2 - s.2)).1 := by rw [← ip]; simp only [mapp, turn]; grind
  have e2 : (mapp m s).2 - p.2 = -1 * (turn m.1 (v.1 - s.1, v.2 - s.2)).2 := by rw [← ip]; simp only [mapp, turn]; grind
  rw [e1, e2]
  exact neg
end Y
section
open PySem PySem.Spec PyProof.Rows L2 Z Y
local macro_rules | `(tactic| walk_at "s0") => `(tactic| first | assumption | exact SqT.of (by assumption) | exact SqL.of (by assumption))
local macro_rules | `(tactic| walk_at "s1") => `(tactic| first | assumption | exact SqT.of (by assumption) | exact SqL.of (by assumption) | exact sqT (Go.ff (by assumption)) (by walk_at "s0") | exact sqL (Go.ff (by assumption)) (by walk_at "s0"))
local macro_rules | `(tactic| walk_at "s2") => `(tactic| first | assumption | exact SqT.of (by assumption) | exact SqL.of (by assumption) | exact sqT (Go.ff (by assumption)) (by walk_at "s1") | exact sqL (Go.ff (by assumption)) (by walk_at "s1"))
local macro_rules | `(tactic| walk_at "s3") => `(tactic| first | assumption | exact SqT.of (by assumption) | exact SqL.of (by assumption) | exact sqT (Go.ff (by assumption)) (by walk_at "s2") | exact sqL (Go.ff (by assumption)) (by walk_at "s2"))
local macro_rules | `(tactic| walk_at "s4") => `(tactic| first | assumption | exact SqT.of (by assumption) | exact SqL.of (by assumption) | exact sqT (Go.ff (by assumption)) (by walk_at "s3") | exact sqL (Go.ff (by assumption)) (by walk_at "s3"))
local macro_rules | `(tactic| walk_at "s5") => `(tactic| first | assumption | exact SqT.of (by assumption) | exact SqL.of (by assumption) | exact sqT (Go.ff (by assumption)) (by walk_at "s4") | exact sqL (Go.ff (by assumption)) (by walk_at "s4"))
local macro_rules | `(tactic| walk_at "s6") => `(tactic| first | assumption | exact SqT.of (by assumption) | exact SqL.of (by assumption) | exact sqT (Go.ff (by assumption)) (by walk_at "s5") | exact sqL (Go.ff (by assumption)) (by walk_at "s5"))
local macro_rules | `(tactic| walk_at "s7") => `(tactic| first | assumption | exact SqT.of (by assumption) | exact SqL.of (by assumption) | exact sqT (Go.ff (by assumption)) (by walk_at "s6") | exact sqL (Go.ff (by assumption)) (by walk_at "s6"))
local macro_rules | `(tactic| walk_at "s8") => `(tactic| first | assumption | exact SqT.of (by assumption) | exact SqL.of (by assumption) | exact sqT (Go.ff (by assumption)) (by walk_at "s7") | exact sqL (Go.ff (by assumption)) (by walk_at "s7"))
local macro_rules | `(tactic| walk_at "s9") => `(tactic| first | assumption | exact SqT.of (by assumption) | exact SqL.of (by assumption) | exact sqT (Go.ff (by assumption)) (by walk_at "s8") | exact sqL (Go.ff (by assumption)) (by walk_at "s8"))
local macro_rules | `(tactic| walk_at "s10") => `(tactic| first | assumption | exact SqT.of (by assumption) | exact SqL.of (by assumption) | exact sqT (Go.ff (by assumption)) (by walk_at "s9") | exact sqL (Go.ff (by assumption)) (by walk_at "s9"))
local macro_rules | `(tactic| walk_at "sq") => `(tactic| first | assumption | exact SqT.of (by assumption) | exact SqL.of (by assumption) | exact sqT (Go.fh (by assumption)) (by walk_at "s10") | exact sqL (Go.fh (by assumption)) (by walk_at "s10") | exact sqT (F := _) (by assumption) (by walk_at "s10") | exact sqL (F := _) (by assumption) (by walk_at "s10"))
local macro_rules | `(tactic| walk_at "c") => `(tactic| ((try dsimp only); first | omega | assumption | exact ⟨by omega, by assumption⟩ | exact ⟨by assumption, by assumption⟩ | exact Or.inl ⟨by decide, by decide⟩ | exact Or.inr ⟨by decide, by decide⟩ | exact ⟨by decide, by decide, by decide⟩ | exact ⟨by decide, by decide⟩))
local macro_rules | `(tactic| walk_at "z") => `(tactic| repeat (first | refine ⟨_, rfl, ?_⟩ | refine ⟨_, _, rfl, rfl, ?_⟩ | refine ⟨_, _, _, _, rfl, rfl, by walk_at "sq", rfl, ?_⟩ | refine ⟨_, _, rfl, Or.inl (by walk_at "sq"), ?_⟩ | refine ⟨_, _, rfl, Or.inr (by walk_at "sq"), ?_⟩ | refine ⟨_, _, rfl, by walk_at "sq", rfl, ?_⟩ | refine ⟨rfl, ?_⟩ | refine And.intro (by walk_at "c") ?_ | refine ⟨lenOk rfl, ?_⟩ | refine ⟨_, _, rfl, ?_⟩))
local macro_rules | `(tactic| walk_at "p") => `(tactic| simp only [Y.rVar, Y.rC, Y.tst, Y.chn, Y.aNil, Y.aCons, Y.stN, Y.tgD, Y.rYes, Y.wipeR, Y.asO, Y.fldD, Y.dAdd, Y.dSub, Y.dMul, Y.dDiv, Y.dDivZ, Y.dMod, Y.dModZ, Y.dIsBl, Y.dInt1, Y.dPow, Y.dNeg, Y.dCmp, Y.dEq, Y.dNe, Y.isNon, Y.dIsN, Y.dNotN, Y.dIn, Y.dIx, Y.dSl, Y.asI, Y.dLen, Y.dAbs, Y.blsOf, Y.dAll, Y.dList, Y.dTuple, Y.dIsB, Y.dIs2, Y.dIsO, Y.appM, Y.frzM, Y.dBinO, Y.dEqO, Y.dInO, Y.finI, Y.putM, Y.starD, Y.rng1, Y.rng2, Y.dJoin, Y.strsOf, Y.isS, Y.rDraw, Y.ar0, Y.ar1, Y.ar2, Y.ar3, Y.ar4, Y.ar5, List.getElem?_cons_zero, List.getElem?_cons_succ, List.set_cons_zero, List.set_cons_succ, List.map_cons, List.map_nil, List.length_cons, List.length_nil, Option.map_some, List.nil_append, List.cons_append, List.mem_cons, List.not_mem_nil, or_false, true_and, and_true, if_true, Bool.false_eq_true, if_false, Bool.not_true, Bool.not_false, Nat.reduceAdd, Nat.reduceLeDiff, decide_eq_true_eq, reduceCtorEq, ite_true, ite_false, Int.cast_ofNat_Int, Int.natCast_add, eq_self, Int.reduceEq, Int.reduceLE, Int.reduceLT, Int.reduceNeg, Int.reduceSub, Int.reduceAdd, decide_true, decide_false, String.reduceBEq, Bool.or_self, Bool.or_true, Bool.true_or, Bool.or_false, Bool.false_or])
local macro_rules | `(tactic| walk_at "m") => `(tactic| simp only [Y.forP, Y.mapP, Y.rVar, Y.rC, Y.tst, Y.chn, Y.aNil, Y.aCons, Y.stN, Y.tgD, Y.rYes, Y.wipeR, Y.asO, Y.fldD, Y.dAdd, Y.dSub, Y.dMul, Y.dDiv, Y.dDivZ, Y.dMod, Y.dModZ, Y.dIsBl, Y.dInt1, Y.dPow, Y.dNeg, Y.dCmp, Y.dEq, Y.dNe, Y.isNon, Y.dIsN, Y.dNotN, Y.dIn, Y.dIx, Y.dSl, Y.asI, Y.dLen, Y.dAbs, Y.blsOf, Y.dAll, Y.dList, Y.dTuple, Y.dIsB, Y.dIs2, Y.dIsO, Y.appM, Y.frzM, Y.dBinO, Y.dEqO, Y.dInO, Y.finI, Y.putM, Y.starD, Y.rng1, Y.rng2, Y.dJoin, Y.strsOf, Y.isS, Y.rDraw, Y.ar0, Y.ar1, Y.ar2, Y.ar3, Y.ar4, Y.ar5, List.getElem?_cons_zero, List.getElem?_cons_succ, List.set_cons_zero, List.set_cons_succ, List.map_cons, List.map_nil, List.length_cons, List.length_nil, Option.map_some, List.nil_append, List.cons_append, List.mem_cons, List.not_mem_nil, or_false, true_and, and_true, if_true, Bool.false_eq_true, if_false, Bool.not_true, Bool.not_false, Nat.reduceAdd, Nat.reduceLeDiff, decide_eq_true_eq, reduceCtorEq, ite_true, ite_false, Int.cast_ofNat_Int, Int.natCast_add, eq_self, Int.reduceEq, Int.reduceLE, Int.reduceLT, Int.reduceNeg, Int.reduceSub, Int.reduceAdd, decide_true, decide_false, String.reduceBEq, Bool.or_self, Bool.or_true, Bool.true_or, Bool.or_false, Bool.false_or])
namespace K13
open PySem PySem.Spec PyProof.Rows L2 Z Y
section
variable {P : Program} {w : World} {K : Frg} {mg : Str → Option Value} {base : Heap}
theorem ok__law_tape (T : Tx w K mg) : FnR P w K mg base (L2.CX P w) 1 (He.ga K "_law_tape") (spTape K) := by
  refine zfn T.d__law_tape sc__law_tape len1 (fun _ _ _ _ _ _ us hl => match us, hl with | [_], _ => rfl) (fun cdv A outer s H vs Q E hr h => ?_)
  obtain ⟨_, rfl, F, s, ns, rfl, hs, hS, k⟩ := h
  refine ⟨_, PSs.nox (pss_one (ps_ret (pe_lstZ (pa_cons (pe_callTy call_listZ (by rfl) T.b_list (by decide +kernel) (pa_cons (pe_slice sl_listZ (pv 0) po_none (po_some pe_int)) pa_nil)) (pa_cons pe_int (pa_cons pe_int (pa_cons pe_int pa_nil))))))), ?_⟩
  have hSH := sqL hs hS
  refine ⟨_, rfl, _, rfl, _, _, rfl, hSH, ?_⟩
  intro p1 H1 hp1 e1
  obtain ⟨F1, g1, q1, r1⟩ := newE hs hp1 e1
  obtain ⟨ms, em⟩ := cut_ints ns none (some 63)
  rw [em] at q1 r1
  refine ⟨_, _, rfl, .inl (SqL.of r1), ?_⟩
  intro p2 H2 hp2 e2
  obtain ⟨F2, g2, q2, r2⟩ := newE g1.fh hp2 e2
  walk_at "z"
  intro p3 H3 hp3 e3
  obtain ⟨g3, f3, r3⟩ := newM g2.fh hp3 e3
  exact k p3 F2 H3 ((g1.trans g2).trans g3) ⟨f3, _, r3, p2, ms, 0, 0, 17, rfl, SqL.of q2, by decide, by decide, by decide, by decide⟩
end
end K13
namespace K13
open PySem PySem.Spec PyProof.Rows L2 Z Y
section
variable {P : Program} {w : World} {K : Frg} {mg : Str → Option Value} {base : Heap}
theorem ok0__law_draw (T : Tx w K mg) : FnR P w K mg base (L2.CX P w) 1 (He.ga K "_law_draw") (spDraw K) := by
  refine zfn T.d__law_draw sc__law_draw len2 (fun _ _ _ _ _ _ us hl => match us, hl with | [_, _], _ => rfl) (fun cdv A outer s H vs Q E hr h => ?_)
  obtain ⟨_, _, rfl, F, t, many, rfl, rfl, hs, ⟨ft, xs, ht, c, ns, i, b, r, rfl, hc, hi, hb, hr0, hr1⟩, hm0, hm1, k⟩ := h
  refine ⟨_, PSs.nox (pss_cons (ps_if (pt_cmpR op_gt (pe_ix ix_list (pv 0) pe_int (fun _ _ => rfl)) pe_int (nomark _))
    (pss_cons (ps_set (i := 2) sc__law_draw.nd rfl (by first | exact Or.inl rfl | exact Or.inr rfl) (pe_op op_mod (pe_ix ix_list (pv 0) pe_int (fun _ _ => rfl)) (pv 1)))
  (pss_cons (ps_asg (pe_op op_fdivW (pe_ix ix_list (pv 0) pe_int (fun _ _ => rfl)) (pv 1)) (pg_sub (pv 0) pe_int set_listZ))
  (pss_one (ps_ret (pv 2)))))
    pss_nil)
  (pss_cons (ps_set (i := 3) sc__law_draw.nd rfl (by first | exact Or.inl rfl | exact Or.inr rfl) pe_int)
  (zcut (ps_if (pt_cmpR op_lt (pe_ix ix_list (pv 0) pe_int (fun _ _ => rfl)) (pe_callB call_len_seq (by rfl) T.b_len (by decide +kernel) (pa_cons (pe_ix ix_list (pv 0) pe_int (fun _ _ => rfl)) pa_nil)) (nomark _))
    (pss_one (ps_set (i := 3) sc__law_draw.nd rfl (by first | exact Or.inl rfl | exact Or.inr rfl) (pe_ix ix_list (pe_ix ix_list (pv 0) pe_int (fun _ _ => rfl)) (pe_ix ix_list (pv 0) pe_int (fun _ _ => rfl)) (fun _ _ => rfl))))
    pss_nil)
  (pss_cons (ps_asg (pe_op op_add (pe_ix ix_list (pv 0) pe_int (fun _ _ => rfl)) pe_int) (pg_sub (pv 0) pe_int set_listZ))
  (pss_cons (ps_if (pt_cmpR op_ge (pv 3) (pe_op op_pow pe_int pe_int) (nomark _))
    (pss_cons (ps_asg (pe_op op_fdivW (pv 3) (pv 1)) (pg_sub (pv 0) pe_int set_listZ))
  (pss_one (ps_ret (pe_op op_mod (pv 3) (pv 1)))))
    pss_nil)
  (pss_cons (ps_set (i := 4) sc__law_draw.nd rfl (by first | exact Or.inl rfl | exact Or.inr rfl) (pe_op op_add (pe_op op_add (pe_op op_mod (pv 3) pe_int) (pe_op op_mul pe_int (pe_ix ix_list (pv 0) pe_int (fun _ _ => rfl)))) pe_int))
  (pss_cons (ps_asg (pe_op op_mod (pe_op op_add (pe_op op_mul (pe_ix ix_list (pv 0) pe_int (fun _ _ => rfl)) pe_int) (pv 4)) pe_int) (pg_sub (pv 0) pe_int set_listZ))
  (pss_one (ps_ret (pe_op op_mod (pe_op op_mod (pe_op op_pow (pe_ix ix_list (pv 0) pe_int (fun _ _ => rfl)) pe_int) pe_int) (pv 1))))))))))), ?_⟩
  have hT := SqL.of (K := K) ht
  walk_at "z"
  refine ite2 (fun hb0 => ?_) (fun hb0 => ?_)
  · walk_at "z"
    intro H1 e1
    obtain ⟨g1, q1⟩ := putM hs ft e1
    walk_at "z"
    have hb1 : (0 : Int) < b := of_decide_eq_true hb0
    exact k _ _ (Int.emod_nonneg _ (by omega)) (Int.emod_lt_of_pos _ hm0) g1 ⟨ft, _, q1, c, ns, i, b / many, r, rfl, hc, hi, Int.ediv_nonneg hb (by omega), hr0, hr1⟩
  · have hcH := sqL hs hc
    refine ⟨fun σ' H' => ∃ cell : Int, σ' = [some (.ref t), some (.int many), none, some (.int cell), none] ∧ H' = H, ?_, ?_⟩
    · walk_at "z"
      refine ite2 (fun hlt => ?_) (fun _ => ⟨0, rfl, rfl⟩)
      have hl : i < ((ns.map V.int).length : Int) := of_decide_eq_true hlt
      walk_at "z"
      obtain ⟨j, rfl⟩ := Int.eq_ofNat_of_zero_le hi
      have hj : j < ns.length := by simpa using hl
      refine ⟨_, _, _, _, rfl, rfl, hcH, atI_nat (by rw [List.getElem?_map, List.getElem?_eq_getElem hj]; rfl), _, rfl, rfl⟩
    · rintro σ' H' ⟨cell, rfl, rfl⟩
      walk_at "z"
      intro H1 e1
      obtain ⟨g1, q1⟩ := putM hs ft e1
      have hT1 : SqL K H1 t [V.ref c, V.int (i + 1), V.int b, V.int r] := SqL.of q1
      have hx1 : H1 t = some (.lst [V.ref c, V.int (i + 1), V.int b, V.int r]) := q1
      have hi1 : 0 ≤ i + 1 := by omega
      walk_at "z"
      refine ite2 (fun hge => ?_) (fun _ => ?_)
      · walk_at "z"
        intro H2 e2
        obtain ⟨g2, q2⟩ := putM g1.fh ft e2
        walk_at "z"
        have hc0 : (0 : Int) ≤ cell := by
          have := of_decide_eq_true hge
          have h3 : (10 : Int) ^ (Int.toNat 18) = 1000000000000000000 := by decide
          rw [h3] at this
          omega
        exact k _ _ (Int.emod_nonneg _ (by omega)) (Int.emod_lt_of_pos _ hm0) (g1.trans g2) ⟨ft, _, q2, c, ns, i + 1, cell / many, r, rfl, hc, hi1, Int.ediv_nonneg hc0 (by omega), hr0, hr1⟩
      · walk_at "z"
        intro H2 e2
        obtain ⟨g2, q2⟩ := putM g1.fh ft e2
        replace q2 : H2 t = some (.lst [V.ref c, V.int (i + 1), V.int b, V.int ((r * 48271 + (cell % 2147483647 + 7919 * (i + 1) + 11)) % 2147483647)]) := q2
        generalize hrr : (r * 48271 + (cell % 2147483647 + 7919 * (i + 1) + 11)) % 2147483647 = r2 at q2
        have hr2 : 0 ≤ r2 ∧ r2 < 2147483647 := by omega
        have hT2 : SqL K H2 t [V.ref c, V.int (i + 1), V.int b, V.int r2] := SqL.of q2
        walk_at "z"
        refine And.intro ⟨by decide, by decide, by have := hr2; omega⟩ ?_
        walk_at "z"
        exact k _ _ (Int.emod_nonneg _ (by omega)) (Int.emod_lt_of_pos _ hm0) (g1.trans g2) ⟨ft, _, q2, c, ns, i + 1, b, r2, rfl, hc, hi1, hb, hr2.1, hr2.2⟩
theorem ok__law_draw (T : Tx w K mg) : FnG P w K mg base (L2.CX P w) 1 (He.ga K "_law_draw") (spP K rDraw) := draw_of (ok0__law_draw T)
end
end K13
namespace K13
open PySem PySem.Spec PyProof.Rows L2 Z Y
section
variable {P : Program} {w : World} {K : Frg} {mg : Str → Option Value} {base : Heap}
theorem ok_is_integer (T : Tx w K mg) : FnG P w K mg base (L2.CX P w) 1 (He.ga K "is_integer") (spP K R_is_integer) := by
  refine y_fn T.d_is_integer sc_is_integer arl1 (fun _ _ _ _ _ _ us hl => match us, hl with | [_], _ => rfl) fun cdv A outer s H E B hB hr hx po => ⟨_, (s_one (s_ret (y_and (y_callB call_isi (isBL (cs := []) (T := "int") (by decide) all0) (by rfl) T.b_isinstance (by decide +kernel) (a_cons (y_var (pv 0)) (a_cons (y_ty (n := "int") rfl T.b_int (by decide +kernel)) a_nil))) (y_one (y_not (y_callB call_isi (isBL (cs := []) (T := "bool") (by decide) all0) (by rfl) T.b_isinstance (by decide +kernel) (a_cons (y_var (pv 0)) (a_cons (y_ty (n := "bool") rfl T.b_bool (by decide +kernel)) a_nil)))))))), fun ds Q h => ?_⟩
  obtain ⟨a0, e0, hh⟩ := ar1E h
  clear h
  subst e0
  have h := hh
  clear hh
  try dsimp only at h
  rw [show startE (List.length N_is_integer) [a0] = [.val a0] from rfl]
  obtain ⟨hk, h⟩ := h
  cases a0 with
  | int i => exact ⟨rfl, ifB_T rfl ⟨rfl, h⟩⟩
  | bl b => exact ⟨rfl, ifB_T rfl ⟨rfl, h⟩⟩
  | obj _ _ _ => exact hk.elim
  | ty _ => exact hk.elim
  | glob _ => exact hk.elim
  | tape => exact hk.elim
  | _ => exact ⟨rfl, ifB_F rfl h⟩
end
end K13
namespace K13
open PySem PySem.Spec PyProof.Rows L2 Z Y
section
variable {P : Program} {w : World} {K : Frg} {mg : Str → Option Value} {base : Heap}
theorem ok_is_place (T : Tx w K mg) : FnG P w K mg base (L2.CX P w) 3 (He.ga K "is_place") (spP K R_is_place) := by
  refine y_fn T.d_is_place sc_is_place arl1 (fun _ _ _ _ _ _ us hl => match us, hl with | [_], _ => rfl) fun cdv A outer s H E B hB hr hx po => ⟨_, (s_one (s_ret (y_and (y_callB call_isi (isBL (cs := []) (T := "tuple") (by decide) all0) (by rfl) T.b_isinstance (by decide +kernel) (a_cons (y_var (pv 0)) (a_cons (y_ty (n := "tuple") rfl T.b_tuple (by decide +kernel)) a_nil))) (y_and (y_cmp (op_eqY hr.units) eqL (y_callB call_lenY lenL (by rfl) T.b_len (by decide +kernel) (a_cons (y_var (pv 0)) a_nil)) y_int (nomark _)) (y_one (y_callB (cr_all rfl) (allL (f := fun bs => bs.all id)) (by rfl) T.b_all (by decide +kernel) (a_cons (y_lc (own := [("number", 1)]) (t := .nm 1) rfl sc_is_place.nd (i_tup (y_var (pv 0))) (blkOk_by (own := [("number", 1)]) (N := N_is_place) (sc := defScope s_is_place) (by decide +kernel)) (fun _ _ _ _ _ => (g_nm (pg_name (i := 1) sc_is_place.nd rfl (by first | exact Or.inl rfl | exact Or.inr rfl)))) (fun _ _ _ _ _ => c_nil) (fun _ _ _ _ _ => (y_call (ok_is_integer T) (hr.mono (by decide)) rfl T.g_is_integer T.k_is_integer px_nox (a_cons (y_var (pv 1)) a_nil)))) a_nil))))))), fun ds Q h => ?_⟩
  obtain ⟨a0, e0, hh⟩ := ar1E h
  clear h
  subst e0
  have h := hh
  clear hh
  try dsimp only at h
  rw [show startE (List.length N_is_place) [a0] = [.val a0, .no] from rfl]
  obtain ⟨hk, h⟩ := h
  cases a0 with
  | tup ds =>
    match ds, hk, h with
    | [x, y], hk, h => exact ⟨rfl, ifB_T rfl (ifB_T rfl ⟨Nat.le_of_ble_eq_true rfl, mapI_of (ifB_T rfl ⟨hk.1, ifB_T rfl ⟨hk.2, by show Q (.bl ([isIntD x, isIntD y].all id)); simpa [isPl] using h⟩⟩)⟩)⟩
    | [], hk, h => exact ⟨rfl, ifB_T rfl (ifB_F rfl h)⟩
    | [_], hk, h => exact ⟨rfl, ifB_T rfl (ifB_F rfl h)⟩
    | a :: b :: c :: ds, hk, h => exact ⟨rfl, ifB_T rfl (ifB_F (decide_eq_false (by simp only [List.length_cons]; omega)) h)⟩
  | obj _ _ _ => exact hk.elim
  | ty _ => exact hk.elim
  | glob _ => exact hk.elim
  | tape => exact hk.elim
  | _ => exact ⟨rfl, ifB_F rfl h⟩
end
end K13
namespace K13
open PySem PySem.Spec PyProof.Rows L2 Z Y
section
variable {P : Program} {w : World} {K : Frg} {mg : Str → Option Value} {base : Heap}
theorem ok_check_place (T : Tx w K mg) : FnG P w K mg base (L2.CX P w) 5 (He.ga K "check_place") (spP K R_check_place_n) := by
  refine y_fn T.d_check_place sc_check_place arl1 (fun _ _ _ _ _ _ us hl => match us, hl with | [_], _ => rfl) fun cdv A outer s H E B hB hr hx po => ⟨_, (s_one (s_if (z_not (z_val (y_call (ok_is_place T) (hr.mono (by decide)) rfl T.g_is_place T.k_is_place hx (a_cons (y_var (pv 0)) a_nil))))
    (s_one s_never)
    s_nil)), fun ds Q h => ?_⟩
  obtain ⟨a0, e0, hh⟩ := ar1E h
  clear h
  subst e0
  have h := hh
  clear hh
  try dsimp only at h
  rw [show startE (List.length N_check_place) [a0] = [.val a0] from rfl]
  obtain ⟨hk, h1, h⟩ := h
  refine ⟨hk, ifB_F (by rw [h1]; rfl) h⟩
end
end K13
namespace K13
open PySem PySem.Spec PyProof.Rows L2 Z Y
section
variable {P : Program} {w : World} {K : Frg} {mg : Str → Option Value} {base : Heap}
theorem ok_plus (T : Tx w K mg) : FnG P w K mg base (L2.CX P w) 1 (He.ga K "plus") (spP K R_plus) := by
  refine y_fn T.d_plus sc_plus arl2 (fun _ _ _ _ _ _ us hl => match us, hl with | [_, _], _ => rfl) fun cdv A outer s H E B hB hr hx po => ⟨_, (s_one (s_ret (y_tup (a_cons (y_op op_addY addL (y_ix (y_var (pv 0)) y_int (fun _ _ => rfl)) (y_ix (y_var (pv 1)) y_int (fun _ _ => rfl))) (a_cons (y_op op_addY addL (y_ix (y_var (pv 0)) y_int (fun _ _ => rfl)) (y_ix (y_var (pv 1)) y_int (fun _ _ => rfl))) a_nil))))), fun ds Q h => ?_⟩
  obtain ⟨a0, a1, e0, hh⟩ := ar2E h
  clear h
  subst e0
  have h := hh
  clear hh
  try dsimp only at h
  rw [show startE (List.length N_plus) [a0, a1] = [.val a0, .val a1] from rfl]
  obtain ⟨x, y, u, v, rfl, rfl, h⟩ := h
  exact ⟨leN rfl, h⟩
end
end K13
namespace K13
open PySem PySem.Spec PyProof.Rows L2 Z Y
section
variable {P : Program} {w : World} {K : Frg} {mg : Str → Option Value} {base : Heap}
theorem ok_minus (T : Tx w K mg) : FnG P w K mg base (L2.CX P w) 1 (He.ga K "minus") (spP K R_minus) := by
  refine y_fn T.d_minus sc_minus arl2 (fun _ _ _ _ _ _ us hl => match us, hl with | [_, _], _ => rfl) fun cdv A outer s H E B hB hr hx po => ⟨_, (s_one (s_ret (y_tup (a_cons (y_op op_sub subL (y_ix (y_var (pv 0)) y_int (fun _ _ => rfl)) (y_ix (y_var (pv 1)) y_int (fun _ _ => rfl))) (a_cons (y_op op_sub subL (y_ix (y_var (pv 0)) y_int (fun _ _ => rfl)) (y_ix (y_var (pv 1)) y_int (fun _ _ => rfl))) a_nil))))), fun ds Q h => ?_⟩
  obtain ⟨a0, a1, e0, hh⟩ := ar2E h
  clear h
  subst e0
  have h := hh
  clear hh
  try dsimp only at h
  rw [show startE (List.length N_minus) [a0, a1] = [.val a0, .val a1] from rfl]
  obtain ⟨x, y, u, v, rfl, rfl, h⟩ := h
  exact ⟨leN rfl, h⟩
end
end K13
namespace K13
open PySem PySem.Spec PyProof.Rows L2 Z Y
section
variable {P : Program} {w : World} {K : Frg} {mg : Str → Option Value} {base : Heap}
theorem ok_divisors (T : Tx w K mg) : FnG P w K mg base (L2.CX P w) 1 (He.ga K "divisors") (spP K R_divisors) := by
  refine y_fn T.d_divisors sc_divisors arl1 (fun _ _ _ _ _ _ us hl => match us, hl with | [_], _ => rfl) fun cdv A outer s H E B hB hr hx po => ⟨_, (s_one (s_ret (y_lc (own := [("divisor", 1)]) (t := .nm 1) rfl sc_divisors.nd (i_rng2 (by rfl) T.b_range (a_cons y_int (a_cons (y_op op_addY addL (y_var (pv 0)) y_int) a_nil))) (blkOk_by (own := [("divisor", 1)]) (N := N_divisors) (sc := defScope s_divisors) (by decide +kernel)) (fun _ _ _ _ _ => (g_nm (pg_name (i := 1) sc_divisors.nd rfl (by first | exact Or.inl rfl | exact Or.inr rfl)))) (fun _ _ _ _ _ => (c_one (z_cmp (op_eqY hr.units) eqL (y_op op_mod modL (y_var (pv 0)) (y_var (pv 1))) y_int (nomark _)))) (fun _ _ _ _ _ => (y_var (pv 1)))))), fun ds Q h => ?_⟩
  obtain ⟨a0, e0, hh⟩ := ar1E h
  clear h
  subst e0
  have h := hh
  clear hh
  try dsimp only at h
  rw [show startE (List.length N_divisors) [a0] = [.val a0, .no] from rfl]
  obtain ⟨n, rfl, ⟨n1, n2⟩, h⟩ := h
  have e : (n + 1 - 1).toNat = n.toNat := by omega
  refine ⟨⟨by decide, by decide, by omega, by omega⟩, ?_, ?_⟩
  · show (rngD 1 (n + 1 - 1).toNat).length ≤ 100000
    rw [e]
    simp [rngD]
    omega
  refine ⟨fun i acc => acc = (((MN.upL n.toNat).take i).filter fun d => decide (n % d = 0)).map D.int, rfl, fun i d acc hd hj => ?_, fun out hj => ?_⟩
  · have hd' : (rngD 1 (n + 1 - 1).toNat)[i]? = some d := hd
    rw [e] at hd'
    unfold rngD at hd'
    obtain ⟨j, hj1, rfl⟩ := map_get hd'
    have hi := lt_of_get hj1
    rw [List.length_range] at hi
    rw [List.getElem?_range hi] at hj1
    cases hj1
    have hu : (MN.upL n.toNat)[i]? = some ((i : Int) + 1) := by
      unfold MN.upL
      rw [List.getElem?_map, List.getElem?_range hi]
      rfl
    have hc : (1 : Int) + (i : Int) = (i : Int) + 1 := by omega
    refine ⟨by omega, ifB_d (fun h0 => ?_) (fun h0 => ?_)⟩
    · show acc ++ [D.int (1 + (i : Int))] = _
      rw [hj, List.take_succ, hu, List.filter_append, List.map_append, hc]
      rw [hc] at h0
      simp [h0]
    · show acc = _
      rw [hj, List.take_succ, hu, List.filter_append, List.map_append]
      rw [hc] at h0
      simp [h0]
  · rw [hj]
    have hl : (rngD 1 (n + 1 - 1).toNat).length = (MN.upL n.toNat).length := by rw [e]; simp [rngD, MN.upL]
    rw [hl, List.take_length]
    exact h
end
end K13
namespace K13
open PySem PySem.Spec PyProof.Rows L2 Z Y
section
variable {P : Program} {w : World} {K : Frg} {mg : Str → Option Value} {base : Heap}
theorem ok_are_numbers (T : Tx w K mg) : FnG P w K mg base (L2.CX P w) 3 (He.ga K "are_numbers") (spP K R_are_numbers) := by
  refine y_fn T.d_are_numbers sc_are_numbers arl1 (fun _ _ _ _ _ _ us hl => match us, hl with | [_], _ => rfl) fun cdv A outer s H E B hB hr hx po => ⟨_, (s_cons (s_if (z_not (z_val (y_callB (cr_all rfl) (allL (f := fun bs => bs.all id)) (by rfl) T.b_all (by decide +kernel) (a_cons (y_lc (own := [("number", 4)]) (t := .nm 4) rfl sc_are_numbers.nd (i_tup (y_var (pv 0))) (blkOk_by (own := [("number", 4)]) (N := N_are_numbers) (sc := defScope s_are_numbers) (by decide +kernel)) (fun _ _ _ _ _ => (g_nm (pg_name (i := 4) sc_are_numbers.nd rfl (by first | exact Or.inl rfl | exact Or.inr rfl)))) (fun _ _ _ _ _ => c_nil) (fun _ _ _ _ _ => (y_call (ok_is_integer T) (hr.mono (by decide)) rfl T.g_is_integer T.k_is_integer px_nox (a_cons (y_var (pv 4)) a_nil)))) a_nil))))
    (s_one (s_ret y_bl))
    s_nil)
  (s_cons (s_asg (t := .tp [1, 2, 3]) (y_var (pv 0)) (g_tp (is := [1, 2, 3]) rfl (pgs_cons (pg_name (i := 1) sc_are_numbers.nd rfl (by first | exact Or.inl rfl | exact Or.inr rfl)) (pgs_cons (pg_name (i := 2) sc_are_numbers.nd rfl (by first | exact Or.inl rfl | exact Or.inr rfl)) (pgs_cons (pg_name (i := 3) sc_are_numbers.nd rfl (by first | exact Or.inl rfl | exact Or.inr rfl)) pgs_nil)))))
  (s_one (s_ret (y_and (y_cmp op_ge cmpL (y_var (pv 3)) y_int (nomark _)) (y_one (y_chain op_le cmpL op_lt cmpL y_int (y_var (pv 2)) (y_var (pv 1))))))))), fun ds Q h => ?_⟩
  obtain ⟨a0, e0, hh⟩ := ar1E h
  clear h
  subst e0
  have h := hh
  clear hh
  try dsimp only at h
  rw [show startE (List.length N_are_numbers) [a0] = [.val a0, .no, .no, .no, .no] from rfl]
  split at h
  · rename_i a b c
    refine ⟨Nat.le_of_ble_eq_true rfl, mapI_of (ifB_T rfl ⟨trivial, ifB_T rfl ⟨trivial, ifB_T rfl ⟨trivial, ifB_F rfl (ifB_d (fun h1 => ifB_d (fun h2 => ?_) fun h2 => ?_) fun h1 => ?_)⟩⟩⟩)⟩
    · show Q (.bl (decide (b < a)))
      simpa [h1, h2] using h
    · show Q (.bl false)
      simpa [h1, h2] using h
    · show Q (.bl false)
      simpa [h1] using h
  · exact h.elim
end
end K13
namespace K13
open PySem PySem.Spec PyProof.Rows L2 Z Y
section
variable {P : Program} {w : World} {K : Frg} {mg : Str → Option Value} {base : Heap}
theorem ok_Net_UinitU (T : Tx w K mg) : FnG P w K mg base (L2.CX P w) 5 (He.ma K (He.ga K "Net") "__init__") (spI K "Net" R_Net_UinitU) := by
  refine y_init (C := "Net") T.d_Net_UinitU sc_Net_UinitU (fun ds Q E h => by rw [arl3 ds Q E h]; rfl) (fun _ _ _ _ _ _ us hl => match us, hl with | [_, _, _, _], _ => rfl) fun cdv A outer s H E B hB hr hx po => ⟨_, (s_cons (s_if (z_not (z_val (y_call (ok_are_numbers T) (hr.mono (by decide)) rfl T.g_are_numbers T.k_are_numbers hx (a_cons (y_tup (a_cons (y_var (pv 1)) (a_cons (y_var (pv 2)) (a_cons (y_var (pv 3)) a_nil)))) a_nil))))
    (s_one s_never)
    s_nil)
  (s_one (s_fld (C := "Net") (ns := []) (i := 0) T.cl_Net T.na_Net_own_numbers (pv 0) (y_tup (a_cons (y_var (pv 1)) (a_cons (y_var (pv 2)) (a_cons (y_var (pv 3)) a_nil))))))), fun self ds Q h => ?_⟩
  obtain ⟨a0, a1, a2, e0, hh⟩ := ar3E h
  clear h
  subst e0
  have h := hh
  clear hh
  try dsimp only at h
  rw [show startE (List.length N_Net_UinitU - 1) [a0, a1, a2] = [.val a0, .val a1, .val a2] from rfl]
  split at h
  · rename_i a b c
    obtain ⟨⟨h1, h2, h3⟩, h⟩ := h
    exact ⟨Nat.le_of_ble_eq_true rfl, ifB_F (by simp [h1, h2, h3]) ⟨Nat.le_of_ble_eq_true rfl, ⟨rfl, rfl⟩, ⟨rfl, rfl⟩, h⟩⟩
  · exact h.elim
end
end K13
namespace K13
open PySem PySem.Spec PyProof.Rows L2 Z Y
section
variable {P : Program} {w : World} {K : Frg} {mg : Str → Option Value} {base : Heap}
theorem ok_Net_numbers (T : Tx w K mg) : FnG P w K mg base (L2.CX P w) 1 (He5.wf K (He.ga K "Net") "property" "numbers") (spP K R_Net_numbers) := by
  refine y_fn T.d_Net_numbers sc_Net_numbers arl1 (fun _ _ _ _ _ _ us hl => match us, hl with | [_], _ => rfl) fun cdv A outer s H E B hB hr hx po => ⟨_, (s_one (s_ret (y_fld (cs := ["Net"]) (ns := ["own_numbers"]) (j := 0) (y_var (pv 0)) (all1 ⟨T.cl_Net, T.na_Net_own_numbers⟩)))), fun ds Q h => ?_⟩
  obtain ⟨a0, e0, hh⟩ := ar1E h
  clear h
  subst e0
  have h := hh
  clear hh
  try dsimp only at h
  rw [show startE (List.length N_Net_numbers) [a0] = [.val a0] from rfl]
  obtain ⟨a, b, c, rfl, h⟩ := h
  exact ⟨⟨.head _, rfl⟩, h⟩
end
end K13
namespace K13
open PySem PySem.Spec PyProof.Rows L2 Z Y
section
variable {P : Program} {w : World} {K : Frg} {mg : Str → Option Value} {base : Heap}
theorem ok_Net_UeqU (T : Tx w K mg) : FnG P w K mg base (L2.CX P w) 1 (He.ma K (He.ga K "Net") "__eq__") (spP K R_Net_UeqU) := by
  refine y_fn T.d_Net_UeqU sc_Net_UeqU arl2 (fun _ _ _ _ _ _ us hl => match us, hl with | [_, _], _ => rfl) fun cdv A outer s H E B hB hr hx po => ⟨_, (s_one (s_ret (y_and (y_callB call_isi (isOL (C := "Net") (cs := ["Net"]) (cs' := []) ⟨T.cl_Net, T.ow_Net⟩ (all1 ⟨⟨T.cl_Net, T.ow_Net⟩, T.ow_Net.ki⟩) all0) (by rfl) T.b_isinstance (by decide +kernel) (a_cons (y_var (pv 1)) (a_cons (y_glob rfl T.g_Net) a_nil))) (y_one (y_cmp (op_eqY hr.units) eqL (y_fld (cs := ["Net"]) (ns := ["own_numbers"]) (j := 0) (y_var (pv 0)) (all1 ⟨T.cl_Net, T.na_Net_own_numbers⟩)) (y_fld (cs := ["Net"]) (ns := ["own_numbers"]) (j := 0) (y_var (pv 1)) (all1 ⟨T.cl_Net, T.na_Net_own_numbers⟩)) (nomark _)))))), fun ds Q h => ?_⟩
  obtain ⟨a0, a1, e0, hh⟩ := ar2E h
  clear h
  subst e0
  have h := hh
  clear hh
  try dsimp only at h
  rw [show startE (List.length N_Net_UeqU) [a0, a1] = [.val a0, .val a1] from rfl]
  obtain ⟨a, b, c, rfl, h⟩ := h
  rcases h with ⟨a', b', c', rfl, h⟩ | ⟨hk, h⟩
  · refine ⟨rfl, .inl ⟨.head _, ifB_T rfl ⟨⟨.head _, rfl⟩, ⟨.head _, rfl⟩, ⟨rfl, rfl⟩, ?_⟩⟩⟩
    rw [eqN3]
    exact h
  · cases a1 with
    | obj _ _ _ => exact hk.elim
    | ty _ => exact hk.elim
    | glob _ => exact hk.elim
    | tape => exact hk.elim
    | _ => exact ⟨rfl, ifB_F rfl h⟩
end
end K13
namespace K13
open PySem PySem.Spec PyProof.Rows L2 Z Y
section
variable {P : Program} {w : World} {K : Frg} {mg : Str → Option Value} {base : Heap}
theorem ok_Net_place_in_cell (T : Tx w K mg) : FnG P w K mg base (L2.CX P w) 1 (He.ma K (He.ga K "Net") "place_in_cell") (spP K R_Net_place_in_cell) := by
  refine y_fn T.d_Net_place_in_cell sc_Net_place_in_cell arl2 (fun _ _ _ _ _ _ us hl => match us, hl with | [_, _], _ => rfl) fun cdv A outer s H E B hB hr hx po => ⟨_, (s_cons (s_asg (t := .tp [2, 3, 4]) (y_fld (cs := ["Net"]) (ns := ["own_numbers"]) (j := 0) (y_var (pv 0)) (all1 ⟨T.cl_Net, T.na_Net_own_numbers⟩)) (g_tp (is := [2, 3, 4]) rfl (pgs_cons (pg_name (i := 2) sc_Net_place_in_cell.nd rfl (by first | exact Or.inl rfl | exact Or.inr rfl)) (pgs_cons (pg_name (i := 3) sc_Net_place_in_cell.nd rfl (by first | exact Or.inl rfl | exact Or.inr rfl)) (pgs_cons (pg_name (i := 4) sc_Net_place_in_cell.nd rfl (by first | exact Or.inl rfl | exact Or.inr rfl)) pgs_nil)))))
  (s_cons (s_set (i := 5) sc_Net_place_in_cell.nd rfl (by first | exact Or.inl rfl | exact Or.inr rfl) (y_op op_fdivW divL (y_ix (y_var (pv 1)) y_int (fun _ _ => rfl)) (y_var (pv 4))))
  (s_one (s_ret (y_tup (a_cons (y_op op_mod modL (y_op op_sub subL (y_ix (y_var (pv 1)) y_int (fun _ _ => rfl)) (y_op op_mulY mulL (y_var (pv 5)) (y_var (pv 3)))) (y_var (pv 2))) (a_cons (y_op op_sub subL (y_ix (y_var (pv 1)) y_int (fun _ _ => rfl)) (y_op op_mulY mulL (y_var (pv 5)) (y_var (pv 4)))) a_nil))))))), fun ds Q h => ?_⟩
  obtain ⟨a0, a1, e0, hh⟩ := ar2E h
  clear h
  subst e0
  have h := hh
  clear hh
  try dsimp only at h
  rw [show startE (List.length N_Net_place_in_cell) [a0, a1] = [.val a0, .val a1, .no, .no, .no, .no] from rfl]
  obtain ⟨a, b, c, x, y, rfl, rfl, ⟨⟨o1, o2, o3⟩, sa, sc, sy⟩, h⟩ := h
  have sb : Sz 5000 b := (sz_le o2 (Int.le_of_lt o3) sa).mono (by decide)
  have sr : Sz 5000 (y / c) := (sz_div c sy).mono (by decide)
  exact ⟨⟨.head _, rfl⟩, ⟨by omega, sc.mono (by decide)⟩, ⟨sr, sb⟩, by omega, ⟨sr, sc.mono (by decide)⟩, leN rfl, h⟩
end
end K13
namespace K13
open PySem PySem.Spec PyProof.Rows L2 Z Y
section
variable {P : Program} {w : World} {K : Frg} {mg : Str → Option Value} {base : Heap}
theorem ok_Net_spots (T : Tx w K mg) : FnG P w K mg base (L2.CX P w) 1 (He.ma K (He.ga K "Net") "spots") (spP K R_Net_spots) := by
  refine y_fn T.d_Net_spots sc_Net_spots arl1 (fun _ _ _ _ _ _ us hl => match us, hl with | [_], _ => rfl) fun cdv A outer s H E B hB hr hx po => ⟨_, (s_cons (s_asg (t := .tp [1, 2, 3]) (y_fld (cs := ["Net"]) (ns := ["own_numbers"]) (j := 0) (y_var (pv 0)) (all1 ⟨T.cl_Net, T.na_Net_own_numbers⟩)) (g_tp (is := [1, 2, 3]) rfl (pgs_cons (pg_name (i := 1) sc_Net_spots.nd rfl (by first | exact Or.inl rfl | exact Or.inr rfl)) (pgs_cons (pg_name (i := 2) sc_Net_spots.nd rfl (by first | exact Or.inl rfl | exact Or.inr rfl)) (pgs_cons (pg_name (i := 3) sc_Net_spots.nd rfl (by first | exact Or.inl rfl | exact Or.inr rfl)) pgs_nil)))))
  (s_one (s_ret (y_lc2 (own := [("y", 4), ("x", 5)]) (vs1 := [5]) (t := .nm 4) (t1 := .nm 5) rfl sc_Net_spots.nd (i_rng1 (by rfl) T.b_range (a_cons (y_var (pv 3)) a_nil)) (blkOk_by (own := [("y", 4), ("x", 5)]) (N := N_Net_spots) (sc := defScope s_Net_spots) (by decide +kernel)) (by decide) (fun _ _ _ _ _ => (g_nm (pg_name (i := 4) sc_Net_spots.nd rfl (by first | exact Or.inl rfl | exact Or.inr rfl)))) (fun _ _ _ _ _ => c_nil) (fun _ _ _ _ _ => (i_rng1 (by rfl) T.b_range (a_cons (y_var (pv 1)) a_nil))) (fun _ _ _ _ _ => (g_nm (pg_name (i := 5) sc_Net_spots.nd rfl (by first | exact Or.inl rfl | exact Or.inr rfl)))) (fun _ _ _ _ _ => c_nil) (fun _ _ _ _ _ => (y_tup (a_cons (y_var (pv 5)) (a_cons (y_var (pv 4)) a_nil)))))))), fun ds Q h => ?_⟩
  obtain ⟨a0, e0, hh⟩ := ar1E h
  clear h
  subst e0
  have h := hh
  clear hh
  try dsimp only at h
  rw [show startE (List.length N_Net_spots) [a0] = [.val a0, .no, .no, .no, .no, .no] from rfl]
  obtain ⟨a, b, c, rfl, ⟨o, hm⟩, h⟩ := h
  have ha : 0 < a := by have := o.2; omega
  have hc : 0 < c := by have := o.1; omega
  obtain ⟨A, rfl⟩ := Int.eq_ofNat_of_zero_le (Int.le_of_lt ha)
  obtain ⟨C, rfl⟩ := Int.eq_ofNat_of_zero_le (Int.le_of_lt hc)
  have hm' : A * C ≤ 20000 := by
    have : ((A * C : Nat) : Int) ≤ 20000 := by rw [Int.natCast_mul]; exact hm
    omega
  have hA : A ≤ 20000 := by
    have : A * 1 ≤ A * C := Nat.mul_le_mul_left A (by omega)
    omega
  have hC : C ≤ 20000 := by
    have : 1 * C ≤ A * C := Nat.mul_le_mul_right C (by omega)
    omega
  refine ⟨⟨.head _, rfl⟩, by omega, by omega, ?_⟩
  refine ⟨fun i acc => acc = (MN.spotsL A i).map plD, rfl, fun i d acc hd hj => ?_, fun out hj => ?_⟩
  · obtain ⟨hi, rfl⟩ := rngD_at hd
    rw [Int.toNat_natCast] at hi
    rw [Int.zero_add]
    refine ⟨rfl, ifB_T rfl ⟨by omega, by omega, fun j ac => ac = (MN.spotsL A i).map plD ++ ((MN.rowL A ((i : Nat) : Int)).take j).map plD, by rw [hj]; simp, fun j e ac he hl => ?_, fun ac hl => ?_⟩⟩
    · obtain ⟨hj2, rfl⟩ := rngD_at he
      rw [Int.toNat_natCast] at hj2
      rw [Int.zero_add]
      refine ifB_T rfl ⟨leN rfl, ?_, ?_⟩
      · rw [hl]
        simp only [List.length_append, List.length_map, List.length_take, MN.spotsL_len]
        have h1 : (i + 1) * A ≤ C * A := Nat.mul_le_mul_right A hi
        rw [Nat.add_mul, Nat.one_mul, Nat.mul_comm C A] at h1
        rw [Nat.mul_comm A i]
        omega
      · show ac ++ [D.tup [D.int ((j : Nat) : Int), D.int ((i : Nat) : Int)]] = (MN.spotsL A i).map plD ++ ((MN.rowL A ((i : Nat) : Int)).take (j + 1)).map plD
        rw [hl, List.take_succ]
        have hr : (MN.rowL A ((i : Nat) : Int))[j]? = some (((j : Nat) : Int), ((i : Nat) : Int)) := by
          unfold MN.rowL
          rw [List.getElem?_map, List.getElem?_range hj2]
          rfl
        rw [hr, List.map_append, List.append_assoc]
        rfl
    · rw [hl]
      have hlen : (rngD 0 ((A : Int)).toNat).length = (MN.rowL A ((i : Nat) : Int)).length := by simp [rngD, MN.rowL]
      rw [hlen, List.take_length, ← List.map_append]
      rfl
  · rw [hj]
    have hlen : (rngD 0 ((C : Int)).toNat).length = C := by simp [rngD]
    rw [hlen]
    simpa using h
end
end K13
namespace K13
open PySem PySem.Spec PyProof.Rows L2 Z Y
section
variable {P : Program} {w : World} {K : Frg} {mg : Str → Option Value} {base : Heap}
theorem ok_colour_at (T : Tx w K mg) : FnG P w K mg base (L2.CX P w) 3 (He.ga K "colour_at") (spP K R_colour_at) := by
  refine y_fn T.d_colour_at sc_colour_at arl3 (fun _ _ _ _ _ _ us hl => match us, hl with | [_, _, _], _ => rfl) fun cdv A outer s H E B hB hr hx po => ⟨_, (s_cons (s_asg (t := .tp [3, 4]) (y_meth (cs := ["Net"]) (ns := ["own_numbers"]) (y_var (pv 0)) (all1 ⟨T.cl_Net, T.m_Net_place_in_cell⟩) (ok_Net_place_in_cell T) (hr.mono (by decide)) hx (a_cons (y_var (pv 2)) a_nil)) (g_tp (is := [3, 4]) rfl (pgs_cons (pg_name (i := 3) sc_colour_at.nd rfl (by first | exact Or.inl rfl | exact Or.inr rfl)) (pgs_cons (pg_name (i := 4) sc_colour_at.nd rfl (by first | exact Or.inl rfl | exact Or.inr rfl)) pgs_nil))))
  (s_one (s_ret (y_ix (y_var (pv 1)) (y_op op_addY addL (y_op op_mulY mulL (y_var (pv 4)) (y_ix (y_prop (cs := ["Net"]) (ns := ["own_numbers"]) (y_var (pv 0)) (all1 ⟨T.cl_Net, _, T.p_Net_numbers⟩) (ok_Net_numbers T) (hr.mono (by decide)) px_nox) y_int (fun _ _ => rfl))) (y_var (pv 3))) (fun _ _ => rfl))))), fun ds Q h => ?_⟩
  obtain ⟨a0, a1, a2, e0, hh⟩ := ar3E h
  clear h
  subst e0
  have h := hh
  clear hh
  try dsimp only at h
  rw [show startE (List.length N_colour_at) [a0, a1, a2] = [.val a0, .val a1, .val a2, .no, .no] from rfl]
  obtain ⟨a, b, c, t, x, y, rfl, rfl, rfl, ⟨o, zy⟩, h⟩ := h
  have ha := o.a
  have hc := o.c
  obtain ⟨r1, r2, r3, r4⟩ := MN.low_rng (a := a) (b := b) (c := c) (x := x) (y := y) ha hc
  refine ⟨.head _, rfl, a, b, c, x, y, rfl, rfl, ⟨o.ok, o.sa.mono (by decide), o.sc.mono (by decide), zy⟩, .head _, rfl, a, b, c, rfl, ⟨(sz13 r3 (by have := o.cl; omega)).mono (by decide), o.sa.mono (by decide)⟩, ?_, ?_⟩
  · show t.cps.size ≤ 100000
    have := o.ln
    have := o.mx
    rw [Array.length_toList] at *
    omega
  · have i0 : 0 ≤ (MN.low a b c x y).2 * a + (MN.low a b c x y).1 := Int.add_nonneg (Int.mul_nonneg r3 (by omega)) r1
    have i1 : (MN.low a b c x y).2 * a + (MN.low a b c x y).1 < a * c := by
      have h1 : ((MN.low a b c x y).2 + 1) * a ≤ c * a := Int.mul_le_mul_of_nonneg_right (by omega) (by omega)
      rw [Int.add_mul, Int.one_mul, Int.mul_comm c a] at h1
      omega
    obtain ⟨k, hk⟩ := Int.eq_ofNat_of_zero_le i0
    have hl : k < t.cps.toList.length := by have := o.ln; omega
    rw [hk]
    have e : atI t.cps.toList ((k : Nat) : Int) = some t.cps.toList[k] := atI_nat (List.getElem?_eq_getElem hl)
    rw [e]
    have e2 : colF t a b c (x, y) = t.cps.toList[k] := by
      unfold colF MN.col
      dsimp only
      rw [hk, Int.toNat_natCast, List.getD_eq_getElem?_getD, List.getElem?_eq_getElem hl]
      rfl
    rw [e2] at h
    exact h
end
end K13
namespace K13
open PySem PySem.Spec PyProof.Rows L2 Z Y
section
variable {P : Program} {w : World} {K : Frg} {mg : Str → Option Value} {base : Heap}
theorem ok_is_kept (T : Tx w K mg) : FnG P w K mg base (L2.CX P w) 5 (He.ga K "is_kept") (spP K R_is_kept) := by
  refine y_fn T.d_is_kept sc_is_kept arl3 (fun _ _ _ _ _ _ us hl => match us, hl with | [_, _, _], _ => rfl) fun cdv A outer s H E B hB hr hx po => ⟨_, (s_cons (s_for (t := .nm 3) po rfl (i_lst (y_meth0 (cs := ["Net"]) (ns := ["own_numbers"]) (y_var (pv 0)) (all1 ⟨T.cl_Net, T.m_Net_spots⟩) (ok_Net_spots T) (hr.mono (by decide)) hx)) (g_nm (pg_name (i := 3) sc_is_kept.nd rfl (by first | exact Or.inl rfl | exact Or.inr rfl)))
    (s_one (s_if (z_cmp (op_neY hr.units) neL (y_call (ok_colour_at T) (hr.mono (by decide)) rfl T.g_colour_at T.k_colour_at hx (a_cons (y_var (pv 0)) (a_cons (y_var (pv 1)) (a_cons (y_var (pv 3)) a_nil)))) (y_call (ok_colour_at T) (hr.mono (by decide)) rfl T.g_colour_at T.k_colour_at hx (a_cons (y_var (pv 0)) (a_cons (y_var (pv 1)) (a_cons (y_call (ok_plus T) (hr.mono (by decide)) rfl T.g_plus T.k_plus hx (a_cons (y_var (pv 3)) (a_cons (y_var (pv 2)) a_nil))) a_nil)))) (nomark _))
    (s_one (s_ret y_bl))
    s_nil)))
  (s_one (s_ret y_bl))), fun ds Q h => ?_⟩
  obtain ⟨a0, a1, a2, e0, hh⟩ := ar3E h
  clear h
  subst e0
  have h := hh
  clear hh
  try dsimp only at h
  rw [show startE (List.length N_is_kept) [a0, a1, a2] = [.val a0, .val a1, .val a2, .no] from rfl]
  obtain ⟨a, b, c, t, u, v, rfl, rfl, rfl, ⟨o, zv⟩, h⟩ := h
  refine ⟨.head _, rfl, a, b, c, rfl, ⟨o.ok, by have := o.mx; omega⟩, fun i ρ => (∀ p ∈ (MN.spotsL a.toNat c.toNat).take i, colF t a b c p = colF t a b c (p.1 + u, p.2 + v)) ∧ ∃ o3, ρ = [.val (dNet a b c), .val (.str t), .val (dPl u v), o3], ⟨fun p hp => by simp at hp, _, rfl⟩, ?_, ?_⟩
  · rintro i d ρ hd ⟨hn, o3, rfl⟩
    obtain ⟨⟨x, y⟩, hq, rfl⟩ := map_get hd
    obtain ⟨m1, m2, m3, m4⟩ := MN.spotsL_mem.mp (List.mem_of_getElem? hq)
    have m4' : y < c := by have : y < ((c.toNat : Nat) : Int) := m4; have := o.c; omega
    have zy : Sz 13 y := sz13 m3 (by have := o.cl; omega)
    refine ⟨a, b, c, t, x, y, rfl, rfl, rfl, ⟨o, zy.mono (by decide)⟩, x, y, u, v, rfl, rfl, a, b, c, t, x + u, y + v, rfl, rfl, rfl, ⟨o, (sz_add (zy.mono (by decide)) zv).mono (by decide)⟩, ifB_2 (fun e => ?_) (fun e => ?_)⟩
    · have e1 : ¬ colF t a b c (x, y) = colF t a b c (x + u, y + v) := fun z => by rw [z] at e; simp at e
      have : keepB (colF t a b c) u v = false := keepB_false.mpr fun k => e1 (k (x, y)).symm
      rw [this] at h
      exact h
    · have e1 : colF t a b c (x, y) = colF t a b c (x + u, y + v) := by
        have : chr1 (colF t a b c (x, y)) = chr1 (colF t a b c (x + u, y + v)) := by simpa using e
        unfold chr1 at this
        simpa using this
      refine ⟨fun p hp => ?_, _, rfl⟩
      rw [List.take_succ, hq] at hp
      rcases List.mem_append.mp hp with z | z
      · exact hn p z
      · have : p = (x, y) := by simpa using z
        rw [this]
        exact e1
  · rintro ρ ⟨hn, o3, rfl⟩
    have hl : ((MN.spotsL a.toNat c.toNat).map plD).length = (MN.spotsL a.toNat c.toNat).length := List.length_map _
    rw [hl, List.take_length] at hn
    have k : keepB (colF t a b c) u v = true := keepB_iff.mpr (MN.keeps_cell o.ok hn)
    show Q (.bl true)
    rw [← k]
    exact h
end
end K13
namespace K13
open PySem PySem.Spec PyProof.Rows L2 Z Y
section
variable {P : Program} {w : World} {K : Frg} {mg : Str → Option Value} {base : Heap}
theorem ok_kept_net (T : Tx w K mg) : FnG P w K mg base (L2.CX P w) 7 (He.ga K "kept_net") (spP K R_kept_net) := by
  refine y_fn T.d_kept_net sc_kept_net arl2 (fun _ _ _ _ _ _ us hl => match us, hl with | [_, _], _ => rfl) fun cdv A outer s H E B hB hr hx po => ⟨_, (s_cons (s_asg (t := .tp [2, 3, 4]) (y_prop (cs := ["Net"]) (ns := ["own_numbers"]) (y_var (pv 0)) (all1 ⟨T.cl_Net, _, T.p_Net_numbers⟩) (ok_Net_numbers T) (hr.mono (by decide)) px_nox) (g_tp (is := [2, 3, 4]) rfl (pgs_cons (pg_name (i := 2) sc_kept_net.nd rfl (by first | exact Or.inl rfl | exact Or.inr rfl)) (pgs_cons (pg_name (i := 3) sc_kept_net.nd rfl (by first | exact Or.inl rfl | exact Or.inr rfl)) (pgs_cons (pg_name (i := 4) sc_kept_net.nd rfl (by first | exact Or.inl rfl | exact Or.inr rfl)) pgs_nil)))))
  (s_cut (s_set (i := 5) sc_kept_net.nd rfl (by first | exact Or.inl rfl | exact Or.inr rfl) (y_ix (y_lc (own := [("number", 8)]) (t := .nm 8) rfl sc_kept_net.nd (i_lst (y_call (ok_divisors T) (hr.mono (by decide)) rfl T.g_divisors T.k_divisors hx (a_cons (y_var (pv 2)) a_nil))) (blkOk_by (own := [("number", 8)]) (N := N_kept_net) (sc := defScope s_kept_net) (by decide +kernel)) (fun _ _ _ _ _ => (g_nm (pg_name (i := 8) sc_kept_net.nd rfl (by first | exact Or.inl rfl | exact Or.inr rfl)))) (fun _ _ _ _ _ => (c_one (z_val (y_call (ok_is_kept T) (hr.mono (by decide)) rfl T.g_is_kept T.k_is_kept px_nox (a_cons (y_var (pv 0)) (a_cons (y_var (pv 1)) (a_cons (y_tup (a_cons (y_var (pv 8)) (a_cons y_int a_nil))) a_nil))))))) (fun _ _ _ _ _ => (y_var (pv 8)))) y_int (fun _ _ => rfl)))
  (s_cons (s_for (t := .nm 6) po rfl (i_lst (y_call (ok_divisors T) (hr.mono (by decide)) rfl T.g_divisors T.k_divisors hx (a_cons (y_var (pv 4)) a_nil))) (g_nm (pg_name (i := 6) sc_kept_net.nd rfl (by first | exact Or.inl rfl | exact Or.inr rfl)))
    (s_one (s_for (t := .nm 7) po rfl (i_rng1 (by rfl) T.b_range (a_cons (y_var (pv 5)) a_nil)) (g_nm (pg_name (i := 7) sc_kept_net.nd rfl (by first | exact Or.inl rfl | exact Or.inr rfl)))
    (s_one (s_if (z_val (y_call (ok_is_kept T) (hr.mono (by decide)) rfl T.g_is_kept T.k_is_kept hx (a_cons (y_var (pv 0)) (a_cons (y_var (pv 1)) (a_cons (y_tup (a_cons (y_var (pv 7)) (a_cons (y_var (pv 6)) a_nil))) a_nil)))))
    (s_one (s_ret (y_make T.mk_Net (ok_Net_UinitU T) (hr.mono (by decide)) rfl T.g_Net hx (a_cons (y_var (pv 5)) (a_cons (y_var (pv 7)) (a_cons (y_var (pv 6)) a_nil))))))
    s_nil)))))
  (s_one (s_ret (y_var (pv 0))))))), fun ds Q h => ?_⟩
  obtain ⟨a0, a1, e0, hh⟩ := ar2E h
  clear h
  subst e0
  have h := hh
  clear hh
  try dsimp only at h
  rw [show startE (List.length N_kept_net) [a0, a1] = [.val a0, .val a1, .no, .no, .no, .no, .no, .no, .no] from rfl]
  obtain ⟨a, b, c, t, rfl, rfl, o, h⟩ := h
  have ha := o.a
  have hc := o.c
  have z0 : Sz 3000 (0 : Int) := szP (by decide) (by decide)
  have ka : MN.Keeps (colF t a b c) a 0 := MN.keeps_net o.ok ⟨1, 0, by omega, by omega⟩
  have kbc : MN.Keeps (colF t a b c) b c := MN.keeps_net o.ok ⟨0, 1, by omega, by omega⟩
  have dl : ∀ n : Int, 0 < n → n ≤ 5000 → ((MN.divL n).map D.int).length ≤ 100000 := fun n n0 n1 => by
    rw [List.length_map]
    have := List.length_filter_le (fun d => decide (n % d = 0)) (MN.upL n.toNat)
    have e : (MN.upL n.toNat).length = n.toNat := by simp [MN.upL]
    unfold MN.divL
    omega
  refine ⟨.head _, rfl, a, b, c, rfl, ?_⟩
  refine ⟨fun ρ => ∃ w, w ∈ MN.divL a ∧ MN.Keeps (colF t a b c) w 0 ∧ (∀ d ∈ MN.divL a, d < w → ¬ MN.Keeps (colF t a b c) d 0) ∧ ∃ o8, ρ = [.val (dNet a b c), .val (.str t), .val (.int a), .val (.int b), .val (.int c), .val (.int w), .no, .no, o8], ?_, ?_⟩
  · refine ⟨a, rfl, ⟨by omega, by have := o.al; omega⟩, dl a ha o.al, ?_⟩
    refine ⟨fun i acc => acc = (((MN.divL a).take i).filter fun d => keepB (colF t a b c) d 0).map D.int, rfl, fun i d acc hd hj => ?_, fun out hj => ?_⟩
    · obtain ⟨n, hq, rfl⟩ := map_get hd
      refine ⟨leN rfl, a, b, c, t, n, 0, rfl, rfl, rfl, ⟨o, z0⟩, ifB_2 (fun e => ?_) (fun e => ?_)⟩
      · show acc ++ [D.int n] = _
        rw [hj, List.take_succ, hq, List.filter_append, List.map_append]
        simp [e]
      · show acc = _
        rw [hj, List.take_succ, hq, List.filter_append, List.map_append]
        simp [e]
    · rw [List.length_map, List.take_length] at hj
      subst hj
      have am : a ∈ (MN.divL a).filter fun d => keepB (colF t a b c) d 0 := List.mem_filter.mpr ⟨(MN.divL_mem ha).mpr ⟨ha, Int.dvd_refl a⟩, keepB_iff.mpr ka⟩
      have hs : ((MN.divL a).filter fun d => keepB (colF t a b c) d 0).Pairwise (· < ·) := (MN.divL_sorted a).filter _
      cases hf : (MN.divL a).filter fun d => keepB (colF t a b c) d 0 with
      | nil => rw [hf] at am; cases am
      | cons w rest =>
        have wm : w ∈ (MN.divL a).filter fun d => keepB (colF t a b c) d 0 := by rw [hf]; exact List.mem_cons_self
        obtain ⟨w1, w2⟩ := List.mem_filter.mp wm
        rw [hf] at hs
        show dIx (.lst (D.int w :: rest.map D.int)) (.int 0) _
        refine dIx_l atI_0 ⟨w, w1, keepB_iff.mp w2, fun d hd hlt hk => ?_, _, rfl⟩
        have dm : d ∈ (MN.divL a).filter fun d => keepB (colF t a b c) d 0 := List.mem_filter.mpr ⟨hd, keepB_iff.mpr hk⟩
        rw [hf] at dm
        rcases List.mem_cons.mp dm with e | e
        · omega
        · have := (List.pairwise_cons.mp hs).1 d e
          omega
  rintro ρ ⟨w, wm, kw, wf, o8, rfl⟩
  obtain ⟨w0, wa⟩ := (MN.divL_mem ha).mp wm
  have wl := Int.le_of_dvd ha wa
  have wmin := MN.width_min ha ka wm kw wf
  refine ⟨c, rfl, ⟨by omega, by have := o.cl; omega⟩, fun i ρ => (∀ d ∈ (MN.divL c).take i, ∀ u, 0 ≤ u → u < w → ¬ MN.Keeps (colF t a b c) u d) ∧ ∃ o6 o7, ρ = [.val (dNet a b c), .val (.str t), .val (.int a), .val (.int b), .val (.int c), .val (.int w), o6, o7, o8], ⟨fun d hd => by simp at hd, _, _, rfl⟩, ?_, ?_⟩
  · rintro i d ρ hd ⟨hn, o6, o7, rfl⟩
    obtain ⟨r, hq, rfl⟩ := map_get hd
    have rm := List.mem_of_getElem? hq
    obtain ⟨r0, rc⟩ := (MN.divL_mem hc).mp rm
    have rl := Int.le_of_dvd hc rc
    have zr : Sz 13 r := sz13 (by omega) (by have := o.cl; omega)
    refine ⟨by have := o.al; omega, by have := o.al; omega, fun j ρ => (∀ u, 0 ≤ u → u < (j : Int) → ¬ MN.Keeps (colF t a b c) u r) ∧ ∃ o7, ρ = [.val (dNet a b c), .val (.str t), .val (.int a), .val (.int b), .val (.int c), .val (.int w), .val (.int r), o7, o8], ⟨fun u u0 u1 => absurd u0 (by omega), _, rfl⟩, ?_, ?_⟩
    · rintro j e ρ he ⟨hm, o7, rfl⟩
      obtain ⟨hj, rfl⟩ := rngD_at he
      rw [Int.zero_add]
      have hjw : (j : Int) < w := by omega
      refine ⟨leN rfl, a, b, c, t, (j : Int), r, rfl, rfl, rfl, ⟨o, zr.mono (by decide)⟩, ifB_2 (fun ek => ?_) (fun ek => ?_)⟩
      · have kk := keepB_iff.mp ek
        have rmin := MN.rows_min hc w0 kw rm kk fun d hd hlt => hn d (MN.ahead (MN.divL_sorted c) hq hd hlt)
        exact ⟨⟨by omega, by omega, hjw⟩, h w (j : Int) r (MN.exact_of w0 r0 (by omega) hjw kw wmin kk rmin) wl rl⟩
      · refine ⟨fun u u0 u1 => ?_, _, rfl⟩
        by_cases hu : u = (j : Int)
        · rw [hu]
          exact keepB_false.mp ek
        · exact hm u u0 (by omega)
    · rintro ρ ⟨hm, o7, rfl⟩
      have hl : (rngD 0 w.toNat).length = w.toNat := by simp [rngD]
      rw [hl] at hm
      refine ⟨fun d hd => ?_, _, _, rfl⟩
      rw [List.take_succ, hq] at hd
      rcases List.mem_append.mp hd with z | z
      · exact hn d z
      · have : d = r := by simpa using z
        rw [this]
        exact fun u u0 u1 => hm u u0 (by omega)
  · rintro ρ ⟨hn, o6, o7, rfl⟩
    rw [List.length_map, List.take_length] at hn
    exact absurd (MN.keeps_mod kw kbc) (hn c ((MN.divL_mem hc).mpr ⟨hc, Int.dvd_refl c⟩) _ (Int.emod_nonneg _ (by omega)) (Int.emod_lt_of_pos _ w0))
end
end K13
namespace K13
open PySem PySem.Spec PyProof.Rows L2 Z Y
section
variable {P : Program} {w : World} {K : Frg} {mg : Str → Option Value} {base : Heap}
theorem ok_least_cell (T : Tx w K mg) : FnG P w K mg base (L2.CX P w) 9 (He.ga K "least_cell") (spP K R_least_cell) := by
  refine y_fn T.d_least_cell sc_least_cell arl2 (fun _ _ _ _ _ _ us hl => match us, hl with | [_, _], _ => rfl) fun cdv A outer s H E B hB hr hx po => ⟨_, (s_cons (s_set (i := 2) sc_least_cell.nd rfl (by first | exact Or.inl rfl | exact Or.inr rfl) (y_call (ok_kept_net T) (hr.mono (by decide)) rfl T.g_kept_net T.k_kept_net hx (a_cons (y_var (pv 0)) (a_cons (y_var (pv 1)) a_nil))))
  (s_one (s_ret (y_tup (a_cons (y_var (pv 2)) (a_cons (y_join y_str (y_lc (own := [("place", 3)]) (t := .nm 3) rfl sc_least_cell.nd (i_lst (y_meth0 (cs := ["Net"]) (ns := ["own_numbers"]) (y_var (pv 2)) (all1 ⟨T.cl_Net, T.m_Net_spots⟩) (ok_Net_spots T) (hr.mono (by decide)) hx)) (blkOk_by (own := [("place", 3)]) (N := N_least_cell) (sc := defScope s_least_cell) (by decide +kernel)) (fun _ _ _ _ _ => (g_nm (pg_name (i := 3) sc_least_cell.nd rfl (by first | exact Or.inl rfl | exact Or.inr rfl)))) (fun _ _ _ _ _ => c_nil) (fun _ _ _ _ _ => (y_call (ok_colour_at T) (hr.mono (by decide)) rfl T.g_colour_at T.k_colour_at px_nox (a_cons (y_var (pv 0)) (a_cons (y_var (pv 1)) (a_cons (y_var (pv 3)) a_nil))))))) a_nil)))))), fun ds Q h => ?_⟩
  obtain ⟨a0, a1, e0, hh⟩ := ar2E h
  clear h
  subst e0
  have h := hh
  clear hh
  try dsimp only at h
  rw [show startE (List.length N_least_cell) [a0, a1] = [.val a0, .val a1, .no, .no] from rfl]
  obtain ⟨a, b, c, t, rfl, rfl, o, h⟩ := h
  refine ⟨a, b, c, t, rfl, rfl, o, fun w q r ex hw hr => ?_⟩
  have cp := carp_of o ex hw hr
  have w0 : 0 < w := by have := ex.1.2; omega
  have r0 : 0 < r := by have := ex.1.1; omega
  have hlen : (MN.spotsL w.toNat r.toNat).length ≤ 5000 := by
    rw [MN.spotsL_len]
    obtain ⟨w', rfl⟩ := Int.eq_ofNat_of_zero_le (Int.le_of_lt w0)
    obtain ⟨r', rfl⟩ := Int.eq_ofNat_of_zero_le (Int.le_of_lt r0)
    have := cp.mx
    rw [Int.toNat_natCast, Int.toNat_natCast]
    have e : ((w' * r' : Nat) : Int) ≤ 5000 := by rw [Int.natCast_mul]; exact this
    omega
  refine ⟨.head _, rfl, w, q, r, rfl, ⟨ex.1, by have := cp.mx; omega⟩, by rw [List.length_map]; omega, ?_⟩
  refine ⟨fun i acc => acc = (((MN.spotsL w.toNat r.toNat).take i).map fun p => D.str (chr1 (colF t a b c p))), rfl, fun i d acc hd hj => ?_, fun out hj => ?_⟩
  · obtain ⟨⟨x, y⟩, hq, rfl⟩ := map_get hd
    obtain ⟨m1, m2, m3, m4⟩ := MN.spotsL_mem.mp (List.mem_of_getElem? hq)
    have m4' : y < r := by have : y < ((r.toNat : Nat) : Int) := m4; omega
    have zy : Sz 13 y := sz13 m3 (by have := o.cl; omega)
    refine ifB_T rfl ⟨a, b, c, t, x, y, rfl, rfl, rfl, ⟨o, zy.mono (by decide)⟩, ?_⟩
    show acc ++ [_] = _
    rw [hj, List.take_succ, hq, List.map_append]
    rfl
  · rw [List.length_map, List.take_length] at hj
    subst hj
    have es : (MN.spotsL w.toNat r.toNat).map (fun p => D.str (chr1 (colF t a b c p))) = ((MN.cellT (colF t a b c) w r).map chr1).map D.str := by
      unfold MN.cellT
      rw [List.map_map, List.map_map]
      rfl
    show dJoin (.str "") (.lst _) _
    rw [es]
    unfold dJoin
    dsimp only
    rw [strsOf_str]
    refine ⟨?_, ?_⟩
    · have e1 := sum_chr1 (MN.cellT (colF t a b c) w r)
      have e2 : ("" : Str).length = 0 := by decide +kernel
      rw [e1, e2, Nat.mul_zero]
      unfold MN.cellT
      rw [List.length_map]
      omega
    · rw [join_chrs]
      exact ⟨leN rfl, h w q r ex hw hr⟩
end
end K13
namespace K13
open PySem PySem.Spec PyProof.Rows L2 Z Y
section
variable {P : Program} {w : World} {K : Frg} {mg : Str → Option Value} {base : Heap}
theorem ok_is_row (T : Tx w K mg) : FnG P w K mg base (L2.CX P w) 1 (He.ga K "is_row") (spP K R_is_row) := by
  refine y_fn T.d_is_row sc_is_row arl3 (fun _ _ _ _ _ _ us hl => match us, hl with | [_, _, _], _ => rfl) fun cdv A outer s H E B hB hr hx po => ⟨_, (s_one (s_ret (y_and (y_callB call_isi (isBL (cs := []) (T := "str") (by decide) all0) (by rfl) T.b_isinstance (by decide +kernel) (a_cons (y_var (pv 0)) (a_cons (y_ty (n := "str") rfl T.b_str (by decide +kernel)) a_nil))) (y_and (y_chain op_le cmpL op_le cmpL y_int (y_callB call_lenY lenL (by rfl) T.b_len (by decide +kernel) (a_cons (y_var (pv 0)) a_nil)) (y_var (pv 2))) (y_one (y_callB (cr_all rfl) (allL (f := fun bs => bs.all id)) (by rfl) T.b_all (by decide +kernel) (a_cons (y_lc (own := [("sign", 3)]) (t := .nm 3) rfl sc_is_row.nd (i_str (y_var (pv 0))) (blkOk_by (own := [("sign", 3)]) (N := N_is_row) (sc := defScope s_is_row) (by decide +kernel)) (fun _ _ _ _ _ => (g_nm (pg_name (i := 3) sc_is_row.nd rfl (by first | exact Or.inl rfl | exact Or.inr rfl)))) (fun _ _ _ _ _ => c_nil) (fun _ _ _ _ _ => (y_cmp (op_inY (hu65 hr)) inL (y_var (pv 3)) (y_var (pv 1)) rfl))) a_nil))))))), fun ds Q h => ?_⟩
  obtain ⟨a0, a1, a2, e0, hh⟩ := ar3E h
  clear h
  subst e0
  have h := hh
  clear hh
  try dsimp only at h
  rw [show startE (List.length N_is_row) [a0, a1, a2] = [.val a0, .val a1, .val a2, .no] from rfl]
  obtain ⟨t, n, rfl, rfl, rfl, ⟨l1, l2, l3, hl⟩, h⟩ := h
  have e : t.length = t.cps.toList.length := by rw [Array.length_toList]; rfl
  refine ⟨rfl, ifB_T rfl ⟨by omega, ifB_T (decide_eq_true (by omega)) (ifB_T (decide_eq_true (by omega)) ⟨by unfold chrs; rw [List.length_map]; omega, ?_⟩)⟩⟩
  refine ⟨fun i acc => acc = List.replicate i (D.bl true), rfl, fun i d acc hd hj => ?_, fun out hj => ?_⟩
  · obtain ⟨c, hc, rfl⟩ := map_get hd
    refine ifB_T rfl ?_
    have o := occ_low (hl c (List.mem_of_getElem? hc))
    show acc ++ [D.bl (false != occ LETS ⟨#[c]⟩)] = _
    rw [o, hj]
    simp [List.replicate_succ']
  · subst hj
    have key : ∀ k, blsOf (List.replicate k (D.bl true)) = some (List.replicate k true) := by
      intro k
      induction k with
      | zero => rfl
      | succ k ih =>
        rw [List.replicate_succ]
        show (blsOf (List.replicate k (D.bl true))).map (true :: ·) = _
        rw [ih]
        rfl
    show dAll _ [.lst (List.replicate _ _)] _
    unfold dAll
    dsimp only
    rw [key]
    show Q (.bl ((List.replicate _ true).all id))
    have : ∀ k, (List.replicate k true).all id = true := by
      intro k
      rw [List.all_eq_true]
      intro x hx
      rw [(List.mem_replicate.mp hx).2]
      rfl
    rw [this]
    exact h
end
end K13
namespace K13
open PySem PySem.Spec PyProof.Rows L2 Z Y
section
variable {P : Program} {w : World} {K : Frg} {mg : Str → Option Value} {base : Heap}
theorem ok_check_rows (T : Tx w K mg) : FnG P w K mg base (L2.CX P w) 3 (He.ga K "check_rows") (spP K R_check_rows) := by
  refine y_fn T.d_check_rows sc_check_rows arl3 (fun _ _ _ _ _ _ us hl => match us, hl with | [_, _, _], _ => rfl) fun cdv A outer s H E B hB hr hx po => ⟨_, (s_cons (s_if (z_pt (z_or (z_not (z_val (y_isi2 (T1 := "list") (T2 := "tuple") (y_var (pv 0)) (pe_bltn (v := .ty "list") (by rfl) T.b_list (by decide +kernel) rfl (by decide) (by decide)) (pe_bltn (v := .ty "tuple") (by rfl) T.b_tuple (by decide +kernel) rfl (by decide) (by decide)) (by rfl) T.b_isinstance))) (z_or1 (z_not (z_chain op_le cmpL op_le cmpL y_int (y_callB call_lenY lenL (by rfl) T.b_len (by decide +kernel) (a_cons (y_var (pv 0)) a_nil)) (y_var (pv 2)))))))
    (s_one s_never)
    s_nil)
  (s_one (s_for (t := .tp [3, 4]) po rfl (i_enumZ (by rfl) T.b_enumerate (y_var (pv 0))) (g_tp (is := [3, 4]) rfl (pgs_cons (pg_name (i := 3) sc_check_rows.nd rfl (by first | exact Or.inl rfl | exact Or.inr rfl)) (pgs_cons (pg_name (i := 4) sc_check_rows.nd rfl (by first | exact Or.inl rfl | exact Or.inr rfl)) pgs_nil)))
    (s_one (s_if (z_pt (z_or (z_not (z_val (y_call (ok_is_row T) (hr.mono (by decide)) rfl T.g_is_row T.k_is_row hx (a_cons (y_var (pv 4)) (a_cons (y_var (pv 1)) (a_cons (y_var (pv 2)) a_nil)))))) (z_or1 (z_cmp (op_neY hr.units) neL (y_callB call_lenY lenL (by rfl) T.b_len (by decide +kernel) (a_cons (y_var (pv 4)) a_nil)) (y_callB call_lenY lenL (by rfl) T.b_len (by decide +kernel) (a_cons (y_ix (y_var (pv 0)) y_int (fun _ _ => rfl)) a_nil)) (nomark _)))))
    (s_one s_never)
    s_nil))))), fun ds Q h => ?_⟩
  obtain ⟨a0, a1, a2, e0, hh⟩ := ar3E h
  clear h
  subst e0
  have h := hh
  clear hh
  try dsimp only at h
  rw [show startE (List.length N_check_rows) [a0, a1, a2] = [.val a0, .val a1, .val a2, .no, .no] from rfl]
  obtain ⟨rs, w, hs, rfl, rfl, hb, h⟩ := h
  obtain ⟨r0, rest, rfl⟩ : ∃ r0 rest, rs = r0 :: rest := by
    cases rs with
    | nil => have := hb.n1; simp at this
    | cons a b => exact ⟨a, b, rfl⟩
  have hr0 := hb.row r0 List.mem_cons_self
  have hlen : ((r0 :: rest).map D.str).length = (r0 :: rest).length := List.length_map _
  have n1 := hb.n1
  have n2 := hb.n2
  have w1 := hb.w1
  have w2 := hb.w2
  have sl : ∀ t : Str, t.length = t.cps.toList.length := fun t => by rw [Array.length_toList]; rfl
  rcases hs with rfl | rfl
  all_goals
    refine ⟨⟨rfl, rfl⟩, ifB_F rfl (ifB_T (decide_eq_true (by rw [hlen]; omega)) (ifB_F ?_ ?_))⟩
    · show (!decide _) = false
      rw [decide_eq_true (by rw [hlen]; omega)]
      rfl
    · refine ⟨fun i ρ => ∃ o3 o4, ρ = [.val _, .val (.str LETS), .val (.int 100), o3, o4], ⟨_, _, rfl⟩, ?_, ?_⟩
      · rintro i d ρ hd ⟨o3, o4, rfl⟩
        unfold enumD at hd
        obtain ⟨j, hj, rfl⟩ := map_get hd
        have hj2 := lt_of_get hj
        rw [List.length_range] at hj2
        rw [List.getElem?_range hj2] at hj
        cases hj
        obtain ⟨t, ht⟩ : ∃ t, (r0 :: rest)[i]? = some t := ⟨_, List.getElem?_eq_getElem (by rw [hlen] at hj2; exact hj2)⟩
        have e : ((r0 :: rest).map D.str)[i]? = some (.str t) := by rw [List.getElem?_map, ht]; rfl
        rw [e]
        have hm := List.mem_of_getElem? ht
        have hw := hb.row t hm
        refine ⟨t, 100, rfl, rfl, rfl, ⟨by omega, by omega, by decide, hb.low t hm⟩, ifB_F rfl ⟨by rw [sl]; omega, ?_⟩⟩
        first | refine dIx_l (atI_0 (x := D.str r0) (xs := rest.map D.str)) ⟨by rw [sl]; omega, ifB_F ?_ ⟨_, _, rfl⟩⟩ | refine dIx_t (atI_0 (x := D.str r0) (xs := rest.map D.str)) ⟨by rw [sl]; omega, ifB_F ?_ ⟨_, _, rfl⟩⟩
        show (!decide _) = false
        rw [decide_eq_true (by rw [sl, sl]; omega)]
        rfl
      · rintro ρ ⟨o3, o4, rfl⟩
        exact h
end
end K13
namespace K13
open PySem PySem.Spec PyProof.Rows L2 Z Y
section
variable {P : Program} {w : World} {K : Frg} {mg : Str → Option Value} {base : Heap}
theorem ok_checked_block (T : Tx w K mg) : FnG P w K mg base (L2.CX P w) 7 (He.ga K "checked_block") (spP K R_checked_block) := by
  refine y_fn T.d_checked_block sc_checked_block arl2 (fun _ _ _ _ _ _ us hl => match us, hl with | [_, _], _ => rfl) fun cdv A outer s H E B hB hr hx po => ⟨_, (s_cons (s_expr (y_call (ok_check_rows T) (hr.mono (by decide)) rfl T.g_check_rows T.k_check_rows hx (a_cons (y_var (pv 0)) (a_cons (y_globS rfl T.g_LETTERS) (a_cons (y_globI rfl T.g_MOST_ROWS) a_nil)))))
  (s_cons (s_if (z_cmp op_gt cmpL (y_op op_mulY mulL (y_callB call_lenY lenL (by rfl) T.b_len (by decide +kernel) (a_cons (y_var (pv 0)) a_nil)) (y_callB call_lenY lenL (by rfl) T.b_len (by decide +kernel) (a_cons (y_ix (y_var (pv 0)) y_int (fun _ _ => rfl)) a_nil))) (y_globI rfl T.g_MOST_LETTERS) (nomark _))
    (s_one s_never)
    s_nil)
  (s_cons (s_if (z_not (z_val (y_call (ok_is_integer T) (hr.mono (by decide)) rfl T.g_is_integer T.k_is_integer hx (a_cons (y_var (pv 1)) a_nil))))
    (s_one s_never)
    s_nil)
  (s_cons (s_set (i := 2) sc_checked_block.nd rfl (by first | exact Or.inl rfl | exact Or.inr rfl) (y_callB call_lenY lenL (by rfl) T.b_len (by decide +kernel) (a_cons (y_ix (y_var (pv 0)) y_int (fun _ _ => rfl)) a_nil)))
  (s_one (s_ret (y_tup (a_cons (y_make T.mk_Net (ok_Net_UinitU T) (hr.mono (by decide)) rfl T.g_Net hx (a_cons (y_var (pv 2)) (a_cons (y_op op_mod modL (y_var (pv 1)) (y_var (pv 2))) (a_cons (y_callB call_lenY lenL (by rfl) T.b_len (by decide +kernel) (a_cons (y_var (pv 0)) a_nil)) a_nil)))) (a_cons (y_joinZ y_str (y_var (pv 0))) a_nil))))))))), fun ds Q h => ?_⟩
  obtain ⟨a0, a1, e0, hh⟩ := ar2E h
  clear h
  subst e0
  have h := hh
  clear hh
  try dsimp only at h
  rw [show startE (List.length N_checked_block) [a0, a1] = [.val a0, .val a1, .no] from rfl]
  obtain ⟨rs, w, sh, hs, rfl, hb, h⟩ := h
  refine ⟨rs, w, hs, rfl, rfl, hb, ?_⟩
  obtain ⟨r0, rest, rfl⟩ : ∃ r0 rest, rs = r0 :: rest := by
    cases rs with
    | nil => have := hb.n1; simp at this
    | cons a b => exact ⟨a, b, rfl⟩
  have hr0 := hb.row r0 List.mem_cons_self
  have hlen : ((r0 :: rest).map D.str).length = (r0 :: rest).length := List.length_map _
  have n1 := hb.n1
  have n2 := hb.n2
  have w1 := hb.w1
  have w2 := hb.w2
  have sl : ∀ t : Str, t.length = t.cps.toList.length := fun t => by rw [Array.length_toList]; rfl
  have e0 : r0.length = w := by rw [sl]; exact hr0
  have mx : (((r0 :: rest).length : Nat) : Int) * (w : Int) ≤ 1000 := by
    have := hb.mx
    have e : (((r0 :: rest).length : Nat) : Int) * (w : Int) = (((r0 :: rest).length * w : Nat) : Int) := by rw [Int.natCast_mul]
    omega
  have ok := (hb.okT sh).ok
  have sumL : ((r0 :: rest).map (·.length)).sum + (r0 :: rest).length * ("" : Str).length ≤ 100000 := by
    have e2 : ("" : Str).length = 0 := by decide +kernel
    rw [e2, Nat.mul_zero, Nat.add_zero]
    have key : ∀ l : List Str, (∀ r ∈ l, r.cps.toList.length = w) → (l.map (·.length)).sum = l.length * w := by
      intro l
      induction l with
      | nil => intro _; simp
      | cons x l ih =>
        intro hl
        rw [List.map_cons, List.sum_cons, ih (fun r hr => hl r (List.mem_cons_of_mem _ hr)), sl, hl x List.mem_cons_self, List.length_cons, Nat.add_mul]
        omega
    rw [key _ hb.row]
    have := hb.mx
    omega
  have fin : Q (.tup [dNet ((w : Nat) : Int) (sh % ((w : Nat) : Int)) ((((r0 :: rest).map D.str).length : Nat) : Int), .str (Txt.join ("" : Str) (r0 :: rest))]) := by
    rw [hlen, join_rows]
    exact h
  rcases hs with rfl | rfl
  all_goals
    first | refine dIx_l (atI_0 (x := D.str r0) (xs := rest.map D.str)) ?_ | refine dIx_t (atI_0 (x := D.str r0) (xs := rest.map D.str)) ?_
    refine ⟨by omega, ⟨(sz13 (by omega) (by rw [hlen]; omega)).mono (by decide), (sz13 (by omega) (by omega)).mono (by decide)⟩, ?_⟩
    refine ifB_F (decide_eq_false (by rw [hlen, e0]; omega)) ⟨trivial, ifB_F rfl ?_⟩
    first | refine dIx_l (atI_0 (x := D.str r0) (xs := rest.map D.str)) ?_ | refine dIx_t (atI_0 (x := D.str r0) (xs := rest.map D.str)) ?_
    refine ⟨by omega, ?_⟩
    rw [e0]
    refine ⟨by omega, ⟨by rw [hlen]; exact ok.1, ok.2.1, ok.2.2⟩, ?_⟩
    have key : ∀ k : List Str → Prop, k (r0 :: rest) → (match strsOf (List.map D.str (r0 :: rest)) with | some ys => k ys | none => False) := fun k hk => by rw [strsOf_str]; exact hk
    exact key _ ⟨sumL, leN rfl, fin⟩
end
end K13
namespace K13
open PySem PySem.Spec PyProof.Rows L2 Z Y
section
variable {P : Program} {w : World} {K : Frg} {mg : Str → Option Value} {base : Heap}
theorem ok_Carpet_UinitU (T : Tx w K mg) : FnG P w K mg base (L2.CX P w) 11 (He.ma K (He.ga K "Carpet") "__init__") (spI K "Carpet" (lastR R_Carpet_UinitU (.int (0)))) ∧ FnK P w K mg base (L2.CX P w) 11 (He.ma K (He.ga K "Carpet") "__init__") "shift" (spI K "Carpet" R_Carpet_UinitU) := by
  refine y_initK (C := "Carpet") (R := R_Carpet_UinitU) T.d_Carpet_UinitU sc_Carpet_UinitU (fun ds Q E h => by rw [arl2 ds Q E h]; rfl) (fun _ _ _ _ _ _ us _ hl => match us, hl with | [_, _], _ => ⟨_, _, _, _, _, _, rfl, rfl, rfl⟩) (fun _ _ _ _ _ _ us _ hl => match us, hl with | [_, _], _ => rfl) fun cdv A outer s H E B hB hr hx po => ⟨_, (s_cons (s_asg (t := .tp [3, 4]) (y_call (ok_checked_block T) (hr.mono (by decide)) rfl T.g_checked_block T.k_checked_block hx (a_cons (y_var (pv 1)) (a_cons (y_var (pv 2)) a_nil))) (g_tp (is := [3, 4]) rfl (pgs_cons (pg_name (i := 3) sc_Carpet_UinitU.nd rfl (by first | exact Or.inl rfl | exact Or.inr rfl)) (pgs_cons (pg_name (i := 4) sc_Carpet_UinitU.nd rfl (by first | exact Or.inl rfl | exact Or.inr rfl)) pgs_nil))))
  (s_one (s_fld2 (C := "Carpet") (ns := []) (i := 0) rfl T.cl_Carpet T.na_Carpet_own_net T.na_Carpet_own_text (pv 0) (pv 0) (y_call (ok_least_cell T) (hr.mono (by decide)) rfl T.g_least_cell T.k_least_cell hx (a_cons (y_var (pv 3)) (a_cons (y_var (pv 4)) a_nil)))))), fun self ds Q h => ?_⟩
  obtain ⟨a0, a1, e0, hh⟩ := ar2E h
  clear h
  subst e0
  have h := hh
  clear hh
  try dsimp only at h
  rw [show startE (List.length N_Carpet_UinitU - 1) [a0, a1] = [.val a0, .val a1, .no, .no] from rfl]
  obtain ⟨rs, w0, sh, hs, rfl, hb, h⟩ := h
  have o := hb.okT sh
  refine ⟨rs, w0, sh, hs, rfl, hb, _, _, _, _, rfl, rfl, o, fun w q r ex hw hr => ?_⟩
  exact ⟨⟨rfl, rfl⟩, ⟨rfl, rfl⟩, ⟨rfl, rfl⟩, h w q r _ (carp_of o ex hw hr) hw hr⟩
end
end K13
namespace K13
open PySem PySem.Spec PyProof.Rows L2 Z Y
section
variable {P : Program} {w : World} {K : Frg} {mg : Str → Option Value} {base : Heap}
theorem ok_Carpet_net (T : Tx w K mg) : FnG P w K mg base (L2.CX P w) 1 (He5.wf K (He.ga K "Carpet") "property" "net") (spP K (R_Carpet_net carCs)) := by
  refine y_fn T.d_Carpet_net sc_Carpet_net arl1 (fun _ _ _ _ _ _ us hl => match us, hl with | [_], _ => rfl) fun cdv A outer s H E B hB hr hx po => ⟨_, (s_one (s_ret (y_fld (cs := ["Carpet", "Woven"]) (ns := ["own_net", "own_text"]) (j := 0) (y_var (pv 0)) (all2 ⟨T.cl_Carpet, T.na_Carpet_own_net⟩ ⟨T.cl_Woven, T.na_Woven_own_net⟩)))), fun ds Q h => ?_⟩
  obtain ⟨a0, e0, hh⟩ := ar1E h
  clear h
  subst e0
  have h := hh
  clear hh
  try dsimp only at h
  rw [show startE (List.length N_Carpet_net) [a0] = [.val a0] from rfl]
  obtain ⟨C, a, b, c, t, rfl, hC, h⟩ := h
  exact ⟨⟨hC, rfl⟩, h⟩
end
end K13
namespace K13
open PySem PySem.Spec PyProof.Rows L2 Z Y
section
variable {P : Program} {w : World} {K : Frg} {mg : Str → Option Value} {base : Heap}
theorem ok_Carpet_text (T : Tx w K mg) : FnG P w K mg base (L2.CX P w) 1 (He5.wf K (He.ga K "Carpet") "property" "text") (spP K (R_Carpet_text carCs)) := by
  refine y_fn T.d_Carpet_text sc_Carpet_text arl1 (fun _ _ _ _ _ _ us hl => match us, hl with | [_], _ => rfl) fun cdv A outer s H E B hB hr hx po => ⟨_, (s_one (s_ret (y_fld (cs := ["Carpet", "Woven"]) (ns := ["own_net", "own_text"]) (j := 1) (y_var (pv 0)) (all2 ⟨T.cl_Carpet, T.na_Carpet_own_text⟩ ⟨T.cl_Woven, T.na_Woven_own_text⟩)))), fun ds Q h => ?_⟩
  obtain ⟨a0, e0, hh⟩ := ar1E h
  clear h
  subst e0
  have h := hh
  clear hh
  try dsimp only at h
  rw [show startE (List.length N_Carpet_text) [a0] = [.val a0] from rfl]
  obtain ⟨C, a, b, c, t, rfl, hC, h⟩ := h
  exact ⟨⟨hC, rfl⟩, h⟩
end
end K13
namespace K13
open PySem PySem.Spec PyProof.Rows L2 Z Y
section
variable {P : Program} {w : World} {K : Frg} {mg : Str → Option Value} {base : Heap}
theorem ok_Carpet_rows (T : Tx w K mg) : FnG P w K mg base (L2.CX P w) 3 (He5.wf K (He.ga K "Carpet") "property" "rows") (spP K (R_Carpet_rows carCs)) := by
  refine y_fn T.d_Carpet_rows sc_Carpet_rows arl1 (fun _ _ _ _ _ _ us hl => match us, hl with | [_], _ => rfl) fun cdv A outer s H E B hB hr hx po => ⟨_, (s_cons (s_asg (t := .tp [1, 2, 3]) (y_prop (cs := ["Net"]) (ns := ["own_numbers"]) (y_fld (cs := ["Carpet", "Woven"]) (ns := ["own_net", "own_text"]) (j := 0) (y_var (pv 0)) (all2 ⟨T.cl_Carpet, T.na_Carpet_own_net⟩ ⟨T.cl_Woven, T.na_Woven_own_net⟩)) (all1 ⟨T.cl_Net, _, T.p_Net_numbers⟩) (ok_Net_numbers T) (hr.mono (by decide)) px_nox) (g_tp (is := [1, 2, 3]) rfl (pgs_cons (pg_name (i := 1) sc_Carpet_rows.nd rfl (by first | exact Or.inl rfl | exact Or.inr rfl)) (pgs_cons (pg_name (i := 2) sc_Carpet_rows.nd rfl (by first | exact Or.inl rfl | exact Or.inr rfl)) (pgs_cons (pg_name (i := 3) sc_Carpet_rows.nd rfl (by first | exact Or.inl rfl | exact Or.inr rfl)) pgs_nil)))))
  (s_one (s_ret (y_lc (own := [("row", 4)]) (t := .nm 4) rfl sc_Carpet_rows.nd (i_rng1 (by rfl) T.b_range (a_cons (y_var (pv 3)) a_nil)) (blkOk_by (own := [("row", 4)]) (N := N_Carpet_rows) (sc := defScope s_Carpet_rows) (by decide +kernel)) (fun _ _ _ _ _ => (g_nm (pg_name (i := 4) sc_Carpet_rows.nd rfl (by first | exact Or.inl rfl | exact Or.inr rfl)))) (fun _ _ _ _ _ => c_nil) (fun _ _ _ _ _ => (y_sl (y_fld (cs := ["Carpet", "Woven"]) (ns := ["own_net", "own_text"]) (j := 1) (y_var (pv 0)) (all2 ⟨T.cl_Carpet, T.na_Carpet_own_text⟩ ⟨T.cl_Woven, T.na_Woven_own_text⟩)) (o_some (y_op op_mulY mulL (y_var (pv 1)) (y_var (pv 4)))) (o_some (y_op op_addY addL (y_op op_mulY mulL (y_var (pv 1)) (y_var (pv 4))) (y_var (pv 1)))))))))), fun ds Q h => ?_⟩
  obtain ⟨a0, e0, hh⟩ := ar1E h
  clear h
  subst e0
  have h := hh
  clear hh
  try dsimp only at h
  rw [show startE (List.length N_Carpet_rows) [a0] = [.val a0, .no, .no, .no, .no] from rfl]
  obtain ⟨C, a, b, c, t, rfl, hC, o, h⟩ := h
  have ha := o.a
  have hc := o.c
  have tl : t.length ≤ 100000 := by rw [slen]; have := o.ln; have := o.mx; omega
  refine ⟨⟨hC, rfl⟩, .head _, rfl, a, b, c, rfl, by have := o.cl; omega, by have := o.cl; omega, by have := o.cl; simp [rngD]; omega, ?_⟩
  refine ⟨fun i acc => acc = (List.range i).map fun k => D.str (cutS t (some (a * ((k : Nat) : Int))) (some (a * ((k : Nat) : Int) + a))), rfl, fun i d acc hd hj => ?_, fun out hj => ?_⟩
  · obtain ⟨hi, rfl⟩ := rngD_at hd
    rw [Int.zero_add]
    have hic : (i : Int) < c := by omega
    have zi : Sz 13 (i : Int) := sz13 (by omega) (by have := o.cl; omega)
    refine ifB_T rfl ⟨⟨hC, rfl⟩, ⟨o.sa.mono (by decide), zi.mono (by decide)⟩, ⟨o.sa.mono (by decide), zi.mono (by decide)⟩, ?_⟩
    unfold dSl
    refine ⟨tl, ?_⟩
    show acc ++ [_] = _
    rw [hj, List.range_succ, List.map_append]
    rfl
  · have e : (rngD 0 c.toNat).length = c.toNat := by simp [rngD]
    rw [e] at hj
    subst hj
    unfold rowsL at h
    rw [List.map_map] at h
    exact h
end
end K13
namespace K13
open PySem PySem.Spec PyProof.Rows L2 Z Y
section
variable {P : Program} {w : World} {K : Frg} {mg : Str → Option Value} {base : Heap}
theorem ok_Carpet_colours (T : Tx w K mg) : FnG P w K mg base (L2.CX P w) 1 (He5.wf K (He.ga K "Carpet") "property" "colours") (spP K (R_Carpet_colours carCs)) := by
  refine y_fn T.d_Carpet_colours sc_Carpet_colours arl1 (fun _ _ _ _ _ _ us hl => match us, hl with | [_], _ => rfl) fun cdv A outer s H E B hB hr hx po => ⟨_, (s_one (s_ret (y_join y_str (y_lc (own := [("colour", 1)]) (t := .nm 1) rfl sc_Carpet_colours.nd (i_str (y_globS rfl T.g_LETTERS)) (blkOk_by (own := [("colour", 1)]) (N := N_Carpet_colours) (sc := defScope s_Carpet_colours) (by decide +kernel)) (fun _ _ _ _ _ => (g_nm (pg_name (i := 1) sc_Carpet_colours.nd rfl (by first | exact Or.inl rfl | exact Or.inr rfl)))) (fun _ _ _ _ _ => (c_one (z_cmp (op_inY (hu65 hr)) inL (y_var (pv 1)) (y_fld (cs := ["Carpet", "Woven"]) (ns := ["own_net", "own_text"]) (j := 1) (y_var (pv 0)) (all2 ⟨T.cl_Carpet, T.na_Carpet_own_text⟩ ⟨T.cl_Woven, T.na_Woven_own_text⟩)) rfl))) (fun _ _ _ _ _ => (y_var (pv 1))))))), fun ds Q h => ?_⟩
  obtain ⟨a0, e0, hh⟩ := ar1E h
  clear h
  subst e0
  have h := hh
  clear hh
  try dsimp only at h
  rw [show startE (List.length N_Carpet_colours) [a0] = [.val a0, .no] from rfl]
  obtain ⟨C, a, b, c, t, rfl, hC, h⟩ := h
  refine ⟨by simp [chrs]; decide, ?_⟩
  show mapI _ _ _ _ (chrs LETS) _
  rw [chrs_LETS]
  refine ⟨fun i acc => acc = (((LETS.cps.toList.map fun c => (⟨#[c]⟩ : Str)).take i).filter fun s => occ t s).map D.str, rfl, fun i d acc hd hj => ?_, fun out hj => ?_⟩
  · obtain ⟨s, hs, rfl⟩ := map_get hd
    refine ⟨⟨hC, rfl⟩, ifB_2 (fun e => ?_) (fun e => ?_)⟩
    · have e' : occ t s = true := by unfold occ; simpa using e
      show acc ++ [D.str s] = _
      rw [hj, List.take_succ, hs, List.filter_append, List.map_append]
      simp [e']
    · have e' : occ t s = false := by unfold occ; simpa using e
      show acc = _
      rw [hj, List.take_succ, hs, List.filter_append, List.map_append]
      simp [e']
  · rw [List.length_map, List.take_length] at hj
    subst hj
    have key : ∀ k : List Str → Prop, k (colsL t) → (match strsOf (List.map D.str (colsL t)) with | some ys => k ys | none => False) := fun k hk => by rw [strsOf_str]; exact hk
    exact key _ ⟨cols_sum t, h⟩
end
end K13
namespace K13
open PySem PySem.Spec PyProof.Rows L2 Z Y
section
variable {P : Program} {w : World} {K : Frg} {mg : Str → Option Value} {base : Heap}
theorem ok_Carpet_seen (T : Tx w K mg) : FnG P w K mg base (L2.CX P w) 5 (He.ma K (He.ga K "Carpet") "seen") (spP K (R_Carpet_seen carCs)) := by
  refine y_fn T.d_Carpet_seen sc_Carpet_seen arl2 (fun _ _ _ _ _ _ us hl => match us, hl with | [_, _], _ => rfl) fun cdv A outer s H E B hB hr hx po => ⟨_, (s_one (s_ret (y_call (ok_colour_at T) (hr.mono (by decide)) rfl T.g_colour_at T.k_colour_at hx (a_cons (y_fld (cs := ["Carpet", "Woven"]) (ns := ["own_net", "own_text"]) (j := 0) (y_var (pv 0)) (all2 ⟨T.cl_Carpet, T.na_Carpet_own_net⟩ ⟨T.cl_Woven, T.na_Woven_own_net⟩)) (a_cons (y_fld (cs := ["Carpet", "Woven"]) (ns := ["own_net", "own_text"]) (j := 1) (y_var (pv 0)) (all2 ⟨T.cl_Carpet, T.na_Carpet_own_text⟩ ⟨T.cl_Woven, T.na_Woven_own_text⟩)) (a_cons (y_var (pv 1)) a_nil)))))), fun ds Q h => ?_⟩
  obtain ⟨a0, a1, e0, hh⟩ := ar2E h
  clear h
  subst e0
  have h := hh
  clear hh
  try dsimp only at h
  rw [show startE (List.length N_Carpet_seen) [a0, a1] = [.val a0, .val a1] from rfl]
  obtain ⟨C, a, b, c, t, x, y, rfl, hC, rfl, ⟨o, zy⟩, h⟩ := h
  exact ⟨⟨hC, rfl⟩, ⟨hC, rfl⟩, a, b, c, t, x, y, rfl, rfl, rfl, ⟨o, zy⟩, h⟩
end
end K13
namespace K13
open PySem PySem.Spec PyProof.Rows L2 Z Y
section
variable {P : Program} {w : World} {K : Frg} {mg : Str → Option Value} {base : Heap}
theorem ok_Carpet_UgetitemU (T : Tx w K mg) : FnG P w K mg base (L2.CX P w) 7 (He.ma K (He.ga K "Carpet") "__getitem__") (spP K (R_Carpet_UgetitemU carCs)) := by
  refine y_fn T.d_Carpet_UgetitemU sc_Carpet_UgetitemU arl2 (fun _ _ _ _ _ _ us hl => match us, hl with | [_, _], _ => rfl) fun cdv A outer s H E B hB hr hx po => ⟨_, (s_cons (s_if (z_not (z_val (y_call (ok_is_place T) (hr.mono (by decide)) rfl T.g_is_place T.k_is_place hx (a_cons (y_var (pv 1)) a_nil))))
    (s_one s_never)
    s_nil)
  (s_one (s_ret (y_meth (cs := ["Carpet", "Woven"]) (ns := ["own_net", "own_text"]) (y_var (pv 0)) (all2 ⟨T.cl_Carpet, T.m_Carpet_seen⟩ ⟨T.cl_Woven, T.m_Woven_seen⟩) (ok_Carpet_seen T) (hr.mono (by decide)) hx (a_cons (y_var (pv 1)) a_nil))))), fun ds Q h => ?_⟩
  obtain ⟨a0, a1, e0, hh⟩ := ar2E h
  clear h
  subst e0
  have h := hh
  clear hh
  try dsimp only at h
  rw [show startE (List.length N_Carpet_UgetitemU) [a0, a1] = [.val a0, .val a1] from rfl]
  obtain ⟨C, a, b, c, t, x, y, rfl, hC, rfl, ⟨o, zy⟩, h⟩ := h
  exact ⟨⟨trivial, trivial⟩, ifB_F rfl ⟨hC, rfl, C, a, b, c, t, x, y, rfl, hC, rfl, ⟨o, zy⟩, h⟩⟩
end
end K13
namespace K13
open PySem PySem.Spec PyProof.Rows L2 Z Y
section
variable {P : Program} {w : World} {K : Frg} {mg : Str → Option Value} {base : Heap}
theorem ok_Carpet_UlenU (T : Tx w K mg) : FnG P w K mg base (L2.CX P w) 1 (He.ma K (He.ga K "Carpet") "__len__") (spP K (R_Carpet_UlenU carCs)) := by
  refine y_fn T.d_Carpet_UlenU sc_Carpet_UlenU arl1 (fun _ _ _ _ _ _ us hl => match us, hl with | [_], _ => rfl) fun cdv A outer s H E B hB hr hx po => ⟨_, (s_one (s_ret (y_callB call_lenY lenL (by rfl) T.b_len (by decide +kernel) (a_cons (y_fld (cs := ["Carpet", "Woven"]) (ns := ["own_net", "own_text"]) (j := 1) (y_var (pv 0)) (all2 ⟨T.cl_Carpet, T.na_Carpet_own_text⟩ ⟨T.cl_Woven, T.na_Woven_own_text⟩)) a_nil)))), fun ds Q h => ?_⟩
  obtain ⟨a0, e0, hh⟩ := ar1E h
  clear h
  subst e0
  have h := hh
  clear hh
  try dsimp only at h
  rw [show startE (List.length N_Carpet_UlenU) [a0] = [.val a0] from rfl]
  obtain ⟨C, a, b, c, t, rfl, hC, o, h⟩ := h
  have e : t.length = t.cps.toList.length := by rw [Array.length_toList]; rfl
  have := o.ln
  have := o.mx
  refine ⟨⟨hC, rfl⟩, by omega, ?_⟩
  rw [e]
  rw [o.ln]
  exact h
end
end K13
namespace K13
open PySem PySem.Spec PyProof.Rows L2 Z Y
section
variable {P : Program} {w : World} {K : Frg} {mg : Str → Option Value} {base : Heap}
theorem ok_Carpet_UeqU (T : Tx w K mg) : FnG P w K mg base (L2.CX P w) 3 (He.ma K (He.ga K "Carpet") "__eq__") (spP K (R_Carpet_eq2 ["Net"])) := by
  refine y_fn T.d_Carpet_UeqU sc_Carpet_UeqU arl2 (fun _ _ _ _ _ _ us hl => match us, hl with | [_, _], _ => rfl) fun cdv A outer s H E B hB hr hx po => ⟨_, (s_one (s_ret (y_and (y_callB call_isi (isOL (C := "Carpet") (cs := ["Carpet", "Woven"]) (cs' := ["Net"]) ⟨T.cl_Carpet, T.ow_Carpet⟩ (all2 ⟨⟨T.cl_Carpet, T.ow_Carpet⟩, T.ow_Carpet.ki⟩ ⟨⟨T.cl_Woven, T.ow_Woven⟩, T.kt_Woven_Carpet⟩) (all1 ⟨⟨T.cl_Net, T.ow_Net⟩, T.kf_Net_Carpet⟩)) (by rfl) T.b_isinstance (by decide +kernel) (a_cons (y_var (pv 1)) (a_cons (y_glob rfl T.g_Carpet) a_nil))) (y_and (y_cmpI (gop_eq (C := He.ga K "Net") T.m_Net_UeqU.at_ T.m_Net_UeqU.fn ((ok_Net_UeqU T).at (hr.mono (by decide))) hr.units hx) (eqOL (C := "Net") (ns := ["own_numbers"]) (cs := ["Net"]) ⟨T.cl_Net, T.ow_Net⟩ (all1 ⟨⟨T.cl_Net, T.ow_Net⟩, nf_self⟩)) (y_fld (cs := ["Carpet", "Woven"]) (ns := ["own_net", "own_text"]) (j := 0) (y_var (pv 0)) (all2 ⟨T.cl_Carpet, T.na_Carpet_own_net⟩ ⟨T.cl_Woven, T.na_Woven_own_net⟩)) (y_fld (cs := ["Carpet", "Woven"]) (ns := ["own_net", "own_text"]) (j := 0) (y_var (pv 1)) (all2 ⟨T.cl_Carpet, T.na_Carpet_own_net⟩ ⟨T.cl_Woven, T.na_Woven_own_net⟩)) (nomark _)) (y_one (y_cmp (op_eqY hr.units) eqL (y_fld (cs := ["Carpet", "Woven"]) (ns := ["own_net", "own_text"]) (j := 1) (y_var (pv 0)) (all2 ⟨T.cl_Carpet, T.na_Carpet_own_text⟩ ⟨T.cl_Woven, T.na_Woven_own_text⟩)) (y_fld (cs := ["Carpet", "Woven"]) (ns := ["own_net", "own_text"]) (j := 1) (y_var (pv 1)) (all2 ⟨T.cl_Carpet, T.na_Carpet_own_text⟩ ⟨T.cl_Woven, T.na_Woven_own_text⟩)) (nomark _))))))), fun ds Q h => ?_⟩
  obtain ⟨a0, a1, e0, hh⟩ := ar2E h
  clear h
  subst e0
  have h := hh
  clear hh
  try dsimp only at h
  rw [show startE (List.length N_Carpet_UeqU) [a0, a1] = [.val a0, .val a1] from rfl]
  obtain ⟨C, a, b, c, t, rfl, hC, h⟩ := h
  rcases h with ⟨C', a', b', c', t', rfl, hC', h⟩ | ⟨hk, h⟩ | ⟨x, ns, ds, rfl, hx, _, h⟩
  · refine ⟨rfl, .inl ⟨hC', ifB_T rfl ⟨⟨hC, rfl⟩, ⟨hC', rfl⟩, .head _, rfl, .head _, a, b, c, rfl, .inl ⟨a', b', c', rfl, ?_⟩⟩⟩⟩
    refine ifB_2 (fun e => ?_) (fun e => ?_)
    · have e1 : a = a' ∧ b = b' ∧ c = c' := by simpa using e
      refine ⟨⟨hC, rfl⟩, ⟨hC', rfl⟩, ?_⟩
      show Q (.bl (decide (t = t')))
      have : decide ((a = a' ∧ b = b' ∧ c = c') ∧ t = t') = decide (t = t') := decide_eq_decide.mpr ⟨fun z => z.2, fun z => ⟨e1, z⟩⟩
      rw [this] at h
      exact h
    · have e1 : ¬ (a = a' ∧ b = b' ∧ c = c') := by simpa using e
      show Q (.bl false)
      rw [decide_eq_false (fun z => e1 z.1)] at h
      exact h
  · cases a1 with
    | non => exact ⟨rfl, ifB_F rfl h⟩
    | bl _ => exact ⟨rfl, ifB_F rfl h⟩
    | int _ => exact ⟨rfl, ifB_F rfl h⟩
    | str _ => exact ⟨rfl, ifB_F rfl h⟩
    | lst _ => exact ⟨rfl, ifB_F rfl h⟩
    | tup _ => exact ⟨rfl, ifB_F rfl h⟩
    | obj _ _ _ => exact hk.elim
    | ty _ => exact hk.elim
    | glob _ => exact hk.elim
    | tape => exact hk.elim
  · exact ⟨rfl, .inr ⟨hx, ifB_F rfl h⟩⟩
end
end K13
namespace K13
open PySem PySem.Spec PyProof.Rows L2 Z Y
section
variable {P : Program} {w : World} {K : Frg} {mg : Str → Option Value} {base : Heap}
theorem ok_Carpet_UreprU (T : Tx w K mg) : FnG P w K mg base (L2.CX P w) 5 (He.ma K (He.ga K "Carpet") "__repr__") (spP K (R_Carpet_UreprU carCs)) := by
  refine y_fn T.d_Carpet_UreprU sc_Carpet_UreprU arl1 (fun _ _ _ _ _ _ us hl => match us, hl with | [_], _ => rfl) fun cdv A outer s H E B hB hr hx po => ⟨_, (s_one (s_ret (y_joined (.cons y_str (.cons (y_fmtR hr (y_prop (cs := ["Carpet", "Woven"]) (ns := ["own_net", "own_text"]) (y_var (pv 0)) (all2 ⟨T.cl_Carpet, _, T.p_Carpet_rows⟩ ⟨T.cl_Woven, _, T.p_Woven_rows⟩) (ok_Carpet_rows T) (hr.mono (by decide)) px_nox)) (.cons y_str (.cons (y_fmt (y_ix (y_prop (cs := ["Net"]) (ns := ["own_numbers"]) (y_fld (cs := ["Carpet", "Woven"]) (ns := ["own_net", "own_text"]) (j := 0) (y_var (pv 0)) (all2 ⟨T.cl_Carpet, T.na_Carpet_own_net⟩ ⟨T.cl_Woven, T.na_Woven_own_net⟩)) (all1 ⟨T.cl_Net, _, T.p_Net_numbers⟩) (ok_Net_numbers T) (hr.mono (by decide)) px_nox) y_int (fun _ _ => rfl))) (.cons y_str .nil)))))))), fun ds Q h => ?_⟩
  obtain ⟨a0, e0, hh⟩ := ar1E h
  clear h
  subst e0
  have h := hh
  clear hh
  try dsimp only at h
  rw [show startE (List.length N_Carpet_UreprU) [a0] = [.val a0] from rfl]
  obtain ⟨C, a, b, c, t, rfl, hC, ⟨o, lt, mx⟩, h⟩ := h
  obtain ⟨hs, hl⟩ := rows_sh o lt mx
  have zb : Sz 1900 b := (sz13 o.ok.2.1 (by have := o.ok.2.2; have := o.al; omega)).mono (by decide)
  have lb := int_sh zb
  have l1 : (Str.empty ++ ("Carpet(" : Str)).length = 7 := by decide +kernel
  have l2 : (", shift=" : Str).length = 8 := by decide +kernel
  have l3 : (")" : Str).length = 1 := by decide +kernel
  refine ⟨by rw [l1]; decide, hC, rfl, C, a, b, c, t, rfl, hC, o, hs, ?_⟩
  refine ⟨by rw [len_app, l1]; omega, by rw [len_app, len_app, l1, l2]; omega, ⟨hC, rfl⟩, .head _, rfl, a, b, c, rfl, ?_⟩
  refine ⟨zb, by rw [len_app, len_app, len_app, l1, l2]; omega, by rw [len_app, len_app, len_app, len_app, l1, l2, l3]; omega, ?_⟩
  unfold carS at h
  rw [empty_app]
  exact h
end
end K13
namespace K13
open PySem PySem.Spec PyProof.Rows L2 Z Y
section
variable {P : Program} {w : World} {K : Frg} {mg : Str → Option Value} {base : Heap}
theorem ok_Net_size (T : Tx w K mg) : FnG P w K mg base (L2.CX P w) 1 (He5.wf K (He.ga K "Net") "property" "size") (spP K R_Net_size) := by
  refine y_fn T.d_Net_size sc_Net_size arl1 (fun _ _ _ _ _ _ us hl => match us, hl with | [_], _ => rfl) fun cdv A outer s H E B hB hr hx po => ⟨_, (s_one (s_ret (y_op op_mulY mulL (y_ix (y_fld (cs := ["Net"]) (ns := ["own_numbers"]) (j := 0) (y_var (pv 0)) (all1 ⟨T.cl_Net, T.na_Net_own_numbers⟩)) y_int (fun _ _ => rfl)) (y_ix (y_fld (cs := ["Net"]) (ns := ["own_numbers"]) (j := 0) (y_var (pv 0)) (all1 ⟨T.cl_Net, T.na_Net_own_numbers⟩)) y_int (fun _ _ => rfl))))), fun ds Q h => ?_⟩
  obtain ⟨a0, e0, hh⟩ := ar1E h
  clear h
  subst e0
  have h := hh
  clear hh
  try dsimp only at h
  rw [show startE (List.length N_Net_size) [a0] = [.val a0] from rfl]
  obtain ⟨a, b, c, rfl, ⟨ha, hc⟩, h⟩ := h
  exact ⟨⟨.head _, rfl⟩, ⟨.head _, rfl⟩, ⟨ha.mono (by decide), hc.mono (by decide)⟩, h⟩
end
end K13
namespace K13
open PySem PySem.Spec PyProof.Rows L2 Z Y
section
variable {P : Program} {w : World} {K : Frg} {mg : Str → Option Value} {base : Heap}
theorem ok_Net_UcontainsU (T : Tx w K mg) : FnG P w K mg base (L2.CX P w) 5 (He.ma K (He.ga K "Net") "__contains__") (spP K R_Net_UcontainsU) := by
  refine y_fn T.d_Net_UcontainsU sc_Net_UcontainsU arl2 (fun _ _ _ _ _ _ us hl => match us, hl with | [_, _], _ => rfl) fun cdv A outer s H E B hB hr hx po => ⟨_, (s_one (s_ret (y_and (y_call (ok_is_place T) (hr.mono (by decide)) rfl T.g_is_place T.k_is_place hx (a_cons (y_var (pv 1)) a_nil)) (y_one (y_cmp (op_eqY hr.units) eqL (y_meth (cs := ["Net"]) (ns := ["own_numbers"]) (y_var (pv 0)) (all1 ⟨T.cl_Net, T.m_Net_place_in_cell⟩) (ok_Net_place_in_cell T) (hr.mono (by decide)) hx (a_cons (y_var (pv 1)) a_nil)) (y_tup (a_cons y_int (a_cons y_int a_nil))) (nomark _)))))), fun ds Q h => ?_⟩
  obtain ⟨a0, a1, e0, hh⟩ := ar2E h
  clear h
  subst e0
  have h := hh
  clear hh
  try dsimp only at h
  rw [show startE (List.length N_Net_UcontainsU) [a0, a1] = [.val a0, .val a1] from rfl]
  obtain ⟨a, b, c, rfl, ⟨o, sa, sc⟩, h⟩ := h
  rcases h with ⟨x, y, rfl, sy, h⟩ | ⟨hk, hp, h⟩
  · refine ⟨⟨trivial, trivial⟩, ifB_T rfl ⟨.head _, rfl, a, b, c, x, y, rfl, rfl, ⟨o, sa, sc, sy⟩, leN rfl, ⟨rfl, rfl⟩, ?_⟩⟩
    rw [eqN2]
    have e : decide ((MN.low a b c x y).1 = 0 ∧ (MN.low a b c x y).2 = 0) = decide (MN.low a b c x y = (0, 0)) := decide_eq_decide.mpr ⟨fun z => Prod.ext z.1 z.2, fun z => by rw [z]; exact ⟨rfl, rfl⟩⟩
    rw [e]
    exact h
  · refine ⟨hk, ifB_F ?_ h⟩
    exact hp
end
end K13
namespace K13
open PySem PySem.Spec PyProof.Rows L2 Z Y
section
variable {P : Program} {w : World} {K : Frg} {mg : Str → Option Value} {base : Heap}
theorem ok_Woven_UinitU (T : Tx w K mg) : FnG P w K mg base (L2.CX P w) 11 (He.ma K (He.ga K "Woven") "__init__") (spI K "Woven" R_Woven_UinitU) := by
  refine y_init (C := "Woven") T.d_Woven_UinitU sc_Woven_UinitU (fun ds Q E h => by rw [arl2 ds Q E h]; rfl) (fun _ _ _ _ _ _ us hl => match us, hl with | [_, _, _], _ => rfl) fun cdv A outer s H E B hB hr hx po => ⟨_, (s_one (s_fld2 (C := "Woven") (ns := []) (i := 0) rfl T.cl_Woven T.na_Woven_own_net T.na_Woven_own_text (pv 0) (pv 0) (y_call (ok_least_cell T) (hr.mono (by decide)) rfl T.g_least_cell T.k_least_cell hx (a_cons (y_var (pv 1)) (a_cons (y_var (pv 2)) a_nil))))), fun self ds Q h => ?_⟩
  obtain ⟨a0, a1, e0, hh⟩ := ar2E h
  clear h
  subst e0
  have h := hh
  clear hh
  try dsimp only at h
  rw [show startE (List.length N_Woven_UinitU - 1) [a0, a1] = [.val a0, .val a1] from rfl]
  obtain ⟨a, b, c, t, rfl, rfl, o, h⟩ := h
  exact ⟨a, b, c, t, rfl, rfl, o, fun w q r ex hw hr => ⟨⟨rfl, rfl⟩, ⟨rfl, rfl⟩, ⟨rfl, rfl⟩, h w q r _ (carp_of o ex hw hr) hw hr⟩⟩
end
end K13
namespace K13
open PySem PySem.Spec PyProof.Rows L2 Z Y
section
variable {P : Program} {w : World} {K : Frg} {mg : Str → Option Value} {base : Heap}
theorem ok_Carpet_on (T : Tx w K mg) : FnG P w K mg base (L2.CX P w) 13 (He5.wf K (He.ga K "Carpet") "staticmethod" "on") (spP K R_Carpet_on) := by
  refine y_fn T.d_Carpet_on sc_Carpet_on arl2 (fun _ _ _ _ _ _ us hl => match us, hl with | [_, _], _ => rfl) fun cdv A outer s H E B hB hr hx po => ⟨_, (s_cons (s_if (z_cmp op_gt cmpL (y_prop (cs := ["Net"]) (ns := ["own_numbers"]) (y_var (pv 0)) (all1 ⟨T.cl_Net, _, T.p_Net_size⟩) (ok_Net_size T) (hr.mono (by decide)) px_nox) (y_globI rfl T.g_MOST_PLACES) (nomark _))
    (s_one s_never)
    s_nil)
  (s_cons (s_if (z_pt (z_or (z_not (z_val (y_call (ok_is_row T) (hr.mono (by decide)) rfl T.g_is_row T.k_is_row hx (a_cons (y_var (pv 1)) (a_cons (y_globS rfl T.g_LETTERS) (a_cons (y_globI rfl T.g_MOST_PLACES) a_nil)))))) (z_or1 (z_cmp (op_neY hr.units) neL (y_callB call_lenY lenL (by rfl) T.b_len (by decide +kernel) (a_cons (y_var (pv 1)) a_nil)) (y_prop (cs := ["Net"]) (ns := ["own_numbers"]) (y_var (pv 0)) (all1 ⟨T.cl_Net, _, T.p_Net_size⟩) (ok_Net_size T) (hr.mono (by decide)) px_nox) (nomark _)))))
    (s_one s_never)
    s_nil)
  (s_one (s_ret (y_make T.mk_Woven (ok_Woven_UinitU T) (hr.mono (by decide)) rfl T.g_Woven hx (a_cons (y_var (pv 0)) (a_cons (y_var (pv 1)) a_nil))))))), fun ds Q h => ?_⟩
  obtain ⟨a0, a1, e0, hh⟩ := ar2E h
  clear h
  subst e0
  have h := hh
  clear hh
  try dsimp only at h
  rw [show startE (List.length N_Carpet_on) [a0, a1] = [.val a0, .val a1] from rfl]
  obtain ⟨a, b, c, t, rfl, rfl, ⟨o, mx, lt⟩, h⟩ := h
  have a0 := o.a
  have c0 := o.c
  have hp : 0 < a * c := Int.mul_pos a0 c0
  have zz : Sz 4000 a ∧ Sz 4000 c := ⟨o.sa.mono (by decide), o.sc.mono (by decide)⟩
  refine ⟨.head _, rfl, a, b, c, rfl, zz, ifB_F (decide_eq_false (by omega)) ⟨t, 2000, rfl, rfl, rfl, ⟨by have := o.ln; omega, by have := o.ln; omega, by decide, lt⟩, ifB_F rfl ?_⟩⟩
  refine ⟨by rw [slen]; exact o.tl, .head _, rfl, a, b, c, rfl, zz, ifB_F ?_ ⟨a, b, c, t, rfl, rfl, o, h⟩⟩
  have e : ((t.length : Nat) : Int) = a * c := by rw [slen]; exact o.ln
  simp [e]
end
end K13
namespace K13
open PySem PySem.Spec PyProof.Rows L2 Z Y
section
variable {P : Program} {w : World} {K : Frg} {mg : Str → Option Value} {base : Heap}
theorem ok_turned (T : Tx w K mg) : FnG P w K mg base (L2.CX P w) 1 (He.ga K "turned") (spP K R_turned) := by
  refine y_fn T.d_turned sc_turned arl2 (fun _ _ _ _ _ _ us hl => match us, hl with | [_, _], _ => rfl) fun cdv A outer s H E B hB hr hx po => ⟨_, (s_cons (s_asg (t := .tp [2, 3, 4, 5]) (y_ixT T.tb_MATRICES (y_glob rfl T.g_MATRICES) (y_var (pv 0)) (fun _ _ => rfl)) (g_tp (is := [2, 3, 4, 5]) rfl (pgs_cons (pg_name (i := 2) sc_turned.nd rfl (by first | exact Or.inl rfl | exact Or.inr rfl)) (pgs_cons (pg_name (i := 3) sc_turned.nd rfl (by first | exact Or.inl rfl | exact Or.inr rfl)) (pgs_cons (pg_name (i := 4) sc_turned.nd rfl (by first | exact Or.inl rfl | exact Or.inr rfl)) (pgs_cons (pg_name (i := 5) sc_turned.nd rfl (by first | exact Or.inl rfl | exact Or.inr rfl)) pgs_nil))))))
  (s_one (s_ret (y_tup (a_cons (y_op op_addY addL (y_op op_mulY mulL (y_var (pv 2)) (y_ix (y_var (pv 1)) y_int (fun _ _ => rfl))) (y_op op_mulY mulL (y_var (pv 3)) (y_ix (y_var (pv 1)) y_int (fun _ _ => rfl)))) (a_cons (y_op op_addY addL (y_op op_mulY mulL (y_var (pv 4)) (y_ix (y_var (pv 1)) y_int (fun _ _ => rfl))) (y_op op_mulY mulL (y_var (pv 5)) (y_ix (y_var (pv 1)) y_int (fun _ _ => rfl)))) a_nil)))))), fun ds Q h => ?_⟩
  obtain ⟨a0, a1, e0, hh⟩ := ar2E h
  clear h
  subst e0
  have h := hh
  clear hh
  try dsimp only at h
  rw [show startE (List.length N_turned) [a0, a1] = [.val a0, .val a1, .no, .no, .no, .no] from rfl]
  obtain ⟨s, M, x, y, rfl, rfl, ⟨hM, zx, zy⟩, h⟩ := h
  obtain ⟨⟨m1, m2⟩, m3, m4⟩ := mat_small hM
  refine ⟨rfl, ?_⟩
  rw [show List.lookup s tab_MATRICES = some (matD M) from tabM_look hM]
  exact ⟨⟨sz1 m1, zx.mono (by decide)⟩, ⟨sz1 m2, zy.mono (by decide)⟩, ⟨sz1 m3, zx.mono (by decide)⟩, ⟨sz1 m4, zy.mono (by decide)⟩, leN rfl, h⟩
end
end K13
namespace K13
open PySem PySem.Spec PyProof.Rows L2 Z Y
section
variable {P : Program} {w : World} {K : Frg} {mg : Str → Option Value} {base : Heap}
theorem ok_joined_kind (T : Tx w K mg) : FnG P w K mg base (L2.CX P w) 3 (He.ga K "joined_kind") (spP K R_joined_kind) := by
  refine y_fn T.d_joined_kind sc_joined_kind arl2 (fun _ _ _ _ _ _ us hl => match us, hl with | [_, _], _ => rfl) fun cdv A outer s H E B hB hr hx po => ⟨_, (s_cons (s_par (i := 2) (j := 3) (by rfl) sc_joined_kind.nd rfl rfl (by decide) rfl rfl (a_cons (y_call (ok_turned T) (hr.mono (by decide)) rfl T.g_turned T.k_turned hx (a_cons (y_var (pv 1)) (a_cons (y_call (ok_turned T) (hr.mono (by decide)) rfl T.g_turned T.k_turned hx (a_cons (y_var (pv 0)) (a_cons (y_tup (a_cons y_int (a_cons y_int a_nil))) a_nil))) a_nil))) (a_cons (y_call (ok_turned T) (hr.mono (by decide)) rfl T.g_turned T.k_turned hx (a_cons (y_var (pv 1)) (a_cons (y_call (ok_turned T) (hr.mono (by decide)) rfl T.g_turned T.k_turned hx (a_cons (y_var (pv 0)) (a_cons (y_tup (a_cons y_int (a_cons y_int a_nil))) a_nil))) a_nil))) a_nil)) (by rfl))
  (s_cons (s_set (i := 4) sc_joined_kind.nd rfl (by first | exact Or.inl rfl | exact Or.inr rfl) (y_tup (a_cons (y_ix (y_var (pv 2)) y_int (fun _ _ => rfl)) (a_cons (y_ix (y_var (pv 3)) y_int (fun _ _ => rfl)) (a_cons (y_ix (y_var (pv 2)) y_int (fun _ _ => rfl)) (a_cons (y_ix (y_var (pv 3)) y_int (fun _ _ => rfl)) a_nil))))))
  (s_cons (s_for (t := .tp [5, 6]) po rfl (i_itemsT T.tb_MATRICES (y_glob rfl T.g_MATRICES)) (g_tp (is := [5, 6]) rfl (pgs_cons (pg_name (i := 5) sc_joined_kind.nd rfl (by first | exact Or.inl rfl | exact Or.inr rfl)) (pgs_cons (pg_name (i := 6) sc_joined_kind.nd rfl (by first | exact Or.inl rfl | exact Or.inr rfl)) pgs_nil)))
    (s_one (s_if (z_cmp (op_eqY hr.units) eqL (y_var (pv 6)) (y_var (pv 4)) (nomark _))
    (s_one (s_ret (y_var (pv 5))))
    s_nil)))
  (s_one (s_ret y_str))))), fun ds Q h => ?_⟩
  obtain ⟨a0, a1, e0, hh⟩ := ar2E h
  clear h
  subst e0
  have h := hh
  clear hh
  try dsimp only at h
  rw [show startE (List.length N_joined_kind) [a0, a1] = [.val a0, .val a1, .no, .no, .no, .no, .no] from rfl]
  obtain ⟨s, t, M, N, rfl, rfl, ⟨hM, hN⟩, h⟩ := h
  have e10 : Sz 4000 (1 : Int) := szP (by decide) (by decide)
  have e00 : Sz 4000 (0 : Int) := szP (by decide) (by decide)
  obtain ⟨z1, z2⟩ := sz_turn hM (n := 4000) e10 e00
  obtain ⟨z3, z4⟩ := sz_turn hM (n := 4000) e00 e10
  refine ⟨leN rfl, s, M, 1, 0, rfl, rfl, ⟨hM, e10, e00⟩, t, N, _, _, rfl, rfl, ⟨hN, z1, z2⟩, leN rfl, s, M, 0, 1, rfl, rfl, ⟨hM, e00, e10⟩, t, N, _, _, rfl, rfl, ⟨hN, z3, z4⟩, leN rfl, ?_⟩
  have eM : D.tup [D.int (MN.turn N ((MN.turn M (1, 0)).fst, (MN.turn M (1, 0)).snd)).fst, D.int (MN.turn N ((MN.turn M (0, 1)).fst, (MN.turn M (0, 1)).snd)).fst, D.int (MN.turn N ((MN.turn M (1, 0)).fst, (MN.turn M (1, 0)).snd)).snd, D.int (MN.turn N ((MN.turn M (0, 1)).fst, (MN.turn M (0, 1)).snd)).snd] = matD (MN.comp M N) := by
    simp [MN.turn, MN.comp, matD]
  rw [eM]
  generalize plD (MN.turn N ((MN.turn M (1, 0)).fst, (MN.turn M (1, 0)).snd)) = d2
  generalize plD (MN.turn N ((MN.turn M (0, 1)).fst, (MN.turn M (0, 1)).snd)) = d3
  refine ⟨rfl, fun i ρ => (∀ q ∈ matL.take i, q.2 ≠ MN.comp M N) ∧ ∃ o5 o6, ρ = [.val (.str s), .val (.str t), .val d2, .val d3, .val (matD (MN.comp M N)), o5, o6], ⟨fun q hq => (List.not_mem_nil hq).elim, _, _, rfl⟩, ?_, ?_⟩
  · rintro i d ρ hd ⟨hn, o5, o6, rfl⟩
    have hd' : (matL.map fun q => D.tup [.str q.1, matD q.2])[i]? = some d := hd
    obtain ⟨⟨k, m⟩, hq, rfl⟩ := map_get hd'
    refine ⟨⟨rfl, rfl⟩, ifB_2 (fun e => ?_) (fun e => ?_)⟩
    · have e' : decide (m = MN.comp M N) = true := (eqM _ _).symm.trans e
      have hm := of_decide_eq_true e'
      subst hm
      exact h k (mat_of_mem (List.mem_of_getElem? hq))
    · have e' : decide (m = MN.comp M N) = false := (eqM _ _).symm.trans e
      have hm := of_decide_eq_false e'
      refine ⟨fun q hq' => ?_, _, _, rfl⟩
      rw [List.take_succ, hq] at hq'
      rcases List.mem_append.mp hq' with z | z
      · exact hn q z
      · have : q = (k, m) := by simpa using z
        rw [this]
        exact hm
  · rintro ρ ⟨hn, o5, o6, rfl⟩
    obtain ⟨u, hu⟩ := mat_comp hM hN
    exact absurd rfl (hn _ (by exact hu))
end
end K13
namespace K13
open PySem PySem.Spec PyProof.Rows L2 Z Y
section
variable {P : Program} {w : World} {K : Frg} {mg : Str → Option Value} {base : Heap}
theorem ok_Motion_UinitU (T : Tx w K mg) : FnG P w K mg base (L2.CX P w) 7 (He.ma K (He.ga K "Motion") "__init__") (spI K "Motion" (dflR R_Motion_UinitU 1 (.tup [(.int (0)), (.int (0))]))) := by
  refine y_initD (C := "Motion") (R := R_Motion_UinitU) T.d_Motion_UinitU sc_Motion_UinitU (fun ds Q E h => by rw [arl2 ds Q E h]; rfl) (fun _ _ _ _ _ _ _ us _ hl => match us, hl with | [_, _], _ => ⟨_, rfl, rfl⟩) (fun _ _ _ _ _ _ _ us _ hl => match us, hl with | [_, _, _], _ => ⟨_, rfl, rfl⟩) fun cdv A outer s H E B hB hr hx po => ⟨_, (s_cons (s_if (z_pt (z_or (z_not (z_val (y_callB call_isi (isBL (cs := []) (T := "str") (by decide) all0) (by rfl) T.b_isinstance (by decide +kernel) (a_cons (y_var (pv 1)) (a_cons (y_ty (n := "str") rfl T.b_str (by decide +kernel)) a_nil))))) (z_or1 (z_cmp (op_ninT T.tb_MATRICES) (ninTL T.tb_MATRICES) (y_var (pv 1)) (y_glob rfl T.g_MATRICES) rfl))))
    (s_one s_never)
    s_nil)
  (s_cons (s_expr (y_call (ok_check_place T) (hr.mono (by decide)) rfl T.g_check_place T.k_check_place hx (a_cons (y_var (pv 2)) a_nil)))
  (s_cons (s_fld (C := "Motion") (ns := []) (i := 0) T.cl_Motion T.na_Motion_own_kind (pv 0) (y_var (pv 1)))
  (s_one (s_fld (C := "Motion") (ns := ["own_kind"]) (i := 0) T.cl_Motion T.na_Motion_own_shift (pv 0) (y_var (pv 2))))))), fun self ds Q h => ?_⟩
  obtain ⟨a0, a1, e0, hh⟩ := ar2E h
  clear h
  subst e0
  have h := hh
  clear hh
  try dsimp only at h
  rw [show startE (List.length N_Motion_UinitU - 1) [a0, a1] = [.val a0, .val a1] from rfl]
  obtain ⟨t, M, x, y, rfl, rfl, hM, h⟩ := h
  refine ⟨rfl, ifB_F rfl ⟨rfl, ?_⟩⟩
  rw [show List.lookup t tab_MATRICES = some (matD M) from tabM_look hM]
  exact ifB_F rfl ⟨⟨trivial, trivial⟩, rfl, ⟨rfl, rfl⟩, ⟨rfl, rfl⟩, ⟨rfl, rfl⟩, h⟩
end
end K13
namespace K13
open PySem PySem.Spec PyProof.Rows L2 Z Y
section
variable {P : Program} {w : World} {K : Frg} {mg : Str → Option Value} {base : Heap}
theorem ok_Motion_by (T : Tx w K mg) : FnG P w K mg base (L2.CX P w) 9 (He5.wf K (He.ga K "Motion") "staticmethod" "by") (spP K R_Motion_by) := by
  refine y_fn T.d_Motion_by sc_Motion_by arl1 (fun _ _ _ _ _ _ us hl => match us, hl with | [_], _ => rfl) fun cdv A outer s H E B hB hr hx po => ⟨_, (s_one (s_ret (y_make T.mk_Motion (ok_Motion_UinitU T) (hr.mono (by decide)) rfl T.g_Motion hx (a_cons y_str (a_cons (y_var (pv 0)) a_nil))))), fun ds Q h => ?_⟩
  obtain ⟨a0, e0, hh⟩ := ar1E h
  clear h
  subst e0
  have h := hh
  clear hh
  try dsimp only at h
  rw [show startE (List.length N_Motion_by) [a0] = [.val a0] from rfl]
  obtain ⟨x, y, rfl, h⟩ := h
  exact ⟨"none", _, x, y, rfl, rfl, (rfl : mat "none" = some (1, 0, 0, 1)), h⟩
end
end K13
namespace K13
open PySem PySem.Spec PyProof.Rows L2 Z Y
section
variable {P : Program} {w : World} {K : Frg} {mg : Str → Option Value} {base : Heap}
theorem ok_Motion_kind (T : Tx w K mg) : FnG P w K mg base (L2.CX P w) 1 (He5.wf K (He.ga K "Motion") "property" "kind") (spP K R_Motion_kind) := by
  refine y_fn T.d_Motion_kind sc_Motion_kind arl1 (fun _ _ _ _ _ _ us hl => match us, hl with | [_], _ => rfl) fun cdv A outer s H E B hB hr hx po => ⟨_, (s_one (s_ret (y_fld (cs := ["Motion"]) (ns := ["own_kind", "own_shift"]) (j := 0) (y_var (pv 0)) (all1 ⟨T.cl_Motion, T.na_Motion_own_kind⟩)))), fun ds Q h => ?_⟩
  obtain ⟨a0, e0, hh⟩ := ar1E h
  clear h
  subst e0
  have h := hh
  clear hh
  try dsimp only at h
  rw [show startE (List.length N_Motion_kind) [a0] = [.val a0] from rfl]
  obtain ⟨k, x, y, rfl, h⟩ := h
  exact ⟨⟨.head _, rfl⟩, h⟩
end
end K13
namespace K13
open PySem PySem.Spec PyProof.Rows L2 Z Y
section
variable {P : Program} {w : World} {K : Frg} {mg : Str → Option Value} {base : Heap}
theorem ok_Motion_image (T : Tx w K mg) : FnG P w K mg base (L2.CX P w) 3 (He.ma K (He.ga K "Motion") "image") (spP K R_Motion_image) := by
  refine y_fn T.d_Motion_image sc_Motion_image arl2 (fun _ _ _ _ _ _ us hl => match us, hl with | [_, _], _ => rfl) fun cdv A outer s H E B hB hr hx po => ⟨_, (s_one (s_ret (y_call (ok_plus T) (hr.mono (by decide)) rfl T.g_plus T.k_plus hx (a_cons (y_call (ok_turned T) (hr.mono (by decide)) rfl T.g_turned T.k_turned hx (a_cons (y_fld (cs := ["Motion"]) (ns := ["own_kind", "own_shift"]) (j := 0) (y_var (pv 0)) (all1 ⟨T.cl_Motion, T.na_Motion_own_kind⟩)) (a_cons (y_var (pv 1)) a_nil))) (a_cons (y_fld (cs := ["Motion"]) (ns := ["own_kind", "own_shift"]) (j := 1) (y_var (pv 0)) (all1 ⟨T.cl_Motion, T.na_Motion_own_shift⟩)) a_nil))))), fun ds Q h => ?_⟩
  obtain ⟨a0, a1, e0, hh⟩ := ar2E h
  clear h
  subst e0
  have h := hh
  clear hh
  try dsimp only at h
  rw [show startE (List.length N_Motion_image) [a0, a1] = [.val a0, .val a1] from rfl]
  obtain ⟨k, M, x, y, u, v, rfl, rfl, ⟨hM, zu, zv⟩, h⟩ := h
  exact ⟨⟨.head _, rfl⟩, k, M, u, v, rfl, rfl, ⟨hM, zu, zv⟩, ⟨.head _, rfl⟩, _, _, _, _, rfl, rfl, h⟩
end
end K13
namespace K13
open PySem PySem.Spec PyProof.Rows L2 Z Y
section
variable {P : Program} {w : World} {K : Frg} {mg : Str → Option Value} {base : Heap}
theorem ok_Motion_UmulU (T : Tx w K mg) : FnG P w K mg base (L2.CX P w) 9 (He.ma K (He.ga K "Motion") "__mul__") (spP K R_Motion_UmulU) := by
  refine y_fn T.d_Motion_UmulU sc_Motion_UmulU arl2 (fun _ _ _ _ _ _ us hl => match us, hl with | [_, _], _ => rfl) fun cdv A outer s H E B hB hr hx po => ⟨_, (s_cons (s_if (z_not (z_val (y_callB call_isi (isOL (C := "Motion") (cs := ["Motion"]) (cs' := []) ⟨T.cl_Motion, T.ow_Motion⟩ (all1 ⟨⟨T.cl_Motion, T.ow_Motion⟩, T.ow_Motion.ki⟩) all0) (by rfl) T.b_isinstance (by decide +kernel) (a_cons (y_var (pv 1)) (a_cons (y_glob rfl T.g_Motion) a_nil)))))
    (s_one s_never)
    s_nil)
  (s_one (s_ret (y_make T.mk_Motion (ok_Motion_UinitU T) (hr.mono (by decide)) rfl T.g_Motion hx (a_cons (y_call (ok_joined_kind T) (hr.mono (by decide)) rfl T.g_joined_kind T.k_joined_kind hx (a_cons (y_fld (cs := ["Motion"]) (ns := ["own_kind", "own_shift"]) (j := 0) (y_var (pv 0)) (all1 ⟨T.cl_Motion, T.na_Motion_own_kind⟩)) (a_cons (y_fld (cs := ["Motion"]) (ns := ["own_kind", "own_shift"]) (j := 0) (y_var (pv 1)) (all1 ⟨T.cl_Motion, T.na_Motion_own_kind⟩)) a_nil))) (a_cons (y_meth (cs := ["Motion"]) (ns := ["own_kind", "own_shift"]) (y_var (pv 1)) (all1 ⟨T.cl_Motion, T.m_Motion_image⟩) (ok_Motion_image T) (hr.mono (by decide)) hx (a_cons (y_fld (cs := ["Motion"]) (ns := ["own_kind", "own_shift"]) (j := 1) (y_var (pv 0)) (all1 ⟨T.cl_Motion, T.na_Motion_own_shift⟩)) a_nil)) a_nil)))))), fun ds Q h => ?_⟩
  obtain ⟨a0, a1, e0, hh⟩ := ar2E h
  clear h
  subst e0
  have h := hh
  clear hh
  try dsimp only at h
  rw [show startE (List.length N_Motion_UmulU) [a0, a1] = [.val a0, .val a1] from rfl]
  obtain ⟨k, l, M, N, x, y, u, v, rfl, rfl, ⟨hM, hN, zx, zy⟩, h⟩ := h
  exact ⟨rfl, .inl ⟨.head _, ifB_F rfl ⟨⟨.head _, rfl⟩, ⟨.head _, rfl⟩, k, l, M, N, rfl, rfl, ⟨hM, hN⟩, fun t ht => ⟨.head _, rfl, ⟨.head _, rfl⟩, l, N, u, v, x, y, rfl, rfl, ⟨hN, zx, zy⟩, ⟨t, _, _, _, rfl, rfl, ht, h t ht⟩⟩⟩⟩⟩
end
end K13
namespace K13
open PySem PySem.Spec PyProof.Rows L2 Z Y
section
variable {P : Program} {w : World} {K : Frg} {mg : Str → Option Value} {base : Heap}
theorem ok_Motion_UinvertU (T : Tx w K mg) : FnG P w K mg base (L2.CX P w) 9 (He.ma K (He.ga K "Motion") "__invert__") (spP K R_Motion_UinvertU) := by
  refine y_fn T.d_Motion_UinvertU sc_Motion_UinvertU arl1 (fun _ _ _ _ _ _ us hl => match us, hl with | [_], _ => rfl) fun cdv A outer s H E B hB hr hx po => ⟨_, (s_cons (s_set (i := 1) sc_Motion_UinvertU.nd rfl (by first | exact Or.inl rfl | exact Or.inr rfl) (y_getT T.tb_BACK (y_glob rfl T.g_BACK) (y_fld (cs := ["Motion"]) (ns := ["own_kind", "own_shift"]) (j := 0) (y_var (pv 0)) (all1 ⟨T.cl_Motion, T.na_Motion_own_kind⟩)) (y_fld (cs := ["Motion"]) (ns := ["own_kind", "own_shift"]) (j := 0) (y_var (pv 0)) (all1 ⟨T.cl_Motion, T.na_Motion_own_kind⟩))))
  (s_cons (s_asg (t := .tp [2, 3]) (y_call (ok_turned T) (hr.mono (by decide)) rfl T.g_turned T.k_turned hx (a_cons (y_var (pv 1)) (a_cons (y_fld (cs := ["Motion"]) (ns := ["own_kind", "own_shift"]) (j := 1) (y_var (pv 0)) (all1 ⟨T.cl_Motion, T.na_Motion_own_shift⟩)) a_nil))) (g_tp (is := [2, 3]) rfl (pgs_cons (pg_name (i := 2) sc_Motion_UinvertU.nd rfl (by first | exact Or.inl rfl | exact Or.inr rfl)) (pgs_cons (pg_name (i := 3) sc_Motion_UinvertU.nd rfl (by first | exact Or.inl rfl | exact Or.inr rfl)) pgs_nil))))
  (s_one (s_ret (y_make T.mk_Motion (ok_Motion_UinitU T) (hr.mono (by decide)) rfl T.g_Motion hx (a_cons (y_var (pv 1)) (a_cons (y_tup (a_cons (y_un un_neg negL (y_var (pv 2))) (a_cons (y_un un_neg negL (y_var (pv 3))) a_nil))) a_nil))))))), fun ds Q h => ?_⟩
  obtain ⟨a0, e0, hh⟩ := ar1E h
  clear h
  subst e0
  have h := hh
  clear hh
  try dsimp only at h
  rw [show startE (List.length N_Motion_UinvertU) [a0] = [.val a0, .no, .no, .no] from rfl]
  obtain ⟨k, M, x, y, rfl, ⟨hM, zx, zy⟩, h⟩ := h
  obtain ⟨t, e, ht⟩ := mat_back hM
  refine ⟨rfl, ⟨.head _, rfl⟩, ⟨.head _, rfl⟩, ?_⟩
  refine getT_to (t := t) e ?_
  obtain ⟨z1, z2⟩ := sz_turn ht (n := 4000) zx zy
  exact ⟨⟨.head _, rfl⟩, t, _, x, y, rfl, rfl, ⟨ht, zx, zy⟩, leN rfl, ⟨t, _, _, _, rfl, rfl, ht, h t ht⟩⟩
end
end K13
namespace K13
open PySem PySem.Spec PyProof.Rows L2 Z Y
section
variable {P : Program} {w : World} {K : Frg} {mg : Str → Option Value} {base : Heap}
theorem ok_greatest_divisor (T : Tx w K mg) : FnG P w K mg base (L2.CX P w) 1 (He.ga K "greatest_divisor") (spP K R_greatest_divisor) := by
  refine y_fn T.d_greatest_divisor sc_greatest_divisor arl2 (fun _ _ _ _ _ _ us hl => match us, hl with | [_, _], _ => rfl) fun cdv A outer s H E B hB hr hx po => ⟨_, (s_cons (s_par (i := 0) (j := 1) (by rfl) sc_greatest_divisor.nd rfl rfl (by decide) rfl rfl (a_cons (y_callB call_abs absL (by rfl) T.b_abs (by decide +kernel) (a_cons (y_var (pv 0)) a_nil)) (a_cons (y_callB call_abs absL (by rfl) T.b_abs (by decide +kernel) (a_cons (y_var (pv 1)) a_nil)) a_nil)) (by rfl))
  (s_cons (s_while po (z_cmp op_gt cmpL (y_var (pv 1)) y_int (nomark _))
    (s_one (s_par (i := 0) (j := 1) (by rfl) sc_greatest_divisor.nd rfl rfl (by decide) rfl rfl (a_cons (y_var (pv 1)) (a_cons (y_op op_mod modL (y_var (pv 0)) (y_var (pv 1))) a_nil)) (by rfl))))
  (s_one (s_ret (y_var (pv 0)))))), fun ds Q h => ?_⟩
  obtain ⟨a0, a1, e0, hh⟩ := ar2E h
  clear h
  subst e0
  have h := hh
  clear hh
  try dsimp only at h
  rw [show startE (List.length N_greatest_divisor) [a0, a1] = [.val a0, .val a1] from rfl]
  split at h
  · rename_i x y
    refine ⟨fun m ρ => ∃ x' y' : Int, ρ = [.val (.int x'), .val (.int y')] ∧ 0 ≤ x' ∧ 0 ≤ y' ∧ m = y'.toNat ∧ Int.gcd x' y' = Int.gcd x y, ⟨_, _, _, rfl, ?_, ?_, rfl, ?_⟩, ?_⟩
    · split <;> omega
    · split <;> omega
    · have e : ∀ z : Int, (if z < 0 then -z else z) = (z.natAbs : Int) := fun z => by split <;> omega
      rw [e, e, Int.gcd_eq_natAbs_gcd_natAbs, Int.gcd_eq_natAbs_gcd_natAbs]
      simp
    · rintro m ρ ⟨x', y', rfl, hx, hy, rfl, hg⟩
      refine ifB_d (fun hy0 => ?_) (fun hy0 => ?_)
      · have h1 := Int.emod_lt_of_pos x' hy0
        have h2 := Int.emod_nonneg x' (show y' ≠ 0 by omega)
        refine ⟨hy0, (x' % y').toNat, by omega, y', x' % y', rfl, hy, h2, rfl, ?_⟩
        rw [← gcd_emod, Int.gcd_comm y' x']
        exact hg
      · have hy1 : y' = 0 := by omega
        subst hy1
        have e : (x' : Int) = ((Int.gcd x y : Nat) : Int) := by
          rw [← hg, Int.gcd_zero_right]
          omega
        show Q (.int x')
        rw [e]
        exact h
  · exact h.elim
end
end K13
namespace K13
open PySem PySem.Spec PyProof.Rows L2 Z Y
section
variable {P : Program} {w : World} {K : Frg} {mg : Str → Option Value} {base : Heap}
theorem ok_form_of (T : Tx w K mg) : FnG P w K mg base (L2.CX P w) 3 (He.ga K "form_of") (spP K R_form_of) := by
  refine y_fn T.d_form_of sc_form_of arl1 (fun _ _ _ _ _ _ us hl => match us, hl with | [_], _ => rfl) fun cdv A outer s H E B hB hr hx po => ⟨_, (s_cons (s_asg (t := .tp [1, 2, 3]) (y_tup (a_cons y_int (a_cons y_int (a_cons y_int a_nil)))) (g_tp (is := [1, 2, 3]) rfl (pgs_cons (pg_name (i := 1) sc_form_of.nd rfl (by first | exact Or.inl rfl | exact Or.inr rfl)) (pgs_cons (pg_name (i := 2) sc_form_of.nd rfl (by first | exact Or.inl rfl | exact Or.inr rfl)) (pgs_cons (pg_name (i := 3) sc_form_of.nd rfl (by first | exact Or.inl rfl | exact Or.inr rfl)) pgs_nil)))))
  (s_cons (s_for (t := .tp [4, 5]) po rfl (i_tup (y_var (pv 0))) (g_tp (is := [4, 5]) rfl (pgs_cons (pg_name (i := 4) sc_form_of.nd rfl (by first | exact Or.inl rfl | exact Or.inr rfl)) (pgs_cons (pg_name (i := 5) sc_form_of.nd rfl (by first | exact Or.inl rfl | exact Or.inr rfl)) pgs_nil)))
    (s_cons (s_while po (z_cmp (op_neY hr.units) neL (y_var (pv 5)) y_int (nomark _))
    (s_cons (s_set (i := 6) sc_form_of.nd rfl (by first | exact Or.inl rfl | exact Or.inr rfl) (y_op op_fdivZ divZL (y_var (pv 3)) (y_var (pv 5))))
  (s_one (s_asg (t := .tp [2, 3, 4, 5]) (y_tup (a_cons (y_var (pv 4)) (a_cons (y_var (pv 5)) (a_cons (y_op op_sub subL (y_var (pv 2)) (y_op op_mulY mulL (y_var (pv 6)) (y_var (pv 4)))) (a_cons (y_op op_sub subL (y_var (pv 3)) (y_op op_mulY mulL (y_var (pv 6)) (y_var (pv 5)))) a_nil))))) (g_tp (is := [2, 3, 4, 5]) rfl (pgs_cons (pg_name (i := 2) sc_form_of.nd rfl (by first | exact Or.inl rfl | exact Or.inr rfl)) (pgs_cons (pg_name (i := 3) sc_form_of.nd rfl (by first | exact Or.inl rfl | exact Or.inr rfl)) (pgs_cons (pg_name (i := 4) sc_form_of.nd rfl (by first | exact Or.inl rfl | exact Or.inr rfl)) (pgs_cons (pg_name (i := 5) sc_form_of.nd rfl (by first | exact Or.inl rfl | exact Or.inr rfl)) pgs_nil)))))))))
  (s_one (s_set (i := 1) sc_form_of.nd rfl (by first | exact Or.inl rfl | exact Or.inr rfl) (y_call (ok_greatest_divisor T) (hr.mono (by decide)) rfl T.g_greatest_divisor T.k_greatest_divisor hx (a_cons (y_var (pv 1)) (a_cons (y_var (pv 4)) a_nil)))))))
  (s_cons (s_if (z_pt (z_or (z_cmp (op_eqY hr.units) eqL (y_var (pv 1)) y_int (nomark _)) (z_or1 (z_cmp (op_eqY hr.units) eqL (y_var (pv 3)) y_int (nomark _)))))
    (s_one (s_ret y_non))
    s_nil)
  (s_one (s_ret (y_if (z_cmp op_gt cmpL (y_var (pv 3)) y_int (nomark _)) (y_tup (a_cons (y_var (pv 1)) (a_cons (y_op op_mod modL (y_var (pv 2)) (y_var (pv 1))) (a_cons (y_var (pv 3)) a_nil)))) (y_tup (a_cons (y_var (pv 1)) (a_cons (y_op op_mod modL (y_un un_neg negL (y_var (pv 2))) (y_var (pv 1))) (a_cons (y_un un_neg negL (y_var (pv 3))) a_nil)))))))))), fun ds Q h => ?_⟩
  obtain ⟨a0, e0, hh⟩ := ar1E h
  clear h
  subst e0
  have h := hh
  clear hh
  try dsimp only at h
  rw [show startE (List.length N_form_of) [a0] = [.val a0, .no, .no, .no, .no, .no, .no] from rfl]
  split at h
  · rename_i ds
    obtain ⟨S, rfl, ⟨n, hn, hl⟩, h⟩ := h
    have hbit : ∀ i, i ≤ S.length → n + 1 + i * (n + 2) + (n + 2) < 4000 := fun i hi => by
      have h1 : i * (n + 2) ≤ S.length * (n + 2) := Nat.mul_le_mul_right _ hi
      have h2 : (S.length + 2) * (n + 2) = S.length * (n + 2) + 2 * (n + 2) := Nat.add_mul _ _ _
      omega
    refine ⟨Nat.le_of_ble_eq_true rfl, fun i ρ => ∃ a b c : Int, ∃ o4 o5 o6, ρ = [.val (.tup (S.map plD)), .val (.int a), .val (.int b), .val (.int c), o4, o5, o6] ∧ MN.Eqv (S.take i) [(a, 0), (b, c)] ∧ 0 ≤ a ∧ a.natAbs ≤ 2 ^ (n + 1 + i * (n + 2)) ∧ b.natAbs ≤ 2 ^ (n + 1 + i * (n + 2)) ∧ c.natAbs ≤ 2 ^ n, ⟨0, 0, 0, _, _, _, rfl, MN.eqv_nil, by decide, Nat.zero_le _, Nat.zero_le _, Nat.zero_le _⟩, ?_, ?_⟩
    · rintro i d ρ hd ⟨a, b, c, o4, o5, o6, rfl, he, ha, sa, sb, sc⟩
      obtain ⟨⟨x0, y0⟩, hp, rfl⟩ := map_get hd
      have hi := lt_of_get hp
      obtain ⟨zx, zy⟩ := hn _ (List.mem_of_getElem? hp)
      have hb := hbit i (Nat.le_of_lt hi)
      refine ⟨fun m ρ => ∃ b' c' x y : Int, ∃ o6, ρ = [.val (.tup (S.map plD)), .val (.int a), .val (.int b'), .val (.int c'), .val (.int x), .val (.int y), o6] ∧ MN.Eu (2 ^ (n + 1 + i * (n + 2) + n + 2)) (2 ^ n) b' c' x y ∧ MN.Eqv [(a, 0), (b', c'), (x, y)] [(a, 0), (b, c), (x0, y0)] ∧ m = y.natAbs,
        ⟨_, b, c, x0, y0, _, rfl, MN.Eu.start (by omega) sb sc (sz_le2 zx) (sz_le2 zy), MN.Eqv.refl _, rfl⟩, ?_⟩
      rintro m ρ ⟨b', c', x, y, o6, rfl, eu, ev, rfl⟩
      refine ifB_nd (fun hy => ?_) (fun hy => ?_)
      · have st : Sz 5000 (c'.fdiv y) := sz_of_le (Nat.le_trans (MN.abs_fdiv_le c' y) eu.hc) (by omega)
        have sx : Sz 5000 x := sz_of_le eu.hx (by omega)
        have sy : Sz 5000 y := sz_of_le eu.hy (by omega)
        exact ⟨⟨hy, sy.mono (by decide)⟩, ⟨st, sx⟩, ⟨st, sy⟩, Nat.le_of_ble_eq_true rfl, _, (MN.fdiv_facts hy).1, x, y, b' - c'.fdiv y * x, c' - c'.fdiv y * y, _, rfl, eu.step hy, MN.eqv_step.symm.trans ev, rfl⟩
      · subst hy
        refine ⟨(Int.gcd a x : Nat), b', c', _, _, _, rfl, ?_, Int.natCast_nonneg _, ?_, ?_, eu.hc⟩
        · rw [List.take_add_one, hp]
          exact ((MN.eqv_more he).trans ev.symm).trans MN.eqv_gcd
        · have e1 : n + 1 + (i + 1) * (n + 2) = n + 1 + i * (n + 2) + n + 2 := by rw [Nat.add_mul]; omega
          rw [e1]
          show Int.gcd a x ≤ _
          by_cases h0 : a = 0
          · rw [h0, Int.gcd_zero_left]; exact eu.hx
          · have := Int.gcd_le_left x (show 0 < a by omega)
            have p : 2 ^ (n + 1 + i * (n + 2)) ≤ 2 ^ (n + 1 + i * (n + 2) + n + 2) := Nat.pow_le_pow_right (by decide) (by omega)
            omega
        · have e1 : n + 1 + (i + 1) * (n + 2) = n + 1 + i * (n + 2) + n + 2 := by rw [Nat.add_mul]; omega
          rw [e1]
          exact eu.hb
    · rintro ρ ⟨a, b, c, o4, o5, o6, rfl, he, ha, sa, sb, sc⟩
      rw [List.length_map] at he sa sb
      rw [List.take_length] at he
      have hb := hbit S.length (Nat.le_refl _)
      have za : Sz 4000 a := sz_of_le sa (by omega)
      have zc : Sz 4000 c := sz_of_le sc (by omega)
      have nn : SzF none := fun _ _ _ z => nomatch z
      refine ifB_d (fun h0 => ifB_T rfl (h none (MN.form_none he (.inl h0)) nn)) (fun h0 => ifB_d (fun h1 => h none (MN.form_none he (.inr h1)) nn) fun h1 => ?_)
      refine ifB_d (fun hc => ⟨by omega, Nat.le_of_ble_eq_true rfl, h (some _) (MN.form_pos he (by omega) hc) ?_⟩) (fun hc => ⟨by omega, Nat.le_of_ble_eq_true rfl, h (some _) (MN.form_neg he (by omega) (by omega)) ?_⟩)
      · rintro _ _ _ e
        cases e
        exact ⟨za, zc⟩
      · rintro _ _ _ e
        cases e
        exact ⟨za, sz_neg zc⟩
  · exact h.elim
end
end K13
namespace K13
open PySem PySem.Spec PyProof.Rows L2 Z Y
section
variable {P : Program} {w : World} {K : Frg} {mg : Str → Option Value} {base : Heap}
theorem ok_Net_of (T : Tx w K mg) : FnG P w K mg base (L2.CX P w) 7 (He5.wf K (He.ga K "Net") "staticmethod" "of") (spP K R_Net_of) := by
  refine y_fnS T.d_Net_of sc_Net_of R_Net_of_len (fun _ _ _ _ _ _ rest => by cases rest <;> rfl) fun cdv A outer s H E B hB hr hx po => ⟨_, (s_cons (s_for (t := .nm 1) po rfl (i_tup (y_var (pv 0))) (g_nm (pg_name (i := 1) sc_Net_of.nd rfl (by first | exact Or.inl rfl | exact Or.inr rfl)))
    (s_one (s_expr (y_call (ok_check_place T) (hr.mono (by decide)) rfl T.g_check_place T.k_check_place hx (a_cons (y_var (pv 1)) a_nil)))))
  (s_cons (s_set (i := 2) sc_Net_of.nd rfl (by first | exact Or.inl rfl | exact Or.inr rfl) (y_call (ok_form_of T) (hr.mono (by decide)) rfl T.g_form_of T.k_form_of hx (a_cons (y_var (pv 0)) a_nil)))
  (s_cons (s_if (z_cmp op_isN isNL (y_var (pv 2)) y_non (nomark _))
    (s_one s_never)
    s_nil)
  (s_one (s_ret (y_make T.mk_Net (ok_Net_UinitU T) (hr.mono (by decide)) rfl T.g_Net hx (a_cons (y_ix (y_var (pv 2)) y_int (fun _ _ => rfl)) (a_cons (y_ix (y_var (pv 2)) y_int (fun _ _ => rfl)) (a_cons (y_ix (y_var (pv 2)) y_int (fun _ _ => rfl)) a_nil))))))))), fun ds Q h => ?_⟩
  rw [show startE (List.length N_Net_of) [.tup ds] = [.val (.tup ds), .no, .no] from rfl]
  obtain ⟨S, rfl, hs, hf, h⟩ := h
  refine ⟨fun i ρ => ∃ o1, ρ = [.val (.tup (S.map plD)), o1, .no], ⟨_, rfl⟩, ?_, ?_⟩
  · rintro i d ρ hd ⟨o1, rfl⟩
    obtain ⟨p, hp, rfl⟩ := map_get hd
    exact ⟨⟨trivial, trivial⟩, rfl, _, rfl⟩
  · rintro ρ ⟨o1, rfl⟩
    refine ⟨S, rfl, hs, fun r hr sr => ?_⟩
    rcases r with _ | ⟨a, b, c⟩
    · exact absurd hr hf
    · obtain ⟨za, zc⟩ := sr a b c rfl
      exact ifB_F rfl ⟨hr.1, h a b c hr za zc⟩
end
end K13
namespace K13
open PySem PySem.Spec PyProof.Rows L2 Z Y
section
variable {P : Program} {w : World} {K : Frg} {mg : Str → Option Value} {base : Heap}
theorem ok_Net_spanning (T : Tx w K mg) : FnG P w K mg base (L2.CX P w) 1 (He.ma K (He.ga K "Net") "spanning") (spP K R_Net_spanning) := by
  refine y_fn T.d_Net_spanning sc_Net_spanning arl1 (fun _ _ _ _ _ _ us hl => match us, hl with | [_], _ => rfl) fun cdv A outer s H E B hB hr hx po => ⟨_, (s_cons (s_asg (t := .tp [1, 2, 3]) (y_fld (cs := ["Net"]) (ns := ["own_numbers"]) (j := 0) (y_var (pv 0)) (all1 ⟨T.cl_Net, T.na_Net_own_numbers⟩)) (g_tp (is := [1, 2, 3]) rfl (pgs_cons (pg_name (i := 1) sc_Net_spanning.nd rfl (by first | exact Or.inl rfl | exact Or.inr rfl)) (pgs_cons (pg_name (i := 2) sc_Net_spanning.nd rfl (by first | exact Or.inl rfl | exact Or.inr rfl)) (pgs_cons (pg_name (i := 3) sc_Net_spanning.nd rfl (by first | exact Or.inl rfl | exact Or.inr rfl)) pgs_nil)))))
  (s_one (s_ret (y_lst (a_cons (y_tup (a_cons (y_var (pv 1)) (a_cons y_int a_nil))) (a_cons (y_tup (a_cons (y_var (pv 2)) (a_cons (y_var (pv 3)) a_nil))) a_nil)))))), fun ds Q h => ?_⟩
  obtain ⟨a0, e0, hh⟩ := ar1E h
  clear h
  subst e0
  have h := hh
  clear hh
  try dsimp only at h
  rw [show startE (List.length N_Net_spanning) [a0] = [.val a0, .no, .no, .no] from rfl]
  obtain ⟨a, b, c, rfl, h⟩ := h
  exact ⟨⟨.head _, rfl⟩, leN rfl, leN rfl, leN rfl, h⟩
end
end K13
namespace K13
open PySem PySem.Spec PyProof.Rows L2 Z Y
section
variable {P : Program} {w : World} {K : Frg} {mg : Str → Option Value} {base : Heap}
theorem ok_Net_UmulU (T : Tx w K mg) : FnG P w K mg base (L2.CX P w) 9 (He.ma K (He.ga K "Net") "__mul__") (spP K R_Net_UmulU) := by
  refine y_fn T.d_Net_UmulU sc_Net_UmulU arl2 (fun _ _ _ _ _ _ us hl => match us, hl with | [_, _], _ => rfl) fun cdv A outer s H E B hB hr hx po => ⟨_, (s_cons (s_asg (t := .tp [2, 3]) (y_meth0 (cs := ["Net"]) (ns := ["own_numbers"]) (y_var (pv 0)) (all1 ⟨T.cl_Net, T.m_Net_spanning⟩) (ok_Net_spanning T) (hr.mono (by decide)) hx) (g_tp (is := [2, 3]) rfl (pgs_cons (pg_name (i := 2) sc_Net_UmulU.nd rfl (by first | exact Or.inl rfl | exact Or.inr rfl)) (pgs_cons (pg_name (i := 3) sc_Net_UmulU.nd rfl (by first | exact Or.inl rfl | exact Or.inr rfl)) pgs_nil))))
  (s_one (s_ret (y_smeth rfl T.g_Net T.sm_Net_of (ok_Net_of T) (hr.mono (by decide)) hx (a_cons (y_call (ok_turned T) (hr.mono (by decide)) rfl T.g_turned T.k_turned hx (a_cons (y_prop (cs := ["Motion"]) (ns := ["own_kind", "own_shift"]) (y_var (pv 1)) (all1 ⟨T.cl_Motion, _, T.p_Motion_kind⟩) (ok_Motion_kind T) (hr.mono (by decide)) px_nox) (a_cons (y_var (pv 2)) a_nil))) (a_cons (y_call (ok_turned T) (hr.mono (by decide)) rfl T.g_turned T.k_turned hx (a_cons (y_prop (cs := ["Motion"]) (ns := ["own_kind", "own_shift"]) (y_var (pv 1)) (all1 ⟨T.cl_Motion, _, T.p_Motion_kind⟩) (ok_Motion_kind T) (hr.mono (by decide)) px_nox) (a_cons (y_var (pv 3)) a_nil))) a_nil)))))), fun ds Q h => ?_⟩
  obtain ⟨a0, a1, e0, hh⟩ := ar2E h
  clear h
  subst e0
  have h := hh
  clear hh
  try dsimp only at h
  rw [show startE (List.length N_Net_UmulU) [a0, a1] = [.val a0, .val a1, .no, .no] from rfl]
  obtain ⟨a, b, c, k, M, x, y, rfl, rfl, ⟨o, hM⟩, h⟩ := h
  have z0 : Sz 600 (0 : Int) := szP (by decide) (by decide)
  obtain ⟨z1, z2⟩ := sz_turn hM o.2.1 z0
  obtain ⟨z3, z4⟩ := sz_turn hM o.b o.2.2
  refine ⟨.head _, rfl, a, b, c, rfl, .head _, rfl, k, x, y, rfl, k, M, a, 0, rfl, rfl, ⟨hM, o.2.1.mono (by decide), z0.mono (by decide)⟩, .head _, rfl, k, x, y, rfl, k, M, b, c, rfl, rfl, ⟨hM, o.b.mono (by decide), o.2.2.mono (by decide)⟩, [MN.turn M (a, 0), MN.turn M (b, c)], rfl, shOk_of (n := 600) (fun p hp => ?_) (ltN rfl), MN.turn_not_none (mat_orth hM) o.1, fun a' b' c' f _ _ => h a' b' c' (MN.img_form (mat_orth hM) o.1 f)⟩
  simp only [List.mem_cons, List.not_mem_nil, or_false] at hp
  rcases hp with rfl | rfl
  · exact ⟨z1, z2⟩
  · exact ⟨z3, z4⟩
end
end K13
namespace K13
open PySem PySem.Spec PyProof.Rows L2 Z Y
section
variable {P : Program} {w : World} {K : Frg} {mg : Str → Option Value} {base : Heap}
theorem ok_Carpet_UaddU (T : Tx w K mg) : FnG P w K mg base (L2.CX P w) 13 (He.ma K (He.ga K "Carpet") "__add__") (spP K R_Carpet_UaddU) := by
  refine y_fn T.d_Carpet_UaddU sc_Carpet_UaddU arl2 (fun _ _ _ _ _ _ us hl => match us, hl with | [_, _], _ => rfl) fun cdv A outer s H E B hB hr hx po => ⟨_, (s_one (s_ret (y_make T.mk_Woven (ok_Woven_UinitU T) (hr.mono (by decide)) rfl T.g_Woven hx (a_cons (y_fld (cs := ["Carpet", "Woven"]) (ns := ["own_net", "own_text"]) (j := 0) (y_var (pv 0)) (all2 ⟨T.cl_Carpet, T.na_Carpet_own_net⟩ ⟨T.cl_Woven, T.na_Woven_own_net⟩)) (a_cons (y_join y_str (y_lc (own := [("place", 2)]) (t := .nm 2) rfl sc_Carpet_UaddU.nd (i_lst (y_meth0 (cs := ["Net"]) (ns := ["own_numbers"]) (y_fld (cs := ["Carpet", "Woven"]) (ns := ["own_net", "own_text"]) (j := 0) (y_var (pv 0)) (all2 ⟨T.cl_Carpet, T.na_Carpet_own_net⟩ ⟨T.cl_Woven, T.na_Woven_own_net⟩)) (all1 ⟨T.cl_Net, T.m_Net_spots⟩) (ok_Net_spots T) (hr.mono (by decide)) hx)) (blkOk_by (own := [("place", 2)]) (N := N_Carpet_UaddU) (sc := defScope s_Carpet_UaddU) (by decide +kernel)) (fun _ _ _ _ _ => (g_nm (pg_name (i := 2) sc_Carpet_UaddU.nd rfl (by first | exact Or.inl rfl | exact Or.inr rfl)))) (fun _ _ _ _ _ => c_nil) (fun _ _ _ _ _ => (y_meth (cs := ["Carpet", "Woven"]) (ns := ["own_net", "own_text"]) (y_var (pv 0)) (all2 ⟨T.cl_Carpet, T.m_Carpet_seen⟩ ⟨T.cl_Woven, T.m_Woven_seen⟩) (ok_Carpet_seen T) (hr.mono (by decide)) px_nox (a_cons (y_call (ok_minus T) (hr.mono (by decide)) rfl T.g_minus T.k_minus px_nox (a_cons (y_var (pv 2)) (a_cons (y_var (pv 1)) a_nil))) a_nil))))) a_nil))))), fun ds Q h => ?_⟩
  obtain ⟨a0, a1, e0, hh⟩ := ar2E h
  clear h
  subst e0
  have h := hh
  clear hh
  try dsimp only at h
  rw [show startE (List.length N_Carpet_UaddU) [a0, a1] = [.val a0, .val a1, .no] from rfl]
  obtain ⟨C, w, q, r, t, x, y, rfl, rfl, ⟨hC, o, zy⟩, h⟩ := h
  refine ⟨⟨hC, rfl⟩, ⟨hC, rfl⟩, .head _, rfl, w, q, r, rfl, ⟨o.ok, by have := o.mx; omega⟩, by rw [List.length_map]; have := spots_le o; omega, ?_⟩
  refine mapI_fun (xs := MN.spotsL w.toNat r.toNat) (g := fun p => .str (chr1 (shF (colF t w q r) x y p))) ?_ ?_
  · intro p hp k hk
    obtain ⟨m1, m2, m3, m4⟩ := MN.spotsL_mem.mp hp
    have zp : Sz 3000 p.2 := (sz13 m3 (by have := o.cl; have := o.c; omega)).mono (by decide)
    exact ⟨hC, rfl, p.1, p.2, x, y, rfl, rfl, C, w, q, r, t, p.1 - x, p.2 - y, rfl, hC, rfl, ⟨o, (sz_sub zp zy).mono (by decide)⟩, hk⟩
  · refine join_cell o.ok o.mx ⟨w, q, r, _, rfl, rfl, okT_cell o.ok o.mx, fun w' q' r' t' cp hw hr => h w' q' r' t' ?_ hw hr⟩
    rw [col_cell o.ok fun x y z => keeps_sh (o.keep z)] at cp
    exact cp
end
end K13
namespace K13
open PySem PySem.Spec PyProof.Rows L2 Z Y
section
variable {P : Program} {w : World} {K : Frg} {mg : Str → Option Value} {base : Heap}
theorem ok_Carpet_UsubU (T : Tx w K mg) : FnG P w K mg base (L2.CX P w) 13 (He.ma K (He.ga K "Carpet") "__sub__") (spP K R_Carpet_UsubU) := by
  refine y_fn T.d_Carpet_UsubU sc_Carpet_UsubU arl2 (fun _ _ _ _ _ _ us hl => match us, hl with | [_, _], _ => rfl) fun cdv A outer s H E B hB hr hx po => ⟨_, (s_one (s_ret (y_make T.mk_Woven (ok_Woven_UinitU T) (hr.mono (by decide)) rfl T.g_Woven hx (a_cons (y_fld (cs := ["Carpet", "Woven"]) (ns := ["own_net", "own_text"]) (j := 0) (y_var (pv 0)) (all2 ⟨T.cl_Carpet, T.na_Carpet_own_net⟩ ⟨T.cl_Woven, T.na_Woven_own_net⟩)) (a_cons (y_join y_str (y_lc (own := [("place", 2)]) (t := .nm 2) rfl sc_Carpet_UsubU.nd (i_lst (y_meth0 (cs := ["Net"]) (ns := ["own_numbers"]) (y_fld (cs := ["Carpet", "Woven"]) (ns := ["own_net", "own_text"]) (j := 0) (y_var (pv 0)) (all2 ⟨T.cl_Carpet, T.na_Carpet_own_net⟩ ⟨T.cl_Woven, T.na_Woven_own_net⟩)) (all1 ⟨T.cl_Net, T.m_Net_spots⟩) (ok_Net_spots T) (hr.mono (by decide)) hx)) (blkOk_by (own := [("place", 2)]) (N := N_Carpet_UsubU) (sc := defScope s_Carpet_UsubU) (by decide +kernel)) (fun _ _ _ _ _ => (g_nm (pg_name (i := 2) sc_Carpet_UsubU.nd rfl (by first | exact Or.inl rfl | exact Or.inr rfl)))) (fun _ _ _ _ _ => c_nil) (fun _ _ _ _ _ => (y_meth (cs := ["Carpet", "Woven"]) (ns := ["own_net", "own_text"]) (y_var (pv 0)) (all2 ⟨T.cl_Carpet, T.m_Carpet_seen⟩ ⟨T.cl_Woven, T.m_Woven_seen⟩) (ok_Carpet_seen T) (hr.mono (by decide)) px_nox (a_cons (y_call (ok_plus T) (hr.mono (by decide)) rfl T.g_plus T.k_plus px_nox (a_cons (y_var (pv 2)) (a_cons (y_var (pv 1)) a_nil))) a_nil))))) a_nil))))), fun ds Q h => ?_⟩
  obtain ⟨a0, a1, e0, hh⟩ := ar2E h
  clear h
  subst e0
  have h := hh
  clear hh
  try dsimp only at h
  rw [show startE (List.length N_Carpet_UsubU) [a0, a1] = [.val a0, .val a1, .no] from rfl]
  obtain ⟨C, w, q, r, t, x, y, rfl, rfl, ⟨hC, o, zy⟩, h⟩ := h
  refine ⟨⟨hC, rfl⟩, ⟨hC, rfl⟩, .head _, rfl, w, q, r, rfl, ⟨o.ok, by have := o.mx; omega⟩, by rw [List.length_map]; have := spots_le o; omega, ?_⟩
  refine mapI_fun (xs := MN.spotsL w.toNat r.toNat) (g := fun p => .str (chr1 (shF (colF t w q r) (-x) (-y) p))) ?_ ?_
  · intro p hp k hk
    obtain ⟨m1, m2, m3, m4⟩ := MN.spotsL_mem.mp hp
    have zp : Sz 3000 p.2 := (sz13 m3 (by have := o.cl; have := o.c; omega)).mono (by decide)
    have e : shF (colF t w q r) (-x) (-y) p = colF t w q r (p.1 + x, p.2 + y) := by unfold shF; rw [Int.sub_neg, Int.sub_neg]
    rw [e] at hk
    exact ⟨hC, rfl, p.1, p.2, x, y, rfl, rfl, C, w, q, r, t, p.1 + x, p.2 + y, rfl, hC, rfl, ⟨o, (sz_add zp zy).mono (by decide)⟩, hk⟩
  · refine join_cell o.ok o.mx ⟨w, q, r, _, rfl, rfl, okT_cell o.ok o.mx, fun w' q' r' t' cp hw hr => h w' q' r' t' ?_ hw hr⟩
    rw [col_cell o.ok fun x y z => keeps_sh (o.keep z)] at cp
    exact cp
end
end K13
namespace K13
open PySem PySem.Spec PyProof.Rows L2 Z Y
section
variable {P : Program} {w : World} {K : Frg} {mg : Str → Option Value} {base : Heap}
theorem ok_Carpet_UmulU (T : Tx w K mg) : FnG P w K mg base (L2.CX P w) 13 (He.ma K (He.ga K "Carpet") "__mul__") (spP K R_Carpet_UmulU) := by
  refine y_fn T.d_Carpet_UmulU sc_Carpet_UmulU arl2 (fun _ _ _ _ _ _ us hl => match us, hl with | [_, _], _ => rfl) fun cdv A outer s H E B hB hr hx po => ⟨_, (s_cons (s_asg (t := .tp [2, 3]) (y_tup (a_cons (y_opI (gop_bin2 T.bn_Net_Motion_mul T.m_Net_UmulU.at_ T.m_Net_UmulU.fn ((ok_Net_UmulU T).at (hr.mono (by decide))) hx) (bin2L (C := "Net") (ns := ["own_numbers"]) (C' := "Motion") (ns' := ["own_kind", "own_shift"])) (y_fld (cs := ["Carpet", "Woven"]) (ns := ["own_net", "own_text"]) (j := 0) (y_var (pv 0)) (all2 ⟨T.cl_Carpet, T.na_Carpet_own_net⟩ ⟨T.cl_Woven, T.na_Woven_own_net⟩)) (y_var (pv 1))) (a_cons (y_inv (C := "Motion") (ns := ["own_kind", "own_shift"]) T.m_Motion_UinvertU.at_ T.m_Motion_UinvertU.fn ((ok_Motion_UinvertU T).at (hr.mono (by decide))) hx (y_var (pv 1))) a_nil))) (g_tp (is := [2, 3]) rfl (pgs_cons (pg_name (i := 2) sc_Carpet_UmulU.nd rfl (by first | exact Or.inl rfl | exact Or.inr rfl)) (pgs_cons (pg_name (i := 3) sc_Carpet_UmulU.nd rfl (by first | exact Or.inl rfl | exact Or.inr rfl)) pgs_nil))))
  (s_one (s_ret (y_make T.mk_Woven (ok_Woven_UinitU T) (hr.mono (by decide)) rfl T.g_Woven hx (a_cons (y_var (pv 2)) (a_cons (y_join y_str (y_lc (own := [("place", 4)]) (t := .nm 4) rfl sc_Carpet_UmulU.nd (i_lst (y_meth0 (cs := ["Net"]) (ns := ["own_numbers"]) (y_var (pv 2)) (all1 ⟨T.cl_Net, T.m_Net_spots⟩) (ok_Net_spots T) (hr.mono (by decide)) hx)) (blkOk_by (own := [("place", 4)]) (N := N_Carpet_UmulU) (sc := defScope s_Carpet_UmulU) (by decide +kernel)) (fun _ _ _ _ _ => (g_nm (pg_name (i := 4) sc_Carpet_UmulU.nd rfl (by first | exact Or.inl rfl | exact Or.inr rfl)))) (fun _ _ _ _ _ => c_nil) (fun _ _ _ _ _ => (y_meth (cs := ["Carpet", "Woven"]) (ns := ["own_net", "own_text"]) (y_var (pv 0)) (all2 ⟨T.cl_Carpet, T.m_Carpet_seen⟩ ⟨T.cl_Woven, T.m_Woven_seen⟩) (ok_Carpet_seen T) (hr.mono (by decide)) px_nox (a_cons (y_meth (cs := ["Motion"]) (ns := ["own_kind", "own_shift"]) (y_var (pv 3)) (all1 ⟨T.cl_Motion, T.m_Motion_image⟩) (ok_Motion_image T) (hr.mono (by decide)) px_nox (a_cons (y_var (pv 4)) a_nil)) a_nil))))) a_nil)))))), fun ds Q h => ?_⟩
  obtain ⟨a0, a1, e0, hh⟩ := ar2E h
  clear h
  subst e0
  have h := hh
  clear hh
  try dsimp only at h
  rw [show startE (List.length N_Carpet_UmulU) [a0, a1] = [.val a0, .val a1, .no, .no, .no] from rfl]
  obtain ⟨C, w, q, r, t, k, m, rfl, rfl, ⟨hC, o, hM, z1, z2⟩, h⟩ := h
  have ho := mat_orth hM
  refine ⟨⟨hC, rfl⟩, .head _, rfl, .head _, rfl, w, q, r, k, m.1, m.2.1, m.2.2, rfl, rfl, ⟨⟨o.ok, o.sa.mono (by decide), o.sc.mono (by decide)⟩, hM⟩, fun a' b' c' i => ?_⟩
  refine ⟨.head _, rfl, k, m.1, m.2.1, m.2.2, rfl, ⟨hM, z1.mono (by decide), z2.mono (by decide)⟩, fun kt hkt => ⟨leN rfl, ?_⟩⟩
  have mx' : a' * c' ≤ 5000 := by rw [i.2.2]; exact o.mx
  have o' := okT_cell (g := movF (colF t w q r) m) i.1 mx'
  refine ⟨.head _, rfl, a', b', c', rfl, ⟨i.1, by omega⟩, by rw [List.length_map]; have := spots_le o'; omega, ?_⟩
  refine mapI_fun (xs := MN.spotsL a'.toNat c'.toNat) (g := fun p => .str (chr1 (movF (colF t w q r) m p))) ?_ ?_
  · intro p hp k hk
    obtain ⟨m1, m2, m3, m4⟩ := MN.spotsL_mem.mp hp
    have zp : Sz 1000 p.2 := (sz13 m3 (by have := o'.cl; have := o'.c; omega)).mono (by decide)
    have zp1 : Sz 1000 p.1 := (sz13 m1 (by have := o'.al; have := o'.a; omega)).mono (by decide)
    have t1 := (sz_turn hkt zp1 zp).2
    have t2 := sz_neg (sz_turn hkt z1 z2).2
    exact ⟨hC, rfl, .head _, rfl, kt, MN.tr m.1, _, _, p.1, p.2, rfl, rfl, ⟨hkt, zp1.mono (by decide), zp.mono (by decide)⟩, C, w, q, r, t, _, _, rfl, hC, rfl, ⟨o, (sz_add t1 t2).mono (by decide)⟩, hk⟩
  · refine join_cell i.1 mx' ⟨a', b', c', _, rfl, rfl, o', fun w' q' r' t' cp hw hr => h w' q' r' t' ?_ ?_⟩
    · rw [col_cell i.1 (keeps_img ho i fun x y z => o.keep z)] at cp
      exact cp
    · rw [← i.2.2]
      exact Int.mul_le_mul hw hr (by have := cp.ex.1.1; omega) (by have := o'.a; omega)
end
end K13
namespace K13
open PySem PySem.Spec PyProof.Rows L2 Z Y
section
variable {P : Program} {w : World} {K : Frg} {mg : Str → Option Value} {base : Heap}
theorem ok_Carpet_is_kept_by (T : Tx w K mg) : FnG P w K mg base (L2.CX P w) 15 (He.ma K (He.ga K "Carpet") "is_kept_by") (spP K R_Carpet_is_kept_by) := by
  refine y_fn T.d_Carpet_is_kept_by sc_Carpet_is_kept_by arl2 (fun _ _ _ _ _ _ us hl => match us, hl with | [_, _], _ => rfl) fun cdv A outer s H E B hB hr hx po => ⟨_, (s_one (s_ret (y_cmpI (gop_eqT T.tw_Carpet_Woven ((ok_Carpet_UeqU T).at (hr.mono (by decide))) hr.units hx) (eqTL (C := "Carpet") (C' := "Woven") (ns := ["own_net", "own_text"]) (cs := ["Net"]) T.tw_Carpet_Woven ⟨T.cl_Carpet, T.ow_Carpet⟩ ⟨T.cl_Woven, T.ow_Woven⟩ (all1 ⟨⟨T.cl_Net, T.ow_Net⟩, T.nf_Carpet_Net, T.nf_Woven_Net⟩) R_Carpet_UeqU_sym) (y_opI ((gop_bin2 T.bn_Carpet_Motion_mul T.m_Carpet_UmulU.at_ T.m_Carpet_UmulU.fn ((ok_Carpet_UmulU T).at (hr.mono (by decide))) hx).or (gop_bin2 T.bn_Woven_Motion_mul T.m_Woven_UmulU.at_ T.m_Woven_UmulU.fn ((ok_Carpet_UmulU T).at (hr.mono (by decide))) hx)) (bin2sL (C := "Carpet") (D' := "Woven") (ns := ["own_net", "own_text"]) (C' := "Motion") (ns' := ["own_kind", "own_shift"])) (y_var (pv 0)) (y_var (pv 1))) (y_var (pv 0)) (nomark _)))), fun ds Q h => ?_⟩
  obtain ⟨a0, a1, e0, hh⟩ := ar2E h
  clear h
  subst e0
  have h := hh
  clear hh
  try dsimp only at h
  rw [show startE (List.length N_Carpet_is_kept_by) [a0, a1] = [.val a0, .val a1] from rfl]
  obtain ⟨f, C, w, q, r, t, k, m, rfl, rfl, ⟨hC, cp, hM, z1, z2⟩, h⟩ := h
  have fe : colF t w q r = f := funext cp.col
  refine ⟨hC, rfl, .head _, rfl, C, w, q, r, t, k, m, rfl, rfl, ⟨hC, cp.okT, hM, z1, z2⟩, fun w' q' r' t' cp' _ => ?_⟩
  rw [fe] at cp'
  refine ⟨.tail _ (.head _), rfl, memT hC, _, _, _, _, _, rfl, .tail _ (.head _), .inl ⟨C, _, _, _, _, rfl, hC, ?_⟩⟩
  rw [carp_eq cp' cp]
  have : (false != sameF (movF f m) f) = sameF (movF f m) f := by simp
  show Q (.bl (false != sameF (movF f m) f))
  rw [this]
  exact h
end
end K13
namespace K13
open PySem PySem.Spec PyProof.Rows L2 Z Y
section
variable {P : Program} {w : World} {K : Frg} {mg : Str → Option Value} {base : Heap}
theorem ok__law_great (T : Tx w K mg) : FnG P w K mg base (L2.CX P w) 3 (He.ga K "_law_great") (spP K R__law_great) := by
  refine y_fn T.d__law_great sc__law_great arl2 (fun _ _ _ _ _ _ us hl => match us, hl with | [_, _], _ => rfl) fun cdv A outer s H E B hB hr hx po => ⟨_, (s_cons (s_set (i := 2) sc__law_great.nd rfl (by first | exact Or.inl rfl | exact Or.inr rfl) (y_op op_addY addL (y_op op_mulY mulL (y_call (ok__law_draw T) (hr.mono (by decide)) rfl T.g__law_draw T.k__law_draw hx (a_cons (y_var (pv 0)) (a_cons (y_op op_pow powL y_int y_int) a_nil))) (y_op op_pow powL y_int y_int)) (y_op op_mulY mulL (y_call (ok__law_draw T) (hr.mono (by decide)) rfl T.g__law_draw T.k__law_draw hx (a_cons (y_var (pv 0)) (a_cons (y_op op_pow powL y_int y_int) a_nil))) (y_op op_pow powL y_int y_int))))
  (s_cons (s_set (i := 3) sc__law_great.nd rfl (by first | exact Or.inl rfl | exact Or.inr rfl) (y_ix (y_lst (a_cons (y_call (ok__law_draw T) (hr.mono (by decide)) rfl T.g__law_draw T.k__law_draw hx (a_cons (y_var (pv 0)) (a_cons y_int a_nil))) (a_cons (y_call (ok__law_draw T) (hr.mono (by decide)) rfl T.g__law_draw T.k__law_draw hx (a_cons (y_var (pv 0)) (a_cons y_int a_nil))) (a_cons (y_op op_mod modL (y_op op_addY addL (y_var (pv 2)) (y_call (ok__law_draw T) (hr.mono (by decide)) rfl T.g__law_draw T.k__law_draw hx (a_cons (y_var (pv 0)) (a_cons (y_op op_pow powL y_int y_int) a_nil)))) (y_var (pv 1))) a_nil)))) (y_call (ok__law_draw T) (hr.mono (by decide)) rfl T.g__law_draw T.k__law_draw hx (a_cons (y_var (pv 0)) (a_cons y_int a_nil))) (fun _ _ => rfl)))
  (s_one (s_ret (y_op op_mulY mulL (y_var (pv 3)) (y_ix (y_lst (a_cons y_int (a_cons (y_un un_neg negL y_int) a_nil))) (y_call (ok__law_draw T) (hr.mono (by decide)) rfl T.g__law_draw T.k__law_draw hx (a_cons (y_var (pv 0)) (a_cons y_int a_nil))) (fun _ _ => rfl))))))), fun ds Q h => ?_⟩
  obtain ⟨a0, a1, e0, hh⟩ := ar2E h
  clear h
  subst e0
  have h := hh
  clear hh
  try dsimp only at h
  rw [show startE (List.length N__law_great) [a0, a1] = [.val a0, .val a1, .no, .no] from rfl]
  split at h
  · rename_i n
    obtain ⟨⟨h60, sn⟩, h⟩ := h
    have pw : ∀ k : Int, 0 ≤ k → k ≤ 1000 → (0 ≤ k ∧ k ≤ 1000 ∧ (10 : Int).natAbs < 18446744073709551616) := fun k a b => ⟨a, b, by decide⟩
    have e9 : (10 : Int) ^ (Int.toNat 9) = 1000000000 := by decide
    have s9 : Sz 100 ((10 : Int) ^ (Int.toNat 9)) := sz_lit (by decide)
    have s18 : Sz 100 ((10 : Int) ^ (Int.toNat 18)) := sz_lit (by decide)
    refine ⟨pw _ (by decide) (by decide), ⟨by rw [e9]; decide, s9.mono (by decide)⟩, fun d1 l1 u1 => ?_⟩
    refine ⟨pw _ (by decide) (by decide), ⟨(sz_of (by omega) u1 s9).mono (by decide), s18.mono (by decide)⟩, ?_⟩
    refine ⟨pw _ (by decide) (by decide), ⟨by rw [e9]; decide, s9.mono (by decide)⟩, fun d2 l2 u2 => ?_⟩
    refine ⟨pw _ (by decide) (by decide), ⟨(sz_of (by omega) u2 s9).mono (by decide), s9.mono (by decide)⟩, ?_⟩
    refine ⟨⟨by decide, szP (by decide) (by decide)⟩, fun d3 l3 u3 => ⟨⟨by decide, szP (by decide) (by decide)⟩, fun d4 l4 u4 => ?_⟩⟩
    refine ⟨pw _ (by decide) (by decide), ⟨by rw [e9]; decide, s9.mono (by decide)⟩, fun d5 l5 u5 => ⟨by omega, leN rfl, ?_⟩⟩
    generalize hv : (d1 * (10 : Int) ^ (Int.toNat 18) + d2 * (10 : Int) ^ (Int.toNat 9) + d5) % n = v
    have hv2 : 0 ≤ v ∧ v < n := by rw [← hv]; exact ⟨Int.emod_nonneg _ (by omega), Int.emod_lt_of_pos _ (by omega)⟩
    refine ⟨⟨by decide, szP (by decide) (by decide)⟩, fun d6 l6 u6 => ?_⟩
    obtain ⟨x, ex, mx⟩ := atI_D (ds := [D.int d3, D.int d4, D.int v]) l6 u6
    have hx : ∃ u : Int, x = .int u ∧ 0 ≤ u ∧ u < n := by
      simp only [List.mem_cons, List.not_mem_nil, or_false] at mx
      rcases mx with rfl | rfl | rfl
      · exact ⟨_, rfl, l3, by omega⟩
      · exact ⟨_, rfl, l4, by omega⟩
      · exact ⟨_, rfl, hv2.1, hv2.2⟩
    obtain ⟨u, rfl, u0, u1⟩ := hx
    refine dIx_l ex ⟨leN rfl, ⟨by decide, szP (by decide) (by decide)⟩, fun d7 l7 u7 => ?_⟩
    obtain ⟨y, ey, my⟩ := atI_D (ds := [D.int 1, D.int (-1)]) l7 u7
    have su : Sz 5000 u := (sz_le u0 (Int.le_of_lt u1) sn).mono (by decide)
    simp only [List.mem_cons, List.not_mem_nil, or_false] at my
    rcases my with rfl | rfl
    · exact dIx_l ey ⟨⟨su, szP (by decide) (by decide)⟩, h _ (by omega) (by omega)⟩
    · exact dIx_l ey ⟨⟨su, szP (by decide) (by decide)⟩, h _ (by omega) (by omega)⟩
  · exact h.elim
end
end K13
namespace K13
open PySem PySem.Spec PyProof.Rows L2 Z Y
section
variable {P : Program} {w : World} {K : Frg} {mg : Str → Option Value} {base : Heap}
theorem ok__law_place (T : Tx w K mg) : FnG P w K mg base (L2.CX P w) 5 (He.ga K "_law_place") (spP K R__law_place) := by
  refine y_fn T.d__law_place sc__law_place arl1 (fun _ _ _ _ _ _ us hl => match us, hl with | [_], _ => rfl) fun cdv A outer s H E B hB hr hx po => ⟨_, (s_one (s_ret (y_tup (a_cons (y_call (ok__law_great T) (hr.mono (by decide)) rfl T.g__law_great T.k__law_great hx (a_cons (y_var (pv 0)) (a_cons (y_op op_pow powL y_int y_int) a_nil))) (a_cons (y_call (ok__law_great T) (hr.mono (by decide)) rfl T.g__law_great T.k__law_great hx (a_cons (y_var (pv 0)) (a_cons (y_op op_pow powL y_int y_int) a_nil))) a_nil))))), fun ds Q h => ?_⟩
  obtain ⟨a0, e0, hh⟩ := ar1E h
  clear h
  subst e0
  have h := hh
  clear hh
  try dsimp only at h
  rw [show startE (List.length N__law_place) [a0] = [.val a0] from rfl]
  split at h
  · have s : Sz 100 ((10 : Int) ^ (Int.toNat 26)) := sz_lit (by decide)
    have g : 60 ≤ (10 : Int) ^ (Int.toNat 26) := by decide
    refine ⟨⟨by decide, by decide, by decide⟩, ⟨g, s.mono (by decide)⟩, fun d1 l1 u1 => ⟨⟨by decide, by decide, by decide⟩, ⟨g, s.mono (by decide)⟩, fun d2 l2 u2 => ⟨leN rfl, h _ _ (sz_of l1 u1 s) (sz_of l2 u2 s)⟩⟩⟩
  · exact h.elim
end
end K13
namespace K13
open PySem PySem.Spec PyProof.Rows L2 Z Y
section
variable {P : Program} {w : World} {K : Frg} {mg : Str → Option Value} {base : Heap}
theorem ok__law_low (T : Tx w K mg) : FnG P w K mg base (L2.CX P w) 1 (He.ga K "_law_low") (spP K R__law_low) := by
  refine y_fn T.d__law_low sc__law_low arl2 (fun _ _ _ _ _ _ us hl => match us, hl with | [_, _], _ => rfl) fun cdv A outer s H E B hB hr hx po => ⟨_, (s_cons (s_set (i := 2) sc__law_low.nd rfl (by first | exact Or.inl rfl | exact Or.inr rfl) (y_op op_fdivW divL (y_ix (y_var (pv 1)) y_int (fun _ _ => rfl)) (y_ix (y_var (pv 0)) y_int (fun _ _ => rfl))))
  (s_one (s_ret (y_tup (a_cons (y_op op_mod modL (y_op op_sub subL (y_ix (y_var (pv 1)) y_int (fun _ _ => rfl)) (y_op op_mulY mulL (y_var (pv 2)) (y_ix (y_var (pv 0)) y_int (fun _ _ => rfl)))) (y_ix (y_var (pv 0)) y_int (fun _ _ => rfl))) (a_cons (y_op op_sub subL (y_ix (y_var (pv 1)) y_int (fun _ _ => rfl)) (y_op op_mulY mulL (y_var (pv 2)) (y_ix (y_var (pv 0)) y_int (fun _ _ => rfl)))) a_nil)))))), fun ds Q h => ?_⟩
  obtain ⟨a0, a1, e0, hh⟩ := ar2E h
  clear h
  subst e0
  have h := hh
  clear hh
  try dsimp only at h
  rw [show startE (List.length N__law_low) [a0, a1] = [.val a0, .val a1, .no] from rfl]
  obtain ⟨a, b, c, x, y, rfl, rfl, ⟨o, sy⟩, h⟩ := h
  have sb : Sz 5000 b := o.b.mono (by decide)
  obtain ⟨⟨o1, o2, o3⟩, sa, sc⟩ := o
  have sr : Sz 5000 (y / c) := (sz_div c sy).mono (by decide)
  exact ⟨⟨by omega, sc.mono (by decide)⟩, ⟨sr, sb⟩, by omega, ⟨sr, sc.mono (by decide)⟩, leN rfl, h⟩
end
end K13
namespace K13
open PySem PySem.Spec PyProof.Rows L2 Z Y
section
variable {P : Program} {w : World} {K : Frg} {mg : Str → Option Value} {base : Heap}
theorem ok__law_spots (T : Tx w K mg) : FnG P w K mg base (L2.CX P w) 1 (He.ga K "_law_spots") (spP K R__law_spots) := by
  refine y_fn T.d__law_spots sc__law_spots arl1 (fun _ _ _ _ _ _ us hl => match us, hl with | [_], _ => rfl) fun cdv A outer s H E B hB hr hx po => ⟨_, (s_one (s_ret (y_lc (own := [("_law_at", 1)]) (t := .nm 1) rfl sc__law_spots.nd (i_rng1 (by rfl) T.b_range (a_cons (y_op op_mulY mulL (y_ix (y_var (pv 0)) y_int (fun _ _ => rfl)) (y_ix (y_var (pv 0)) y_int (fun _ _ => rfl))) a_nil)) (blkOk_by (own := [("_law_at", 1)]) (N := N__law_spots) (sc := defScope s__law_spots) (by decide +kernel)) (fun _ _ _ _ _ => (g_nm (pg_name (i := 1) sc__law_spots.nd rfl (by first | exact Or.inl rfl | exact Or.inr rfl)))) (fun _ _ _ _ _ => c_nil) (fun _ _ _ _ _ => (y_tup (a_cons (y_op op_mod modL (y_var (pv 1)) (y_ix (y_var (pv 0)) y_int (fun _ _ => rfl))) (a_cons (y_op op_fdivW divL (y_var (pv 1)) (y_ix (y_var (pv 0)) y_int (fun _ _ => rfl))) a_nil))))))), fun ds Q h => ?_⟩
  obtain ⟨a0, e0, hh⟩ := ar1E h
  clear h
  subst e0
  have h := hh
  clear hh
  try dsimp only at h
  rw [show startE (List.length N__law_spots) [a0] = [.val a0, .no] from rfl]
  obtain ⟨a, b, c, rfl, ⟨a1, c1, mx⟩, h⟩ := h
  obtain ⟨a', rfl⟩ := Int.eq_ofNat_of_zero_le (show 0 ≤ a by omega)
  obtain ⟨c', rfl⟩ := Int.eq_ofNat_of_zero_le (show 0 ≤ c by omega)
  have e : ((a' : Int) * (c' : Int)) = ((a' * c' : Nat) : Int) := by rw [Int.natCast_mul]
  have al : (a' : Int) ≤ 5000 := by
    have l1 : (a' : Int) * 1 ≤ (a' : Int) * c' := Int.mul_le_mul_of_nonneg_left c1 (by omega)
    omega
  have cl : (c' : Int) ≤ 5000 := by
    have l1 : 1 * (c' : Int) ≤ (a' : Int) * c' := Int.mul_le_mul_of_nonneg_right a1 (by omega)
    omega
  have za : Sz 13 (a' : Int) := sz13 (by omega) (by omega)
  have zc : Sz 13 (c' : Int) := sz13 (by omega) (by omega)
  refine ⟨⟨za.mono (by decide), zc.mono (by decide)⟩, by omega, by omega, by rw [e]; simp [rngD]; omega, ?_⟩
  refine ⟨fun i acc => acc = ((List.range i).map fun i : Nat => plD ((i : Int) % (a' : Int), (i : Int) / (a' : Int))), rfl, fun i d acc hd hj => ?_, fun out hj => ?_⟩
  · obtain ⟨hi, rfl⟩ := rngD_at hd
    rw [Int.zero_add]
    refine ifB_T rfl ?_
    refine ⟨by omega, ?_⟩
    refine ⟨⟨by omega, za.mono (by decide)⟩, leN rfl, ?_⟩
    show acc ++ [_] = _
    rw [hj, List.range_succ, List.map_append]
    rfl
  · have el : (rngD 0 ((a' : Int) * (c' : Int)).toNat).length = a' * c' := by rw [e, Int.toNat_natCast]; simp [rngD]
    rw [el] at hj
    subst hj
    rw [Int.toNat_natCast, Int.toNat_natCast, spots_range (by omega), List.map_map] at h
    exact h
end
end K13
namespace K13
open PySem PySem.Spec PyProof.Rows L2 Z Y
section
variable {P : Program} {w : World} {K : Frg} {mg : Str → Option Value} {base : Heap}
theorem ok__law_seen (T : Tx w K mg) : FnG P w K mg base (L2.CX P w) 3 (He.ga K "_law_seen") (spP K R__law_seen) := by
  refine y_fn T.d__law_seen sc__law_seen arl3 (fun _ _ _ _ _ _ us hl => match us, hl with | [_, _, _], _ => rfl) fun cdv A outer s H E B hB hr hx po => ⟨_, (s_cons (s_asg (t := .tp [3, 4]) (y_call (ok__law_low T) (hr.mono (by decide)) rfl T.g__law_low T.k__law_low hx (a_cons (y_var (pv 0)) (a_cons (y_var (pv 2)) a_nil))) (g_tp (is := [3, 4]) rfl (pgs_cons (pg_name (i := 3) sc__law_seen.nd rfl (by first | exact Or.inl rfl | exact Or.inr rfl)) (pgs_cons (pg_name (i := 4) sc__law_seen.nd rfl (by first | exact Or.inl rfl | exact Or.inr rfl)) pgs_nil))))
  (s_one (s_ret (y_ix (y_var (pv 1)) (y_op op_addY addL (y_op op_mulY mulL (y_var (pv 4)) (y_ix (y_var (pv 0)) y_int (fun _ _ => rfl))) (y_var (pv 3))) (fun _ _ => rfl))))), fun ds Q h => ?_⟩
  obtain ⟨a0, a1, a2, e0, hh⟩ := ar3E h
  clear h
  subst e0
  have h := hh
  clear hh
  try dsimp only at h
  rw [show startE (List.length N__law_seen) [a0, a1, a2] = [.val a0, .val a1, .val a2, .no, .no] from rfl]
  obtain ⟨a, b, c, t, x, y, rfl, rfl, rfl, ⟨o, zy⟩, h⟩ := h
  obtain ⟨r1, r2, r3, r4⟩ := MN.low_rng (a := a) (b := b) (c := c) (x := x) (y := y) o.a o.c
  exact ⟨a, b, c, x, y, rfl, rfl, ⟨⟨o.ok, o.sa.mono (by decide), o.sc.mono (by decide)⟩, zy⟩, ⟨(sz13 r3 (by have := o.cl; omega)).mono (by decide), o.sa.mono (by decide)⟩, ix_col o h⟩
end
end K13
namespace K13
open PySem PySem.Spec PyProof.Rows L2 Z Y
section
variable {P : Program} {w : World} {K : Frg} {mg : Str → Option Value} {base : Heap}
theorem ok__law_net (T : Tx w K mg) : FnG P w K mg base (L2.CX P w) 3 (He.ga K "_law_net") (spP K R__law_net) := by
  refine y_fn T.d__law_net sc__law_net arl2 (fun _ _ _ _ _ _ us hl => match us, hl with | [_, _], _ => rfl) fun cdv A outer s H E B hB hr hx po => ⟨_, (s_cons (s_set (i := 2) sc__law_net.nd rfl (by first | exact Or.inl rfl | exact Or.inr rfl) (y_op op_addY addL y_int (y_call (ok__law_draw T) (hr.mono (by decide)) rfl T.g__law_draw T.k__law_draw hx (a_cons (y_var (pv 0)) (a_cons (y_var (pv 1)) a_nil)))))
  (s_one (s_ret (y_tup (a_cons (y_var (pv 2)) (a_cons (y_call (ok__law_draw T) (hr.mono (by decide)) rfl T.g__law_draw T.k__law_draw hx (a_cons (y_var (pv 0)) (a_cons (y_var (pv 2)) a_nil))) (a_cons (y_op op_addY addL y_int (y_call (ok__law_draw T) (hr.mono (by decide)) rfl T.g__law_draw T.k__law_draw hx (a_cons (y_var (pv 0)) (a_cons (y_op op_fdivW divL (y_var (pv 1)) (y_var (pv 2))) a_nil)))) a_nil))))))), fun ds Q h => ?_⟩
  obtain ⟨a0, a1, e0, hh⟩ := ar2E h
  clear h
  subst e0
  have h := hh
  clear hh
  try dsimp only at h
  rw [show startE (List.length N__law_net) [a0, a1] = [.val a0, .val a1, .no] from rfl]
  split at h
  · rename_i n
    obtain ⟨⟨n0, sn⟩, h⟩ := h
    refine ⟨⟨n0, sn.mono (by decide)⟩, fun d1 l1 u1 => ?_⟩
    have z1 : Sz 1000 (1 + d1) := sz_le (by omega) (by omega) sn
    refine ⟨⟨by omega, z1.mono (by decide)⟩, fun d2 l2 u2 => ⟨⟨by omega, z1.mono (by decide)⟩, ?_⟩⟩
    have hq : 0 < n / (1 + d1) := Int.lt_of_lt_of_le (by decide) (Int.le_ediv_of_mul_le (a := 1) (by omega) (by omega))
    refine ⟨⟨hq, (sz_div _ sn).mono (by decide)⟩, fun d3 l3 u3 => ⟨leN rfl, h _ _ _ ⟨by omega, l2, u2⟩ ?_⟩⟩
    have h1 : (1 + d1) * (1 + d3) ≤ (1 + d1) * (n / (1 + d1)) := Int.mul_le_mul_of_nonneg_left (by omega) (by omega)
    have h2 := Int.mul_ediv_self_le (x := n) (k := 1 + d1) (by omega)
    omega
  · exact h.elim
end
end K13
namespace K13
open PySem PySem.Spec PyProof.Rows L2 Z Y
section
variable {P : Program} {w : World} {K : Frg} {mg : Str → Option Value} {base : Heap}
theorem ok__law_turned (T : Tx w K mg) : FnG P w K mg base (L2.CX P w) 1 (He.ga K "_law_turned") (spP K R__law_turned) := by
  refine y_fn T.d__law_turned sc__law_turned arl2 (fun _ _ _ _ _ _ us hl => match us, hl with | [_, _], _ => rfl) fun cdv A outer s H E B hB hr hx po => ⟨_, (s_cons (s_asg (t := .tp [2, 3]) (y_var (pv 1)) (g_tp (is := [2, 3]) rfl (pgs_cons (pg_name (i := 2) sc__law_turned.nd rfl (by first | exact Or.inl rfl | exact Or.inr rfl)) (pgs_cons (pg_name (i := 3) sc__law_turned.nd rfl (by first | exact Or.inl rfl | exact Or.inr rfl)) pgs_nil))))
  (s_cons (s_if (z_cmp (op_inY (hu65 hr)) inL (y_var (pv 0)) (y_lst (a_cons y_str (a_cons y_str a_nil))) rfl)
    (s_one (s_ret (y_if (z_cmp (op_eqY hr.units) eqL (y_var (pv 0)) y_str (nomark _)) (y_tup (a_cons (y_var (pv 2)) (a_cons (y_var (pv 3)) a_nil))) (y_tup (a_cons (y_var (pv 2)) (a_cons (y_op op_sub subL y_int (y_var (pv 3))) a_nil))))))
    s_nil)
  (s_cons (s_if (z_cmp (op_inY (hu65 hr)) inL (y_var (pv 0)) (y_lst (a_cons y_str (a_cons y_str a_nil))) rfl)
    (s_one (s_ret (y_if (z_cmp (op_eqY hr.units) eqL (y_var (pv 0)) y_str (nomark _)) (y_tup (a_cons (y_op op_sub subL y_int (y_var (pv 3))) (a_cons (y_var (pv 2)) a_nil))) (y_tup (a_cons (y_var (pv 3)) (a_cons (y_op op_sub subL y_int (y_var (pv 2))) a_nil))))))
    s_nil)
  (s_cons (s_if (z_cmp (op_inY (hu65 hr)) inL (y_var (pv 0)) (y_lst (a_cons y_str (a_cons y_str a_nil))) rfl)
    (s_one (s_ret (y_if (z_cmp (op_eqY hr.units) eqL (y_var (pv 0)) y_str (nomark _)) (y_tup (a_cons (y_op op_sub subL y_int (y_var (pv 2))) (a_cons (y_op op_sub subL y_int (y_var (pv 3))) a_nil))) (y_tup (a_cons (y_op op_sub subL y_int (y_var (pv 2))) (a_cons (y_var (pv 3)) a_nil))))))
    s_nil)
  (s_one (s_ret (y_if (z_cmp (op_eqY hr.units) eqL (y_var (pv 0)) y_str (nomark _)) (y_tup (a_cons (y_var (pv 3)) (a_cons (y_var (pv 2)) a_nil))) (y_tup (a_cons (y_op op_sub subL y_int (y_var (pv 3))) (a_cons (y_op op_sub subL y_int (y_var (pv 2))) a_nil)))))))))), fun ds Q h => ?_⟩
  obtain ⟨a0, a1, e0, hh⟩ := ar2E h
  clear h
  subst e0
  have h := hh
  clear hh
  try dsimp only at h
  rw [show startE (List.length N__law_turned) [a0, a1] = [.val a0, .val a1, .no, .no] from rfl]
  obtain ⟨s, M, x, y, rfl, rfl, hM, h⟩ := h
  rcases mat_cases hM with ⟨rfl, rfl⟩ | ⟨rfl, rfl⟩ | ⟨rfl, rfl⟩ | ⟨rfl, rfl⟩ | ⟨rfl, rfl⟩ | ⟨rfl, rfl⟩ | ⟨rfl, rfl⟩ | ⟨rfl, rfl⟩
  · exact ⟨leN rfl, ⟨by decide +kernel, by decide +kernel⟩, ifB_T (by decide +kernel) (ifB_T (by decide +kernel) ⟨leN rfl, (by simpa [MN.turn, plD] using h)⟩)⟩
  · exact ⟨leN rfl, ⟨by decide +kernel, by decide +kernel⟩, ifB_F (by decide +kernel) ⟨leN rfl, ⟨by decide +kernel, by decide +kernel⟩, ifB_T (by decide +kernel) (ifB_T (by decide +kernel) ⟨leN rfl, (by simpa [MN.turn, plD] using h)⟩)⟩⟩
  · exact ⟨leN rfl, ⟨by decide +kernel, by decide +kernel⟩, ifB_F (by decide +kernel) ⟨leN rfl, ⟨by decide +kernel, by decide +kernel⟩, ifB_F (by decide +kernel) ⟨leN rfl, ⟨by decide +kernel, by decide +kernel⟩, ifB_T (by decide +kernel) (ifB_T (by decide +kernel) ⟨leN rfl, (by simpa [MN.turn, plD] using h)⟩)⟩⟩⟩
  · exact ⟨leN rfl, ⟨by decide +kernel, by decide +kernel⟩, ifB_F (by decide +kernel) ⟨leN rfl, ⟨by decide +kernel, by decide +kernel⟩, ifB_T (by decide +kernel) (ifB_F (by decide +kernel) ⟨leN rfl, (by simpa [MN.turn, plD] using h)⟩)⟩⟩
  · exact ⟨leN rfl, ⟨by decide +kernel, by decide +kernel⟩, ifB_T (by decide +kernel) (ifB_F (by decide +kernel) ⟨leN rfl, (by simpa [MN.turn, plD] using h)⟩)⟩
  · exact ⟨leN rfl, ⟨by decide +kernel, by decide +kernel⟩, ifB_F (by decide +kernel) ⟨leN rfl, ⟨by decide +kernel, by decide +kernel⟩, ifB_F (by decide +kernel) ⟨leN rfl, ⟨by decide +kernel, by decide +kernel⟩, ifB_T (by decide +kernel) (ifB_F (by decide +kernel) ⟨leN rfl, (by simpa [MN.turn, plD] using h)⟩)⟩⟩⟩
  · exact ⟨leN rfl, ⟨by decide +kernel, by decide +kernel⟩, ifB_F (by decide +kernel) ⟨leN rfl, ⟨by decide +kernel, by decide +kernel⟩, ifB_F (by decide +kernel) ⟨leN rfl, ⟨by decide +kernel, by decide +kernel⟩, ifB_F (by decide +kernel) (ifB_T (by decide +kernel) ⟨leN rfl, (by simpa [MN.turn, plD] using h)⟩)⟩⟩⟩
  · exact ⟨leN rfl, ⟨by decide +kernel, by decide +kernel⟩, ifB_F (by decide +kernel) ⟨leN rfl, ⟨by decide +kernel, by decide +kernel⟩, ifB_F (by decide +kernel) ⟨leN rfl, ⟨by decide +kernel, by decide +kernel⟩, ifB_F (by decide +kernel) (ifB_F (by decide +kernel) ⟨leN rfl, (by simpa [MN.turn, plD] using h)⟩)⟩⟩⟩
end
end K13
namespace K13
open PySem PySem.Spec PyProof.Rows L2 Z Y
section
variable {P : Program} {w : World} {K : Frg} {mg : Str → Option Value} {base : Heap}
theorem ok__law_kinds (T : Tx w K mg) : FnG P w K mg base (L2.CX P w) 1 (He.ga K "_law_kinds") (spP K R__law_kinds) := by
  refine y_fn T.d__law_kinds sc__law_kinds arl0 (fun _ _ _ _ _ _ us hl => match us, hl with | [], _ => rfl) fun cdv A outer s H E B hB hr hx po => ⟨_, (s_one (s_ret (y_lst (a_cons y_str (a_cons y_str (a_cons y_str (a_cons y_str (a_cons y_str (a_cons y_str (a_cons y_str (a_cons y_str a_nil))))))))))), fun ds Q h => ?_⟩
  obtain ⟨e0, hh⟩ := ar0E h
  clear h
  subst e0
  have h := hh
  clear hh
  try dsimp only at h
  rw [show startE (List.length N__law_kinds) [] = [] from rfl]
  exact ⟨leN rfl, h⟩
end
end K13
namespace K13
open PySem PySem.Spec PyProof.Rows L2 Z Y
section
variable {P : Program} {w : World} {K : Frg} {mg : Str → Option Value} {base : Heap}
theorem ok__law_carried (T : Tx w K mg) : FnG P w K mg base (L2.CX P w) 3 (He.ga K "_law_carried") (spP K R__law_carried) := by
  refine y_fn T.d__law_carried sc__law_carried arl2 (fun _ _ _ _ _ _ us hl => match us, hl with | [_, _], _ => rfl) fun cdv A outer s H E B hB hr hx po => ⟨_, (s_cons (s_asg (t := .tp [2, 3]) (y_call (ok__law_turned T) (hr.mono (by decide)) rfl T.g__law_turned T.k__law_turned hx (a_cons (y_ix (y_var (pv 0)) y_int (fun _ _ => rfl)) (a_cons (y_var (pv 1)) a_nil))) (g_tp (is := [2, 3]) rfl (pgs_cons (pg_name (i := 2) sc__law_carried.nd rfl (by first | exact Or.inl rfl | exact Or.inr rfl)) (pgs_cons (pg_name (i := 3) sc__law_carried.nd rfl (by first | exact Or.inl rfl | exact Or.inr rfl)) pgs_nil))))
  (s_one (s_ret (y_tup (a_cons (y_op op_addY addL (y_var (pv 2)) (y_ix (y_ix (y_var (pv 0)) y_int (fun _ _ => rfl)) y_int (fun _ _ => rfl))) (a_cons (y_op op_addY addL (y_var (pv 3)) (y_ix (y_ix (y_var (pv 0)) y_int (fun _ _ => rfl)) y_int (fun _ _ => rfl))) a_nil)))))), fun ds Q h => ?_⟩
  obtain ⟨a0, a1, e0, hh⟩ := ar2E h
  clear h
  subst e0
  have h := hh
  clear hh
  try dsimp only at h
  rw [show startE (List.length N__law_carried) [a0, a1] = [.val a0, .val a1, .no, .no] from rfl]
  obtain ⟨k, m, x, y, rfl, rfl, hM, h⟩ := h
  exact ⟨k, m.1, x, y, rfl, rfl, hM, leN rfl, h⟩
end
end K13
namespace K13
open PySem PySem.Spec PyProof.Rows L2 Z Y
section
variable {P : Program} {w : World} {K : Frg} {mg : Str → Option Value} {base : Heap}
theorem ok__law_divisor (T : Tx w K mg) : FnG P w K mg base (L2.CX P w) 1 (He.ga K "_law_divisor") (spP K R_greatest_divisor) := by
  refine y_fn T.d__law_divisor sc__law_divisor arl2 (fun _ _ _ _ _ _ us hl => match us, hl with | [_, _], _ => rfl) fun cdv A outer s H E B hB hr hx po => ⟨_, (s_cons (s_while po (z_cmp (op_neY hr.units) neL (y_var (pv 1)) y_int (nomark _))
    (s_one (s_par (i := 0) (j := 1) (by rfl) sc__law_divisor.nd rfl rfl (by decide) rfl rfl (a_cons (y_var (pv 1)) (a_cons (y_op op_modN modZL (y_var (pv 0)) (y_var (pv 1))) a_nil)) (by rfl))))
  (s_one (s_ret (y_callB call_abs absL (by rfl) T.b_abs (by decide +kernel) (a_cons (y_var (pv 0)) a_nil))))), fun ds Q h => ?_⟩
  obtain ⟨a0, a1, e0, hh⟩ := ar2E h
  clear h
  subst e0
  have h := hh
  clear hh
  try dsimp only at h
  rw [show startE (List.length N__law_divisor) [a0, a1] = [.val a0, .val a1] from rfl]
  split at h
  · rename_i x y
    refine ⟨fun m ρ => ∃ x' y' : Int, ρ = [.val (.int x'), .val (.int y')] ∧ m = y'.natAbs ∧ Int.gcd x' y' = Int.gcd x y, ⟨_, _, _, rfl, rfl, rfl⟩, ?_⟩
    rintro m ρ ⟨x', y', rfl, rfl, hg⟩
    refine ifB_nd (fun hy => ⟨hy, _, MN.fmod_lt hy, y', x'.fmod y', rfl, rfl, ?_⟩) (fun hy => ?_)
    · rw [MN.fmod_gcd]
      exact hg
    · subst hy
      have e : (if x' < 0 then -x' else x') = ((Int.gcd x y : Nat) : Int) := by
        rw [← hg, Int.gcd_zero_right]
        split <;> omega
      show Q (.int (if x' < 0 then -x' else x'))
      rw [e]
      exact h
  · exact h.elim
end
end K13
namespace K13
open PySem PySem.Spec PyProof.Rows L2 Z Y
section
variable {P : Program} {w : World} {K : Frg} {mg : Str → Option Value} {base : Heap}
theorem ok__law_net_of (T : Tx w K mg) : FnG P w K mg base (L2.CX P w) 3 (He.ga K "_law_net_of") (spP K R__law_net_of) := by
  refine y_fn T.d__law_net_of sc__law_net_of arl1 (fun _ _ _ _ _ _ us hl => match us, hl with | [_], _ => rfl) fun cdv A outer s H E B hB hr hx po => ⟨_, (s_cons (s_asg (t := .tp [1, 2]) (y_tup (a_cons y_int (a_cons (y_tup (a_cons y_int (a_cons y_int a_nil))) a_nil))) (g_tp (is := [1, 2]) rfl (pgs_cons (pg_name (i := 1) sc__law_net_of.nd rfl (by first | exact Or.inl rfl | exact Or.inr rfl)) (pgs_cons (pg_name (i := 2) sc__law_net_of.nd rfl (by first | exact Or.inl rfl | exact Or.inr rfl)) pgs_nil))))
  (s_cons (s_for (t := .nm 3) po rfl (i_lst (y_var (pv 0))) (g_nm (pg_name (i := 3) sc__law_net_of.nd rfl (by first | exact Or.inl rfl | exact Or.inr rfl)))
    (s_cons (s_set (i := 4) sc__law_net_of.nd rfl (by first | exact Or.inl rfl | exact Or.inr rfl) (y_var (pv 3)))
  (s_cons (s_while po (z_cmp (op_neY hr.units) neL (y_ix (y_var (pv 4)) y_int (fun _ _ => rfl)) y_int (nomark _))
    (s_cons (s_set (i := 5) sc__law_net_of.nd rfl (by first | exact Or.inl rfl | exact Or.inr rfl) (y_op op_fdivZ divZL (y_ix (y_var (pv 2)) y_int (fun _ _ => rfl)) (y_ix (y_var (pv 4)) y_int (fun _ _ => rfl))))
  (s_one (s_par (i := 2) (j := 4) (by rfl) sc__law_net_of.nd rfl rfl (by decide) rfl rfl (a_cons (y_var (pv 4)) (a_cons (y_tup (a_cons (y_op op_sub subL (y_ix (y_var (pv 2)) y_int (fun _ _ => rfl)) (y_op op_mulY mulL (y_var (pv 5)) (y_ix (y_var (pv 4)) y_int (fun _ _ => rfl)))) (a_cons (y_op op_sub subL (y_ix (y_var (pv 2)) y_int (fun _ _ => rfl)) (y_op op_mulY mulL (y_var (pv 5)) (y_ix (y_var (pv 4)) y_int (fun _ _ => rfl)))) a_nil))) a_nil)) (by rfl)))))
  (s_one (s_set (i := 1) sc__law_net_of.nd rfl (by first | exact Or.inl rfl | exact Or.inr rfl) (y_call (ok__law_divisor T) (hr.mono (by decide)) rfl T.g__law_divisor T.k__law_divisor hx (a_cons (y_var (pv 1)) (a_cons (y_ix (y_var (pv 4)) y_int (fun _ _ => rfl)) a_nil))))))))
  (s_cons (s_if (z_pt (z_or (z_cmp (op_eqY hr.units) eqL (y_var (pv 1)) y_int (nomark _)) (z_or1 (z_cmp (op_eqY hr.units) eqL (y_ix (y_var (pv 2)) y_int (fun _ _ => rfl)) y_int (nomark _)))))
    (s_one (s_ret y_non))
    s_nil)
  (s_one (s_ret (y_tup (a_cons (y_var (pv 1)) (a_cons (y_op op_mod modL (y_op op_mulY mulL (y_ix (y_var (pv 2)) y_int (fun _ _ => rfl)) (y_ix (y_lst (a_cons y_int (a_cons (y_un un_neg negL y_int) a_nil))) (y_callT call_int1 int1L (by rfl) T.b_int (by decide +kernel) (a_cons (y_cmp op_lt cmpL (y_ix (y_var (pv 2)) y_int (fun _ _ => rfl)) y_int (nomark _)) a_nil)) (fun _ _ => rfl))) (y_var (pv 1))) (a_cons (y_callB call_abs absL (by rfl) T.b_abs (by decide +kernel) (a_cons (y_ix (y_var (pv 2)) y_int (fun _ _ => rfl)) a_nil)) a_nil))))))))), fun ds Q h => ?_⟩
  obtain ⟨a0, e0, hh⟩ := ar1E h
  clear h
  subst e0
  have h := hh
  clear hh
  try dsimp only at h
  rw [show startE (List.length N__law_net_of) [a0] = [.val a0, .no, .no, .no, .no, .no] from rfl]
  split at h
  · rename_i ds
    obtain ⟨S, rfl, ⟨n, hn, hl⟩, h⟩ := h
    have hbit : ∀ i, i ≤ S.length → n + 1 + i * (n + 2) + (n + 2) < 4000 := fun i hi => by
      have h1 : i * (n + 2) ≤ S.length * (n + 2) := Nat.mul_le_mul_right _ hi
      have h2 : (S.length + 2) * (n + 2) = S.length * (n + 2) + 2 * (n + 2) := Nat.add_mul _ _ _
      omega
    refine ⟨leN rfl, leN rfl, fun i ρ => ∃ a b c : Int, ∃ o4 o5 o6, ρ = [.val (.lst (S.map plD)), .val (.int a), .val (dPl b c), o4, o5, o6] ∧ MN.Eqv (S.take i) [(a, 0), (b, c)] ∧ 0 ≤ a ∧ a.natAbs ≤ 2 ^ (n + 1 + i * (n + 2)) ∧ b.natAbs ≤ 2 ^ (n + 1 + i * (n + 2)) ∧ c.natAbs ≤ 2 ^ n, ⟨0, 0, 0, _, _, _, rfl, MN.eqv_nil, by decide, Nat.zero_le _, Nat.zero_le _, Nat.zero_le _⟩, ?_, ?_⟩
    · rintro i d ρ hd ⟨a, b, c, o4, o5, o6, rfl, he, ha, sa, sb, sc⟩
      obtain ⟨⟨x0, y0⟩, hp, rfl⟩ := map_get hd
      have hi := lt_of_get hp
      obtain ⟨zx, zy⟩ := hn _ (List.mem_of_getElem? hp)
      have hb := hbit i (Nat.le_of_lt hi)
      refine ⟨fun m ρ => ∃ b' c' x y : Int, ∃ o6, ρ = [.val (.lst (S.map plD)), .val (.int a), .val (dPl b' c'), .val (plD (x0, y0)), .val (dPl x y), o6] ∧ MN.Eu (2 ^ (n + 1 + i * (n + 2) + n + 2)) (2 ^ n) b' c' x y ∧ MN.Eqv [(a, 0), (b', c'), (x, y)] [(a, 0), (b, c), (x0, y0)] ∧ m = y.natAbs,
        ⟨_, b, c, x0, y0, _, rfl, MN.Eu.start (by omega) sb sc (sz_le2 zx) (sz_le2 zy), MN.Eqv.refl _, rfl⟩, ?_⟩
      rintro m ρ ⟨b', c', x, y, o6, rfl, eu, ev, rfl⟩
      refine ifB_nd (fun hy => ?_) (fun hy => ?_)
      · have st : Sz 5000 (c'.fdiv y) := sz_of_le (Nat.le_trans (MN.abs_fdiv_le c' y) eu.hc) (by omega)
        have sx : Sz 5000 x := sz_of_le eu.hx (by omega)
        have sy : Sz 5000 y := sz_of_le eu.hy (by omega)
        exact ⟨⟨hy, sy.mono (by decide)⟩, ⟨st, sx⟩, ⟨st, sy⟩, leN rfl, _, (MN.fdiv_facts hy).1, x, y, b' - c'.fdiv y * x, c' - c'.fdiv y * y, _, rfl, eu.step hy, MN.eqv_step.symm.trans ev, rfl⟩
      · subst hy
        refine ⟨(Int.gcd a x : Nat), b', c', _, _, _, rfl, ?_, Int.natCast_nonneg _, ?_, ?_, eu.hc⟩
        · rw [List.take_add_one, hp]
          exact ((MN.eqv_more he).trans ev.symm).trans MN.eqv_gcd
        · have e1 : n + 1 + (i + 1) * (n + 2) = n + 1 + i * (n + 2) + n + 2 := by rw [Nat.add_mul]; omega
          rw [e1]
          show Int.gcd a x ≤ _
          by_cases h0 : a = 0
          · rw [h0, Int.gcd_zero_left]; exact eu.hx
          · have := Int.gcd_le_left x (show 0 < a by omega)
            have p : 2 ^ (n + 1 + i * (n + 2)) ≤ 2 ^ (n + 1 + i * (n + 2) + n + 2) := Nat.pow_le_pow_right (by decide) (by omega)
            omega
        · have e1 : n + 1 + (i + 1) * (n + 2) = n + 1 + i * (n + 2) + n + 2 := by rw [Nat.add_mul]; omega
          rw [e1]
          exact eu.hb
    · rintro ρ ⟨a, b, c, o4, o5, o6, rfl, he, ha, sa, sb, sc⟩
      rw [List.length_map] at he sa sb
      rw [List.take_length] at he
      have hb := hbit S.length (Nat.le_refl _)
      have za : Sz 4000 a := sz_of_le sa (by omega)
      have zb : Sz 4000 b := sz_of_le sb (by omega)
      have zc : Sz 4000 c := sz_of_le sc (by omega)
      have nn : SzF none := fun _ _ _ z => nomatch z
      refine ifB_d (fun h0 => ifB_T rfl (h none (MN.form_none he (.inl h0)) nn)) (fun h0 => ifB_d (fun h1 => h none (MN.form_none he (.inr h1)) nn) fun h1 => ?_)
      refine ⟨leN rfl, ?_⟩
      by_cases hc : c < 0
      · refine dIx_l (d := .int (-1)) (by show atI [D.int 1, D.int (-1)] (if decide (c < 0) = true then 1 else 0) = _; rw [decide_eq_true hc]; rfl) ⟨⟨zb.mono (by decide), szP (by decide) (by decide)⟩, by omega, leN rfl, ?_⟩
        have e : (D.tup [.int a, .int (b * -1 % a), .int (if c < 0 then -c else c)]) = optN (some (a, -b % a, -c)) := by
          rw [if_pos hc, show b * -1 = -b by omega]; rfl
        rw [e]
        refine h (some _) (MN.form_neg he (by omega) hc) ?_
        rintro _ _ _ e
        cases e
        exact ⟨za, sz_neg zc⟩
      · refine dIx_l (d := .int 1) (by show atI [D.int 1, D.int (-1)] (if decide (c < 0) = true then 1 else 0) = _; rw [decide_eq_false hc]; rfl) ⟨⟨zb.mono (by decide), szP (by decide) (by decide)⟩, by omega, leN rfl, ?_⟩
        have e : (D.tup [.int a, .int (b * 1 % a), .int (if c < 0 then -c else c)]) = optN (some (a, b % a, c)) := by
          rw [if_neg hc, Int.mul_one]; rfl
        rw [e]
        refine h (some _) (MN.form_pos he (by omega) (by omega)) ?_
        rintro _ _ _ e
        cases e
        exact ⟨za, zc⟩
  · exact h.elim
end
end K13
namespace K13
open PySem PySem.Spec PyProof.Rows L2 Z Y
section
variable {P : Program} {w : World} {K : Frg} {mg : Str → Option Value} {base : Heap}
theorem ok__law_keeps (T : Tx w K mg) : FnG P w K mg base (L2.CX P w) 3 (He.ga K "_law_keeps") (spP K R__law_keeps) := by
  refine y_fn T.d__law_keeps sc__law_keeps arl2 (fun _ _ _ _ _ _ us hl => match us, hl with | [_, _], _ => rfl) fun cdv A outer s H E B hB hr hx po => ⟨_, (s_cons (s_set (i := 2) sc__law_keeps.nd rfl (by first | exact Or.inl rfl | exact Or.inr rfl) (y_lst (a_cons (y_call (ok__law_turned T) (hr.mono (by decide)) rfl T.g__law_turned T.k__law_turned hx (a_cons (y_var (pv 1)) (a_cons (y_tup (a_cons (y_ix (y_var (pv 0)) y_int (fun _ _ => rfl)) (a_cons y_int a_nil))) a_nil))) (a_cons (y_call (ok__law_turned T) (hr.mono (by decide)) rfl T.g__law_turned T.k__law_turned hx (a_cons (y_var (pv 1)) (a_cons (y_tup (a_cons (y_ix (y_var (pv 0)) y_int (fun _ _ => rfl)) (a_cons (y_ix (y_var (pv 0)) y_int (fun _ _ => rfl)) a_nil))) a_nil))) a_nil))))
  (s_one (s_ret (y_cmp (op_eqY hr.units) eqL (y_lc (own := [("_law_row", 3)]) (t := .nm 3) rfl sc__law_keeps.nd (i_lst (y_var (pv 2))) (blkOk_by (own := [("_law_row", 3)]) (N := N__law_keeps) (sc := defScope s__law_keeps) (by decide +kernel)) (fun _ _ _ _ _ => (g_nm (pg_name (i := 3) sc__law_keeps.nd rfl (by first | exact Or.inl rfl | exact Or.inr rfl)))) (fun _ _ _ _ _ => (c_one (z_cmp (op_neY hr.units) neL (y_call (ok__law_low T) (hr.mono (by decide)) rfl T.g__law_low T.k__law_low px_nox (a_cons (y_var (pv 0)) (a_cons (y_var (pv 3)) a_nil))) (y_tup (a_cons y_int (a_cons y_int a_nil))) (nomark _)))) (fun _ _ _ _ _ => (y_var (pv 3)))) (y_lst a_nil) (nomark _))))), fun ds Q h => ?_⟩
  obtain ⟨a0, a1, e0, hh⟩ := ar2E h
  clear h
  subst e0
  have h := hh
  clear hh
  try dsimp only at h
  rw [show startE (List.length N__law_keeps) [a0, a1] = [.val a0, .val a1, .no, .no] from rfl]
  obtain ⟨a, b, c, s, M, rfl, rfl, ⟨o, hM⟩, h⟩ := h
  have o4 : okN 4000 a b c := ⟨o.1, o.2.1.mono (by decide), o.2.2.mono (by decide)⟩
  have tz : ∀ {x y : Int}, Sz 1000 x → Sz 1000 y → Sz 4000 (MN.turn M (x, y)).2 := fun {x y} hx hy => by
    rcases mat_cases hM with ⟨_, rfl⟩ | ⟨_, rfl⟩ | ⟨_, rfl⟩ | ⟨_, rfl⟩ | ⟨_, rfl⟩ | ⟨_, rfl⟩ | ⟨_, rfl⟩ | ⟨_, rfl⟩ <;> simp only [MN.turn] <;> first | exact (by simpa using hx.mono (by decide)) | exact (by simpa using hy.mono (by decide)) | exact (by simpa [Sz] using hx.mono (b := 4000) (by decide)) | exact (by simpa [Sz] using hy.mono (b := 4000) (by decide))
  have z0 : Sz 1000 (0 : Int) := szP (by decide) (by decide)
  have zb : Sz 1000 b := o.b.mono (by decide)
  refine ⟨leN rfl, s, M, a, 0, rfl, rfl, hM, leN rfl, s, M, b, c, rfl, rfl, hM, leN rfl, leN rfl, ?_⟩
  refine mapI_fil (xs := [MN.turn M (a, 0), MN.turn M (b, c)]) (f := plD) (g := plD) (p := fun q => !decide (MN.low a b c q.1 q.2 = (0, 0))) ?_ ?_
  · intro q hq k k' h1 h2
    have zq : Sz 4000 q.2 := by
      rcases List.mem_cons.mp hq with rfl | hq
      · exact tz (o.2.1.mono (by decide)) z0
      rcases List.mem_cons.mp hq with rfl | hq
      · exact tz zb (o.2.2.mono (by decide))
      cases hq
    refine ⟨a, b, c, q.1, q.2, rfl, rfl, ⟨o4, zq⟩, leN rfl, ⟨rfl, rfl⟩, ?_⟩
    rw [eqN2]
    have e : decide ((MN.low a b c q.1 q.2).1 = 0 ∧ (MN.low a b c q.1 q.2).2 = 0) = decide (MN.low a b c q.1 q.2 = (0, 0)) := decide_eq_decide.mpr ⟨fun z => Prod.ext z.1 z.2, fun z => by rw [z]; exact ⟨rfl, rfl⟩⟩
    rw [e]
    exact ifB_2 h1 h2
  · have okl : ∀ l : List (Int × Int), okD 8 (.lst (l.map plD)) = true := fun l => by
      show (l.map plD).all (okD 7) = true
      rw [List.all_map, List.all_eq_true]
      intro _ _
      rfl
    refine ⟨leN rfl, ⟨okl _, rfl⟩, ?_⟩
    have e : eqD (.lst (([MN.turn M (a, 0), MN.turn M (b, c)].filter fun q => !decide (MN.low a b c q.1 q.2 = (0, 0))).map plD)) (.lst []) = keepsN M a b c := by
      unfold keepsN
      by_cases c1 : MN.low a b c (MN.turn M (a, 0)).1 (MN.turn M (a, 0)).2 = (0, 0) <;> by_cases c2 : MN.low a b c (MN.turn M (b, c)).1 (MN.turn M (b, c)).2 = (0, 0) <;> simp [c1, c2, eqD, eqDs]
    rw [e]
    exact h
end
end K13
namespace K13
open PySem PySem.Spec PyProof.Rows L2 Z Y
section
variable {P : Program} {w : World} {K : Frg} {mg : Str → Option Value} {base : Heap}
theorem ok__law_move (T : Tx w K mg) : FnG P w K mg base (L2.CX P w) 5 (He.ga K "_law_move") (spP K R__law_move) := by
  refine y_fn T.d__law_move sc__law_move arl2 (fun _ _ _ _ _ _ us hl => match us, hl with | [_, _], _ => rfl) fun cdv A outer s H E B hB hr hx po => ⟨_, (s_cons (s_lc (i := 2) (own := [("_law_kind", 3)]) (t := .nm 3) rfl sc__law_move.nd rfl rfl (sw_true rfl rfl rfl (by decide +kernel)) (i_lst (y_call0 (ok__law_kinds T) (hr.mono (by decide)) rfl T.g__law_kinds T.k__law_kinds hx)) (blkOk_by (own := [("_law_kind", 3)]) (N := N__law_move) (sc := defScope s__law_move) (by decide +kernel)) (fun _ _ _ _ _ => (g_nm (pg_name (i := 3) sc__law_move.nd rfl (by first | exact Or.inl rfl | exact Or.inr rfl)))) (fun _ _ _ _ _ => (c_one (z_val (y_call (ok__law_keeps T) (hr.mono (by decide)) rfl T.g__law_keeps T.k__law_keeps px_nox (a_cons (y_var (pv 1)) (a_cons (y_var (pv 3)) a_nil)))))) (fun _ _ _ _ _ => (y_var (pv 3))))
  (s_one (s_ret (y_tup (a_cons (y_ix (y_var (pv 2)) (y_call (ok__law_draw T) (hr.mono (by decide)) rfl T.g__law_draw T.k__law_draw hx (a_cons (y_var (pv 0)) (a_cons (y_callB call_lenY lenL (by rfl) T.b_len (by decide +kernel) (a_cons (y_var (pv 2)) a_nil)) a_nil))) (fun _ _ => rfl)) (a_cons (y_tup (a_cons (y_op op_sub subL (y_call (ok__law_draw T) (hr.mono (by decide)) rfl T.g__law_draw T.k__law_draw hx (a_cons (y_var (pv 0)) (a_cons y_int a_nil))) y_int) (a_cons (y_op op_sub subL (y_call (ok__law_draw T) (hr.mono (by decide)) rfl T.g__law_draw T.k__law_draw hx (a_cons (y_var (pv 0)) (a_cons y_int a_nil))) y_int) a_nil))) a_nil)))))), fun ds Q h => ?_⟩
  obtain ⟨a0, a1, e0, hh⟩ := ar2E h
  clear h
  subst e0
  have h := hh
  clear hh
  try dsimp only at h
  rw [show startE (List.length N__law_move) [a0, a1] = [.val a0, .val a1, .no, .no] from rfl]
  obtain ⟨a, b, c, rfl, rfl, o, h⟩ := h
  have hmat : ∀ q ∈ matL, mat q.1 = some q.2 := by decide +kernel
  refine ⟨leN rfl, ?_⟩
  refine mapI_fil (xs := matL) (f := fun q => .str q.1) (g := fun q => .str q.1) (p := fun q => keepsN q.2 a b c) ?_ ?_
  · intro q hq k k' h1 h2
    exact ⟨a, b, c, q.1, q.2, rfl, rfl, ⟨o, hmat q hq⟩, ifB_2 h1 h2⟩
  · have kid : keepsN (1, 0, 0, 1) a b c = true := keepsN_id o.1
    have hid : (("none", (1, 0, 0, 1)) : Str × MN.Mat) ∈ matL.filter fun q => keepsN q.2 a b c := List.mem_filter.mpr ⟨.head _, kid⟩
    have hlen : (matL.filter fun q => keepsN q.2 a b c).length ≤ 8 := List.length_filter_le _ _
    have hpos : 0 < (matL.filter fun q => keepsN q.2 a b c).length := List.length_pos_of_mem hid
    generalize hg : (matL.filter fun q => keepsN q.2 a b c) = L at *
    have z : Sz 13 ((L.map fun q => D.str q.1).length : Int) := sz13 (by omega) (by rw [List.length_map]; omega)
    refine ⟨⟨by rw [List.length_map]; omega, z.mono (by decide)⟩, fun d d0 d1 => ?_⟩
    rw [List.length_map] at d1
    obtain ⟨j, rfl⟩ := Int.eq_ofNat_of_zero_le d0
    have hj : j < L.length := by omega
    have hm : L[j] ∈ L := List.getElem_mem hj
    refine dIx_l (d := .str L[j].1) (atI_nat (by rw [List.getElem?_map, List.getElem?_eq_getElem hj]; rfl)) ?_
    have hm2 : L[j] ∈ matL.filter fun q => keepsN q.2 a b c := by rw [hg]; exact hm
    obtain ⟨m1, m2⟩ := List.mem_filter.mp hm2
    refine ⟨⟨by decide, szP (by decide) (by decide)⟩, fun d2 l2 u2 => ⟨⟨by decide, szP (by decide) (by decide)⟩, fun d3 l3 u3 => ⟨leN rfl, leN rfl, ?_⟩⟩⟩
    exact h L[j].1 (L[j].2, d2 - 2, d3 - 2) (hmat _ m1) ⟨by show -2 ≤ d2 - 2; omega, by show d2 - 2 ≤ 2; omega⟩ ⟨by show -2 ≤ d3 - 2; omega, by show d3 - 2 ≤ 2; omega⟩ m2
end
end K13
namespace K13
open PySem PySem.Spec PyProof.Rows L2 Z Y
section
variable {P : Program} {w : World} {K : Frg} {mg : Str → Option Value} {base : Heap}
theorem ok__law_tied (T : Tx w K mg) : FnG P w K mg base (L2.CX P w) 5 (He.ga K "_law_tied") (spP K R__law_tied) := by
  refine y_fn T.d__law_tied sc__law_tied arl3 (fun _ _ _ _ _ _ us hl => match us, hl with | [_, _, _], _ => rfl) fun cdv A outer s H E B hB hr hx po => ⟨_, (s_cons (s_set (i := 3) sc__law_tied.nd rfl (by first | exact Or.inl rfl | exact Or.inr rfl) (y_call (ok__law_spots T) (hr.mono (by decide)) rfl T.g__law_spots T.k__law_spots hx (a_cons (y_var (pv 0)) a_nil)))
  (s_cons (s_dnew hB (i := 4) sc__law_tied.nd rfl (by first | exact Or.inl rfl | exact Or.inr rfl))
  (s_cons (s_for (t := .nm 5) po rfl (i_lst (y_var (pv 3))) (g_nm (pg_name (i := 5) sc__law_tied.nd rfl (by first | exact Or.inl rfl | exact Or.inr rfl)))
    (s_cons (s_own hB (i := 6) sc__law_tied.nd rfl (by first | exact Or.inl rfl | exact Or.inr rfl) (a_cons (y_var (pv 5)) a_nil))
  (s_one (s_while po (z_neE hr (pv 6))
    (s_cons (s_pop (i := 6) (j := 7) (pv 6) sc__law_tied.nd rfl (by first | exact Or.inl rfl | exact Or.inr rfl))
  (s_one (s_if (z_dnin hr (pv 4) (y_var (pv 7)))
    (s_cons (s_dput (i := 4) hr (pv 4) (y_var (pv 7)) (y_ix (y_var (pv 1)) (y_index hr (y_var (pv 3)) (y_var (pv 5))) (fun _ _ => rfl)))
  (s_one (s_cat hB (i := 6) (pv 6) sc__law_tied.nd rfl (by first | exact Or.inl rfl | exact Or.inr rfl) (y_lc (own := [("_law_move_here", 8)]) (t := .nm 8) rfl sc__law_tied.nd (i_lst (y_var (pv 2))) (blkOk_by (own := [("_law_move_here", 8)]) (N := N__law_tied) (sc := defScope s__law_tied) (by decide +kernel)) (fun _ _ _ _ _ => (g_nm (pg_name (i := 8) sc__law_tied.nd rfl (by first | exact Or.inl rfl | exact Or.inr rfl)))) (fun _ _ _ _ _ => c_nil) (fun _ _ _ _ _ => (y_call (ok__law_low T) (hr.mono (by decide)) rfl T.g__law_low T.k__law_low px_nox (a_cons (y_var (pv 0)) (a_cons (y_call (ok__law_carried T) (hr.mono (by decide)) rfl T.g__law_carried T.k__law_carried px_nox (a_cons (y_var (pv 8)) (a_cons (y_var (pv 7)) a_nil))) a_nil))))))))
    s_nil)))))))
  (s_one (s_ret (y_join y_str (y_lc (own := [("_law_spot", 5)]) (t := .nm 5) rfl sc__law_tied.nd (i_lst (y_var (pv 3))) (blkOk_by (own := [("_law_spot", 5)]) (N := N__law_tied) (sc := defScope s__law_tied) (by decide +kernel)) (fun _ _ _ _ _ => (g_nm (pg_name (i := 5) sc__law_tied.nd rfl (by first | exact Or.inl rfl | exact Or.inr rfl)))) (fun _ _ _ _ _ => c_nil) (fun _ _ _ _ _ => (y_dget hr (pv 4) (y_var (pv 5)) (fun _ _ => rfl)))))))))), fun ds Q h => ?_⟩
  obtain ⟨a0, a1, a2, e0, hh⟩ := ar3E h
  clear h
  subst e0
  have h := hh
  clear hh
  try dsimp only at h
  rw [show startE (List.length N__law_tied) [a0, a1, a2] = [.val a0, .val a1, .val a2, .no, .no, .no, .no, .no, .no] from rfl]
  obtain ⟨a, b, c, t, mv, rfl, rfl, rfl, ⟨o, mx, st, ml, hmat, hsz⟩, h⟩ := h
  have a0 := o.a
  have c0 := o.c
  have sl := spots_ln o
  have tl := o.ln
  have mS : ∀ p, p ∈ MN.spotsL a.toNat c.toNat ↔ (0 ≤ p.1 ∧ p.1 < a ∧ 0 ≤ p.2 ∧ p.2 < c) := fun p => by
    rw [MN.spotsL_mem]
    omega
  refine ⟨a, b, c, rfl, ⟨by omega, by omega, o.mx⟩, ?_⟩
  generalize hS : MN.spotsL a.toNat c.toNat = S at *
  have sN : S.length ≤ 2000 := by omega
  refine ⟨fun i ρ => ∃ (ps : List ((Int × Int) × Nat)) (o5 o6 o7 : Sl), ((ps.map (·.1)).Nodup ∧ (∀ q ∈ ps, q.1 ∈ S) ∧ (∀ q ∈ ps, q.2 ∈ t.cps.toList) ∧ (∀ p ∈ S.take i, p ∈ ps.map (·.1))) ∧ ρ = [.val (n3 a b c), .val (.str t), .val (.lst (mv.map fun q => mvD q.1 q.2)), .val (.lst (S.map plD)), .mu (.dct (kvP ps)), o5, o6, o7, .no], ⟨[], _, _, _, ⟨List.nodup_nil, (fun _ hq => nomatch hq), (fun _ hq => nomatch hq), fun p hp => by simp at hp⟩, rfl⟩, ?_, ?_⟩
  · rintro i d ρ hd ⟨ps, o5, o6, o7, ⟨n1, n2, n3', n4⟩, rfl⟩
    obtain ⟨s, hs, rfl⟩ := map_get hd
    have sm := List.mem_of_getElem? hs
    refine ⟨leN rfl, fun m ρ => ∃ (ps : List ((Int × Int) × Nat)) (l : List (Int × Int)) (o7 : Sl), ((ps.map (·.1)).Nodup ∧ (∀ q ∈ ps, q.1 ∈ S) ∧ (∀ q ∈ ps, q.2 ∈ t.cps.toList) ∧ (∀ p ∈ S.take i, p ∈ ps.map (·.1)) ∧ (∀ p ∈ l, p ∈ S) ∧ (s ∈ l ∨ s ∈ ps.map (·.1)) ∧ l.length + 5 * (S.length - ps.length) = m ∧ m ≤ 20000) ∧ ρ = [.val (n3 a b c), .val (.str t), .val (.lst (mv.map fun q => mvD q.1 q.2)), .val (.lst (S.map plD)), .mu (.dct (kvP ps)), .val (plD s), .mu (.lst (l.map plD)), o7, .no], ⟨_, ps, [s], _, ⟨n1, n2, n3', n4, (fun p hp => by rw [List.mem_singleton.mp hp]; exact sm), .inl List.mem_cons_self, rfl, by simp; omega⟩, rfl⟩, ?_⟩
    rintro m ρ ⟨ps, l, o7, ⟨n1, n2, n3', n4, l1, l2, l3, l4⟩, rfl⟩
    have psl : ps.length ≤ S.length := by
      have := nodup_le n1 (m := S) fun x hx => by obtain ⟨q, hq, rfl⟩ := List.mem_map.mp hx; exact n2 q hq
      rwa [List.length_map] at this
    refine ⟨okD_pls l, ifB_2 (fun e => ?_) (fun e => ?_)⟩
    · rcases List.eq_nil_or_concat l with rfl | ⟨l', x, rfl⟩
      · simp at e
      rw [List.concat_eq_append] at *
      have xS := l1 x (by simp)
      have hx : ((l' ++ [x]).map plD)[((l' ++ [x]).map plD).length - 1]? = some (plD x) := by simp
      have hd : ((l' ++ [x]).map plD).dropLast = l'.map plD := by simp
      show (match ((l' ++ [x]).map plD)[((l' ++ [x]).map plD).length - 1]? with | some d => _ | none => False)
      rw [hx, hd]
      refine ⟨⟨_, rfl⟩, dget_v (kvs := kvP ps) (p := x) rfl rfl ?_⟩
      rcases kvP_look x ps with ⟨k1, k2⟩ | ⟨n, k1, k2⟩
      · rw [k2]
        refine ifB_T rfl ⟨⟨_, rfl⟩, ?_⟩
        refine v_ (d := .str t) rfl (idx_v (l := S) (p := s) rfl rfl sm fun j hj => ?_)
        have jt : j < t.cps.toList.length := by omega
        refine dIx_s o.tl (atI_nat (List.getElem?_eq_getElem jt)) ?_
        refine dput_v (kvs := kvP ps) (p := x) rfl rfl (by rw [kvP_len]; omega) ?_
        rw [kvP_put k2]
        refine ⟨⟨_, rfl⟩, by rw [List.length_map]; omega, ?_⟩
        refine mapI_fun (xs := mv) (f := fun q => mvD q.1 q.2) (g := fun q => plD (MN.low a b c (MN.mapp q.2 x).1 (MN.mapp q.2 x).2)) ?_ ?_
        · intro q hq k hk
          have hM := hmat q hq
          have zx : Sz 13 x.1 := sz13 ((mS x).mp xS).1 (by have := ((mS x).mp xS).2.1; have := o.al; omega)
          have zy : Sz 13 x.2 := sz13 ((mS x).mp xS).2.2.1 (by have := ((mS x).mp xS).2.2.2; have := o.cl; omega)
          have zm : Sz 4000 (MN.mapp q.2 (x.1, x.2)).2 := by
            have zt : Sz 100 (MN.turn q.2.1 (x.1, x.2)).2 := by
              have zx' : Sz 100 x.1 := zx.mono (by decide)
              have zy' : Sz 100 x.2 := zy.mono (by decide)
              rcases mat_cases hM with ⟨_, e⟩ | ⟨_, e⟩ | ⟨_, e⟩ | ⟨_, e⟩ | ⟨_, e⟩ | ⟨_, e⟩ | ⟨_, e⟩ | ⟨_, e⟩ <;> rw [e] <;> simp only [MN.turn] <;> first | simpa using zx' | simpa using zy' | simpa [Sz] using zx' | simpa [Sz] using zy'
            exact (sz_add zt (hsz q hq).2).mono (by decide)
          exact ⟨q.1, q.2, x.1, x.2, rfl, rfl, hM, a, b, c, (MN.mapp q.2 x).1, (MN.mapp q.2 x).2, rfl, rfl, ⟨⟨o.ok, o.sa.mono (by decide), o.sc.mono (by decide)⟩, zm⟩, hk⟩
        · refine ⟨by simp; simp at l3; omega, ?_⟩
          have nd : ((ps ++ [(x, t.cps.toList[j])]).map (·.1)).Nodup := by
            rw [List.map_append]
            refine List.nodup_append.mpr ⟨n1, by simp, fun u hu v hv => ?_⟩
            have : v = x := by simpa using hv
            rw [this]
            exact fun e => k1 (e ▸ hu)
          have sub : ∀ q ∈ ps ++ [(x, t.cps.toList[j])], q.1 ∈ S := fun q hq => by
            rcases List.mem_append.mp hq with z | z
            · exact n2 q z
            · rw [List.mem_singleton.mp z]; exact xS
          have psl2 : ps.length + 1 ≤ S.length := by
            have := nodup_le nd (m := S) fun x hx => by obtain ⟨q, hq, rfl⟩ := List.mem_map.mp hx; exact sub q hq
            simpa using this
          have l3' : l'.length + 1 + 5 * (S.length - ps.length) = m := by simpa using l3
          refine ⟨l'.length + mv.length + 5 * (S.length - (ps.length + 1)), ?_, ps ++ [(x, t.cps.toList[j])], l' ++ mv.map fun q => MN.low a b c (MN.mapp q.2 x).1 (MN.mapp q.2 x).2, .val (plD x), ⟨nd, sub, ?_, ?_, ?_, ?_, ?_, ?_⟩, ?_⟩
          · omega
          · intro q hq
            rcases List.mem_append.mp hq with z | z
            · exact n3' q z
            · rw [List.mem_singleton.mp z]; exact List.getElem_mem jt
          · intro p hp
            rw [List.map_append]
            exact List.mem_append.mpr (.inl (n4 p hp))
          · intro p hp
            rcases List.mem_append.mp hp with z | z
            · exact l1 p (by simp [z])
            · obtain ⟨q, hq, rfl⟩ := List.mem_map.mp z
              exact (mS _).mpr (MN.low_rng (by omega) (by omega))
          · rw [List.map_append]
            rcases l2 with z | z
            · rcases List.mem_append.mp z with z | z
              · exact .inl (List.mem_append.mpr (.inl z))
              · rw [List.mem_singleton.mp z]; exact .inr (List.mem_append.mpr (.inr (by simp)))
            · exact .inr (List.mem_append.mpr (.inl z))
          · simp
          · omega
          · rw [List.map_append (l₁ := l') (l₂ := mv.map _), List.map_map]
            rfl
      · rw [k2]
        refine ifB_F rfl ⟨m - 1, ?_, ps, l', _, ⟨n1, n2, n3', n4, (fun p hp => l1 p (by simp [hp])), ?_, ?_, by omega⟩, rfl⟩
        · simp at l3; omega
        · rcases l2 with z | z
          · rcases List.mem_append.mp z with z | z
            · exact .inl z
            · rw [List.mem_singleton.mp z]; exact .inr (List.mem_map.mpr ⟨_, k1, rfl⟩)
          · exact .inr z
        · simp at l3; omega
    · cases l with
      | cons x l => simp at e
      | nil =>
        refine ⟨ps, _, _, _, ⟨n1, n2, n3', fun p hp => ?_⟩, rfl⟩
        rw [List.take_succ, hs] at hp
        rcases List.mem_append.mp hp with z | z
        · exact n4 p z
        · have : p = s := by simpa using z
          rw [this]
          rcases l2 with z | z
          · cases z
          · exact z
  · rintro ρ ⟨ps, o5, o6, o7, ⟨n1, n2, n3', n4⟩, rfl⟩
    rw [List.length_map, List.take_length] at n4
    refine ⟨by rw [List.length_map]; omega, ?_⟩
    refine mapI_rel (xs := S) (f := plD) (g := fun n => .str (chr1 n)) (R := fun _ n => n ∈ t.cps.toList) ?_ ?_
    · intro p hp k hk
      refine ⟨⟨_, rfl⟩, dget_v (kvs := kvP ps) (p := p) rfl rfl ?_⟩
      rcases kvP_look p ps with ⟨k1, k2⟩ | ⟨n, k1, k2⟩
      · exact absurd (n4 p hp) k1
      · rw [k2]
        exact hk n (n3' _ k1)
    · intro ys y1 y2
      refine join_ok (by omega) (h (ofL ys) ?_ ?_)
      · unfold ofL
        rw [List.toList_toArray]
        omega
      · intro x hx
        unfold ofL at hx
        rw [List.toList_toArray] at hx
        obtain ⟨i, hi⟩ := List.mem_iff_getElem?.mp hx
        have il := lt_of_get hi
        exact y2 i _ x (List.getElem?_eq_getElem (by omega)) hi
end
end K13
namespace K13
open PySem PySem.Spec PyProof.Rows L2 Z Y
section
variable {P : Program} {w : World} {K : Frg} {mg : Str → Option Value} {base : Heap}
theorem ok__law_letters (T : Tx w K mg) : FnG P w K mg base (L2.CX P w) 3 (He.ga K "_law_letters") (spP K R__law_letters) := by
  refine y_fn T.d__law_letters sc__law_letters arl2 (fun _ _ _ _ _ _ us hl => match us, hl with | [_, _], _ => rfl) fun cdv A outer s H E B hB hr hx po => ⟨_, (s_cons (s_set (i := 2) sc__law_letters.nd rfl (by first | exact Or.inl rfl | exact Or.inr rfl) (y_ix (y_lst (a_cons y_str (a_cons y_str (a_cons y_str (a_cons y_str a_nil))))) (y_call (ok__law_draw T) (hr.mono (by decide)) rfl T.g__law_draw T.k__law_draw hx (a_cons (y_var (pv 0)) (a_cons y_int a_nil))) (fun _ _ => rfl)))
  (s_one (s_ret (y_join y_str (y_lc (own := [("_law_k", 3)]) (t := .nm 3) rfl sc__law_letters.nd (i_rng1 (by rfl) T.b_range (a_cons (y_var (pv 1)) a_nil)) (blkOk_by (own := [("_law_k", 3)]) (N := N__law_letters) (sc := defScope s__law_letters) (by decide +kernel)) (fun _ _ _ _ _ => (g_nm (pg_name (i := 3) sc__law_letters.nd rfl (by first | exact Or.inl rfl | exact Or.inr rfl)))) (fun _ _ _ _ _ => c_nil) (fun _ _ _ _ _ => (y_ix (y_var (pv 2)) (y_call (ok__law_draw T) (hr.mono (by decide)) rfl T.g__law_draw T.k__law_draw px_nox (a_cons (y_var (pv 0)) (a_cons (y_callB call_lenY lenL (by rfl) T.b_len (by decide +kernel) (a_cons (y_var (pv 2)) a_nil)) a_nil))) (fun _ _ => rfl)))))))), fun ds Q h => ?_⟩
  obtain ⟨a0, a1, e0, hh⟩ := ar2E h
  clear h
  subst e0
  have h := hh
  clear hh
  try dsimp only at h
  rw [show startE (List.length N__law_letters) [a0, a1] = [.val a0, .val a1, .no, .no] from rfl]
  obtain ⟨n, rfl, rfl, ⟨n0, n1⟩, h⟩ := h
  refine ⟨leN rfl, ⟨by decide, szP (by decide) (by decide)⟩, fun d d0 d1 => ?_⟩
  obtain ⟨s, hs, e, hl⟩ : ∃ s ∈ letSets, atI [D.str ("ab" : Str), .str ("abc" : Str), .str ("az" : Str), .str ("qrb" : Str)] d = some (.str s) ∧ (0 < s.cps.toList.length ∧ s.cps.toList.length ≤ 3) := by
    have : d = 0 ∨ d = 1 ∨ d = 2 ∨ d = 3 := by omega
    rcases this with rfl | rfl | rfl | rfl
    · exact ⟨"ab", .head _, rfl, by decide +kernel⟩
    · exact ⟨"abc", .tail _ (.head _), rfl, by decide +kernel⟩
    · exact ⟨"az", .tail _ (.tail _ (.head _)), rfl, by decide +kernel⟩
    · exact ⟨"qrb", .tail _ (.tail _ (.tail _ (.head _))), rfl, by decide +kernel⟩
  refine dIx_l e ?_
  have p62 : (2 : Int) ^ 62 = 4611686018427387904 := by decide
  refine ⟨by omega, by omega, by simp [rngD]; omega, ?_⟩
  refine ⟨fun i acc => ∃ l : List Nat, l.length = i ∧ (∀ x ∈ l, x ∈ s.cps.toList) ∧ acc = l.map fun x => D.str (chr1 x), ⟨[], rfl, (fun _ hx => nomatch hx), rfl⟩, ?_, ?_⟩
  · rintro i e acc he ⟨l, l1, l2, rfl⟩
    have z : Sz 13 (s.length : Int) := sz13 (by omega) (by rw [slen]; omega)
    refine ifB_T rfl ⟨by rw [slen]; omega, ⟨by rw [slen]; omega, z.mono (by decide)⟩, fun k k0 k1 => ?_⟩
    rw [slen] at k1
    obtain ⟨x, e1, e2⟩ := atI_D (ds := s.cps.toList) k0 k1
    refine dIx_s (by omega) e1 ⟨l ++ [x], by simp [l1], fun y hy => ?_, by simp⟩
    rcases List.mem_append.mp hy with z | z
    · exact l2 y z
    · rw [List.mem_singleton.mp z]; exact e2
  · rintro out ⟨l, l1, l2, rfl⟩
    have el : l.length = n.toNat := by rw [l1]; simp [rngD]
    have et : (ofL l).cps.toList = l := List.toList_toArray
    refine join_ok (by omega) (h (ofL l) ?_ ⟨s, hs, ?_⟩)
    · rw [et]; omega
    · rw [et]; exact l2
end
end K13
namespace K13
open PySem PySem.Spec PyProof.Rows L2 Z Y
section
variable {P : Program} {w : World} {K : Frg} {mg : Str → Option Value} {base : Heap}
theorem ok__law_square (T : Tx w K mg) : FnG P w K mg base (L2.CX P w) 3 (He.ga K "_law_square") (spP K R__law_square) := by
  refine y_fn T.d__law_square sc__law_square arl2 (fun _ _ _ _ _ _ us hl => match us, hl with | [_, _], _ => rfl) fun cdv A outer s H E B hB hr hx po => ⟨_, (s_cut (s_set (i := 2) sc__law_square.nd rfl (by first | exact Or.inl rfl | exact Or.inr rfl) (y_op op_addY addL y_int (y_call (ok__law_draw T) (hr.mono (by decide)) rfl T.g__law_draw T.k__law_draw hx (a_cons (y_var (pv 0)) (a_cons (y_ix (y_lst (a_cons y_int (a_cons y_int a_nil))) (y_callT call_int1 int1L (by rfl) T.b_int (by decide +kernel) (a_cons (y_cmp op_gt cmpL (y_var (pv 1)) y_int (nomark _)) a_nil)) (fun _ _ => rfl)) a_nil)))))
  (s_cons (s_set (i := 3) sc__law_square.nd rfl (by first | exact Or.inl rfl | exact Or.inr rfl) (y_lst (a_cons (y_tup (a_cons (y_var (pv 2)) (a_cons y_int (a_cons (y_var (pv 2)) a_nil)))) (a_cons (y_tup (a_cons (y_op op_mulY mulL y_int (y_var (pv 2))) (a_cons (y_var (pv 2)) (a_cons (y_var (pv 2)) a_nil)))) (a_cons (y_tup (a_cons (y_var (pv 2)) (a_cons y_int (a_cons (y_op op_addY addL y_int (y_call (ok__law_draw T) (hr.mono (by decide)) rfl T.g__law_draw T.k__law_draw hx (a_cons (y_var (pv 0)) (a_cons (y_op op_fdivW divL (y_var (pv 1)) (y_var (pv 2))) a_nil)))) a_nil)))) a_nil)))))
  (s_one (s_ret (y_ix (y_lc (own := [("_law_net_here", 4)]) (t := .nm 4) rfl sc__law_square.nd (i_lst (y_var (pv 3))) (blkOk_by (own := [("_law_net_here", 4)]) (N := N__law_square) (sc := defScope s__law_square) (by decide +kernel)) (fun _ _ _ _ _ => (g_nm (pg_name (i := 4) sc__law_square.nd rfl (by first | exact Or.inl rfl | exact Or.inr rfl)))) (fun _ _ _ _ _ => (c_one (z_cmp op_le cmpL (y_op op_mulY mulL (y_ix (y_var (pv 4)) y_int (fun _ _ => rfl)) (y_ix (y_var (pv 4)) y_int (fun _ _ => rfl))) (y_var (pv 1)) (nomark _)))) (fun _ _ _ _ _ => (y_var (pv 4)))) (y_call (ok__law_draw T) (hr.mono (by decide)) rfl T.g__law_draw T.k__law_draw hx (a_cons (y_var (pv 0)) (a_cons y_int a_nil))) (fun _ _ => rfl)))))), fun ds Q h => ?_⟩
  obtain ⟨a0, a1, e0, hh⟩ := ar2E h
  clear h
  subst e0
  have h := hh
  clear hh
  try dsimp only at h
  rw [show startE (List.length N__law_square) [a0, a1] = [.val a0, .val a1, .no, .no, .no] from rfl]
  split at h
  · rename_i n
    obtain ⟨⟨n4, n1⟩, h⟩ := h
    have zn : Sz 10 n := by
      show n.natAbs < 2 ^ 10
      have : (2 : Nat) ^ 10 = 1024 := by decide
      omega
    have sm : ∀ x : Int, 0 ≤ x → x ≤ 1000 → Sz 10 x := fun x h0 h1 => by
      show x.natAbs < 2 ^ 10
      have : (2 : Nat) ^ 10 = 1024 := by decide
      omega
    have hm : ∃ m : Int, atI [D.int 2, D.int 4] (if decide (15 < n) = true then 1 else 0) = some (.int m) ∧ 0 < m ∧ m ≤ 4 ∧ m * m ≤ n := by
      by_cases c : 15 < n
      · rw [decide_eq_true c]
        exact ⟨4, rfl, by decide, by decide, by omega⟩
      · rw [decide_eq_false c]
        exact ⟨2, rfl, by decide, by decide, by omega⟩
    obtain ⟨m, em, m0, m4, mm⟩ := hm
    refine ⟨fun ρ => ∃ s : Int, 1 ≤ s ∧ s ≤ m ∧ ρ = [.val .tape, .val (.int n), .val (.int s), .no, .no], ⟨leN rfl, dIx_l em ⟨⟨m0, (sm m (by omega) (by omega)).mono (by decide)⟩, fun d1 l1 u1 => ⟨1 + d1, by omega, by omega, rfl⟩⟩⟩, ?_⟩
    rintro ρ ⟨s, s1, sm4, rfl⟩
    have ss : s * s ≤ n := Int.le_trans (Int.mul_le_mul sm4 sm4 (by omega) (by omega)) mm
    have zs : Sz 10 s := sm s (by omega) (by omega)
    have hq : 0 < n / s := Int.lt_of_lt_of_le (by decide) (Int.le_ediv_of_mul_le (a := 1) (by omega) (by omega))
    refine ⟨leN rfl, ⟨szP (by decide) (by decide), zs.mono (by decide)⟩, leN rfl, ⟨by omega, zs.mono (by decide)⟩, ⟨hq, (sz_div _ zn).mono (by decide)⟩, fun d2 l2 u2 => ?_⟩
    have h2 : s * (1 + d2) ≤ n := by
      have h1 : s * (1 + d2) ≤ s * (n / s) := Int.mul_le_mul_of_nonneg_left (by omega) (by omega)
      have h2 := Int.mul_ediv_self_le (x := n) (k := s) (by omega)
      omega
    have hd : 1 + d2 ≤ n := by
      have : 1 * (1 + d2) ≤ s * (1 + d2) := Int.mul_le_mul_of_nonneg_right s1 (by omega)
      omega
    have z2 : Sz 10 (1 + d2) := sm _ (by omega) (by omega)
    have z3 : Sz 12 (2 * s) := by
      show (2 * s).natAbs < 2 ^ 12
      have : (2 : Nat) ^ 12 = 4096 := by decide
      omega
    have k1 := h s 0 s ⟨by omega, by omega, by omega⟩ ss
    have k3 := h s 0 (1 + d2) ⟨by omega, by omega, by omega⟩ h2
    refine ⟨leN rfl, leN rfl, leN rfl, mapI_of ⟨⟨zs.mono (by decide), zs.mono (by decide)⟩, ifB_T (decide_eq_true ss) ⟨⟨z3.mono (by decide), zs.mono (by decide)⟩, ifB_d (fun c => ?_) (fun c => ?_)⟩⟩⟩
    · refine ⟨⟨zs.mono (by decide), z2.mono (by decide)⟩, ifB_T (decide_eq_true h2) ⟨⟨by decide, szP (by decide) (by decide)⟩, fun d3 l3 u3 => ?_⟩⟩
      have k2 := h (2 * s) s s ⟨by omega, by omega, by omega⟩ c
      have : d3 = 0 ∨ d3 = 1 := by omega
      rcases this with rfl | rfl
      · exact k1
      · exact k2
    · refine ⟨⟨zs.mono (by decide), z2.mono (by decide)⟩, ifB_T (decide_eq_true h2) ⟨⟨by decide, szP (by decide) (by decide)⟩, fun d3 l3 u3 => ?_⟩⟩
      have : d3 = 0 ∨ d3 = 1 := by omega
      rcases this with rfl | rfl
      · exact k1
      · exact k3
  · exact h.elim
end
end K13
namespace K13
open PySem PySem.Spec PyProof.Rows L2 Z Y
section
variable {P : Program} {w : World} {K : Frg} {mg : Str → Option Value} {base : Heap}
theorem ok__law_copied (T : Tx w K mg) : FnG P w K mg base (L2.CX P w) 5 (He.ga K "_law_copied") (spP K R__law_copied) := by
  refine y_fn T.d__law_copied sc__law_copied arl4 (fun _ _ _ _ _ _ us hl => match us, hl with | [_, _, _, _], _ => rfl) fun cdv A outer s H E B hB hr hx po => ⟨_, (s_cons (s_par (i := 4) (j := 5) (by rfl) sc__law_copied.nd rfl rfl (by decide) rfl rfl (a_cons (y_op op_addY addL y_int (y_call (ok__law_draw T) (hr.mono (by decide)) rfl T.g__law_draw T.k__law_draw hx (a_cons (y_var (pv 0)) (a_cons y_int a_nil)))) (a_cons (y_op op_addY addL y_int (y_call (ok__law_draw T) (hr.mono (by decide)) rfl T.g__law_draw T.k__law_draw hx (a_cons (y_var (pv 0)) (a_cons y_int a_nil)))) a_nil)) (by rfl))
  (s_cons (s_if (z_cmp op_gt cmpL (y_op op_mulY mulL (y_op op_mulY mulL (y_op op_mulY mulL (y_ix (y_var (pv 1)) y_int (fun _ _ => rfl)) (y_var (pv 4))) (y_ix (y_var (pv 1)) y_int (fun _ _ => rfl))) (y_var (pv 5))) (y_var (pv 3)) (nomark _))
    (s_one (s_ret (y_tup (a_cons (y_var (pv 1)) (a_cons (y_var (pv 2)) a_nil)))))
    s_nil)
  (s_cons (s_set (i := 6) sc__law_copied.nd rfl (by first | exact Or.inl rfl | exact Or.inr rfl) (y_tup (a_cons (y_op op_mulY mulL (y_ix (y_var (pv 1)) y_int (fun _ _ => rfl)) (y_var (pv 4))) (a_cons (y_op op_mod modL (y_op op_mulY mulL (y_ix (y_var (pv 1)) y_int (fun _ _ => rfl)) (y_var (pv 5))) (y_op op_mulY mulL (y_ix (y_var (pv 1)) y_int (fun _ _ => rfl)) (y_var (pv 4)))) (a_cons (y_op op_mulY mulL (y_ix (y_var (pv 1)) y_int (fun _ _ => rfl)) (y_var (pv 5))) a_nil)))))
  (s_one (s_ret (y_tup (a_cons (y_var (pv 6)) (a_cons (y_join y_str (y_lc (own := [("_law_spot", 7)]) (t := .nm 7) rfl sc__law_copied.nd (i_lst (y_call (ok__law_spots T) (hr.mono (by decide)) rfl T.g__law_spots T.k__law_spots hx (a_cons (y_var (pv 6)) a_nil))) (blkOk_by (own := [("_law_spot", 7)]) (N := N__law_copied) (sc := defScope s__law_copied) (by decide +kernel)) (fun _ _ _ _ _ => (g_nm (pg_name (i := 7) sc__law_copied.nd rfl (by first | exact Or.inl rfl | exact Or.inr rfl)))) (fun _ _ _ _ _ => c_nil) (fun _ _ _ _ _ => (y_call (ok__law_seen T) (hr.mono (by decide)) rfl T.g__law_seen T.k__law_seen px_nox (a_cons (y_var (pv 1)) (a_cons (y_var (pv 2)) (a_cons (y_var (pv 7)) a_nil))))))) a_nil)))))))), fun ds Q h => ?_⟩
  obtain ⟨a0, a1, a2, a3, e0, hh⟩ := ar4E h
  clear h
  subst e0
  have h := hh
  clear hh
  try dsimp only at h
  rw [show startE (List.length N__law_copied) [a0, a1, a2, a3] = [.val a0, .val a1, .val a2, .val a3, .no, .no, .no, .no] from rfl]
  obtain ⟨a, b, c, s, k, rfl, rfl, rfl, rfl, ⟨o, k0, k1⟩, h⟩ := h
  have a0 := o.a
  have c0 := o.c
  refine ⟨⟨by decide, szP (by decide) (by decide)⟩, fun d d0 d1 => ⟨⟨by decide, szP (by decide) (by decide)⟩, fun e e0 e1 => ?_⟩⟩
  have w0 : 0 < 1 + d := by omega
  have h0 : 0 < 1 + e := by omega
  have sm : ∀ x : Int, 0 ≤ x → x ≤ 30000 → Sz 15 x := fun x h0 h1 => by
    show x.natAbs < 2 ^ 15
    have : (2 : Nat) ^ 15 = 32768 := by decide
    omega
  have aw : a * (1 + d) ≤ 15000 := by
    have : a * (1 + d) ≤ 5000 * 3 := Int.mul_le_mul o.al (by omega) (by omega) (by omega)
    omega
  have aw0 : 0 < a * (1 + d) := Int.mul_pos a0 w0
  have acw0 : 0 < a * (1 + d) * c := Int.mul_pos aw0 c0
  have zw := sm (1 + d) (by omega) (by omega)
  have zh := sm (1 + e) (by omega) (by omega)
  have za := o.sa
  have zc := o.sc
  have zaw := sm (a * (1 + d)) (by omega) (by omega)
  have zawc : Sz 28 (a * (1 + d) * c) := sz_mul zaw zc
  refine ⟨⟨za.mono (by decide), zw.mono (by decide)⟩, ⟨zaw.mono (by decide), zc.mono (by decide)⟩, ⟨zawc.mono (by decide), zh.mono (by decide)⟩, ifB_d (fun z => ?_) (fun z => ?_)⟩
  · exact ⟨leN rfl, h a b c s o (.inr ⟨rfl, rfl⟩) (Int.dvd_refl _) (Int.dvd_refl _) rfl (fun _ hx => hx)⟩
  have zb : Sz 13 b := sz13 o.ok.2.1 (by have := o.ok.2; have := o.al; omega)
  have sz : a * (1 + d) * (c * (1 + e)) ≤ k := by rw [← Int.mul_assoc]; omega
  have ch0 : 0 < c * (1 + e) := Int.mul_pos c0 h0
  have ol : MN.Ok (a * (1 + d)) (b * (1 + e) % (a * (1 + d))) (c * (1 + e)) := ⟨by omega, Int.emod_nonneg _ (by omega), Int.emod_lt_of_pos _ aw0⟩
  have kl : ∀ x y, MN.InN (a * (1 + d)) (b * (1 + e) % (a * (1 + d))) (c * (1 + e)) x y → MN.Keeps (colF s a b c) x y := fun x y i => MN.keeps_net o.ok (MN.larger_in i)
  have col := MN.cellT_col (f := colF s a b c) ol kl
  have ot : okT (ofL (MN.cellT (colF s a b c) (a * (1 + d)) (c * (1 + e)))) (a * (1 + d)) (b * (1 + e) % (a * (1 + d))) (c * (1 + e)) := by
    refine ⟨ol, by omega, ?_⟩
    show (((MN.cellT (colF s a b c) (a * (1 + d)) (c * (1 + e))).toArray.toList.length : Nat) : Int) = _
    rw [List.toList_toArray, MN.cellT_len]
    rw [Int.natCast_mul]
    have e1 : (((a * (1 + d)).toNat : Nat) : Int) = a * (1 + d) := by omega
    have e2 : (((c * (1 + e)).toNat : Nat) : Int) = c * (1 + e) := by omega
    rw [e1, e2]
  refine ⟨⟨za.mono (by decide), zw.mono (by decide)⟩, ⟨zb.mono (by decide), zh.mono (by decide)⟩, ⟨za.mono (by decide), zw.mono (by decide)⟩, by omega, ⟨zc.mono (by decide), zh.mono (by decide)⟩, leN rfl, ?_⟩
  refine ⟨a * (1 + d), b * (1 + e) % (a * (1 + d)), c * (1 + e), rfl, ⟨by omega, by omega, by omega⟩, by rw [List.length_map]; have := spots_le ot; omega, ?_⟩
  refine mapI_fun (xs := MN.spotsL (a * (1 + d)).toNat (c * (1 + e)).toNat) (g := fun p => .str (chr1 (colF s a b c p))) ?_ ?_
  · intro p hp q hq
    obtain ⟨m1, m2, m3, m4⟩ := MN.spotsL_mem.mp hp
    have zy : Sz 15 p.2 := sm p.2 m3 (by have := ot.cl; omega)
    exact ⟨a, b, c, s, p.1, p.2, rfl, rfl, rfl, ⟨o, zy.mono (by decide)⟩, hq⟩
  · have ee : ((MN.spotsL (a * (1 + d)).toNat (c * (1 + e)).toNat).map fun p => D.str (chr1 (colF s a b c p))) = (MN.cellT (colF s a b c) (a * (1 + d)) (c * (1 + e))).map fun x => D.str (chr1 x) := by
      unfold MN.cellT
      rw [List.map_map]
      rfl
    rw [ee]
    refine join_ok (by rw [MN.cellT, List.length_map]; have := spots_le ot; omega) ⟨leN rfl, h _ _ _ _ ot (.inl sz) ⟨(1 + d), rfl⟩ ⟨(1 + e), rfl⟩ ?_ ?_⟩
    · funext p
      unfold colF ofL
      rw [List.toList_toArray]
      exact col p
    · intro x hx
      unfold ofL MN.cellT at hx
      rw [List.toList_toArray] at hx
      obtain ⟨p, _, rfl⟩ := List.mem_map.mp hx
      exact col_mem o p
end
end K13
namespace K13
open PySem PySem.Spec PyProof.Rows L2 Z Y
section
variable {P : Program} {w : World} {K : Frg} {mg : Str → Option Value} {base : Heap}
theorem ok__law_woven (T : Tx w K mg) : FnG P w K mg base (L2.CX P w) 7 (He.ga K "_law_woven") (spP K R__law_woven) := by
  refine y_fn T.d__law_woven sc__law_woven arl2 (fun _ _ _ _ _ _ us hl => match us, hl with | [_, _], _ => rfl) fun cdv A outer s H E B hB hr hx po => ⟨_, (s_cons (s_set (i := 2) sc__law_woven.nd rfl (by first | exact Or.inl rfl | exact Or.inr rfl) (y_call (ok__law_draw T) (hr.mono (by decide)) rfl T.g__law_draw T.k__law_draw hx (a_cons (y_var (pv 0)) (a_cons y_int a_nil))))
  (s_cut (s_if (z_cmp (op_eqY hr.units) eqL (y_var (pv 2)) y_int (nomark _))
    (s_cons (s_set (i := 3) sc__law_woven.nd rfl (by first | exact Or.inl rfl | exact Or.inr rfl) (y_call (ok__law_net T) (hr.mono (by decide)) rfl T.g__law_net T.k__law_net hx (a_cons (y_var (pv 0)) (a_cons (y_var (pv 1)) a_nil))))
  (s_one (s_ret (y_tup (a_cons (y_var (pv 3)) (a_cons (y_call (ok__law_letters T) (hr.mono (by decide)) rfl T.g__law_letters T.k__law_letters hx (a_cons (y_var (pv 0)) (a_cons (y_op op_mulY mulL (y_ix (y_var (pv 3)) y_int (fun _ _ => rfl)) (y_ix (y_var (pv 3)) y_int (fun _ _ => rfl))) a_nil))) a_nil))))))
    s_nil)
  (s_cut (s_if (z_cmp op_lt cmpL (y_var (pv 2)) y_int (nomark _))
    (s_cons (s_set (i := 3) sc__law_woven.nd rfl (by first | exact Or.inl rfl | exact Or.inr rfl) (y_call (ok__law_square T) (hr.mono (by decide)) rfl T.g__law_square T.k__law_square hx (a_cons (y_var (pv 0)) (a_cons (y_var (pv 1)) a_nil))))
  (s_cons (s_lc (i := 4) (own := [("_law_k", 8)]) (t := .nm 8) rfl sc__law_woven.nd rfl rfl (sw_true rfl rfl rfl (by decide +kernel)) (i_rng1 (by rfl) T.b_range (a_cons (y_op op_addY addL y_int (y_call (ok__law_draw T) (hr.mono (by decide)) rfl T.g__law_draw T.k__law_draw hx (a_cons (y_var (pv 0)) (a_cons y_int a_nil)))) a_nil)) (blkOk_by (own := [("_law_k", 8)]) (N := N__law_woven) (sc := defScope s__law_woven) (by decide +kernel)) (fun _ _ _ _ _ => (g_nm (pg_name (i := 8) sc__law_woven.nd rfl (by first | exact Or.inl rfl | exact Or.inr rfl)))) (fun _ _ _ _ _ => c_nil) (fun _ _ _ _ _ => (y_call (ok__law_move T) (hr.mono (by decide)) rfl T.g__law_move T.k__law_move px_nox (a_cons (y_var (pv 0)) (a_cons (y_var (pv 3)) a_nil)))))
  (s_one (s_ret (y_tup (a_cons (y_var (pv 3)) (a_cons (y_call (ok__law_tied T) (hr.mono (by decide)) rfl T.g__law_tied T.k__law_tied hx (a_cons (y_var (pv 3)) (a_cons (y_call (ok__law_letters T) (hr.mono (by decide)) rfl T.g__law_letters T.k__law_letters hx (a_cons (y_var (pv 0)) (a_cons (y_op op_mulY mulL (y_ix (y_var (pv 3)) y_int (fun _ _ => rfl)) (y_ix (y_var (pv 3)) y_int (fun _ _ => rfl))) a_nil))) (a_cons (y_var (pv 4)) a_nil)))) a_nil)))))))
    s_nil)
  (s_cons (s_if (z_cmp (op_eqY hr.units) eqL (y_var (pv 2)) y_int (nomark _))
    (s_cons (s_set (i := 3) sc__law_woven.nd rfl (by first | exact Or.inl rfl | exact Or.inr rfl) (y_call (ok__law_net T) (hr.mono (by decide)) rfl T.g__law_net T.k__law_net hx (a_cons (y_var (pv 0)) (a_cons (y_var (pv 1)) a_nil))))
  (s_cons (s_set (i := 5) sc__law_woven.nd rfl (by first | exact Or.inl rfl | exact Or.inr rfl) (y_ix (y_lst (a_cons (y_tup (a_cons y_int (a_cons y_int a_nil))) (a_cons (y_tup (a_cons y_int (a_cons y_int a_nil))) (a_cons (y_tup (a_cons y_int (a_cons y_int a_nil))) (a_cons (y_tup (a_cons y_int (a_cons (y_un un_neg negL y_int) a_nil))) a_nil))))) (y_call (ok__law_draw T) (hr.mono (by decide)) rfl T.g__law_draw T.k__law_draw hx (a_cons (y_var (pv 0)) (a_cons y_int a_nil))) (fun _ _ => rfl)))
  (s_cons (s_set (i := 6) sc__law_woven.nd rfl (by first | exact Or.inl rfl | exact Or.inr rfl) (y_call (ok__law_letters T) (hr.mono (by decide)) rfl T.g__law_letters T.k__law_letters hx (a_cons (y_var (pv 0)) (a_cons (y_op op_mulY mulL (y_ix (y_var (pv 3)) y_int (fun _ _ => rfl)) (y_ix (y_var (pv 3)) y_int (fun _ _ => rfl))) a_nil))))
  (s_cons (s_set (i := 7) sc__law_woven.nd rfl (by first | exact Or.inl rfl | exact Or.inr rfl) (y_ix (y_lst (a_cons y_int (a_cons y_int (a_cons (y_call (ok__law_divisor T) (hr.mono (by decide)) rfl T.g__law_divisor T.k__law_divisor hx (a_cons (y_ix (y_var (pv 3)) y_int (fun _ _ => rfl)) (a_cons (y_op op_addY addL (y_op op_mulY mulL (y_ix (y_var (pv 3)) y_int (fun _ _ => rfl)) (y_ix (y_var (pv 5)) y_int (fun _ _ => rfl))) (y_op op_mulY mulL (y_ix (y_var (pv 3)) y_int (fun _ _ => rfl)) (y_ix (y_var (pv 5)) y_int (fun _ _ => rfl)))) a_nil))) a_nil)))) (y_call (ok__law_draw T) (hr.mono (by decide)) rfl T.g__law_draw T.k__law_draw hx (a_cons (y_var (pv 0)) (a_cons y_int a_nil))) (fun _ _ => rfl)))
  (s_cons (s_set (i := 7) sc__law_woven.nd rfl (by first | exact Or.inl rfl | exact Or.inr rfl) (y_if (z_pt (z_and (z_cmp (op_eqY hr.units) eqL (y_op op_mod modL (y_op op_mulY mulL (y_ix (y_var (pv 3)) y_int (fun _ _ => rfl)) (y_ix (y_var (pv 5)) y_int (fun _ _ => rfl))) (y_var (pv 7))) y_int (nomark _)) (z_and1 (z_cmp (op_eqY hr.units) eqL (y_op op_mod modL (y_op op_addY addL (y_op op_mulY mulL (y_ix (y_var (pv 3)) y_int (fun _ _ => rfl)) (y_ix (y_var (pv 5)) y_int (fun _ _ => rfl))) (y_op op_mulY mulL (y_ix (y_var (pv 3)) y_int (fun _ _ => rfl)) (y_ix (y_var (pv 5)) y_int (fun _ _ => rfl)))) (y_var (pv 7))) y_int (nomark _))))) (y_var (pv 7)) y_int))
  (s_one (s_ret (y_tup (a_cons (y_var (pv 3)) (a_cons (y_join y_str (y_lc (own := [("_law_x", 9), ("_law_y", 10)]) (t := .tp [9, 10]) rfl sc__law_woven.nd (i_lst (y_call (ok__law_spots T) (hr.mono (by decide)) rfl T.g__law_spots T.k__law_spots hx (a_cons (y_var (pv 3)) a_nil))) (blkOk_by (own := [("_law_x", 9), ("_law_y", 10)]) (N := N__law_woven) (sc := defScope s__law_woven) (by decide +kernel)) (fun _ _ _ _ _ => (g_tp (is := [9, 10]) rfl (pgs_cons (pg_name (i := 9) sc__law_woven.nd rfl (by first | exact Or.inl rfl | exact Or.inr rfl)) (pgs_cons (pg_name (i := 10) sc__law_woven.nd rfl (by first | exact Or.inl rfl | exact Or.inr rfl)) pgs_nil)))) (fun _ _ _ _ _ => c_nil) (fun _ _ _ _ _ => (y_ix (y_var (pv 6)) (y_op op_mod modL (y_op op_addY addL (y_op op_mulY mulL (y_var (pv 9)) (y_ix (y_var (pv 5)) y_int (fun _ _ => rfl))) (y_op op_mulY mulL (y_var (pv 10)) (y_ix (y_var (pv 5)) y_int (fun _ _ => rfl)))) (y_var (pv 7))) (fun _ _ => rfl))))) a_nil))))))))))
    s_nil)
  (s_cons (s_set (i := 3) sc__law_woven.nd rfl (by first | exact Or.inl rfl | exact Or.inr rfl) (y_call (ok__law_net T) (hr.mono (by decide)) rfl T.g__law_net T.k__law_net hx (a_cons (y_var (pv 0)) (a_cons (y_op op_fdivW divL (y_var (pv 1)) y_int) a_nil))))
  (s_one (s_ret (y_call (ok__law_copied T) (hr.mono (by decide)) rfl T.g__law_copied T.k__law_copied hx (a_cons (y_var (pv 0)) (a_cons (y_var (pv 3)) (a_cons (y_call (ok__law_letters T) (hr.mono (by decide)) rfl T.g__law_letters T.k__law_letters hx (a_cons (y_var (pv 0)) (a_cons (y_op op_mulY mulL (y_ix (y_var (pv 3)) y_int (fun _ _ => rfl)) (y_ix (y_var (pv 3)) y_int (fun _ _ => rfl))) a_nil))) (a_cons (y_var (pv 1)) a_nil)))))))))))), fun ds Q h => ?_⟩
  obtain ⟨a0, a1, e0, hh⟩ := ar2E h
  clear h
  subst e0
  have h := hh
  clear hh
  try dsimp only at h
  rw [show startE (List.length N__law_woven) [a0, a1] = [.val a0, .val a1, .no, .no, .no, .no, .no, .no, .no, .no, .no] from rfl]
  obtain ⟨n, rfl, rfl, ⟨n4, n1⟩, h⟩ := h
  have zn : Sz 10 n := by
    show n.natAbs < 2 ^ 10
    have : (2 : Nat) ^ 10 = 1024 := by decide
    omega
  have sm : ∀ x : Int, 0 ≤ x → x ≤ 1000 → Sz 10 x := fun x h0 h1 => by
    show x.natAbs < 2 ^ 10
    have : (2 : Nat) ^ 10 = 1024 := by decide
    omega
  have bd : ∀ {x y m : Int}, 0 < x → 0 < y → x * y ≤ m → x ≤ m ∧ y ≤ m := fun {x y m} hx hy hm => by
    have l1 : x * 1 ≤ x * y := Int.mul_le_mul_of_nonneg_left (by omega) (by omega)
    have l2 : 1 * y ≤ x * y := Int.mul_le_mul_of_nonneg_right (by omega) (by omega)
    omega
  have lsub : ∀ {s t : Str}, lets s → (∀ x ∈ t.cps.toList, x ∈ s.cps.toList) → lets t := fun ⟨l, hl, h1⟩ h2 => ⟨l, hl, fun x hx => h1 x (h2 x hx)⟩
  refine ⟨⟨by decide, szP (by decide) (by decide)⟩, fun d d0 d1 => ?_⟩
  refine ⟨fun ρ => ρ = [.val .tape, .val (.int n), .val (.int d), .no, .no, .no, .no, .no, .no, .no, .no], ?_, ?_⟩
  · refine ifB_d (fun e => ?_) (fun e => rfl)
    refine ⟨⟨by omega, zn.mono (by decide)⟩, fun a b c ok mx => ?_⟩
    have a0 : 0 < a := by have := ok.2; omega
    have c0 : 0 < c := by have := ok.1; omega
    obtain ⟨la, lc⟩ := bd a0 c0 mx
    have za := sm a (by omega) (by omega)
    have zc := sm c (by omega) (by omega)
    have p0 := Int.mul_pos a0 c0
    exact ⟨⟨za.mono (by decide), zc.mono (by decide)⟩, a * c, rfl, rfl, ⟨by omega, by omega⟩, fun t tl le => ⟨leN rfl, h a b c t ⟨ok, mx, tl, le⟩⟩⟩
  rintro ρ rfl
  refine ⟨fun ρ => ρ = [.val .tape, .val (.int n), .val (.int d), .no, .no, .no, .no, .no, .no, .no, .no], ?_, ?_⟩
  · refine ifB_d (fun e => ?_) (fun e => rfl)
    refine ⟨⟨n4, n1⟩, fun a b c ok mx => ?_⟩
    have a0 : 0 < a := by have := ok.2; omega
    have c0 : 0 < c := by have := ok.1; omega
    obtain ⟨la, lc⟩ := bd a0 c0 mx
    have za := sm a (by omega) (by omega)
    have zc := sm c (by omega) (by omega)
    have p0 := Int.mul_pos a0 c0
    have p62 : (2 : Int) ^ 62 = 4611686018427387904 := by decide
    refine ⟨⟨by decide, szP (by decide) (by decide)⟩, fun k k0 k1 => ⟨by omega, by omega, by simp [rngD]; omega, ?_⟩⟩
    have er : rngD 0 (1 + k).toNat = (List.range (1 + k).toNat).map fun i : Nat => D.int (0 + ((i : Nat) : Int)) := rfl
    rw [er]
    refine mapI_rel (xs := List.range (1 + k).toNat) (g := fun q : Str × MN.Mtn => mvD q.1 q.2) (R := fun _ q => mat q.1 = some q.2.1 ∧ (-2 ≤ q.2.2.1 ∧ q.2.2.1 ≤ 2) ∧ (-2 ≤ q.2.2.2 ∧ q.2.2.2 ≤ 2)) ?_ ?_
    · intro x hx q hq
      exact ⟨a, b, c, rfl, rfl, ⟨ok, za.mono (by decide), zc.mono (by decide)⟩, fun s m m1 m2 m3 _ => hq (s, m) ⟨m1, m2, m3⟩⟩
    · intro mv ml mm
      rw [List.length_range] at ml
      have mm' : ∀ q ∈ mv, mat q.1 = some q.2.1 ∧ (-2 ≤ q.2.2.1 ∧ q.2.2.1 ≤ 2) ∧ (-2 ≤ q.2.2.2 ∧ q.2.2.2 ≤ 2) := fun q hq => by
        obtain ⟨i, hi⟩ := List.mem_iff_getElem?.mp hq
        have il := lt_of_get hi
        exact mm i i q (List.getElem?_range (by omega)) hi
      have s2 : ∀ x : Int, -2 ≤ x → x ≤ 2 → Sz 100 x := fun x h1 h2 => by
        have : Sz 13 x := by
          show x.natAbs < 2 ^ 13
          have : (2 : Nat) ^ 13 = 8192 := by decide
          omega
        exact this.mono (by decide)
      refine ⟨⟨za.mono (by decide), zc.mono (by decide)⟩, a * c, rfl, rfl, ⟨by omega, by omega⟩, fun t tl le => ?_⟩
      exact ⟨a, b, c, t, mv, rfl, rfl, rfl, ⟨⟨ok, by omega, tl⟩, by omega, lowS_ok (lets_low le), by omega, fun q hq => (mm' q hq).1, fun q hq => ⟨s2 _ (mm' q hq).2.1.1 (mm' q hq).2.1.2, s2 _ (mm' q hq).2.2.1 (mm' q hq).2.2.2⟩⟩, fun t' tl' hm => ⟨leN rfl, h a b c t' ⟨ok, mx, tl', lsub le hm⟩⟩⟩
  rintro ρ rfl
  refine ifB_d (fun e => ?_) (fun e => ?_)
  · refine ⟨⟨by omega, zn.mono (by decide)⟩, fun a b c ok mx => ?_⟩
    have a0 : 0 < a := by have := ok.2; omega
    have c0 : 0 < c := by have := ok.1; omega
    obtain ⟨la, lc⟩ := bd a0 c0 mx
    have za := sm a (by omega) (by omega)
    have zc := sm c (by omega) (by omega)
    have zb := sm b (by have := ok.2; omega) (by have := ok.2; omega)
    have p0 := Int.mul_pos a0 c0
    refine ⟨leN rfl, leN rfl, leN rfl, leN rfl, leN rfl, ⟨by decide, szP (by decide) (by decide)⟩, fun k k0 k1 => ?_⟩
    obtain ⟨u, v, ek, uv⟩ : ∃ u v : Int, atI [dPl 1 0, dPl 0 1, dPl 1 1, dPl 1 (-1)] k = some (dPl u v) ∧ ((u = 1 ∧ (v = 0 ∨ v = 1 ∨ v = -1)) ∨ (u = 0 ∧ v = 1)) := by
      have : k = 0 ∨ k = 1 ∨ k = 2 ∨ k = 3 := by omega
      rcases this with rfl | rfl | rfl | rfl
      · exact ⟨1, 0, rfl, by omega⟩
      · exact ⟨0, 1, rfl, by omega⟩
      · exact ⟨1, 1, rfl, by omega⟩
      · exact ⟨1, -1, rfl, by omega⟩
    refine dIx_l ek ?_
    have zu : Sz 10 u := by
      show u.natAbs < 2 ^ 10
      have : (2 : Nat) ^ 10 = 1024 := by decide
      omega
    have zv : Sz 10 v := by
      show v.natAbs < 2 ^ 10
      have : (2 : Nat) ^ 10 = 1024 := by decide
      omega
    refine ⟨⟨za.mono (by decide), zc.mono (by decide)⟩, a * c, rfl, rfl, ⟨by omega, by omega⟩, fun t tl le => ?_⟩
    refine ⟨⟨zb.mono (by decide), zu.mono (by decide)⟩, ⟨zc.mono (by decide), zv.mono (by decide)⟩, leN rfl, ⟨by decide, szP (by decide) (by decide)⟩, fun j j0 j1 => ?_⟩
    obtain ⟨g, eg, g0⟩ : ∃ g : Int, atI [D.int 1, D.int 2, D.int ((Int.gcd a (b * u + c * v) : Nat) : Int)] j = some (.int g) ∧ 0 < g := by
      have : j = 0 ∨ j = 1 ∨ j = 2 := by omega
      rcases this with rfl | rfl | rfl
      · exact ⟨1, rfl, by decide⟩
      · exact ⟨2, rfl, by decide⟩
      · refine ⟨_, rfl, ?_⟩
        have : Int.gcd a (b * u + c * v) ≠ 0 := fun z => by
          rw [Int.gcd_eq_zero_iff] at z
          omega
        omega
    refine dIx_l eg ?_
    have fin : ∀ s : Int, 0 < s → s ≤ a * c → ∀ p ∈ MN.spotsL a.toNat c.toNat, ((p.1 * u + p.2 * v) % s).toNat < t.cps.toList.length := fun s s0 s1 p _ => by
      have := Int.emod_nonneg (p.1 * u + p.2 * v) (show s ≠ 0 by omega)
      have := Int.emod_lt_of_pos (p.1 * u + p.2 * v) s0
      omega
    have oT : okT t a b c := ⟨ok, by omega, tl⟩
    have key : g ∣ a * u → g ∣ b * u + c * v → g ≤ a * c := fun h1 h2 => by
      rcases uv with ⟨rfl, _⟩ | ⟨rfl, rfl⟩
      · rw [Int.mul_one] at h1
        have := Int.le_of_dvd a0 h1
        have : a * 1 ≤ a * c := Int.mul_le_mul_of_nonneg_left (by omega) (by omega)
        omega
      · rw [Int.mul_zero, Int.zero_add, Int.mul_one] at h2
        have := Int.le_of_dvd c0 h2
        have : 1 * c ≤ a * c := Int.mul_le_mul_of_nonneg_right (by omega) (by omega)
        omega
    refine ⟨⟨za.mono (by decide), zu.mono (by decide)⟩, g0, ifB_d (fun e1 => ⟨⟨zb.mono (by decide), zu.mono (by decide)⟩, ⟨zc.mono (by decide), zv.mono (by decide)⟩, g0, ifB_d (fun e2 => ?_) (fun e2 => ?_)⟩) (fun e1 => ifB_F rfl ?_)⟩
    · have s1 := key (Int.dvd_of_emod_eq_zero e1) (Int.dvd_of_emod_eq_zero e2)
      refine ⟨a, b, c, rfl, ⟨by omega, by omega, by omega⟩, by rw [List.length_map]; have := spots_le oT; omega, ?_⟩
      refine mapI_rel (xs := MN.spotsL a.toNat c.toNat) (f := plD) (g := fun n => .str (chr1 n)) (R := fun _ n => n ∈ t.cps.toList) ?_ (fun ys y1 y2 => ?_)
      · intro p hp k hk
        obtain ⟨m1, m2, m3, m4⟩ := MN.spotsL_mem.mp hp
        have zx : Sz 10 p.1 := sm _ m1 (by omega)
        have zy : Sz 10 p.2 := sm _ m3 (by omega)
        have hi := fin g g0 s1 p hp
        refine ⟨⟨zx.mono (by decide), zu.mono (by decide)⟩, ⟨zy.mono (by decide), zv.mono (by decide)⟩, g0, ?_⟩
        have e0 := Int.emod_nonneg (p.1 * u + p.2 * v) (show g ≠ 0 by omega)
        have e3 : (p.1 * u + p.2 * v) % g = ((((p.1 * u + p.2 * v) % g).toNat : Nat) : Int) := by omega
        rw [e3]
        exact dIx_s oT.tl (atI_nat (List.getElem?_eq_getElem hi)) (hk _ (List.getElem_mem hi))
      · refine join_ok (by have := spots_le oT; omega) ⟨leN rfl, h a b c (ofL ys) ⟨ok, mx, ?_, lsub le ?_⟩⟩
        · unfold ofL
          rw [List.toList_toArray, y1]
          exact spots_ln oT
        · intro x hx
          unfold ofL at hx
          rw [List.toList_toArray] at hx
          obtain ⟨i, hi⟩ := List.mem_iff_getElem?.mp hx
          have il := lt_of_get hi
          exact y2 i _ x (List.getElem?_eq_getElem (by omega)) hi
    all_goals
      refine ⟨a, b, c, rfl, ⟨by omega, by omega, by omega⟩, by rw [List.length_map]; have := spots_le oT; omega, ?_⟩
      refine mapI_rel (xs := MN.spotsL a.toNat c.toNat) (f := plD) (g := fun n => .str (chr1 n)) (R := fun _ n => n ∈ t.cps.toList) ?_ (fun ys y1 y2 => ?_)
      · intro p hp k hk
        obtain ⟨m1, m2, m3, m4⟩ := MN.spotsL_mem.mp hp
        have zx : Sz 10 p.1 := sm _ m1 (by omega)
        have zy : Sz 10 p.2 := sm _ m3 (by omega)
        have hi := fin 1 (by decide) (by omega) p hp
        refine ⟨⟨zx.mono (by decide), zu.mono (by decide)⟩, ⟨zy.mono (by decide), zv.mono (by decide)⟩, by decide, ?_⟩
        have e0 := Int.emod_nonneg (p.1 * u + p.2 * v) (show (1 : Int) ≠ 0 by omega)
        have e3 : (p.1 * u + p.2 * v) % 1 = ((((p.1 * u + p.2 * v) % 1).toNat : Nat) : Int) := by omega
        rw [e3]
        exact dIx_s oT.tl (atI_nat (List.getElem?_eq_getElem hi)) (hk _ (List.getElem_mem hi))
      · refine join_ok (by have := spots_le oT; omega) ⟨leN rfl, h a b c (ofL ys) ⟨ok, mx, ?_, lsub le ?_⟩⟩
        · unfold ofL
          rw [List.toList_toArray, y1]
          exact spots_ln oT
        · intro x hx
          unfold ofL at hx
          rw [List.toList_toArray] at hx
          obtain ⟨i, hi⟩ := List.mem_iff_getElem?.mp hx
          have il := lt_of_get hi
          exact y2 i _ x (List.getElem?_eq_getElem (by omega)) hi
  · refine ⟨⟨by decide, szP (by decide) (by decide)⟩, ⟨by omega, (sz_div _ zn).mono (by decide)⟩, fun a b c ok mx => ?_⟩
    have a0 : 0 < a := by have := ok.2; omega
    have c0 : 0 < c := by have := ok.1; omega
    obtain ⟨la, lc⟩ := bd a0 c0 mx
    have za := sm a (by omega) (by omega)
    have zc := sm c (by omega) (by omega)
    have p0 := Int.mul_pos a0 c0
    refine ⟨⟨za.mono (by decide), zc.mono (by decide)⟩, a * c, rfl, rfl, ⟨by omega, by omega⟩, fun t tl le => ?_⟩
    refine ⟨a, b, c, t, n, rfl, rfl, rfl, rfl, ⟨⟨ok, by omega, tl⟩, by omega, by omega⟩, fun a' b' c' s' ot hk _ _ _ hm => h a' b' c' s' ⟨ot.ok, ?_, ot.ln, lsub le hm⟩⟩
    rcases hk with z | ⟨z1, z2⟩
    · exact z
    · rw [z1, z2]; omega
end
end K13
namespace K13
open PySem PySem.Spec PyProof.Rows L2 Z Y
section
variable {P : Program} {w : World} {K : Frg} {mg : Str → Option Value} {base : Heap}
theorem ok__law_is_kept (T : Tx w K mg) : FnG P w K mg base (L2.CX P w) 5 (He.ga K "_law_is_kept") (spP K R__law_is_kept) := by
  refine y_fn T.d__law_is_kept sc__law_is_kept arl3 (fun _ _ _ _ _ _ us hl => match us, hl with | [_, _, _], _ => rfl) fun cdv A outer s H E B hB hr hx po => ⟨_, (s_cons (s_if (z_not (z_val (y_call (ok__law_keeps T) (hr.mono (by decide)) rfl T.g__law_keeps T.k__law_keeps hx (a_cons (y_var (pv 0)) (a_cons (y_ix (y_var (pv 2)) y_int (fun _ _ => rfl)) a_nil)))))
    (s_one (s_ret y_bl))
    s_nil)
  (s_cons (s_for (t := .nm 3) po rfl (i_lst (y_call (ok__law_spots T) (hr.mono (by decide)) rfl T.g__law_spots T.k__law_spots hx (a_cons (y_var (pv 0)) a_nil))) (g_nm (pg_name (i := 3) sc__law_is_kept.nd rfl (by first | exact Or.inl rfl | exact Or.inr rfl)))
    (s_one (s_if (z_cmp (op_neY hr.units) neL (y_call (ok__law_seen T) (hr.mono (by decide)) rfl T.g__law_seen T.k__law_seen hx (a_cons (y_var (pv 0)) (a_cons (y_var (pv 1)) (a_cons (y_call (ok__law_carried T) (hr.mono (by decide)) rfl T.g__law_carried T.k__law_carried hx (a_cons (y_var (pv 2)) (a_cons (y_var (pv 3)) a_nil))) a_nil)))) (y_call (ok__law_seen T) (hr.mono (by decide)) rfl T.g__law_seen T.k__law_seen hx (a_cons (y_var (pv 0)) (a_cons (y_var (pv 1)) (a_cons (y_var (pv 3)) a_nil)))) (nomark _))
    (s_one (s_ret y_bl))
    s_nil)))
  (s_one (s_ret y_bl)))), fun ds Q h => ?_⟩
  obtain ⟨a0, a1, a2, e0, hh⟩ := ar3E h
  clear h
  subst e0
  have h := hh
  clear hh
  try dsimp only at h
  rw [show startE (List.length N__law_is_kept) [a0, a1, a2] = [.val a0, .val a1, .val a2, .no] from rfl]
  obtain ⟨a, b, c, t, k, m, rfl, rfl, rfl, ⟨o, hM, z1, z2⟩, h⟩ := h
  have a0 := o.a
  have c0 := o.c
  have al := o.al
  have cl := o.cl
  have ok6 : okN 600 a b c := ⟨o.ok, o.sa.mono (by decide), o.sc.mono (by decide)⟩
  refine ⟨a, b, c, k, m.1, rfl, rfl, ⟨ok6, hM⟩, ifB_2 (fun e => ?_) (fun e => ?_)⟩
  · have : keepM (colF t a b c) a b c m = false := by
      cases hk : keepM (colF t a b c) a b c m with
      | false => rfl
      | true => rw [(keepM_iff.mp hk).1] at e; cases e
    rw [this] at h
    exact h
  have e1 : keepsN m.1 a b c = true := by simpa using e
  refine ⟨a, b, c, rfl, ⟨by omega, by omega, o.mx⟩, fun i ρ => (∀ p ∈ (MN.spotsL a.toNat c.toNat).take i, colF t a b c (MN.mapp m p) = colF t a b c p) ∧ ∃ o3, ρ = [.val (n3 a b c), .val (.str t), .val (mvD k m), o3], ⟨(fun p hp => by simp at hp), _, rfl⟩, ?_, ?_⟩
  · rintro i d ρ hd ⟨hp, o3, rfl⟩
    obtain ⟨⟨x, y⟩, hq, rfl⟩ := map_get hd
    obtain ⟨m1, m2, m3, m4⟩ := MN.spotsL_mem.mp (List.mem_of_getElem? hq)
    dsimp only at m1 m2 m3 m4
    have zy : Sz 13 y := sz13 m3 (by omega)
    have zx : Sz 13 x := sz13 m1 (by omega)
    have zm : Sz 4000 (MN.mapp m (x, y)).2 := by
      have zt : Sz 100 (MN.turn m.1 (x, y)).2 := by
        have zx' : Sz 100 x := zx.mono (by decide)
        have zy' : Sz 100 y := zy.mono (by decide)
        rcases mat_cases hM with ⟨_, e⟩ | ⟨_, e⟩ | ⟨_, e⟩ | ⟨_, e⟩ | ⟨_, e⟩ | ⟨_, e⟩ | ⟨_, e⟩ | ⟨_, e⟩ <;> rw [e] <;> simp only [MN.turn] <;> first | simpa using zx' | simpa using zy' | simpa [Sz] using zx' | simpa [Sz] using zy'
      exact (sz_add (zt.mono (b := 1000) (by decide)) z2).mono (by decide)
    refine ⟨k, m, x, y, rfl, rfl, hM, a, b, c, t, (MN.mapp m (x, y)).1, (MN.mapp m (x, y)).2, rfl, rfl, rfl, ⟨o, zm⟩, a, b, c, t, x, y, rfl, rfl, rfl, ⟨o, zy.mono (by decide)⟩, ifB_nd (fun e => ?_) (fun e => ?_)⟩
    · have : keepM (colF t a b c) a b c m = false := by
        cases hk : keepM (colF t a b c) a b c m with
        | false => rfl
        | true => exact absurd (congrArg chr1 ((keepM_iff.mp hk).2 (x, y))) e
      rw [this] at h
      exact h
    · refine ⟨fun p hp2 => ?_, _, rfl⟩
      rw [List.take_succ, hq] at hp2
      rcases List.mem_append.mp hp2 with z | z
      · exact hp p z
      · have : p = (x, y) := by simpa using z
        rw [this]
        exact chr1_inj e
  · rintro ρ ⟨hp, o3, rfl⟩
    rw [List.length_map, List.take_length] at hp
    obtain ⟨k1, k2⟩ := (keepsN_iff o.ok).mp e1
    have : keepM (colF t a b c) a b c m = true := keepM_iff.mpr ⟨e1, MN.kept_all o.ok k1 k2 hp⟩
    rw [this] at h
    exact h
end
end K13
namespace K13
open PySem PySem.Spec PyProof.Rows L2 Z Y
section
variable {P : Program} {w : World} {K : Frg} {mg : Str → Option Value} {base : Heap}
theorem ok__law_exact (T : Tx w K mg) : FnG P w K mg base (L2.CX P w) 7 (He.ga K "_law_exact") (spP K R__law_exact) := by
  refine y_fn T.d__law_exact sc__law_exact arl2 (fun _ _ _ _ _ _ us hl => match us, hl with | [_, _], _ => rfl) fun cdv A outer s H E B hB hr hx po => ⟨_, (s_cons (s_own hB (i := 2) sc__law_exact.nd rfl (by first | exact Or.inl rfl | exact Or.inr rfl) (a_cons (y_tup (a_cons (y_ix (y_var (pv 0)) y_int (fun _ _ => rfl)) (a_cons y_int a_nil))) (a_cons (y_tup (a_cons (y_ix (y_var (pv 0)) y_int (fun _ _ => rfl)) (a_cons (y_ix (y_var (pv 0)) y_int (fun _ _ => rfl)) a_nil))) a_nil)))
  (s_cons (s_for (t := .nm 3) po rfl (i_lst (y_call (ok__law_spots T) (hr.mono (by decide)) rfl T.g__law_spots T.k__law_spots hx (a_cons (y_var (pv 0)) a_nil))) (g_nm (pg_name (i := 3) sc__law_exact.nd rfl (by first | exact Or.inl rfl | exact Or.inr rfl)))
    (s_one (s_if (z_val (y_call (ok__law_is_kept T) (hr.mono (by decide)) rfl T.g__law_is_kept T.k__law_is_kept hx (a_cons (y_var (pv 0)) (a_cons (y_var (pv 1)) (a_cons (y_tup (a_cons y_str (a_cons (y_var (pv 3)) a_nil))) a_nil)))))
    (s_one (s_app (i := 2) (pv 2) (y_var (pv 3)) (fun _ h => pe_bm PySem.F.plainAttrs_list PySem.F.slot_list_append PySem.F.type_list_append mt_appZ (pv 2) h)))
    s_nil)))
  (s_frz 2 (s_cons (s_set (i := 4) sc__law_exact.nd rfl (by first | exact Or.inl rfl | exact Or.inr rfl) (y_call (ok__law_net_of T) (hr.mono (by decide)) rfl T.g__law_net_of T.k__law_net_of hx (a_cons (y_var (pv 2)) a_nil)))
  (s_one (s_ret (y_tup (a_cons (y_var (pv 4)) (a_cons (y_join y_str (y_lc (own := [("_law_spot", 5)]) (t := .nm 5) rfl sc__law_exact.nd (i_lst (y_call (ok__law_spots T) (hr.mono (by decide)) rfl T.g__law_spots T.k__law_spots hx (a_cons (y_var (pv 4)) a_nil))) (blkOk_by (own := [("_law_spot", 5)]) (N := N__law_exact) (sc := defScope s__law_exact) (by decide +kernel)) (fun _ _ _ _ _ => (g_nm (pg_name (i := 5) sc__law_exact.nd rfl (by first | exact Or.inl rfl | exact Or.inr rfl)))) (fun _ _ _ _ _ => c_nil) (fun _ _ _ _ _ => (y_call (ok__law_seen T) (hr.mono (by decide)) rfl T.g__law_seen T.k__law_seen px_nox (a_cons (y_var (pv 0)) (a_cons (y_var (pv 1)) (a_cons (y_var (pv 5)) a_nil))))))) a_nil))))))))), fun ds Q h => ?_⟩
  obtain ⟨a0, a1, e0, hh⟩ := ar2E h
  clear h
  subst e0
  have h := hh
  clear hh
  try dsimp only at h
  rw [show startE (List.length N__law_exact) [a0, a1] = [.val a0, .val a1, .no, .no, .no, .no] from rfl]
  obtain ⟨a, b, c, t, rfl, rfl, ⟨o, mx⟩, h⟩ := h
  have a0 := o.a
  have c0 := o.c
  have al := o.al
  have cl := o.cl
  have hid : mat "none" = some ((1, 0, 0, 1) : MN.Mat) := rfl
  refine ⟨leN rfl, leN rfl, leN rfl, a, b, c, rfl, ⟨by omega, by omega, o.mx⟩, fun i ρ => ∃ o3, ρ = [.val (n3 a b c), .val (.str t), .mu (.lst (((a, 0) :: (b, c) :: ((MN.spotsL a.toNat c.toNat).take i).filter fun p => keepB (colF t a b c) p.1 p.2).map plD)), o3, .no, .no], ⟨_, rfl⟩, ?_, ?_⟩
  · rintro i d ρ hd ⟨o3, rfl⟩
    obtain ⟨⟨x, y⟩, hq, rfl⟩ := map_get hd
    obtain ⟨m1, m2, m3, m4⟩ := MN.spotsL_mem.mp (List.mem_of_getElem? hq)
    dsimp only at m1 m2 m3 m4
    have zy : Sz 13 y := sz13 m3 (by omega)
    have zx : Sz 13 x := sz13 m1 (by omega)
    refine ⟨leN rfl, a, b, c, t, "none", ((1, 0, 0, 1), x, y), rfl, rfl, rfl, ⟨o, hid, zx.mono (by decide), zy.mono (by decide)⟩, ?_⟩
    rw [keepM_none o.ok]
    refine ifB_2 (fun e => ?_) (fun e => ?_)
    · refine ⟨⟨_, rfl⟩, ?_, ?_⟩
      · have l1 := List.length_filter_le (fun p : Int × Int => keepB (colF t a b c) p.1 p.2) ((MN.spotsL a.toNat c.toNat).take i)
        have l2 : ((MN.spotsL a.toNat c.toNat).take i).length ≤ (MN.spotsL a.toNat c.toNat).length := List.length_take_le' _ _
        have l3 := spots_le o
        simp only [List.length_map, List.length_cons]
        omega
      · refine ⟨.val (plD (x, y)), ?_⟩
        show List.set _ _ _ = _
        rw [List.take_succ, hq, List.filter_append]
        simp [e, plD]
    · refine ⟨.val (plD (x, y)), ?_⟩
      rw [List.take_succ, hq, List.filter_append]
      simp [e, plD]
  · rintro ρ ⟨o3, rfl⟩
    rw [List.length_map, List.take_length]
    generalize hS : ((a, 0) :: (b, c) :: (MN.spotsL a.toNat c.toNat).filter fun p => keepB (colF t a b c) p.1 p.2) = S
    have mS : ∀ p, p ∈ S ↔ p = (a, 0) ∨ p = (b, c) ∨ (p ∈ MN.spotsL a.toNat c.toNat ∧ MN.Keeps (colF t a b c) p.1 p.2) := fun p => by
      rw [← hS, List.mem_cons, List.mem_cons, List.mem_filter, keepB_iff]
    have sS : shOk S := by
      refine shOk_of (n := 8) (fun p hp => ?_) ?_
      · have p8 : (2 : Nat) ^ 8 = 256 := by decide
        have hm : a ≤ 200 ∧ c ≤ 200 := by
          have l1 : a * 1 ≤ a * c := Int.mul_le_mul_of_nonneg_left (by omega) (by omega)
          have l2 : 1 * c ≤ a * c := Int.mul_le_mul_of_nonneg_right (by omega) (by omega)
          omega
        have ob := o.ok.2
        rcases (mS p).mp hp with rfl | rfl | ⟨hp, _⟩
        · constructor
          · show a.natAbs < 2 ^ 8; omega
          · show (0 : Int).natAbs < 2 ^ 8; omega
        · constructor
          · show b.natAbs < 2 ^ 8; omega
          · show c.natAbs < 2 ^ 8; omega
        · obtain ⟨m1, m2, m3, m4⟩ := MN.spotsL_mem.mp hp
          constructor
          · show p.1.natAbs < 2 ^ 8; omega
          · show p.2.natAbs < 2 ^ 8; omega
      · have l1 := List.length_filter_le (fun p : Int × Int => keepB (colF t a b c) p.1 p.2) (MN.spotsL a.toNat c.toNat)
        have l3 := spots_ln o
        rw [← hS]
        simp only [List.length_cons]
        omega
    refine ⟨S, rfl, sS, fun r hF _ => ?_⟩
    cases r with
    | none => exact absurd hF (MN.form_not_none o.ok ((mS _).mpr (.inl rfl)) ((mS _).mpr (.inr (.inl rfl))))
    | some wqr =>
      obtain ⟨w, q, r⟩ := wqr
      obtain ⟨ex, hw, hr⟩ := MN.exact_span o.ok mS hF
      have cp := carp_of o ex hw hr
      have o' := cp.okT
      refine ⟨w, q, r, rfl, ⟨by have := o'.a; omega, by have := o'.c; omega, o'.mx⟩, by rw [List.length_map]; have := spots_le o'; omega, ?_⟩
      refine mapI_fun (xs := MN.spotsL w.toNat r.toNat) (g := fun p => .str (chr1 (colF t a b c p))) ?_ ?_
      · intro p hp k hk
        obtain ⟨m1, m2, m3, m4⟩ := MN.spotsL_mem.mp hp
        have zy : Sz 13 p.2 := sz13 m3 (by have := o'.c; have := o'.cl; omega)
        exact ⟨a, b, c, t, p.1, p.2, rfl, rfl, rfl, ⟨o, zy.mono (by decide)⟩, hk⟩
      · have e : ((MN.spotsL w.toNat r.toNat).map fun p => D.str (chr1 (colF t a b c p))) = (MN.cellT (colF t a b c) w r).map fun x => D.str (chr1 x) := by
          unfold MN.cellT
          rw [List.map_map]
          rfl
        rw [e]
        exact join_ok (by rw [MN.cellT, List.length_map]; have := spots_le o'; omega) ⟨leN rfl, h w q r _ cp hw hr⟩
end
end K13
namespace K13
open PySem PySem.Spec PyProof.Rows L2 Z Y
section
variable {P : Program} {w : World} {K : Frg} {mg : Str → Option Value} {base : Heap}
theorem ok__law_made (T : Tx w K mg) : FnG P w K mg base (L2.CX P w) 15 (He.ga K "_law_made") (spP K R__law_made) := by
  refine y_fn T.d__law_made sc__law_made arl3 (fun _ _ _ _ _ _ us hl => match us, hl with | [_, _, _], _ => rfl) fun cdv A outer s H E B hB hr hx po => ⟨_, (s_cons (s_if (z_cmp (op_eqY hr.units) eqL (y_call (ok__law_draw T) (hr.mono (by decide)) rfl T.g__law_draw T.k__law_draw hx (a_cons (y_var (pv 0)) (a_cons y_int a_nil))) y_int (nomark _))
    (s_one (s_ret (y_smeth rfl T.g_Carpet T.sm_Carpet_on (ok_Carpet_on T) (hr.mono (by decide)) hx (a_cons (y_make T.mk_Net (ok_Net_UinitU T) (hr.mono (by decide)) rfl T.g_Net hx (a_cons (y_ix (y_var (pv 1)) y_int (fun _ _ => rfl)) (a_cons (y_ix (y_var (pv 1)) y_int (fun _ _ => rfl)) (a_cons (y_ix (y_var (pv 1)) y_int (fun _ _ => rfl)) a_nil)))) (a_cons (y_var (pv 2)) a_nil)))))
    s_nil)
  (s_cons (s_lc (i := 3) (own := [("_law_k", 4)]) (t := .nm 4) rfl sc__law_made.nd rfl rfl (sw_true rfl rfl rfl (by decide +kernel)) (i_rng1 (by rfl) T.b_range (a_cons (y_ix (y_var (pv 1)) y_int (fun _ _ => rfl)) a_nil)) (blkOk_by (own := [("_law_k", 4)]) (N := N__law_made) (sc := defScope s__law_made) (by decide +kernel)) (fun _ _ _ _ _ => (g_nm (pg_name (i := 4) sc__law_made.nd rfl (by first | exact Or.inl rfl | exact Or.inr rfl)))) (fun _ _ _ _ _ => c_nil) (fun _ _ _ _ _ => (y_sl (y_var (pv 2)) (o_some (y_op op_mulY mulL (y_ix (y_var (pv 1)) y_int (fun _ _ => rfl)) (y_var (pv 4)))) (o_some (y_op op_addY addL (y_op op_mulY mulL (y_ix (y_var (pv 1)) y_int (fun _ _ => rfl)) (y_var (pv 4))) (y_ix (y_var (pv 1)) y_int (fun _ _ => rfl)))))))
  (s_one (s_ret (y_makeK T.mk_Carpet (ok_Carpet_UinitU T).2 (hr.mono (by decide)) rfl T.g_Carpet hx (y_var (pv 3)) (y_op op_addY addL (y_ix (y_var (pv 1)) y_int (fun _ _ => rfl)) (y_op op_mulY mulL (y_ix (y_var (pv 1)) y_int (fun _ _ => rfl)) (y_op op_sub subL (y_call (ok__law_draw T) (hr.mono (by decide)) rfl T.g__law_draw T.k__law_draw hx (a_cons (y_var (pv 0)) (a_cons y_int a_nil))) y_int)))))))), fun ds Q h => ?_⟩
  obtain ⟨a0, a1, a2, e0, hh⟩ := ar3E h
  clear h
  subst e0
  have h := hh
  clear hh
  try dsimp only at h
  rw [show startE (List.length N__law_made) [a0, a1, a2] = [.val a0, .val a1, .val a2, .no, .no] from rfl]
  obtain ⟨a, b, c, s, rfl, rfl, rfl, ⟨o, lt, a1, c1, mx⟩, h⟩ := h
  have a0 := o.a
  have c0 := o.c
  refine ⟨⟨by decide, szP (by decide) (by decide)⟩, fun d d0 d1 => ifB_d (fun e => ?_) (fun e => ?_)⟩
  · exact ⟨⟨o.ok.1, o.ok.2.1, o.ok.2.2⟩, a, b, c, s, rfl, rfl, ⟨o, by omega, lt⟩, fun w q r t' cp hw hr => h "Woven" w q r t' (.tail _ (.head _)) cp hw hr⟩
  have p62 : (2 : Int) ^ 62 = 4611686018427387904 := by decide
  obtain ⟨hb, hn, hf⟩ := rows_again o lt a1 c1 mx
  refine ⟨by omega, by omega, by simp [rngD]; omega, ?_⟩
  have er : rngD 0 c.toNat = (List.range c.toNat).map fun i : Nat => D.int (0 + ((i : Nat) : Int)) := rfl
  rw [er]
  refine mapI_fun (xs := List.range c.toNat) (g := fun k : Nat => .str (cutS s (some (a * ((k : Nat) : Int))) (some (a * ((k : Nat) : Int) + a)))) ?_ ?_
  · intro k hk q hq
    have hk := List.mem_range.mp hk
    have zk : Sz 13 (0 + (k : Int)) := sz13 (by omega) (by omega)
    refine ⟨⟨o.sa.mono (by decide), zk.mono (by decide)⟩, ⟨o.sa.mono (by decide), zk.mono (by decide)⟩, ?_⟩
    unfold dSl
    rw [Int.zero_add]
    exact ⟨by rw [slen]; exact o.tl, hq⟩
  · refine ⟨⟨by decide, szP (by decide) (by decide)⟩, fun j j0 j1 => ?_⟩
    have zj : Sz 13 (j - 2) := by
      show (j - 2).natAbs < 2 ^ 13
      have : (2 : Nat) ^ 13 = 8192 := by decide
      omega
    refine ⟨⟨o.sa.mono (by decide), zj.mono (by decide)⟩, rowsL s a c, a.toNat, _, .inl ?_, rfl, hb, fun w q r t cp hw hr => ?_⟩
    · unfold rowsL
      rw [List.map_map]
      rfl
    · have e1 : ((a.toNat : Nat) : Int) = a := by omega
      have e2 : blkF (rowsL s a c) a.toNat (b + a * (j - 2)) = blkF (rowsL s a c) a.toNat b := by
        unfold blkF
        rw [e1, Int.add_mul_emod_self_left]
      rw [e2, hf] at cp
      exact h "Carpet" w q r t (.head _) cp (by omega) (by omega)
end
end K13
namespace K13
open PySem PySem.Spec PyProof.Rows L2 Z Y
section
variable {P : Program} {w : World} {K : Frg} {mg : Str → Option Value} {base : Heap}
theorem ok__law_image (T : Tx w K mg) : FnG P w K mg base (L2.CX P w) 5 (He.ga K "_law_image") (spP K R__law_image) := by
  refine y_fn T.d__law_image sc__law_image arl3 (fun _ _ _ _ _ _ us hl => match us, hl with | [_, _, _], _ => rfl) fun cdv A outer s H E B hB hr hx po => ⟨_, (s_cons (s_set (i := 3) sc__law_image.nd rfl (by first | exact Or.inl rfl | exact Or.inr rfl) (y_call (ok__law_net_of T) (hr.mono (by decide)) rfl T.g__law_net_of T.k__law_net_of hx (a_cons (y_lst (a_cons (y_call (ok__law_turned T) (hr.mono (by decide)) rfl T.g__law_turned T.k__law_turned hx (a_cons (y_ix (y_var (pv 2)) y_int (fun _ _ => rfl)) (a_cons (y_tup (a_cons (y_ix (y_var (pv 0)) y_int (fun _ _ => rfl)) (a_cons y_int a_nil))) a_nil))) (a_cons (y_call (ok__law_turned T) (hr.mono (by decide)) rfl T.g__law_turned T.k__law_turned hx (a_cons (y_ix (y_var (pv 2)) y_int (fun _ _ => rfl)) (a_cons (y_tup (a_cons (y_ix (y_var (pv 0)) y_int (fun _ _ => rfl)) (a_cons (y_ix (y_var (pv 0)) y_int (fun _ _ => rfl)) a_nil))) a_nil))) a_nil))) a_nil)))
  (s_cons (s_dnew hB (i := 4) sc__law_image.nd rfl (by first | exact Or.inl rfl | exact Or.inr rfl))
  (s_cons (s_for (t := .nm 5) po rfl (i_lst (y_call (ok__law_spots T) (hr.mono (by decide)) rfl T.g__law_spots T.k__law_spots hx (a_cons (y_var (pv 0)) a_nil))) (g_nm (pg_name (i := 5) sc__law_image.nd rfl (by first | exact Or.inl rfl | exact Or.inr rfl)))
    (s_one (s_dput (i := 4) hr (pv 4) (y_call (ok__law_low T) (hr.mono (by decide)) rfl T.g__law_low T.k__law_low hx (a_cons (y_var (pv 3)) (a_cons (y_call (ok__law_carried T) (hr.mono (by decide)) rfl T.g__law_carried T.k__law_carried hx (a_cons (y_var (pv 2)) (a_cons (y_var (pv 5)) a_nil))) a_nil))) (y_call (ok__law_seen T) (hr.mono (by decide)) rfl T.g__law_seen T.k__law_seen hx (a_cons (y_var (pv 0)) (a_cons (y_var (pv 1)) (a_cons (y_var (pv 5)) a_nil)))))))
  (s_one (s_ret (y_tup (a_cons (y_var (pv 3)) (a_cons (y_join y_str (y_lc (own := [("_law_spot", 5)]) (t := .nm 5) rfl sc__law_image.nd (i_lst (y_call (ok__law_spots T) (hr.mono (by decide)) rfl T.g__law_spots T.k__law_spots hx (a_cons (y_var (pv 3)) a_nil))) (blkOk_by (own := [("_law_spot", 5)]) (N := N__law_image) (sc := defScope s__law_image) (by decide +kernel)) (fun _ _ _ _ _ => (g_nm (pg_name (i := 5) sc__law_image.nd rfl (by first | exact Or.inl rfl | exact Or.inr rfl)))) (fun _ _ _ _ _ => c_nil) (fun _ _ _ _ _ => (y_dget hr (pv 4) (y_var (pv 5)) (fun _ _ => rfl))))) a_nil)))))))), fun ds Q h => ?_⟩
  obtain ⟨a0, a1, a2, e0, hh⟩ := ar3E h
  clear h
  subst e0
  have h := hh
  clear hh
  try dsimp only at h
  rw [show startE (List.length N__law_image) [a0, a1, a2] = [.val a0, .val a1, .val a2, .no, .no, .no] from rfl]
  obtain ⟨a, b, c, t, k, m, rfl, rfl, rfl, ⟨o, mx, hM, z1, z2⟩, h⟩ := h
  have ho := mat_orth hM
  have a0 := o.a
  have c0 := o.c
  have la := o.al
  have lc := o.cl
  have zb : Sz 13 b := sz13 o.ok.2.1 (by have := o.ok.2; omega)
  refine ⟨leN rfl, k, m.1, a, 0, rfl, rfl, hM, leN rfl, k, m.1, b, c, rfl, rfl, hM, leN rfl, [MN.turn m.1 (a, 0), MN.turn m.1 (b, c)], rfl, ?_, fun r hF _ => ?_⟩
  · refine shOk_of (n := 13) (fun p hp => ?_) (by simp)
    rcases List.mem_cons.mp hp with rfl | hp
    · exact sz_turn hM o.sa (sz13 (by omega) (by omega))
    rcases List.mem_cons.mp hp with rfl | hp
    · exact sz_turn hM zb o.sc
    cases hp
  cases r with
  | none => exact absurd hF (MN.turn_not_none ho o.ok)
  | some wqr =>
    obtain ⟨a', b', c'⟩ := wqr
    have i := MN.img_form ho o.ok hF
    have mx' : a' * c' ≤ 1000 := by rw [i.2.2]; exact mx
    have o' := okT_cell (b := b') (g := movF (colF t a b c) m) i.1 (by omega)
    have a0' := o'.a
    have c0' := o'.c
    have kk := keeps_img ho i fun x y z => o.keep z
    have sl := spots_le o
    refine ⟨a, b, c, rfl, ⟨by omega, by omega, o.mx⟩, ?_⟩
    refine ⟨fun i ρ => ∃ (kvs : List (List Int × D)) (o5 : Sl), ((∀ (p : Int × Int) d, lookI kvs [p.1, p.2] = some d → d = .str (chr1 (movF (colF t a b c) m p))) ∧ (∀ s ∈ (MN.spotsL a.toNat c.toNat).take i, (lookI kvs [(MN.low a' b' c' (MN.mapp m s).1 (MN.mapp m s).2).1, (MN.low a' b' c' (MN.mapp m s).1 (MN.mapp m s).2).2]).isSome = true) ∧ kvs.length ≤ i) ∧ ρ = [.val (n3 a b c), .val (.str t), .val (mvD k m), .val (n3 a' b' c'), .mu (.dct kvs), o5], ⟨[], _, ⟨(fun p d hd => nomatch hd), (fun s hs => by simp at hs), Nat.le_refl _⟩, rfl⟩, ?_, ?_⟩
    · rintro j d ρ hd ⟨kvs, o5, ⟨k1, k2, k3⟩, rfl⟩
      obtain ⟨⟨x, y⟩, hq, rfl⟩ := map_get hd
      obtain ⟨m1, m2, m3, m4⟩ := MN.spotsL_mem.mp (List.mem_of_getElem? hq)
      dsimp only at m1 m2 m3 m4
      have jl := lt_of_get hq
      have zy : Sz 1000 y := (sz13 m3 (by omega)).mono (by decide)
      have zx : Sz 1000 x := (sz13 m1 (by omega)).mono (by decide)
      have zm : Sz 4000 (MN.mapp m (x, y)).2 := (sz_add (sz_turn hM zx zy).2 z2).mono (by decide)
      refine ⟨⟨_, rfl⟩, a, b, c, t, x, y, rfl, rfl, rfl, ⟨o, zy.mono (by decide)⟩, k, m, x, y, rfl, rfl, hM, a', b', c', (MN.mapp m (x, y)).1, (MN.mapp m (x, y)).2, rfl, rfl, ⟨⟨i.1, o'.sa.mono (by decide), o'.sc.mono (by decide)⟩, zm⟩, ?_⟩
      refine ⟨by omega, putI kvs [(MN.low a' b' c' (MN.mapp m (x, y)).1 (MN.mapp m (x, y)).2).1, (MN.low a' b' c' (MN.mapp m (x, y)).1 (MN.mapp m (x, y)).2).2] (.str (chr1 (colF t a b c (x, y)))), _, ⟨fun p d hd => ?_, fun s hs => ?_, ?_⟩, rfl⟩
      · rw [look_put] at hd
        split at hd
        · rename_i e
          have e1 : p = MN.low a' b' c' (MN.mapp m (x, y)).1 (MN.mapp m (x, y)).2 := Prod.ext (by simpa using (List.cons.inj e).1) (by simpa using (List.cons.inj (List.cons.inj e).2).1)
          have e2 : d = .str (chr1 (colF t a b c (x, y))) := (Option.some.inj hd).symm
          rw [e2, e1]
          have e3 := kk _ _ (MN.low_in a' b' c' (MN.mapp m (x, y)).1 (MN.mapp m (x, y)).2) (MN.low a' b' c' (MN.mapp m (x, y)).1 (MN.mapp m (x, y)).2)
          have e4 : movF (colF t a b c) m (MN.low a' b' c' (MN.mapp m (x, y)).1 (MN.mapp m (x, y)).2) = colF t a b c (x, y) := by
            rw [← e3]
            have e5 : ((MN.low a' b' c' (MN.mapp m (x, y)).1 (MN.mapp m (x, y)).2).1 + ((MN.mapp m (x, y)).1 - (MN.low a' b' c' (MN.mapp m (x, y)).1 (MN.mapp m (x, y)).2).1), (MN.low a' b' c' (MN.mapp m (x, y)).1 (MN.mapp m (x, y)).2).2 + ((MN.mapp m (x, y)).2 - (MN.low a' b' c' (MN.mapp m (x, y)).1 (MN.mapp m (x, y)).2).2)) = MN.mapp m (x, y) := Prod.ext (by dsimp only; omega) (by dsimp only; omega)
            rw [e5, mov_at ho]
          rw [e4]
        · exact k1 p d hd
      · rw [look_put]
        split
        · rfl
        · rename_i e
          rw [List.take_succ, hq] at hs
          rcases List.mem_append.mp hs with z | z
          · exact k2 s z
          · have : s = (x, y) := by simpa using z
            rw [this] at e
            exact absurd rfl e
      · have := putI_len kvs [(MN.low a' b' c' (MN.mapp m (x, y)).1 (MN.mapp m (x, y)).2).1, (MN.low a' b' c' (MN.mapp m (x, y)).1 (MN.mapp m (x, y)).2).2] (.str (chr1 (colF t a b c (x, y))))
        omega
    · rintro ρ ⟨kvs, o5, ⟨k1, k2, k3⟩, rfl⟩
      rw [List.length_map, List.take_length] at k2
      refine ⟨a', b', c', rfl, ⟨by omega, by omega, by omega⟩, by rw [List.length_map]; have := spots_le o'; omega, ?_⟩
      refine mapI_fun (xs := MN.spotsL a'.toNat c'.toNat) (g := fun p => .str (chr1 (movF (colF t a b c) m p))) ?_ ?_
      · intro p hp q hq
        refine ⟨⟨_, rfl⟩, dget_v (kvs := kvs) (p := p) rfl rfl ?_⟩
        obtain ⟨s, hs, es⟩ := img_meets ho o.ok i hp
        have z := k2 s hs
        rw [es] at z
        obtain ⟨d, hd⟩ := Option.isSome_iff_exists.mp z
        rw [hd]
        rw [k1 p d hd]
        exact hq
      · refine join_cell i.1 (by omega) ⟨leN rfl, h a' b' c' _ i o' (col_cell i.1 kk) fun x hx => ?_⟩
        obtain ⟨p, rfl⟩ := cell_mem hx
        exact col_mem o _
end
end K13
namespace K13
open PySem PySem.Spec PyProof.Rows L2 Z Y
section
variable {P : Program} {w : World} {K : Frg} {mg : Str → Option Value} {base : Heap}
theorem ok__law_any_move (T : Tx w K mg) : FnG P w K mg base (L2.CX P w) 7 (He.ga K "_law_any_move") (spP K R__law_any_move) := by
  refine y_fn T.d__law_any_move sc__law_any_move arl1 (fun _ _ _ _ _ _ us hl => match us, hl with | [_], _ => rfl) fun cdv A outer s H E B hB hr hx po => ⟨_, (s_cons (s_set (i := 1) sc__law_any_move.nd rfl (by first | exact Or.inl rfl | exact Or.inr rfl) (y_ix (y_call0 (ok__law_kinds T) (hr.mono (by decide)) rfl T.g__law_kinds T.k__law_kinds hx) (y_call (ok__law_draw T) (hr.mono (by decide)) rfl T.g__law_draw T.k__law_draw hx (a_cons (y_var (pv 0)) (a_cons y_int a_nil))) (fun _ _ => rfl)))
  (s_one (s_ret (y_tup (a_cons (y_var (pv 1)) (a_cons (y_ix (y_lst (a_cons (y_tup (a_cons (y_op op_sub subL (y_call (ok__law_draw T) (hr.mono (by decide)) rfl T.g__law_draw T.k__law_draw hx (a_cons (y_var (pv 0)) (a_cons y_int a_nil))) y_int) (a_cons (y_op op_sub subL (y_call (ok__law_draw T) (hr.mono (by decide)) rfl T.g__law_draw T.k__law_draw hx (a_cons (y_var (pv 0)) (a_cons y_int a_nil))) y_int) a_nil))) (a_cons (y_call (ok__law_place T) (hr.mono (by decide)) rfl T.g__law_place T.k__law_place hx (a_cons (y_var (pv 0)) a_nil)) a_nil))) (y_call (ok__law_draw T) (hr.mono (by decide)) rfl T.g__law_draw T.k__law_draw hx (a_cons (y_var (pv 0)) (a_cons y_int a_nil))) (fun _ _ => rfl)) a_nil)))))), fun ds Q h => ?_⟩
  obtain ⟨a0, e0, hh⟩ := ar1E h
  clear h
  subst e0
  have h := hh
  clear hh
  try dsimp only at h
  rw [show startE (List.length N__law_any_move) [a0] = [.val a0, .no] from rfl]
  obtain ⟨rfl, h⟩ := h
  refine ⟨⟨by decide, szP (by decide) (by decide)⟩, fun d d0 d1 => ?_⟩
  obtain ⟨j, rfl⟩ := Int.eq_ofNat_of_zero_le d0
  have hj : j < matL.length := by show j < 8; omega
  refine dIx_l (d := .str matL[j].1) (atI_nat (by rw [List.getElem?_map, List.getElem?_eq_getElem hj]; rfl)) ?_
  have hm : mat matL[j].1 = some matL[j].2 := mat_of_mem (List.getElem_mem hj)
  refine ⟨⟨by decide, szP (by decide) (by decide)⟩, fun d2 l2 u2 => ⟨⟨by decide, szP (by decide) (by decide)⟩, fun d3 l3 u3 => ⟨leN rfl, fun x y zx zy => ⟨leN rfl, ⟨by decide, szP (by decide) (by decide)⟩, fun d4 l4 u4 => ?_⟩⟩⟩⟩
  have s4 : ∀ x : Int, -4 ≤ x → x ≤ 4 → Sz 100 x := fun x h1 h2 => by
    have : Sz 13 x := by
      show x.natAbs < 2 ^ 13
      have : (2 : Nat) ^ 13 = 8192 := by decide
      omega
    exact this.mono (by decide)
  have : d4 = 0 ∨ d4 = 1 := by omega
  rcases this with rfl | rfl
  · exact ⟨leN rfl, h matL[j].1 (matL[j].2, d2 - 4, d3 - 4) hm (s4 (d2 - 4) (by omega) (by omega)) (s4 (d3 - 4) (by omega) (by omega))⟩
  · exact ⟨leN rfl, h matL[j].1 (matL[j].2, x, y) hm zx zy⟩
end
end K13
namespace K13
open PySem PySem.Spec PyProof.Rows L2 Z Y
section
variable {P : Program} {w : World} {K : Frg} {mg : Str → Option Value} {base : Heap}
theorem ok__law_image_right (T : Tx w K mg) : FnG P w K mg base (L2.CX P w) 15 (He.ga K "_law_image_right") (spP K R__law_image_right) := by
  refine y_fn T.d__law_image_right sc__law_image_right arl4 (fun _ _ _ _ _ _ us hl => match us, hl with | [_, _, _, _], _ => rfl) fun cdv A outer s H E B hB hr hx po => ⟨_, (s_cut (s_set (i := 4) sc__law_image_right.nd rfl (by first | exact Or.inl rfl | exact Or.inr rfl) (y_opI ((gop_bin2 T.bn_Carpet_Motion_mul T.m_Carpet_UmulU.at_ T.m_Carpet_UmulU.fn ((ok_Carpet_UmulU T).at (hr.mono (by decide))) hx).or (gop_bin2 T.bn_Woven_Motion_mul T.m_Woven_UmulU.at_ T.m_Woven_UmulU.fn ((ok_Carpet_UmulU T).at (hr.mono (by decide))) hx)) (bin2sL (C := "Carpet") (D' := "Woven") (ns := ["own_net", "own_text"]) (C' := "Motion") (ns' := ["own_kind", "own_shift"])) (y_var (pv 0)) (y_make T.mk_Motion (ok_Motion_UinitU T) (hr.mono (by decide)) rfl T.g_Motion hx (a_cons (y_ix (y_var (pv 3)) y_int (fun _ _ => rfl)) (a_cons (y_ix (y_var (pv 3)) y_int (fun _ _ => rfl)) a_nil)))))
  (s_cut (s_for (t := .tp [5, 6]) po rfl (i_lst (y_call (ok__law_spots T) (hr.mono (by decide)) rfl T.g__law_spots T.k__law_spots hx (a_cons (y_var (pv 1)) a_nil))) (g_tp (is := [5, 6]) rfl (pgs_cons (pg_name (i := 5) sc__law_image_right.nd rfl (by first | exact Or.inl rfl | exact Or.inr rfl)) (pgs_cons (pg_name (i := 6) sc__law_image_right.nd rfl (by first | exact Or.inl rfl | exact Or.inr rfl)) pgs_nil)))
    (s_one (s_for (t := .nm 7) po rfl (i_lst (y_lst (a_cons (y_tup (a_cons (y_var (pv 5)) (a_cons (y_var (pv 6)) a_nil))) (a_cons (y_tup (a_cons (y_op op_sub subL (y_var (pv 5)) (y_op op_mulY mulL (y_op op_pow powL y_int y_int) (y_ix (y_var (pv 1)) y_int (fun _ _ => rfl)))) (a_cons (y_var (pv 6)) a_nil))) (a_cons (y_tup (a_cons (y_op op_addY addL (y_var (pv 5)) (y_op op_mulY mulL y_int (y_ix (y_var (pv 1)) y_int (fun _ _ => rfl)))) (a_cons (y_op op_addY addL (y_var (pv 6)) (y_op op_mulY mulL y_int (y_ix (y_var (pv 1)) y_int (fun _ _ => rfl)))) a_nil))) a_nil))))) (g_nm (pg_name (i := 7) sc__law_image_right.nd rfl (by first | exact Or.inl rfl | exact Or.inr rfl)))
    (s_one (s_if (z_cmp (op_neY hr.units) neL (y_ixOs (cs := ["Carpet", "Woven"]) (ns := ["own_net", "own_text"]) (all2 T.m_Carpet_UgetitemU.at_ T.m_Woven_UgetitemU.at_) T.m_Carpet_UgetitemU.fn T.fi_Carpet_UgetitemU (hr.mono (by decide)) (ok_Carpet_UgetitemU T) hx (y_var (pv 4)) (y_call (ok__law_carried T) (hr.mono (by decide)) rfl T.g__law_carried T.k__law_carried hx (a_cons (y_var (pv 3)) (a_cons (y_var (pv 7)) a_nil)))) (y_call (ok__law_seen T) (hr.mono (by decide)) rfl T.g__law_seen T.k__law_seen hx (a_cons (y_var (pv 1)) (a_cons (y_var (pv 2)) (a_cons (y_tup (a_cons (y_var (pv 5)) (a_cons (y_var (pv 6)) a_nil))) a_nil)))) (nomark _))
    (s_one (s_ret y_bl))
    s_nil)))))
  (s_cut (s_set (i := 8) sc__law_image_right.nd rfl (by first | exact Or.inl rfl | exact Or.inr rfl) (y_call (ok__law_exact T) (hr.mono (by decide)) rfl T.g__law_exact T.k__law_exact hx (a_cons (y_var (pv 1)) (a_cons (y_var (pv 2)) a_nil))))
  (s_cut (s_asg (t := .tp [9, 10]) (y_call (ok__law_image T) (hr.mono (by decide)) rfl T.g__law_image T.k__law_image hx (a_cons (y_ix (y_var (pv 8)) y_int (fun _ _ => rfl)) (a_cons (y_ix (y_var (pv 8)) y_int (fun _ _ => rfl)) (a_cons (y_var (pv 3)) a_nil)))) (g_tp (is := [9, 10]) rfl (pgs_cons (pg_name (i := 9) sc__law_image_right.nd rfl (by first | exact Or.inl rfl | exact Or.inr rfl)) (pgs_cons (pg_name (i := 10) sc__law_image_right.nd rfl (by first | exact Or.inl rfl | exact Or.inr rfl)) pgs_nil))))
  (s_one (s_ret (y_and (y_cmp (op_eqY hr.units) eqL (y_prop (cs := ["Net"]) (ns := ["own_numbers"]) (y_prop (cs := ["Carpet", "Woven"]) (ns := ["own_net", "own_text"]) (y_var (pv 4)) (all2 ⟨T.cl_Carpet, _, T.p_Carpet_net⟩ ⟨T.cl_Woven, _, T.p_Woven_net⟩) (ok_Carpet_net T) (hr.mono (by decide)) px_nox) (all1 ⟨T.cl_Net, _, T.p_Net_numbers⟩) (ok_Net_numbers T) (hr.mono (by decide)) px_nox) (y_var (pv 9)) (nomark _)) (y_and (y_cmp (op_eqY hr.units) eqL (y_prop (cs := ["Carpet", "Woven"]) (ns := ["own_net", "own_text"]) (y_var (pv 4)) (all2 ⟨T.cl_Carpet, _, T.p_Carpet_text⟩ ⟨T.cl_Woven, _, T.p_Woven_text⟩) (ok_Carpet_text T) (hr.mono (by decide)) px_nox) (y_var (pv 10)) (nomark _)) (y_one (y_cmpI (gop_eq (C := He.ga K "Net") T.m_Net_UeqU.at_ T.m_Net_UeqU.fn ((ok_Net_UeqU T).at (hr.mono (by decide))) hr.units hx) (eqOL (C := "Net") (ns := ["own_numbers"]) (cs := ["Net"]) ⟨T.cl_Net, T.ow_Net⟩ (all1 ⟨⟨T.cl_Net, T.ow_Net⟩, nf_self⟩)) (y_prop (cs := ["Carpet", "Woven"]) (ns := ["own_net", "own_text"]) (y_var (pv 4)) (all2 ⟨T.cl_Carpet, _, T.p_Carpet_net⟩ ⟨T.cl_Woven, _, T.p_Woven_net⟩) (ok_Carpet_net T) (hr.mono (by decide)) px_nox) (y_opI (gop_bin2 T.bn_Net_Motion_mul T.m_Net_UmulU.at_ T.m_Net_UmulU.fn ((ok_Net_UmulU T).at (hr.mono (by decide))) hx) (bin2L (C := "Net") (ns := ["own_numbers"]) (C' := "Motion") (ns' := ["own_kind", "own_shift"])) (y_prop (cs := ["Carpet", "Woven"]) (ns := ["own_net", "own_text"]) (y_var (pv 0)) (all2 ⟨T.cl_Carpet, _, T.p_Carpet_net⟩ ⟨T.cl_Woven, _, T.p_Woven_net⟩) (ok_Carpet_net T) (hr.mono (by decide)) px_nox) (y_make T.mk_Motion (ok_Motion_UinitU T) (hr.mono (by decide)) rfl T.g_Motion hx (a_cons (y_ix (y_var (pv 3)) y_int (fun _ _ => rfl)) a_nil))) (nomark _))))))))))), fun ds Q h => ?_⟩
  obtain ⟨a0, a1, a2, a3, e0, hh⟩ := ar4E h
  clear h
  subst e0
  have h := hh
  clear hh
  try dsimp only at h
  rw [show startE (List.length N__law_image_right) [a0, a1, a2, a3] = [.val a0, .val a1, .val a2, .val a3, .no, .no, .no, .no, .no, .no, .no] from rfl]
  obtain ⟨C, w, q, r, u, a, b, c, t, k, m, rfl, rfl, rfl, rfl, ⟨hC, cp, o, mx, hM, z1, z2⟩, h⟩ := h
  have ho := mat_orth hM
  have ou := cp.okT
  have a0 := o.a
  have c0 := o.c
  have la := o.al
  have lc := o.cl
  have fe : colF u w q r = colF t a b c := funext cp.col
  refine ⟨fun ρ => ∃ w1 q1 r1 u1, Carp (movF (colF t a b c) m) w1 q1 r1 u1 ∧ ρ = [.val (dCar C w q r u), .val (n3 a b c), .val (.str t), .val (mvD k m), .val (dCar "Woven" w1 q1 r1 u1), .no, .no, .no, .no, .no, .no], ?_, ?_⟩
  · refine ⟨k, m.1, m.2.1, m.2.2, rfl, rfl, hM, hC, rfl, .head _, rfl, C, w, q, r, u, k, m, rfl, rfl, ⟨hC, ou, hM, z1.mono (by decide), z2.mono (by decide)⟩, fun w1 q1 r1 u1 cp1 _ => ⟨w1, q1, r1, u1, ?_, rfl⟩⟩
    rw [fe] at cp1
    exact cp1
  rintro ρ ⟨w1, q1, r1, u1, cp1, rfl⟩
  have o1 := cp1.okT
  have hW : ("Woven" : Str) ∈ carCs := .tail _ (.head _)
  refine ⟨fun ρ => ∃ o5 o6 o7, ρ = [.val (dCar C w q r u), .val (n3 a b c), .val (.str t), .val (mvD k m), .val (dCar "Woven" w1 q1 r1 u1), o5, o6, o7, .no, .no, .no], ?_, ?_⟩
  · refine ⟨a, b, c, rfl, ⟨by omega, by omega, o.mx⟩, fun j ρ => ∃ o5 o6 o7, ρ = [.val (dCar C w q r u), .val (n3 a b c), .val (.str t), .val (mvD k m), .val (dCar "Woven" w1 q1 r1 u1), o5, o6, o7, .no, .no, .no], ⟨_, _, _, rfl⟩, ?_, ?_⟩
    · rintro j d ρ hd ⟨o5, o6, o7, rfl⟩
      obtain ⟨⟨x, y⟩, hq, rfl⟩ := map_get hd
      obtain ⟨m1, m2, m3, m4⟩ := MN.spotsL_mem.mp (List.mem_of_getElem? hq)
      dsimp only at m1 m2 m3 m4
      have zy : Sz 500 y := (sz13 m3 (by omega)).mono (by decide)
      have zx : Sz 500 x := (sz13 m1 (by omega)).mono (by decide)
      have one : ∀ fx fy : Int, MN.InN a b c (fx - x) (fy - y) → (!decide (chr1 (colF u1 w1 q1 r1 (MN.mapp m (fx, fy))) = chr1 (colF t a b c (x, y)))) = false := fun fx fy hi => by
        rw [cp1.col, mov_at ho, show colF t a b c (fx, fy) = colF t a b c (x, y) from MN.col_net o.ok hi]
        simp
      have sz : ∀ fx fy : Int, Sz 500 fx → Sz 500 fy → Sz 4000 (MN.mapp m (fx, fy)).2 := fun fx fy hx hy => (sz_add (sz_turn hM hx hy).2 (z2.mono (by decide))).mono (by decide)
      have p20 : Sz 100 ((10 : Int) ^ 20) := sz_lit (by decide)
      have za : Sz 100 a := o.sa.mono (by decide)
      have zc : Sz 100 c := o.sc.mono (by decide)
      have zb : Sz 100 b := (sz13 o.ok.2.1 (by have := o.ok.2; omega)).mono (by decide)
      have z7 : Sz 100 (7 : Int) := sz_lit (by decide)
      have f2x : Sz 500 (x - 10 ^ 20 * a) := (sz_sub (a := 200) ((sz13 m1 (by omega)).mono (by decide)) (sz_mul p20 za)).mono (by decide)
      have f3x : Sz 500 (x + 7 * b) := (sz_add (a := 200) ((sz13 m1 (by omega)).mono (by decide)) (sz_mul z7 zb)).mono (by decide)
      have f3y : Sz 500 (y + 7 * c) := (sz_add (a := 200) ((sz13 m3 (by omega)).mono (by decide)) (sz_mul z7 zc)).mono (by decide)
      refine ⟨leN rfl, ⟨by decide, by decide, by decide⟩, ⟨p20.mono (by decide), za.mono (by decide)⟩, leN rfl, ⟨z7.mono (by decide), zb.mono (by decide)⟩, ⟨z7.mono (by decide), zc.mono (by decide)⟩, leN rfl, leN rfl, forI_of ?_⟩
      refine ⟨k, m, x, y, rfl, rfl, hM, hW, rfl, "Woven", w1, q1, r1, u1, _, _, rfl, hW, rfl, ⟨o1, sz x y zx zy⟩, leN rfl, a, b, c, t, x, y, rfl, rfl, rfl, ⟨o, zy.mono (by decide)⟩, ifB_F (one x y ⟨0, 0, by omega, by omega⟩) ?_⟩
      refine ⟨k, m, x - 10 ^ 20 * a, y, rfl, rfl, hM, hW, rfl, "Woven", w1, q1, r1, u1, _, _, rfl, hW, rfl, ⟨o1, sz _ y f2x zy⟩, leN rfl, a, b, c, t, x, y, rfl, rfl, rfl, ⟨o, zy.mono (by decide)⟩, ifB_F (one _ y ⟨-10 ^ 20, 0, by omega, by omega⟩) ?_⟩
      refine ⟨k, m, x + 7 * b, y + 7 * c, rfl, rfl, hM, hW, rfl, "Woven", w1, q1, r1, u1, _, _, rfl, hW, rfl, ⟨o1, sz _ _ f3x f3y⟩, leN rfl, a, b, c, t, x, y, rfl, rfl, rfl, ⟨o, zy.mono (by decide)⟩, ifB_F (one _ _ ⟨0, 7, by omega, by omega⟩) ?_⟩
      exact ⟨_, _, _, rfl⟩
    · rintro ρ ⟨o5, o6, o7, rfl⟩
      exact ⟨_, _, _, rfl⟩
  rintro ρ ⟨o5, o6, o7, rfl⟩
  refine ⟨fun ρ => (w ≤ a ∧ r ≤ c) ∧ ρ = [.val (dCar C w q r u), .val (n3 a b c), .val (.str t), .val (mvD k m), .val (dCar "Woven" w1 q1 r1 u1), o5, o6, o7, .val (wovD w q r u), .no, .no], ?_, ?_⟩
  · refine ⟨a, b, c, t, rfl, rfl, ⟨o, by omega⟩, fun w2 q2 r2 u2 cp2 hw hr2 => ?_⟩
    obtain ⟨rfl, rfl, rfl, rfl⟩ := carp_uni cp2 cp
    exact ⟨⟨hw, hr2⟩, rfl⟩
  rintro ρ ⟨⟨hw, hr2⟩, rfl⟩
  have wr : w * r ≤ 100 := by
    have : w * r ≤ a * c := Int.mul_le_mul hw hr2 (by have := ou.c; omega) (by omega)
    omega
  refine ⟨fun ρ => ρ = [.val (dCar C w q r u), .val (n3 a b c), .val (.str t), .val (mvD k m), .val (dCar "Woven" w1 q1 r1 u1), o5, o6, o7, .val (wovD w q r u), .val (n3 w1 q1 r1), .val (.str u1)], ?_, ?_⟩
  · refine ⟨w, q, r, u, k, m, rfl, rfl, rfl, ⟨ou, by omega, hM, z1.mono (by decide), z2.mono (by decide)⟩, fun a' b' c' t' i ot hcol _ => ?_⟩
    obtain ⟨rfl, rfl, rfl⟩ := MN.exact_uni cp1.ex (exact_mov ho cp.ex i)
    have et : t' = u1 := by
      rw [← cell_text ot, hcol, fe, cp1.tx]
    rw [et]
    rfl
  rintro ρ rfl
  refine ⟨hW, rfl, "Woven", w1, q1, r1, u1, rfl, hW, .head _, rfl, w1, q1, r1, rfl, ⟨rfl, rfl⟩, ifB_T (by rw [eqN3]; simp) ⟨hW, rfl, "Woven", w1, q1, r1, u1, rfl, hW, ifB_T (by simp) ?_⟩⟩
  refine ⟨hW, rfl, "Woven", w1, q1, r1, u1, rfl, hW, hC, rfl, C, w, q, r, u, rfl, hC, k, m.1, 0, 0, rfl, rfl, hM, .head _, rfl, .head _, rfl, w, q, r, k, m.1, 0, 0, rfl, rfl, ⟨⟨ou.ok, ou.sa.mono (by decide), ou.sc.mono (by decide)⟩, hM⟩, fun a' b' c' i => ?_⟩
  obtain ⟨rfl, rfl, rfl⟩ := MN.exact_uni cp1.ex (exact_mov ho cp.ex i)
  refine ⟨.head _, rfl, .head _, w1, q1, r1, rfl, .inl ⟨w1, q1, r1, rfl, ?_⟩⟩
  show Q (.bl (false != decide (w1 = w1 ∧ q1 = q1 ∧ r1 = r1)))
  rw [decide_eq_true ⟨rfl, rfl, rfl⟩]
  exact h
end
end K13
namespace K13
open PySem PySem.Spec PyProof.Rows L2 Z Y
section
variable {P : Program} {w : World} {K : Frg} {mg : Str → Option Value} {base : Heap}
theorem ok_law (T : Tx w K mg) : ∀ base : Heap, FnG P w K mg base (L2.CX P w) 17 (He.ga K "law") (spLaw K) := by
  refine y_law (i := 1) T.d_law sc_law (fun _ _ _ _ _ _ us hl => match us, hl with | [_], _ => rfl) rfl (fun base => ok__law_tape T) T.g__law_tape T.k__law_tape (by decide) rfl rfl (by decide) (fun _ _ => rfl) (by first | exact Or.inl rfl | exact Or.inr (Or.inl rfl)) (by first | exact Or.inl rfl | exact Or.inr rfl) (fun _ _ => rfl) (fun _ _ => rfl) (by decide) (by decide) fun base cdv A outer s H E B hB hE hr hx po => ⟨_, (s_cons (s_for (t := .nm 2) po rfl (i_rng1 (by rfl) T.b_range (a_cons y_int a_nil)) (g_nm (pg_name (i := 2) sc_law.nd rfl (by first | exact Or.inl rfl | exact Or.inr rfl)))
    (s_cons (s_asg (t := .tp [3, 4]) (y_call (ok__law_woven T) (hr.mono (by decide)) rfl T.g__law_woven T.k__law_woven hx (a_cons (y_var (pv 1)) (a_cons y_int a_nil))) (g_tp (is := [3, 4]) rfl (pgs_cons (pg_name (i := 3) sc_law.nd rfl (by first | exact Or.inl rfl | exact Or.inr rfl)) (pgs_cons (pg_name (i := 4) sc_law.nd rfl (by first | exact Or.inl rfl | exact Or.inr rfl)) pgs_nil))))
  (s_cut (s_set (i := 5) sc_law.nd rfl (by first | exact Or.inl rfl | exact Or.inr rfl) (y_call (ok__law_made T) (hr.mono (by decide)) rfl T.g__law_made T.k__law_made hx (a_cons (y_var (pv 1)) (a_cons (y_var (pv 3)) (a_cons (y_var (pv 4)) a_nil)))))
  (s_cut (s_set (i := 6) sc_law.nd rfl (by first | exact Or.inl rfl | exact Or.inr rfl) (y_lst (a_cons (y_prop (cs := ["Carpet", "Woven"]) (ns := ["own_net", "own_text"]) (y_var (pv 5)) (all2 ⟨T.cl_Carpet, _, T.p_Carpet_text⟩ ⟨T.cl_Woven, _, T.p_Woven_text⟩) (ok_Carpet_text T) (hr.mono (by decide)) px_nox) (a_cons (y_prop (cs := ["Net"]) (ns := ["own_numbers"]) (y_prop (cs := ["Carpet", "Woven"]) (ns := ["own_net", "own_text"]) (y_var (pv 5)) (all2 ⟨T.cl_Carpet, _, T.p_Carpet_net⟩ ⟨T.cl_Woven, _, T.p_Woven_net⟩) (ok_Carpet_net T) (hr.mono (by decide)) px_nox) (all1 ⟨T.cl_Net, _, T.p_Net_numbers⟩) (ok_Net_numbers T) (hr.mono (by decide)) px_nox) a_nil))))
  (s_cut (s_for (t := .nm 7) po rfl (i_rng1 (by rfl) T.b_range (a_cons y_int a_nil)) (g_nm (pg_name (i := 7) sc_law.nd rfl (by first | exact Or.inl rfl | exact Or.inr rfl)))
    (s_cut (s_par (i := 8) (j := 9) (by rfl) sc_law.nd rfl rfl (by decide) rfl rfl (a_cons (y_call (ok__law_any_move T) (hr.mono (by decide)) rfl T.g__law_any_move T.k__law_any_move hx (a_cons (y_var (pv 1)) a_nil)) (a_cons (y_call (ok__law_any_move T) (hr.mono (by decide)) rfl T.g__law_any_move T.k__law_any_move hx (a_cons (y_var (pv 1)) a_nil)) a_nil)) (by rfl))
  (s_cut (s_if (z_not (z_val (y_call (ok__law_image_right T) (hr.mono (by decide)) rfl T.g__law_image_right T.k__law_image_right hx (a_cons (y_var (pv 5)) (a_cons (y_var (pv 3)) (a_cons (y_var (pv 4)) (a_cons (y_var (pv 8)) a_nil)))))))
    (s_one (s_ret y_bl))
    s_nil)
  (s_cut (s_par (i := 10) (j := 11) (by rfl) sc_law.nd rfl rfl (by decide) rfl rfl (a_cons (y_make T.mk_Motion (ok_Motion_UinitU T) (hr.mono (by decide)) rfl T.g_Motion hx (a_cons (y_ix (y_var (pv 8)) y_int (fun _ _ => rfl)) (a_cons (y_ix (y_var (pv 8)) y_int (fun _ _ => rfl)) a_nil))) (a_cons (y_make T.mk_Motion (ok_Motion_UinitU T) (hr.mono (by decide)) rfl T.g_Motion hx (a_cons (y_ix (y_var (pv 9)) y_int (fun _ _ => rfl)) (a_cons (y_ix (y_var (pv 9)) y_int (fun _ _ => rfl)) a_nil))) a_nil)) (by rfl))
  (s_cut (s_if (z_pt (z_or (z_cmpI (gop_neT T.tw_Carpet_Woven ((ok_Carpet_UeqU T).at (RoomG.in1 (hr.mono (by decide)))) hr.units hx) (eqTL (C := "Carpet") (C' := "Woven") (ns := ["own_net", "own_text"]) (cs := ["Net"]) T.tw_Carpet_Woven ⟨T.cl_Carpet, T.ow_Carpet⟩ ⟨T.cl_Woven, T.ow_Woven⟩ (all1 ⟨⟨T.cl_Net, T.ow_Net⟩, T.nf_Carpet_Net, T.nf_Woven_Net⟩) R_Carpet_UeqU_sym) (y_opI ((gop_bin2 T.bn_Carpet_Motion_mul T.m_Carpet_UmulU.at_ T.m_Carpet_UmulU.fn ((ok_Carpet_UmulU T).at (hr.mono (by decide))) hx).or (gop_bin2 T.bn_Woven_Motion_mul T.m_Woven_UmulU.at_ T.m_Woven_UmulU.fn ((ok_Carpet_UmulU T).at (hr.mono (by decide))) hx)) (bin2sL (C := "Carpet") (D' := "Woven") (ns := ["own_net", "own_text"]) (C' := "Motion") (ns' := ["own_kind", "own_shift"])) (y_opI ((gop_bin2 T.bn_Carpet_Motion_mul T.m_Carpet_UmulU.at_ T.m_Carpet_UmulU.fn ((ok_Carpet_UmulU T).at (hr.mono (by decide))) hx).or (gop_bin2 T.bn_Woven_Motion_mul T.m_Woven_UmulU.at_ T.m_Woven_UmulU.fn ((ok_Carpet_UmulU T).at (hr.mono (by decide))) hx)) (bin2sL (C := "Carpet") (D' := "Woven") (ns := ["own_net", "own_text"]) (C' := "Motion") (ns' := ["own_kind", "own_shift"])) (y_var (pv 5)) (y_var (pv 10))) (y_var (pv 11))) (y_opI ((gop_bin2 T.bn_Carpet_Motion_mul T.m_Carpet_UmulU.at_ T.m_Carpet_UmulU.fn ((ok_Carpet_UmulU T).at (hr.mono (by decide))) hx).or (gop_bin2 T.bn_Woven_Motion_mul T.m_Woven_UmulU.at_ T.m_Woven_UmulU.fn ((ok_Carpet_UmulU T).at (hr.mono (by decide))) hx)) (bin2sL (C := "Carpet") (D' := "Woven") (ns := ["own_net", "own_text"]) (C' := "Motion") (ns' := ["own_kind", "own_shift"])) (y_var (pv 5)) (y_opI (gop_bin (C := He.ga K "Motion") T.ow_Motion.sf T.m_Motion_UmulU.at_ T.m_Motion_UmulU.fn ((ok_Motion_UmulU T).at (hr.mono (by decide))) hx) (binOL (C := "Motion") (ns := ["own_kind", "own_shift"])) (y_var (pv 10)) (y_var (pv 11)))) (nomark _)) (z_or1 (z_cmpI (gop_neT T.tw_Carpet_Woven ((ok_Carpet_UeqU T).at (RoomG.in1 (hr.mono (by decide)))) hr.units hx) (eqTL (C := "Carpet") (C' := "Woven") (ns := ["own_net", "own_text"]) (cs := ["Net"]) T.tw_Carpet_Woven ⟨T.cl_Carpet, T.ow_Carpet⟩ ⟨T.cl_Woven, T.ow_Woven⟩ (all1 ⟨⟨T.cl_Net, T.ow_Net⟩, T.nf_Carpet_Net, T.nf_Woven_Net⟩) R_Carpet_UeqU_sym) (y_opI ((gop_bin2 T.bn_Carpet_Motion_mul T.m_Carpet_UmulU.at_ T.m_Carpet_UmulU.fn ((ok_Carpet_UmulU T).at (hr.mono (by decide))) hx).or (gop_bin2 T.bn_Woven_Motion_mul T.m_Woven_UmulU.at_ T.m_Woven_UmulU.fn ((ok_Carpet_UmulU T).at (hr.mono (by decide))) hx)) (bin2sL (C := "Carpet") (D' := "Woven") (ns := ["own_net", "own_text"]) (C' := "Motion") (ns' := ["own_kind", "own_shift"])) (y_opI ((gop_bin2 T.bn_Carpet_Motion_mul T.m_Carpet_UmulU.at_ T.m_Carpet_UmulU.fn ((ok_Carpet_UmulU T).at (hr.mono (by decide))) hx).or (gop_bin2 T.bn_Woven_Motion_mul T.m_Woven_UmulU.at_ T.m_Woven_UmulU.fn ((ok_Carpet_UmulU T).at (hr.mono (by decide))) hx)) (bin2sL (C := "Carpet") (D' := "Woven") (ns := ["own_net", "own_text"]) (C' := "Motion") (ns' := ["own_kind", "own_shift"])) (y_var (pv 5)) (y_var (pv 10))) (y_inv (C := "Motion") (ns := ["own_kind", "own_shift"]) T.m_Motion_UinvertU.at_ T.m_Motion_UinvertU.fn ((ok_Motion_UinvertU T).at (hr.mono (by decide))) hx (y_var (pv 10)))) (y_var (pv 5)) (nomark _)))))
    (s_one (s_ret y_bl))
    s_nil)
  (s_cut (s_set (i := 12) sc_law.nd rfl (by first | exact Or.inl rfl | exact Or.inr rfl) (y_opI ((gop_binT T.bt_Carpet_tuple_add T.m_Carpet_UaddU.at_ T.m_Carpet_UaddU.fn ((ok_Carpet_UaddU T).at (hr.mono (by decide))) hx).or (gop_binT T.bt_Woven_tuple_add T.m_Woven_UaddU.at_ T.m_Woven_UaddU.fn ((ok_Carpet_UaddU T).at (hr.mono (by decide))) hx)) (binTsL (C := "Carpet") (D' := "Woven") (ns := ["own_net", "own_text"])) (y_var (pv 5)) (y_ix (y_var (pv 8)) y_int (fun _ _ => rfl))))
  (s_cut (s_if (z_pt (z_or (z_cmpI (gop_neT T.tw_Carpet_Woven ((ok_Carpet_UeqU T).at (RoomG.in1 (hr.mono (by decide)))) hr.units hx) (eqTL (C := "Carpet") (C' := "Woven") (ns := ["own_net", "own_text"]) (cs := ["Net"]) T.tw_Carpet_Woven ⟨T.cl_Carpet, T.ow_Carpet⟩ ⟨T.cl_Woven, T.ow_Woven⟩ (all1 ⟨⟨T.cl_Net, T.ow_Net⟩, T.nf_Carpet_Net, T.nf_Woven_Net⟩) R_Carpet_UeqU_sym) (y_var (pv 12)) (y_opI ((gop_bin2 T.bn_Carpet_Motion_mul T.m_Carpet_UmulU.at_ T.m_Carpet_UmulU.fn ((ok_Carpet_UmulU T).at (hr.mono (by decide))) hx).or (gop_bin2 T.bn_Woven_Motion_mul T.m_Woven_UmulU.at_ T.m_Woven_UmulU.fn ((ok_Carpet_UmulU T).at (hr.mono (by decide))) hx)) (bin2sL (C := "Carpet") (D' := "Woven") (ns := ["own_net", "own_text"]) (C' := "Motion") (ns' := ["own_kind", "own_shift"])) (y_var (pv 5)) (y_smeth rfl T.g_Motion T.sm_Motion_by (ok_Motion_by T) (hr.mono (by decide)) hx (a_cons (y_ix (y_var (pv 8)) y_int (fun _ _ => rfl)) a_nil))) (nomark _)) (z_or (z_cmpI (gop_neT T.tw_Carpet_Woven ((ok_Carpet_UeqU T).at (RoomG.in1 (hr.mono (by decide)))) hr.units hx) (eqTL (C := "Carpet") (C' := "Woven") (ns := ["own_net", "own_text"]) (cs := ["Net"]) T.tw_Carpet_Woven ⟨T.cl_Carpet, T.ow_Carpet⟩ ⟨T.cl_Woven, T.ow_Woven⟩ (all1 ⟨⟨T.cl_Net, T.ow_Net⟩, T.nf_Carpet_Net, T.nf_Woven_Net⟩) R_Carpet_UeqU_sym) (y_opI ((gop_binT T.bt_Carpet_tuple_sub T.m_Carpet_UsubU.at_ T.m_Carpet_UsubU.fn ((ok_Carpet_UsubU T).at (hr.mono (by decide))) hx).or (gop_binT T.bt_Woven_tuple_sub T.m_Woven_UsubU.at_ T.m_Woven_UsubU.fn ((ok_Carpet_UsubU T).at (hr.mono (by decide))) hx)) (binTsL (C := "Carpet") (D' := "Woven") (ns := ["own_net", "own_text"])) (y_var (pv 12)) (y_ix (y_var (pv 8)) y_int (fun _ _ => rfl))) (y_var (pv 5)) (nomark _)) (z_or1 (z_cmpI (gop_neT T.tw_Carpet_Woven ((ok_Carpet_UeqU T).at (RoomG.in1 (hr.mono (by decide)))) hr.units hx) (eqTL (C := "Carpet") (C' := "Woven") (ns := ["own_net", "own_text"]) (cs := ["Net"]) T.tw_Carpet_Woven ⟨T.cl_Carpet, T.ow_Carpet⟩ ⟨T.cl_Woven, T.ow_Woven⟩ (all1 ⟨⟨T.cl_Net, T.ow_Net⟩, T.nf_Carpet_Net, T.nf_Woven_Net⟩) R_Carpet_UeqU_sym) (y_opI ((gop_binT T.bt_Carpet_tuple_add T.m_Carpet_UaddU.at_ T.m_Carpet_UaddU.fn ((ok_Carpet_UaddU T).at (hr.mono (by decide))) hx).or (gop_binT T.bt_Woven_tuple_add T.m_Woven_UaddU.at_ T.m_Woven_UaddU.fn ((ok_Carpet_UaddU T).at (hr.mono (by decide))) hx)) (binTsL (C := "Carpet") (D' := "Woven") (ns := ["own_net", "own_text"])) (y_opI ((gop_binT T.bt_Carpet_tuple_sub T.m_Carpet_UsubU.at_ T.m_Carpet_UsubU.fn ((ok_Carpet_UsubU T).at (hr.mono (by decide))) hx).or (gop_binT T.bt_Woven_tuple_sub T.m_Woven_UsubU.at_ T.m_Woven_UsubU.fn ((ok_Carpet_UsubU T).at (hr.mono (by decide))) hx)) (binTsL (C := "Carpet") (D' := "Woven") (ns := ["own_net", "own_text"])) (y_var (pv 5)) (y_ix (y_var (pv 8)) y_int (fun _ _ => rfl))) (y_ix (y_var (pv 8)) y_int (fun _ _ => rfl))) (y_var (pv 5)) (nomark _))))))
    (s_one (s_ret y_bl))
    s_nil)
  (s_one (s_if (z_cmp (op_neY hr.units) neL (y_callB (call_reprD hr) reprL (by rfl) T.b_repr (by decide +kernel) (a_cons (y_meth (cs := ["Carpet", "Woven"]) (ns := ["own_net", "own_text"]) (y_var (pv 5)) (all2 ⟨T.cl_Carpet, T.m_Carpet_is_kept_by⟩ ⟨T.cl_Woven, T.m_Woven_is_kept_by⟩) (ok_Carpet_is_kept_by T) (hr.mono (by decide)) hx (a_cons (y_var (pv 10)) a_nil)) a_nil)) (y_callB (call_reprD hr) reprL (by rfl) T.b_repr (by decide +kernel) (a_cons (y_cmpI (gop_eqT T.tw_Carpet_Woven ((ok_Carpet_UeqU T).at (hr.mono (by decide))) hr.units hx) (eqTL (C := "Carpet") (C' := "Woven") (ns := ["own_net", "own_text"]) (cs := ["Net"]) T.tw_Carpet_Woven ⟨T.cl_Carpet, T.ow_Carpet⟩ ⟨T.cl_Woven, T.ow_Woven⟩ (all1 ⟨⟨T.cl_Net, T.ow_Net⟩, T.nf_Carpet_Net, T.nf_Woven_Net⟩) R_Carpet_UeqU_sym) (y_opI ((gop_bin2 T.bn_Carpet_Motion_mul T.m_Carpet_UmulU.at_ T.m_Carpet_UmulU.fn ((ok_Carpet_UmulU T).at (hr.mono (by decide))) hx).or (gop_bin2 T.bn_Woven_Motion_mul T.m_Woven_UmulU.at_ T.m_Woven_UmulU.fn ((ok_Carpet_UmulU T).at (hr.mono (by decide))) hx)) (bin2sL (C := "Carpet") (D' := "Woven") (ns := ["own_net", "own_text"]) (C' := "Motion") (ns' := ["own_kind", "own_shift"])) (y_var (pv 5)) (y_var (pv 10))) (y_var (pv 5)) (nomark _)) a_nil)) (nomark _))
    (s_one (s_ret y_bl))
    s_nil)))))))))
  (s_one (s_if (z_cmp (op_neY hr.units) neL (y_lst (a_cons (y_prop (cs := ["Carpet", "Woven"]) (ns := ["own_net", "own_text"]) (y_var (pv 5)) (all2 ⟨T.cl_Carpet, _, T.p_Carpet_text⟩ ⟨T.cl_Woven, _, T.p_Woven_text⟩) (ok_Carpet_text T) (hr.mono (by decide)) px_nox) (a_cons (y_prop (cs := ["Net"]) (ns := ["own_numbers"]) (y_prop (cs := ["Carpet", "Woven"]) (ns := ["own_net", "own_text"]) (y_var (pv 5)) (all2 ⟨T.cl_Carpet, _, T.p_Carpet_net⟩ ⟨T.cl_Woven, _, T.p_Woven_net⟩) (ok_Carpet_net T) (hr.mono (by decide)) px_nox) (all1 ⟨T.cl_Net, _, T.p_Net_numbers⟩) (ok_Net_numbers T) (hr.mono (by decide)) px_nox) a_nil))) (y_var (pv 6)) (nomark _))
    (s_one (s_ret y_bl))
    s_nil)))))))
  (s_one (s_ret y_bl))), ?_⟩
  rw [show (List.replicate (List.length N_law) Sl.no).set 1 (.val .tape) = [.no, .val .tape, .no, .no, .no, .no, .no, .no, .no, .no, .no, .no, .no] from rfl]
  have hW : ("Woven" : Str) ∈ carCs := .tail _ (.head _)
  have shb : ∀ b : Bool, shP 0 (.bl b) ∧ (toP (.bl b)).bulk ≤ 8000 ∧ (toP (.bl b)).depth ≤ 40 := fun b => ⟨trivial, by cases b <;> decide, by cases b <;> decide⟩
  refine ⟨by decide, by decide, fun i ρ => ∃ o2 o3 o4 o5 o6 o7 o8 o9 o10 o11 o12, ρ = [.no, .val .tape, o2, o3, o4, o5, o6, o7, o8, o9, o10, o11, o12], ⟨_, _, _, _, _, _, _, _, _, _, _, rfl⟩, ?_, ?_⟩
  · rintro i d ρ hd ⟨o2, o3, o4, o5, o6, o7, o8, o9, o10, o11, o12, rfl⟩
    obtain ⟨hi, rfl⟩ := rngD_at hd
    refine ⟨20, rfl, rfl, ⟨by decide, by decide⟩, fun a b c t W => ?_⟩
    have o := W.okT (by decide)
    obtain ⟨a0, c0, a24, c24⟩ := W.ac
    have lt := lets_low W.le
    have mx := W.mx
    refine ⟨fun ρ => ∃ C w q r u, (C ∈ carCs ∧ Carp (colF t a b c) w q r u ∧ w ≤ a ∧ r ≤ c) ∧ ρ = [.no, .val .tape, .val (.int (0 + (i : Nat))), .val (n3 a b c), .val (.str t), .val (dCar C w q r u), o6, o7, o8, o9, o10, o11, o12], ⟨a, b, c, t, rfl, rfl, rfl, ⟨o, lt, by omega, by omega, by omega⟩, fun C w q r u hC cp hw hr2 => ⟨C, w, q, r, u, ⟨hC, cp, hw, hr2⟩, rfl⟩⟩, ?_⟩
    rintro ρ ⟨C, w, q, r, u, ⟨hC, cp, hw, hr2⟩, rfl⟩
    obtain ⟨⟨w24, r24, wr⟩, lu, _⟩ := W.bnd (by decide) cp hw hr2
    have ou := cp.okT
    have fe : colF u w q r = colF t a b c := funext cp.col
    refine ⟨fun ρ => ρ = [.no, .val .tape, .val (.int (0 + (i : Nat))), .val (n3 a b c), .val (.str t), .val (dCar C w q r u), .val (.lst [.str u, n3 w q r]), o7, o8, o9, o10, o11, o12], ⟨hC, rfl, C, w, q, r, u, rfl, hC, hC, rfl, C, w, q, r, u, rfl, hC, .head _, rfl, w, q, r, rfl, leN rfl, rfl⟩, ?_⟩
    rintro ρ rfl
    refine ⟨fun ρ => ∃ o7 o8 o9 o10 o11 o12, ρ = [.no, .val .tape, .val (.int (0 + (i : Nat))), .val (n3 a b c), .val (.str t), .val (dCar C w q r u), .val (.lst [.str u, n3 w q r]), o7, o8, o9, o10, o11, o12], ?_, ?_⟩
    · refine ⟨by decide, by decide, fun j ρ => ∃ o7 o8 o9 o10 o11 o12, ρ = [.no, .val .tape, .val (.int (0 + (i : Nat))), .val (n3 a b c), .val (.str t), .val (dCar C w q r u), .val (.lst [.str u, n3 w q r]), o7, o8, o9, o10, o11, o12], ⟨_, _, _, _, _, _, rfl⟩, ?_, ?_⟩
      · rintro j d ρ hd ⟨o7, o8, o9, o10, o11, o12, rfl⟩
        obtain ⟨hj, rfl⟩ := rngD_at hd
        refine ⟨fun ρ => ∃ k m l n, ((mat k = some m.1 ∧ Sz 100 m.2.1 ∧ Sz 100 m.2.2) ∧ mat l = some n.1 ∧ Sz 100 n.2.1 ∧ Sz 100 n.2.2) ∧ ρ = [.no, .val .tape, .val (.int (0 + (i : Nat))), .val (n3 a b c), .val (.str t), .val (dCar C w q r u), .val (.lst [.str u, n3 w q r]), .val (.int (0 + (j : Nat))), .val (mvD k m), .val (mvD l n), o10, o11, o12], ⟨rfl, fun k m h1 h2 h3 => ⟨rfl, fun l n h4 h5 h6 => ⟨k, m, l, n, ⟨⟨h1, h2, h3⟩, h4, h5, h6⟩, rfl⟩⟩⟩, ?_⟩
        rintro ρ ⟨k, m, l, n, ⟨⟨hm, x1, x2⟩, hn, y1, y2⟩, rfl⟩
        have om := mat_orth hm
        have on := mat_orth hn
        have omn := orth_comp hm hn
        refine ⟨fun ρ => ρ = [.no, .val .tape, .val (.int (0 + (i : Nat))), .val (n3 a b c), .val (.str t), .val (dCar C w q r u), .val (.lst [.str u, n3 w q r]), .val (.int (0 + (j : Nat))), .val (mvD k m), .val (mvD l n), o10, o11, o12], ⟨C, w, q, r, u, a, b, c, t, k, m, rfl, rfl, rfl, rfl, ⟨hC, cp, o, by omega, hm, x1, x2⟩, ifB_F rfl rfl⟩, ?_⟩
        rintro ρ rfl
        refine ⟨fun ρ => ρ = [.no, .val .tape, .val (.int (0 + (i : Nat))), .val (n3 a b c), .val (.str t), .val (dCar C w q r u), .val (.lst [.str u, n3 w q r]), .val (.int (0 + (j : Nat))), .val (mvD k m), .val (mvD l n), .val (dM k m), .val (dM l n), o12], ⟨k, m.1, m.2.1, m.2.2, rfl, rfl, hm, l, n.1, n.2.1, n.2.2, rfl, rfl, hn, rfl⟩, ?_⟩
        rintro ρ rfl
        have mS := sz_turn hn x1 x2
        refine ⟨fun ρ => ρ = [.no, .val .tape, .val (.int (0 + (i : Nat))), .val (n3 a b c), .val (.str t), .val (dCar C w q r u), .val (.lst [.str u, n3 w q r]), .val (.int (0 + (j : Nat))), .val (mvD k m), .val (mvD l n), .val (dM k m), .val (dM l n), o12], ?_, ?_⟩
        · refine ⟨hC, rfl, .head _, rfl, C, w, q, r, u, k, m, rfl, rfl, ⟨hC, ou, hm, x1.mono (by decide), x2.mono (by decide)⟩, fun w1 q1 r1 u1 cp1 _ => ?_⟩
          rw [fe] at cp1
          have fe1 : colF u1 w1 q1 r1 = movF (colF t a b c) m := funext cp1.col
          refine ⟨hW, rfl, .head _, rfl, "Woven", w1, q1, r1, u1, l, n, rfl, rfl, ⟨hW, cp1.okT, hn, y1.mono (by decide), y2.mono (by decide)⟩, fun w2 q2 r2 u2 cp2 _ => ?_⟩
          rw [fe1, mov_mov om on omn] at cp2
          refine ⟨.head _, rfl, .head _, rfl, k, l, m.1, n.1, m.2.1, m.2.2, n.2.1, n.2.2, rfl, rfl, ⟨hm, hn, x1.mono (by decide), x2.mono (by decide)⟩, fun tt ht => ?_⟩
          refine ⟨hC, rfl, .head _, rfl, C, w, q, r, u, tt, MN.mmul m n, rfl, rfl, ⟨hC, ou, ht, (sz_add mS.1 y1).mono (by decide), (sz_add mS.2 y2).mono (by decide)⟩, fun w3 q3 r3 u3 cp3 _ => ?_⟩
          rw [fe] at cp3
          refine ⟨hW, rfl, memT hW, _, _, _, _, _, rfl, hW, .inl ⟨_, _, _, _, _, rfl, hW, ?_⟩⟩
          rw [carp_eq cp2 cp3, sameF_self]
          refine ifB_F rfl ?_
          refine ⟨hC, rfl, .head _, rfl, C, w, q, r, u, k, m, rfl, rfl, ⟨hC, ou, hm, x1.mono (by decide), x2.mono (by decide)⟩, fun w4 q4 r4 u4 cp4 _ => ?_⟩
          rw [fe] at cp4
          have fe4 : colF u4 w4 q4 r4 = movF (colF t a b c) m := funext cp4.col
          refine ⟨.head _, rfl, k, m.1, m.2.1, m.2.2, rfl, ⟨hm, x1.mono (by decide), x2.mono (by decide)⟩, fun kt hkt => ?_⟩
          have tS := sz_turn hkt x1 x2
          refine ⟨hW, rfl, .head _, rfl, "Woven", w4, q4, r4, u4, kt, MN.minv m, rfl, rfl, ⟨hW, cp4.okT, hkt, (sz_neg tS.1).mono (by decide), (sz_neg tS.2).mono (by decide)⟩, fun w5 q5 r5 u5 cp5 _ => ?_⟩
          rw [fe4, mov_back om] at cp5
          refine ⟨hW, rfl, memT hC, _, _, _, _, _, rfl, hW, .inl ⟨_, _, _, _, _, rfl, hC, ?_⟩⟩
          rw [carp_eq cp5 cp, sameF_self]
          exact ifB_F rfl rfl
        rintro ρ rfl
        refine ⟨fun ρ => ∃ w1 q1 r1 u1, Carp (shF (colF t a b c) m.2.1 m.2.2) w1 q1 r1 u1 ∧ ρ = [.no, .val .tape, .val (.int (0 + (i : Nat))), .val (n3 a b c), .val (.str t), .val (dCar C w q r u), .val (.lst [.str u, n3 w q r]), .val (.int (0 + (j : Nat))), .val (mvD k m), .val (mvD l n), .val (dM k m), .val (dM l n), .val (dCar "Woven" w1 q1 r1 u1)], ?_, ?_⟩
        · refine ⟨hC, rfl, C, w, q, r, u, m.2.1, m.2.2, rfl, rfl, ⟨hC, ou, x2.mono (by decide)⟩, fun w1 q1 r1 u1 cp1 _ _ => ⟨w1, q1, r1, u1, ?_, rfl⟩⟩
          rw [fe] at cp1
          exact cp1
        rintro ρ ⟨w1, q1, r1, u1, cp1, rfl⟩
        have fe1 : colF u1 w1 q1 r1 = shF (colF t a b c) m.2.1 m.2.2 := funext cp1.col
        refine ⟨fun ρ => ρ = [.no, .val .tape, .val (.int (0 + (i : Nat))), .val (n3 a b c), .val (.str t), .val (dCar C w q r u), .val (.lst [.str u, n3 w q r]), .val (.int (0 + (j : Nat))), .val (mvD k m), .val (mvD l n), .val (dM k m), .val (dM l n), .val (dCar "Woven" w1 q1 r1 u1)], ?_, ?_⟩
        · refine ⟨m.2.1, m.2.2, rfl, hC, rfl, .head _, rfl, C, w, q, r, u, "none", ((1, 0, 0, 1), m.2.1, m.2.2), rfl, rfl, ⟨hC, ou, rfl, x1.mono (by decide), x2.mono (by decide)⟩, fun w2 q2 r2 u2 cp2 _ => ?_⟩
          rw [fe, mov_shift] at cp2
          refine ⟨hW, rfl, memT hW, _, _, _, _, _, rfl, hW, .inl ⟨_, _, _, _, _, rfl, hW, ?_⟩⟩
          rw [carp_eq cp1 cp2, sameF_self]
          refine ifB_F rfl ?_
          refine ⟨hW, rfl, "Woven", w1, q1, r1, u1, m.2.1, m.2.2, rfl, rfl, ⟨hW, cp1.okT, x2.mono (by decide)⟩, fun w3 q3 r3 u3 cp3 _ _ => ?_⟩
          rw [fe1, sh_sh, show m.2.1 + -m.2.1 = 0 by omega, show m.2.2 + -m.2.2 = 0 by omega, sh_zero] at cp3
          refine ⟨hW, rfl, memT hC, _, _, _, _, _, rfl, hW, .inl ⟨_, _, _, _, _, rfl, hC, ?_⟩⟩
          rw [carp_eq cp3 cp, sameF_self]
          refine ifB_F rfl ?_
          refine ⟨hC, rfl, C, w, q, r, u, m.2.1, m.2.2, rfl, rfl, ⟨hC, ou, x2.mono (by decide)⟩, fun w4 q4 r4 u4 cp4 _ _ => ?_⟩
          rw [fe] at cp4
          have fe4 : colF u4 w4 q4 r4 = shF (colF t a b c) (-m.2.1) (-m.2.2) := funext cp4.col
          refine ⟨hW, rfl, "Woven", w4, q4, r4, u4, m.2.1, m.2.2, rfl, rfl, ⟨hW, cp4.okT, x2.mono (by decide)⟩, fun w5 q5 r5 u5 cp5 _ _ => ?_⟩
          rw [fe4, sh_sh, show -m.2.1 + m.2.1 = 0 by omega, show -m.2.2 + m.2.2 = 0 by omega, sh_zero] at cp5
          refine ⟨hW, rfl, memT hC, _, _, _, _, _, rfl, hW, .inl ⟨_, _, _, _, _, rfl, hC, ?_⟩⟩
          rw [carp_eq cp5 cp, sameF_self]
          exact ifB_F rfl rfl
        rintro ρ rfl
        refine ⟨hC, rfl, colF t a b c, C, w, q, r, u, k, m, rfl, rfl, ⟨hC, cp, hm, x1.mono (by decide), x2.mono (by decide)⟩, shb _, ?_⟩
        refine ⟨hC, rfl, .head _, rfl, C, w, q, r, u, k, m, rfl, rfl, ⟨hC, ou, hm, x1.mono (by decide), x2.mono (by decide)⟩, fun w2 q2 r2 u2 cp2 _ => ?_⟩
        rw [fe] at cp2
        refine ⟨hW, rfl, memT hC, _, _, _, _, _, rfl, hW, .inl ⟨_, _, _, _, _, rfl, hC, ?_⟩⟩
        rw [carp_eq cp2 cp]
        refine ⟨shb _, ifB_F ?_ ⟨_, _, _, _, _, _, rfl⟩⟩
        simp
      · rintro ρ ⟨o7, o8, o9, o10, o11, o12, rfl⟩
        exact ⟨_, _, _, _, _, _, rfl⟩
    rintro ρ ⟨o7, o8, o9, o10, o11, o12, rfl⟩
    have okl : okD 8 (.lst [.str u, n3 w q r]) = true := by
      show ([D.str u, n3 w q r].all (okD 7)) = true
      have : okD 7 (.str u) = true := lowS_ok lu
      simp only [List.all_cons, this]
      rfl
    refine ⟨hC, rfl, C, w, q, r, u, rfl, hC, hC, rfl, C, w, q, r, u, rfl, hC, .head _, rfl, w, q, r, rfl, leN rfl, ⟨okl, okl⟩, ifB_F ?_ ⟨_, _, _, _, _, _, _, _, _, _, _, rfl⟩⟩
    simp [eqD, eqDs]
  · rintro ρ ⟨o2, o3, o4, o5, o6, o7, o8, o9, o10, o11, o12, rfl⟩
    rfl
end
end K13
namespace K13
open PySem PySem.Spec PyProof.Rows L2 Z
theorem facts {P : Program} {w : World} {K : Frg} {h : Heap} {mg : Str → Option Value} {f : Addr} (X : K.In h) (G : h.Ns mainGlobals mg) (hfa : mg ("law" : Str) = some (.ref f)) (c : Says ask w h K) : ∀ base : Heap, FnG P w K mg base (L2.CX P w) 17 f (spLaw K) := by
  have T := tx_of X G c
  have e2 : f = He.ga K "law" := by
    have e3 := hfa.symm.trans T.g_law
    injection e3 with e4
    injection e4
  rw [e2]
  exact ok_law T
end K13
end
open PySem PySem.W PySem.Calls PyProof.Rows
theorem PySem.Challenge.cw_carpets_k13_carpets_moved_holds : PySem.Challenge.rw_carpets_k13_carpets_moved.Holds := by
  w_on; o_law
  refine HandSHeadRun.head_any (r := K13.R) (q := K13.qv) (H := K13.hk) (ob := K13.ob) (M := 12000) (loose := K13.loose) (d := HandSHeadRun.topDef K13.R.prog 71) (kwd := []) K13.ob_eq
    (by kernel_rfl) (fun s => by kernel_rfl) K13.run (by kernel_rfl) (by kernel_rfl) (by kernel_rfl) (by rfl) (by first | assumption | decide +kernel) (by decide +kernel) ⟨rfl, rfl, rfl, rfl, rfl, by decide +kernel⟩ ?hw ?hc
  case hw => w_witness2
  case hc =>
    refine Z.walk_G (l := PySem.Challenge.rw_carpets_k13_carpets_moved) (n := 63) (k := 17) (CX := fun w => L2.CX PySem.Challenge.rw_carpets_k13_carpets_moved.prog w) rfl (by decide) (by kernel_rfl) ⟨rfl, by decide, by decide⟩ ?F (Z.cx_no (P := fun _ => PySem.Challenge.rw_carpets_k13_carpets_moved.prog))
    intro w mg fa h Y G hmg0
    obtain ⟨K, KX, c⟩ := Y
    have hmg : mg ("law" : PySem.Str) = some (.ref fa) := by
      have e : (HandSHeadRun.topDef K13.R.prog 71).name = ("law" : PySem.Str) := by kernel_rfl
      rw [← e]
      exact hmg0
    have hF := K13.facts (P := PySem.Challenge.rw_carpets_k13_carpets_moved.prog) (w := w) KX G hmg c
    exact ⟨K, KX, [], Z.spLaw K, (fun _ hp => (List.not_mem_nil hp).elim), (fun _ hp => (List.not_mem_nil hp).elim), (fun _ hp => (List.not_mem_nil hp).elim), fun H a ns hl _ hS => ⟨_, rfl, a, ns, rfl, hl, hS, fun _ => rfl⟩, fun base _ _ _ => hF base⟩
