import PyProof.Rows.All
import Wide.All
import OpenK.AllK
import Wide.FinOn
import HandS.ForMost
import HandS.ForExc
import HandS.More
import HandS.Wide
import HandS.Property
import HandS.Star
import HandS.ClsMeth
import HandS.SlotsOwn
import HandS.IsInst
import HandS.Defaults
import HandS.RaiseMore
import HandS.EndBits
import HandS.Style
import HandS.Head0
import HandS.Head1
import HandS.Head2
import HandS.HeadEnd
import HandS.HeadHook1
import HandS.HeadHook2
import HandS.HeadHook3
import HandS.HeadHook4
import HandS.HeadNt
import HandS.HeadWalk
import HandS.Walk
import HandS.Evl
import HandS.TryOnly
import KE.KOpsOwn
import HandS.EndTab
import HandS.Deep
import HandS.WideMore
import KE.KAssignIn
import HandS.Text
import PyProof.ReprBulk
import PyProof.ReprRoads
import KE.KDictWalk
import HandS.Iter
import HandS.FStr
import PyProof.FString
import PyProof.FString4
import KE.GoesEnum
import HandS.MakeKwOnly
import PyProof.GenRules
import PyProof.GenQ
import HandS.GenOver
import PyProof.GenComp
import HandS.GenList
import HandS.ExcField
import HandS.ExcIs
import KE.KExcInit
import PyProof.Draws
import HandS.NestedK
import PySem.Challenge.RW_carpets_k08_invalid_motions
set_option Elab.async false
set_option linter.all false
set_option maxRecDepth 100000
set_option maxHeartbeats 4000000
namespace Z
open PySem PySem.Spec PyProof.Rows L2
/-! ### heaps: a frozen part F of H; what goes on -/
structure Go (ms : List Addr) (F H F' H' : Hp) : Prop where
  ff : Same F F'
  fh : Same F' H'
  mu : ∀ a o, a ∉ ms → F a = none → H a = some o → F' a = none ∧ H' a = some o
section
variable {ms ms' : List Addr} {F H F1 H1 F2 H2 : Hp} {p a : Addr} {o : HO} {K : PySem.W.Frag} {xs : List V}
theorem Go.refl (h : Same F H) : Go ms F H F H := ⟨Same.refl _, h, fun _ _ _ h1 h2 => ⟨h1, h2⟩⟩
theorem Go.trans (x : Go ms F H F1 H1) (y : Go ms F1 H1 F2 H2) : Go ms F H F2 H2 :=
  ⟨x.ff.trans y.ff, y.fh, fun a o hm h1 h2 => let ⟨a1, a2⟩ := x.mu a o hm h1 h2; y.mu a o hm a1 a2⟩
theorem Go.sub (x : Go ms F H F1 H1) (h : ∀ a ∈ ms, a ∈ ms') : Go ms' F H F1 H1 := ⟨x.ff, x.fh, fun a o hm => x.mu a o fun z => hm (h a z)⟩
theorem Go.nil (x : Go [] F H F1 H1) : Go ms F H F1 H1 := x.sub fun _ h => nomatch h
/-- a new object, frozen -/
theorem Go.new (h : Same F H) (hp : H p = none) : Go ms F H (upd F p o) (upd H p o) := by
  refine ⟨fun a u e => ?_, fun a u e => ?_, fun a u _ h1 h2 => ?_⟩
  · rw [upd_ne (ne_of_none (h a u e) hp)]; exact e
  · by_cases ha : a = p
    · subst ha; rw [upd_same] at e ⊢; exact e
    · rw [upd_ne ha] at e ⊢; exact h a u e
  · have ha := ne_of_none h2 hp
    exact ⟨by rw [upd_ne ha]; exact h1, by rw [upd_ne ha]; exact h2⟩
/-- a new object that may change -/
theorem Go.newM (h : Same F H) (hp : H p = none) : Go ms F H F (upd H p o) := by
  refine ⟨Same.refl _, fun a u e => ?_, fun a u _ h1 h2 => ⟨h1, ?_⟩⟩
  · rw [upd_ne (ne_of_none (h a u e) hp)]; exact h a u e
  · rw [upd_ne (ne_of_none h2 hp)]; exact h2
/-- a store -/
theorem Go.put (h : Same F H) (hp : F p = none) : Go [p] F H F (upd H p o) := by
  refine ⟨Same.refl _, fun a u e => ?_, fun a u hm h1 h2 => ⟨h1, ?_⟩⟩
  · rw [upd_ne (ne_of_none e hp)]; exact h a u e
  · rw [upd_ne (fun z => hm (by rw [z]; exact List.mem_cons_self))]; exact h2
/-- an object that was changed is frozen from now on -/
theorem Go.freeze (h : Same F H) (hp : F p = none) (e : H p = some o) : Go [p] F H (upd F p o) H := by
  refine ⟨fun a u z => ?_, fun a u z => ?_, fun a u hm h1 h2 => ⟨?_, h2⟩⟩
  · rw [upd_ne (ne_of_none z hp)]; exact z
  · by_cases ha : a = p
    · subst ha; rw [upd_same] at z; rw [e]; exact z
    · rw [upd_ne ha] at z; exact h a u z
  · rw [upd_ne (fun z => hm (by rw [z]; exact List.mem_cons_self))]; exact h1
theorem same_none {F H : Hp} {p : Addr} (h : Same F H) (e : H p = none) : F p = none := h.free e
/-- drop from ms what was free at the start -/
theorem Go.drop (x : Go (p :: ms) F H F1 H1) (hp : H p = none) : Go ms F H F1 H1 :=
  ⟨x.ff, x.fh, fun a o hm h1 h2 => x.mu a o (fun z => by
    rcases List.mem_cons.mp z with e | e
    · rw [e, hp] at h2; cases h2
    · exact hm e) h1 h2⟩
theorem sqT (s : Same F H) (h : SqT K F a xs) : SqT K H a xs := by
  rcases h with (h | ⟨o, h⟩) | h
  · exact .inl (.inl (s _ _ h))
  · exact .inl (.inr ⟨o, s _ _ h⟩)
  · exact .inr h
theorem sqL (s : Same F H) (h : SqL K F a xs) : SqL K H a xs := s.seq h
mutual
theorem dp_mono {F H : Hp} (s : Same F H) : ∀ (d : PyData) (v : V), Dp K F v d → Dp K H v d
  | .none, _, h => by cases h; exact .non
  | .bool b, _, h => by cases h; exact .bl b
  | .int i, _, h => by cases h; exact .int i
  | .str x, _, h => by cases h; exact .str x
  | .list ds, _, h => by
    cases h with
    | lst h1 h2 => exact .lst (sqL s h1) (dpAll_mono s ds _ h2)
  | .tuple ds, _, h => by
    cases h with
    | tup h1 h2 => exact .tup (sqT s h1) (dpAll_mono s ds _ h2)
  | .dict _, _, h => by cases h
theorem dpAll_mono {F H : Hp} (s : Same F H) : ∀ (ds : List PyData) (vs : List V), DpAll K F vs ds → DpAll K H vs ds
  | [], _, h => by cases h; exact .nil
  | d :: ds, _, h => by
    cases h with
    | cons h1 h2 => exact .cons (dp_mono s d _ h1) (dpAll_mono s ds _ h2)
end
end
/-! ### calls by positional promises -/
section
variable {X : Cx} {CX : CXT} {k : Nat} {f C p g : Addr} {sp : Sp} {E : XK} {x m : Str} {p0 pos apos : Pos} {e o a b : Expr} {es : List Expr} {ta tb : TE} {t : TA}
def tFn (sp : Sp) (E : XK) (t : TA) : TE := fun σ H Q => t σ H fun vs H1 => sp vs H1 Q E
theorem zcall (F : FnR X.prog X.w X.K X.mg X.base CX k f sp) (hr : Room k X.A) (hg : Gl X x) (hm : X.mg x = some (.ref f)) (hk : PySem.W.keepIn X.K (.ref f) = true) (hx : Passes CX X E)
    (ha : PA X (e :: es) t) (hdb : (x == ("__debug__" : Str)) = false := by decide) (he : starEach (e :: es) X.env = (false, eval e X.env) :: starEach es X.env := by rfl) (hpl : (backTo pos (starEach es X.env)).any (·.1) = false := by rfl) :
    PE X (.Call (.Name x p0) (e :: es) [] pos) (tFn sp E t) := by
  refine ⟨fun pins s σ H Q I h => ?_⟩
  refine wpAny_Call_Name_kw (ld_glob I hg hm ?_ hdb)
  refine PySem.W.callWith_K (h₀ := X.base) I.ok.mod.kin hk (thn (ha.run pos pins s σ H _ I h) fun us s1 ⟨vs, H1, I1, r, q⟩ => ⟨I1.kIn, ?_⟩) he hpl
  exact wpAny_call (run_fnR F hr hx I1 r q)
theorem zcall0 (F : FnR X.prog X.w X.K X.mg X.base CX k f sp) (hr : Room k X.A) (hg : Gl X x) (hm : X.mg x = some (.ref f)) (hk : PySem.W.keepIn X.K (.ref f) = true) (hx : Passes CX X E)
    (hdb : (x == ("__debug__" : Str)) = false := by decide) : PE X (.Call (.Name x p0) [] [] pos) (tFn sp E tNil) := by
  refine ⟨fun pins s σ H Q I h => ?_⟩
  refine wpAny_Call_Name_kw (ld_glob I hg hm ?_ hdb)
  exact PySem.W.callWith_K0 I.kIn hk (wpAny_call (run_fnR (us := []) F hr hx I .nil h))
theorem zmeth0 {pl : Sem Bool} (he : PE X o ta) (c : Cls X.K C) (hm : Meth X.K C m f) (F : FnR X.prog X.w X.K X.mg X.base CX k f sp) (hr : Room k X.A) (hx : Passes CX X E)
    (ht : eval (.Call (.Attribute o m apos) [] [] pos) X.env = (do
      let ov ← eval o X.env
      standAt apos.atName
      let (f, first) ← holding [ov] (getMethod ov m pl)
      callWith pos f first (backTo pos (starEach [] X.env)) (backToKw pos (keywordEach [] X.env))) := by rfl) :
    PE X (.Call (.Attribute o m apos) [] [] pos) (tMethR C m sp E ta tNil) := by
  refine ⟨fun pins s σ H Q I h => ?_⟩
  refine PySem.W.methodCall_KW (pl := pl) (thn (he.run pins s σ H _ I h) fun u s1 ⟨x, H1, I1, rx, a, dx, fs, ex, ea, l, q⟩ => ?_) ht
  subst ex
  obtain rfl : u = Value.ref a := rx
  refine getmeth_ok I1 ea c hm l ?_
  exact PySem.W.callWith_K0 (first := [.ref a]) I1.kIn hm.kp (wpAny_call (run_fnR (us := [.ref a]) (vs := [.ref a]) F hr hx I1 (.cons rfl .nil) q))
/-- o.f, a property -/
def tPropR (C : Addr) (sp : Sp) (E : XK) (ta : TE) : TE := fun σ H Q => ta σ H fun x H1 => ∃ a dx fs, x = .ref a ∧ H1 a = some (.ins C dx fs) ∧ sp [.ref a] H1 Q E
theorem zprop (he : PE X e ta) (c : Cls X.K C) (hp : PropOf X.K C m p g) (F : FnR X.prog X.w X.K X.mg X.base CX k g sp) (hr : Room (k + 1) X.A) (hx : Passes CX X.nox E)
    (hab : attributeBase e m X.env (eval e X.env) = eval e X.env := by rfl) : PE X (.Attribute e m pos) (tPropR C sp E ta) := by
  refine ⟨fun pins s σ H Q I h => ?_⟩
  refine attr_of hab (thn (he.run pins s σ H _ I h) fun u s1 ⟨x, H1, I1, rx, a, dx, fs, ex, ea, q⟩ => ?_)
  subst ex
  obtain rfl : u = Value.ref a := rx
  obtain ⟨mA, O, _, _, _, _⟩ := ins_get I1.hok ea
  obtain ⟨od, J, _⟩ := O.look
  obtain ⟨rest, hrec⟩ := hp.rec_
  have I2 := I1.tok (s1.toks + 1)
  have hc : (PySem.W.clsIn X.K C).isSome = true := by
    obtain ⟨cd, hc, _⟩ := PySem.W.any_some c.hd
    rw [hc]
    rfl
  refine PySem.W.get_bind I1.kIn J (PySem.W.plainGet_of (c.get m)).1 (PySem.W.findObj_data hc hp.at_ hp.get hp.tak) (PySem.W.plainGet_of (c.get m)).2 (wpAny_call (PySem.W.prop_get (s := { s1 with toks := s1.toks + 1 }) I1.kIn hrec ?_))
  refine codeAny_mono (F X.A.in1 X.stack { s1 with toks := s1.toks + 1 } H1 [.ref a] [.ref a] Q E hr.in1 I2.env0.in1 (.cons rfl .nil) q) fun r s' hq => ?_
  cases r with
  | error er => exact False.elim (hx pins σ H1 { s1 with toks := s1.toks + 1 } er s' (I2.wish _) hq)
  | ok fl =>
    cases fl with
    | ret u =>
      obtain ⟨v, H', I3, rv, q3⟩ := I2.after hq
      show wpAny _ _ (handedOut u) _ _ _
      rw [PySem.W.handedOut_of (handed_of rv)]
      exact wpAny_pure ⟨v, H', I3, rv, q3⟩
    | next => exact False.elim hq
    | brk => exact False.elim hq
    | cont => exact False.elim hq
/-- x in o, o of an own class -/
def rInO (neg : Bool) (C : Addr) (sp : Sp) (E : XK) : R2 := fun x y H Q => ∃ a dx fs, y = .ref a ∧ H a = some (.ins C dx fs) ∧ sp [.ref a, x] H (fun v H' => ∃ b, v = .bl b ∧ Q (.bl (if neg then !b else b)) H') E
theorem op_inO (hs : PySem.W.findIn X.K (.ref C) "__contains__" = some (some (.ref g))) (hf : PySem.W.isFn X.K (.ref g) = true) (F : FnR X.prog X.w X.K X.mg X.base CX k g sp) (hr : Room k X.A) (hx : Passes CX X E) : OpR X (compareOp .In) (rInO false C sp E) := by
  intro pins s σ H x y v u Q I rx ry h
  obtain ⟨a, dx, fs, rfl, ea, q⟩ := h
  cases (show u = Value.ref a from ry)
  obtain ⟨mA, O, _, _, _, _⟩ := ins_get I.hok ea
  obtain ⟨od, J, _⟩ := O.look
  obtain ⟨m, hF⟩ := I.fr
  refine PySem.W.in_K hF I.ok.mod.kin J hs hf ?_
  refine wpAny_mono (wpAny_call (run_fnR (us := [.ref a, v]) (vs := [.ref a, x]) F hr hx I (.cons rfl (.cons rx .nil)) q)) (fun w s' z => ?_) fun _ _ x => x
  obtain ⟨z', H', I', rz, b, rfl, qz⟩ := z
  cases (show w = Value.bool b from rz)
  exact wpAny_truthy_bool ⟨.bl b, H', I', rfl, qz⟩
theorem op_notInO (hs : PySem.W.findIn X.K (.ref C) "__contains__" = some (some (.ref g))) (hf : PySem.W.isFn X.K (.ref g) = true) (F : FnR X.prog X.w X.K X.mg X.base CX k g sp) (hr : Room k X.A) (hx : Passes CX X E) : OpR X (compareOp .NotIn) (rInO true C sp E) := by
  intro pins s σ H x y v u Q I rx ry h
  obtain ⟨a, dx, fs, rfl, ea, q⟩ := h
  cases (show u = Value.ref a from ry)
  obtain ⟨mA, O, _, _, _, _⟩ := ins_get I.hok ea
  obtain ⟨od, J, _⟩ := O.look
  obtain ⟨m, hF⟩ := I.fr
  refine PySem.W.notIn_K hF I.ok.mod.kin J hs hf ?_
  refine wpAny_mono (wpAny_call (run_fnR (us := [.ref a, v]) (vs := [.ref a, x]) F hr hx I (.cons rfl (.cons rx .nil)) q)) (fun w s' z => ?_) fun _ _ x => x
  obtain ⟨z', H', I', rz, b, rfl, qz⟩ := z
  cases (show w = Value.bool b from rz)
  exact wpAny_truthy_bool ⟨.bl (!b), H', I', rfl, qz⟩
end
/-! ### floor division of great numbers, any sign -/
def CDivZ (_ j : Int) : Prop := j ≠ 0 ∧ j.natAbs.log2 < 9000
theorem op_fdivZ {X : Cx} : OpR X (binaryOp .FloorDiv) (rI CDivZ fun i j => .int (i.fdiv j)) := opI fun i j _ _ _ _ _ hc q =>
  floordiv_int hc.1 q (.inl (PyProof.noPylong_of_log2 hc.2))
end Z
namespace Z
open PySem PySem.Spec PyProof.Rows L2
section
variable {X : Cx} {CX : CXT} {k : Nat} {f C p g : Addr} {sp : Sp} {E : XK} {x m : Str} {p0 pos apos : Pos} {e o a b : Expr} {es : List Expr} {ta tb : TE} {t : TA}
/-- the left one of an own class, its == or != by the own __eq__ -/
def rEqO (neg : Bool) (K : PySem.W.Frag) (C : Addr) (sp : Sp) (E : XK) : R2 := fun x y H Q => ∃ a dx fs t, x = .ref a ∧ H a = some (.ins C dx fs) ∧ TyX K H y t ∧ PySem.W.notFirst K C t = true ∧ sp [.ref a, y] H (fun v H' => ∃ b, v = .bl b ∧ Q (.bl (if neg then !b else b)) H') E
theorem op_eqO (hs : PySem.W.findIn X.K (.ref C) "__eq__" = some (some (.ref g))) (hf : PySem.W.isFn X.K (.ref g) = true) (F : FnR X.prog X.w X.K X.mg X.base CX k g sp) (hr : Room k X.A) (hx : Passes CX X E) : OpR X (compareOp .Eq) (rEqO false X.K C sp E) := by
  intro pins s σ H x y v u Q I rx ry h
  obtain ⟨a, dx, fs, t, rfl, ea, ty, hn, q⟩ := h
  cases (show v = Value.ref a from rx)
  obtain ⟨mA, O, _, _, _, _⟩ := ins_get I.hok ea
  obtain ⟨od, J, _⟩ := O.look
  obtain ⟨m, hF⟩ := I.fr
  obtain ⟨P, kx, hP, _⟩ := kit_of I ry ty
  refine PySem.W.cmp_K (op := .Eq) (tb := t) hr.units0 hF I.ok.mod.kin J (kx.ty _ _ I.kIn hP) hn hs hf ?_
  refine wpAny_mono (wpAny_call (run_fnR (us := [.ref a, u]) (vs := [.ref a, y]) F hr hx I (.cons rfl (.cons ry .nil)) q)) (fun w s' z => ?_) fun _ _ x => x
  obtain ⟨z', H', I', rz, b, rfl, qz⟩ := z
  cases (show w = Value.bool b from rz)
  exact ⟨.bl b, H', I', rfl, qz⟩
theorem ne_try {A : Around} {s : Shared} {E' : Value → Shared → Prop} {xa : Addr} {ox : Obj} {od : Option Obj} {bv : Value} {Q : Option Value → Shared → Prop} (hu : A.units + 1 < cLine) (KX : X.K.In s.heap) (J : PySem.W.InstAt s.heap xa ox C od)
    (hne : PySem.W.findIn X.K (.ref C) "__ne__" = some (some (.builtin "object.__ne__"))) (hsub : PySem.W.mroIn X.K C (.type "object") = some true)
    (hs : PySem.W.findIn X.K (.ref C) "__eq__" = some (some (.ref g))) (hf : PySem.W.isFn X.K (.ref g) = true)
    (h : codeAny (model X.prog X.w) A.in1 (.call (.ref g) ⟨[.ref xa, bv], []⟩) (fun r s' => match r with | .ok (.ret v) => ∃ b, v = .bool b ∧ Q (some (.bool (!b))) s' | .ok _ => False | .error e => E' e s') s) : wpAny (model X.prog X.w) A (tryCompare (.ref xa) "__ne__" bv) Q E' s := by
  have FB := PySem.F.cmp_object
  have fin : wpAny (model X.prog X.w) A (call (.builtin "object.__ne__") ([.ref xa] ++ [bv])) (fun v s' => ∃ b, v = .bool b ∧ Q (some (.bool b)) s') E' s := by
    have hi : PySem.W.Looks (model X.prog X.w) s.heap (isInstance (.ref xa) (.type "object")) true := J.type.andThen (PySem.W.looks_mroIn KX hsub)
    refine wpAny_call (codeAny_call_builtin FB.ne.plain F.cmpEntry_ne (PySem.W.check_slot F.cmpKind_ne F.cmpSplit_ne hi (F.cmpArgs_ne _ _) ?_))
    unfold Builtin.«object.__ne__»
    repeat (first | with_reducible refine wpAny_cRoomFor hu ?_ | with_reducible refine PySem.W.ifBound_K KX J hs hf ?_ | wp_step)
    refine codeAny_mono h fun r s' hv => ?_
    cases r with
    | error e => exact hv
    | ok fl =>
      cases fl with
      | ret v =>
        obtain ⟨b, rfl, q⟩ := hv
        refine wpAny_bind (wpAny_truthy_bool ?_)
        exact wpAny_pure ⟨_, rfl, q⟩
      | next => exact hv
      | brk => exact hv
      | cont => exact hv
  unfold tryCompare
  simp only [callSpecialIfBound?, bindSpecialIfBound?]
  refine wpAny_bind (wpAny_holding (wpAny_bind (wpAny_bind (wpAny_bind (J.type.here ((PySem.W.looks_findIn KX hne).here ?_))))))
  simp only [FB.ne.bind]
  refine wpAny_bind (wpAny_askSetting (wpAny_ite ?_))
  have fin2 : wpAny (model X.prog X.w) A (call (.builtin "object.__ne__") ([.ref xa] ++ [bv]) >>= fun v => pure (some v)) (fun r s' => ∃ b, r = some (.bool b) ∧ Q (some (.bool b)) s') E' s :=
    wpAny_bind (wpAny_mono fin (fun v s' ⟨b, e, q⟩ => wpAny_pure ⟨b, by rw [e], q⟩) fun _ _ z => z)
  have go : ∀ {r : Option Value} {s' : Shared}, (∃ b, r = some (.bool b) ∧ Q (some (.bool b)) s') → wpAny (model X.prog X.w) A (match r with | some .notImplemented | none => pure none | some v => pure (some v)) Q E' s' := fun {r s'} ⟨b, e, q⟩ => by
    subst e
    exact wpAny_pure q
  split
  · refine wpAny_bind (wpAny_pure (wpAny_pure ?_))
    exact wpAny_mono fin2 (fun r s' z => go z) fun _ _ z => z
  · refine wpAny_tryCatch (wpAny_bind (wpAny_pure (wpAny_pure ?_)))
    exact wpAny_mono fin2 (fun r s' z => go z) fun _ _ z => z
theorem op_neO (hne : PySem.W.findIn X.K (.ref C) "__ne__" = some (some (.builtin "object.__ne__"))) (hsub : PySem.W.mroIn X.K C (.type "object") = some true) (hs : PySem.W.findIn X.K (.ref C) "__eq__" = some (some (.ref g))) (hf : PySem.W.isFn X.K (.ref g) = true)
    (F : FnR X.prog X.w X.K X.mg X.base CX k g sp) (hr : Room (k + 1) X.A) (hx : Passes CX X E) : OpR X (compareOp .NotEq) (rEqO true X.K C sp E) := by
  intro pins s σ H x y v u Q I rx ry h
  obtain ⟨a, dx, fs, t, rfl, ea, ty, hn, q⟩ := h
  cases (show v = Value.ref a from rx)
  obtain ⟨mA, O, _, _, _, _⟩ := ins_get I.hok ea
  obtain ⟨od, J, _⟩ := O.look
  obtain ⟨P, kx, hP, _⟩ := kit_of I ry ty
  have one : wpAny (model X.prog X.w) X.A (tryCompare (.ref a) "__ne__" u) (fun r s' => ∃ b, r = some b ∧ EP X pins σ Q b s') X.xe s := by
    refine ne_try (hu_of hr) I.kIn J hne hsub hs hf ?_
    refine codeAny_mono (SlX.run_at (us := [.ref a, u]) (ws := [.ref a, y]) F hr.in1 I.env0.in1 hx I (.cons rfl (.cons ry .nil)) q) fun r s' z => ?_
    cases r with
    | error e => exact z
    | ok fl =>
      cases fl with
      | ret w =>
        obtain ⟨z', H', I', rz, b, rfl, qz⟩ := z
        cases (show w = Value.bool b from rz)
        exact ⟨b, rfl, _, rfl, .bl (!b), H', I', rfl, qz⟩
      | next => exact z
      | brk => exact z
      | cont => exact z
  show wpAny (model X.prog X.w) X.A (richCompare .NotEq (.ref a) u) (EP X pins σ Q) X.xe s
  unfold richCompare
  simp only [oneThing_ref]
  refine wpAny_holding (wpAny_bind (wpAny_cRoomFor hr.units0 ?_))
  refine wpAny_bind (J.type.here (wpAny_bind ((kx.ty _ _ I.kIn hP).here ?_)))
  split
  · rename_i q
    have e : PySem.W.subIn X.K t (.ref C) = some false := by
      rcases Bool.or_eq_true_iff.mp hn with e | e
      · rw [beq_iff_eq.mp e] at q; simp at q
      · exact beq_iff_eq.mp e
    refine wpAny_bind ((PySem.W.looks_subIn I.kIn e).here ?_)
    simp only [Bool.false_eq_true, if_false]
    refine wpAny_bind (wpAny_mono one (fun r s' z => ?_) fun _ _ e => e)
    obtain ⟨v, rfl, hq⟩ := z
    exact wpAny_pure hq
  · refine wpAny_bind (wpAny_pure ?_)
    simp only [Bool.false_eq_true, if_false]
    refine wpAny_bind (wpAny_mono one (fun r s' z => ?_) fun _ _ e => e)
    obtain ⟨v, rfl, hq⟩ := z
    exact wpAny_pure hq
/-- a op b, both of an own class -/
def rBinO (C : Addr) (sp : Sp) (E : XK) : R2 := fun x y H Q => ∃ a dx fs b dy gs, x = .ref a ∧ y = .ref b ∧ H a = some (.ins C dx fs) ∧ H b = some (.ins C dy gs) ∧ sp [.ref a, .ref b] H Q E
theorem op_binO {op : Operator} (hc : PySem.W.selfFirst X.K C = true) (hs : PySem.W.findIn X.K (.ref C) (PySem.dunder op.info.2) = some (some (.ref g))) (hf : PySem.W.isFn X.K (.ref g) = true)
    (F : FnR X.prog X.w X.K X.mg X.base CX k g sp) (hr : Room k X.A) (hx : Passes CX X E) : OpR X (binaryOp op) (rBinO C sp E) := by
  intro pins s σ H x y v u Q I rx ry h
  obtain ⟨a, dx, fs, b, dy, gs, rfl, rfl, ea, eb, q⟩ := h
  cases (show v = Value.ref a from rx)
  cases (show u = Value.ref b from ry)
  obtain ⟨mA, O, _, _, _, _⟩ := ins_get I.hok ea
  obtain ⟨od, J, _⟩ := O.look
  obtain ⟨mB, O', _, _, _, _⟩ := ins_get I.hok eb
  obtain ⟨od', J', _⟩ := O'.look
  obtain ⟨m, hF⟩ := I.fr
  refine PySem.W.binop_K hF I.ok.mod.kin J J'.type hc hs hf ?_
  refine wpAny_mono (wpAny_call (run_fnR (us := [.ref a, .ref b]) (vs := [.ref a, .ref b]) F hr hx I (.cons rfl (.cons rfl .nil)) q)) (fun w s' z => ?_) fun _ _ x => x
  obtain ⟨z', H', I', rz, qz⟩ := z
  exact SlX.cmpback rz ⟨z', H', I', rz, qz⟩
end
end Z
namespace Z
open PySem PySem.Spec PyProof.Rows L2
abbrev Frg := PySem.W.Frag
/-- what is asked of the written part: Bools, defs, tables with text keys, the defs whose tables of code objects are left out -/
structure Ask where
  fs : List (Frg → Bool)
  fn : List He5.DefA
  ts : List He.Tab
  tf : List (Frg → Addr)
def cdAt (K : Frg) (f : Addr) : Addr := match K.lookup f with
  | some ⟨_, _, .func fd, _⟩ => (match fd.code with
    | .ref c => c
    | _ => 0)
  | _ => 0
def tabsB (g : Addr → Option Obj) (tf : List (Frg → Addr)) (K : Frg) : Bool := tf.all fun p => PySem.W.codeHdIn K (cdAt K (p K)) (He.tabOf K (cdAt K (p K))) && (match g (He.tabOf K (cdAt K (p K))) with
  | some o => He.emptyTab o
  | none => false)
abbrev AlZ : Type := (Bool × List He.FnW) × (List (Option (List (Option (Str × Int)))) × Bool)
def obsZ (q : Ask) (K : Frg) (b : Bool) : AlZ := (((q.fs.all fun f => f K) && q.fn.all fun d => d.ok K, q.fn.map fun d => He5.fnA K (d.at_ K)), (q.ts.map fun t => He.dicW K (t.1 K), b))
def valZ (q : Ask) (w : World) : AlZ := ((true, q.fn.map He5.DefA.val), (q.ts.map fun t => some (He.keysIn w.params t.2), true))
structure Says (q : Ask) (w : World) (h : Heap) (K : Frg) : Prop where
  fact : ∀ f ∈ q.fs, f K = true
  dok : ∀ d ∈ q.fn, d.ok K = true
  dval : q.fn.map (fun d => He5.fnA K (d.at_ K)) = q.fn.map He5.DefA.val
  tval : q.ts.map (fun t => He.dicW K (t.1 K)) = q.ts.map fun t => some (He.keysIn w.params t.2)
  hd : ∀ p ∈ q.tf, PySem.W.codeHdIn K (cdAt K (p K)) (He.tabOf K (cdAt K (p K))) = true
  out : ∀ p ∈ q.tf, K.lookup (He.tabOf K (cdAt K (p K))) = none
  empty : ∀ p ∈ q.tf, h.get? (He.tabOf K (cdAt K (p K))) = some { cls := .none, data := .fields #[] }
def KZ (g : Addr → Option Obj) (n : Nat) : Frg := He.frT g (mainGlobals :: (List.range n ++ [cStatics]))
def obsG (n : Nat) (q : Ask) (g : Addr → Option Obj) : AlZ := obsZ q (KZ g n) (tabsB g q.tf (KZ g n))
theorem says_of {n : Nat} {q : Ask} {w : World} {h : Heap} (e : obsG n q h.get? = valZ q w) : Says q w h (KZ h.get? n) := by
  have e1 : ((q.fs.all fun f => f (KZ h.get? n)) && q.fn.all fun d => d.ok (KZ h.get? n)) = true := congrArg (fun z : AlZ => z.1.1) e
  have e2 : q.fn.map (fun d => He5.fnA (KZ h.get? n) (d.at_ (KZ h.get? n))) = q.fn.map He5.DefA.val := congrArg (fun z : AlZ => z.1.2) e
  have e3 : q.ts.map (fun t => He.dicW (KZ h.get? n) (t.1 (KZ h.get? n))) = q.ts.map fun t => some (He.keysIn w.params t.2) := congrArg (fun z : AlZ => z.2.1) e
  have e4 : tabsB h.get? q.tf (KZ h.get? n) = true := congrArg (fun z : AlZ => z.2.2) e
  obtain ⟨h1, h2⟩ := He.ba e1
  have key : ∀ p ∈ q.tf, PySem.W.codeHdIn (KZ h.get? n) (cdAt (KZ h.get? n) (p (KZ h.get? n))) (He.tabOf (KZ h.get? n) (cdAt (KZ h.get? n) (p (KZ h.get? n)))) = true ∧ ∃ o, h.get? (He.tabOf (KZ h.get? n) (cdAt (KZ h.get? n) (p (KZ h.get? n)))) = some o ∧ He.emptyTab o = true := fun p hp => by
    obtain ⟨h3, h4⟩ := He.ba (List.all_eq_true.mp e4 p hp)
    refine ⟨h3, ?_⟩
    cases z : h.get? (He.tabOf (KZ h.get? n) (cdAt (KZ h.get? n) (p (KZ h.get? n)))) with
    | none => rw [z] at h4; cases h4
    | some o => rw [z] at h4; exact ⟨o, rfl, h4⟩
  exact ⟨fun f hf => List.all_eq_true.mp h1 f hf, fun d hd => List.all_eq_true.mp h2 d hd, e2, e3, fun p hp => (key p hp).1, fun p hp => by
    obtain ⟨_, o, z, y⟩ := key p hp
    exact He.frT_none z y, fun p hp => by
    obtain ⟨_, o, z, y⟩ := key p hp
    rw [z, He.emptyTab_eq y]⟩
def hookZ (n : Nat) (q : Ask) : PySem.W.Hook where
  α := AlZ
  obs := fun s => obsG n q s.heap.get?
  val := fun w => valZ q w
  says := fun w h => ∃ K : Frg, K.In h ∧ Says q w h K
  of := fun _ _ e => ⟨_, He.frT_in, says_of e⟩
  keeps := fun _ _ _ ⟨K, hK, c⟩ k => ⟨K, PySem.W.Frag.In.keeps hK k, ⟨c.fact, c.dok, c.dval, c.tval, c.hd, c.out, fun p hp => k _ _ (c.empty p hp)⟩⟩
theorem obsG_eq {n : Nat} {q : Ask} {g : Addr → Option Obj} {s : Shared} (h : ∀ a, g a = s.heap.get? a) : obsG n q g = (hookZ n q).obs s := by
  have e : g = s.heap.get? := funext h
  rw [e] <;> rfl
section
variable {q : Ask} {w : World} {h : Heap} {K : Frg}
theorem Says.at (c : Says q w h K) (i : Nat) {f : Frg → Bool} (e : q.fs[i]? = some f := by rfl) : f K = true := c.fact f (List.mem_of_getElem? e)
theorem Says.df (c : Says q w h K) (i : Nat) {d : He5.DefA} (e : q.fn[i]? = some d := by rfl) : ∃ fd, L2.FunD K d.name d.qual d.params d.body d.scope (d.dvs K) (d.kws K) (d.at_ K) fd := by
  have e2 : (q.fn.map fun d => He5.fnA K (d.at_ K))[i]? = (q.fn.map He5.DefA.val)[i]? := by rw [c.dval]
  rw [List.getElem?_map, List.getElem?_map, e] at e2
  exact He5.DefA.funD (Option.some.inj e2) (c.dok d (List.mem_of_getElem? e))
theorem Says.tb (c : Says q w h K) (i : Nat) {t : He.Tab} (e : q.ts[i]? = some t := by rfl) : ∃ es n, KDict K w (t.1 K) es n := by
  have e2 : (q.ts.map fun t => He.dicW K (t.1 K))[i]? = (q.ts.map fun t => some (He.keysIn w.params t.2))[i]? := by rw [c.tval]
  rw [List.getElem?_map, List.getElem?_map, e] at e2
  exact He.dicW_ok (Option.some.inj e2)
end
/-! ### Bools and what they tell -/
def bGlo (x : Str) : Frg → Bool := fun K => (He.Fa.glo x).ok K
def bFree (x : Str) : Frg → Bool := fun K => (He.Fa.free x).ok K
def bInt (x : Str) (i : Int) : Frg → Bool := fun K => (He.Fa.int x i).ok K
def bStr (x z : Str) : Frg → Bool := fun K => (He.Fa.str x z).ok K
def bCls (x : Str) : Frg → Bool := fun K => (He.Fa.cls x).ok K
def bNo (x f : Str) : Frg → Bool := fun K => (He.Fa.noat x f).ok K
def bMeth (x m : Str) : Frg → Bool := fun K => (He.Fa.meth x m).ok K
def bMk (x : Str) : Frg → Bool := fun K => (He.Fa.mkr x).ok K
def bKeep (x : Str) : Frg → Bool := fun K => (He.Fa.keep x).ok K
/-- what == and isinstance ask of an own class -/
structure Own (K : Frg) (C : Addr) : Prop where
  sf : PySem.W.selfFirst K C = true
  ne : PySem.W.findIn K (.ref C) "__ne__" = some (some (.builtin "object.__ne__"))
  ob : PySem.W.mroIn K C (.type "object") = some true
  ha : PySem.W.findIn K (.ref C) "__class__" = some (some (.builtin "object.__class__"))
  hn : PySem.W.specialIn K (.builtin "object.__class__") "__get__" = some (some (.builtin "getset_descriptor.__get__"))
  ht : PySem.W.takesIn K (.builtin "object.__class__") = some true
  ki : PySem.W.kitOne K (.ref C) (.ref C) = some true
  kb : ∀ t ∈ ["NoneType", "bool", "int", "str", "list", "tuple", "dict"], PySem.W.kitOne K (.type t) (.ref C) = some false
  kt : ∀ t ∈ ["bool", "int", "str", "list", "tuple", "dict"], PySem.W.kitOne K (.ref C) (.type t) = some false
  nf : ∀ t ∈ ["NoneType", "bool", "int", "str", "list", "tuple", "dict"], PySem.W.notFirst K C (.type t) = true
  cv : PySem.W.isClsIn K C = true
def bOwn (x : Str) : Frg → Bool := fun K => PySem.W.selfFirst K (He.ga K x) && (He.eqO (PySem.W.findIn K (.ref (He.ga K x)) "__ne__") (some (some (.builtin "object.__ne__"))) && (decide (PySem.W.mroIn K (He.ga K x) (.type "object") = some true) &&
  (He.eqO (PySem.W.findIn K (.ref (He.ga K x)) "__class__") (some (some (.builtin "object.__class__"))) && (He.eqO (PySem.W.specialIn K (.builtin "object.__class__") "__get__") (some (some (.builtin "getset_descriptor.__get__"))) &&
  (decide (PySem.W.takesIn K (.builtin "object.__class__") = some true) && (decide (PySem.W.kitOne K (.ref (He.ga K x)) (.ref (He.ga K x)) = some true) &&
  ((["NoneType", "bool", "int", "str", "list", "tuple", "dict"].all fun t => decide (PySem.W.kitOne K (.type t) (.ref (He.ga K x)) = some false)) && ((["bool", "int", "str", "list", "tuple", "dict"].all fun t => decide (PySem.W.kitOne K (.ref (He.ga K x)) (.type t) = some false)) &&
  ((["NoneType", "bool", "int", "str", "list", "tuple", "dict"].all fun t => PySem.W.notFirst K (He.ga K x) (.type t)) && PySem.W.isClsIn K (He.ga K x))))))))))
theorem own_of {K : Frg} {x : Str} (h : bOwn x K = true) : Own K (He.ga K x) := by
  obtain ⟨h1, h⟩ := He.ba h
  obtain ⟨h2, h⟩ := He.ba h
  obtain ⟨h3, h⟩ := He.ba h
  obtain ⟨h4, h⟩ := He.ba h
  obtain ⟨h5, h⟩ := He.ba h
  obtain ⟨h6, h⟩ := He.ba h
  obtain ⟨h7, h⟩ := He.ba h
  obtain ⟨h8, h⟩ := He.ba h
  obtain ⟨h9, h⟩ := He.ba h
  obtain ⟨h10, h11⟩ := He.ba h
  exact ⟨h1, He.eqO_ok h2, of_decide_eq_true h3, He.eqO_ok h4, He.eqO_ok h5, of_decide_eq_true h6, of_decide_eq_true h7, fun t ht => of_decide_eq_true (List.all_eq_true.mp h8 t ht), fun t ht => of_decide_eq_true (List.all_eq_true.mp h9 t ht), fun t ht => List.all_eq_true.mp h10 t ht, h11⟩
/-- a property -/
def bProp (x f : Str) : Frg → Bool := fun K => He.eqO (PySem.W.findIn K (.ref (He.ga K x)) f) (some (some (.ref (He.ma K (He.ga K x) f)))) && (He.eqO (PySem.W.specialIn K (.ref (He.ma K (He.ga K x) f)) "__get__") (some (some (.builtin "property.__get__"))) &&
  (decide (PySem.W.takesIn K (.ref (He.ma K (He.ga K x) f)) = some true) && (match PySem.W.recIn K (He.ma K (He.ga K x) f) "property" with
    | some (.ref _ :: _) => true
    | _ => false)))
theorem prop_of {K : Frg} {x f : Str} (h : bProp x f K = true) : PropOf K (He.ga K x) f (He.ma K (He.ga K x) f) (He5.wf K (He.ga K x) "property" f) := by
  obtain ⟨h1, h⟩ := He.ba h
  obtain ⟨h2, h⟩ := He.ba h
  obtain ⟨h3, h4⟩ := He.ba h
  refine ⟨He.eqO_ok h1, He.eqO_ok h2, of_decide_eq_true h3, ?_⟩
  unfold He5.wf
  split at h4
  · rename_i f r e
    exact ⟨r, by rw [e]⟩
  · cases h4
section
variable {K : Frg} {h : Heap} {mg : Str → Option Value}
theorem glo_of (X : K.In h) (G : h.Ns mainGlobals mg) {x : Str} (c : bGlo x K = true) : mg x = some (.ref (He.ga K x)) := He.glo_ok X G c
theorem free_of (X : K.In h) (G : h.Ns mainGlobals mg) {x : Str} (c : bFree x K = true) : mg x = none := He.free_ok X G c
theorem int_of (X : K.In h) (G : h.Ns mainGlobals mg) {x : Str} {i : Int} (c : bInt x i K = true) : ∃ t, mg x = some (.int i t) := He.int_ok X G c
theorem str_of (X : K.In h) (G : h.Ns mainGlobals mg) {x z : Str} (c : bStr x z K = true) : ∃ t, mg x = some (.str z t) := He.str_ok X G c
theorem cls_of {x : Str} (c : bCls x K = true) : Cls K (He.ga K x) := He.cls_ok c
theorem no_of {x f : Str} (c : bNo x f K = true) : NoAttr K (He.ga K x) f := He.noat_ok c
theorem meth_of {x m : Str} (c : bMeth x m K = true) : Meth K (He.ga K x) m (He.ma K (He.ga K x) m) := He.meth_ok c
theorem mk_of {x : Str} (c : bMk x K = true) : Mk K (He.ga K x) (He.ma K (He.ga K x) "__init__") := He.mkr_ok c
theorem keep_of {x : Str} (c : bKeep x K = true) : PySem.W.keepIn K (.ref (He.ga K x)) = true := He.keep_ok c
end
/-! ### a def by its text -/
section
variable {P : Program} {w : World} {K : Frg} {mg : Str → Option Value} {base : Heap}
abbrev DefAt (K : Frg) (x qual : Str) (st : Stmt) (f : Addr) : Prop := ∃ fd, L2.FunD K x qual (defArgs st) (defBody st) (defScope st) [] [] f fd
theorem zfn {x qual : Str} {st : Stmt} {f : Addr} {N ps : List Str} {k : Nat} {sp : Sp} (F : DefAt K x qual st f) (S : FnScope N ps (defScope st)) (len : ∀ vs H Q E, sp vs H Q E → vs.length = ps.length)
    (hb : ∀ (kV doc pm : Value) (an : Option Addr) (cdv ct : Value) (us : List Value), us.length = ps.length → bindArgs (PySem.W.fnOf x qual (defArgs st) (defBody st) (defScope st) .none kV doc pm an cdv ct) ⟨us, []⟩ = pure (ps.zip us))
    (hbody : ∀ (cdv : Value) (A : Around) (outer : List Env) (s : Shared) (H : Hp) (vs : List V) (Q : VK) (E : XK), Room k (A.deeper (envOfC qual (defScope st) s.heap.objs.size f cdv)) → sp vs H Q E →
      ∃ t, PSs (cxOf (L2.CX P w) P w K mg base N qual (defScope st) f cdv A outer s H E) (defBody st) t ∧ t { nx := fun _ H' => Q .non H', rt := Q } (start N vs) H) : FnR P w K mg base (L2.CX P w) (k + 1) f sp := by
  obtain ⟨fd, F⟩ := F
  have B : Binds K fd ps [] := F.bindsN hb
  exact ((FunD.ok F S len hbody).raw B .nil).imp fun vs H Q E h => by rw [List.append_nil]; exact h
end
def Sp0 (P : Hp → VK → XK → Prop) : Sp := fun vs H Q E => vs = [] ∧ P H Q E
def Sp1 (P : V → Hp → VK → XK → Prop) : Sp := fun vs H Q E => ∃ a, vs = [a] ∧ P a H Q E
def Sp2 (P : V → V → Hp → VK → XK → Prop) : Sp := fun vs H Q E => ∃ a b, vs = [a, b] ∧ P a b H Q E
def Sp3 (P : V → V → V → Hp → VK → XK → Prop) : Sp := fun vs H Q E => ∃ a b c, vs = [a, b, c] ∧ P a b c H Q E
def Sp4 (P : V → V → V → V → Hp → VK → XK → Prop) : Sp := fun vs H Q E => ∃ a b c d, vs = [a, b, c, d] ∧ P a b c d H Q E
theorem len0 {P} : ∀ vs H Q E, Sp0 P vs H Q E → vs.length = 0 := fun _ _ _ _ ⟨e, _⟩ => by rw [e]; rfl
theorem len1 {P} : ∀ vs H Q E, Sp1 P vs H Q E → vs.length = 1 := fun _ _ _ _ ⟨_, e, _⟩ => by rw [e]; rfl
theorem len2 {P} : ∀ vs H Q E, Sp2 P vs H Q E → vs.length = 2 := fun _ _ _ _ ⟨_, _, e, _⟩ => by rw [e]; rfl
theorem len3 {P} : ∀ vs H Q E, Sp3 P vs H Q E → vs.length = 3 := fun _ _ _ _ ⟨_, _, _, e, _⟩ => by rw [e]; rfl
theorem len4 {P} : ∀ vs H Q E, Sp4 P vs H Q E → vs.length = 4 := fun _ _ _ _ ⟨_, _, _, _, e, _⟩ => by rw [e]; rfl
end Z
namespace Z
open PySem PySem.Spec PyProof.Rows L2
/-- a new object at p: what is behind -/
def New (H : Hp) (o : HO) (Q : Addr → Hp → Prop) : Prop := ∀ p H2, H p = none → H2 = upd H p o → Q p H2
theorem New.run {H : Hp} {o : HO} {Q : Addr → Hp → Prop} (h : New H o Q) : ∀ p, H p = none → Q p (upd H p o) := fun p hp => h p _ hp rfl
/-- a store -/
def Put (H : Hp) (p : Addr) (o : HO) (Q : Hp → Prop) : Prop := ∀ H2, H2 = upd H p o → Q H2
theorem Put.run {H : Hp} {p : Addr} {o : HO} {Q : Hp → Prop} (h : Put H p o Q) : Q (upd H p o) := h _ rfl
section
variable {ms : List Addr} {F H H2 : Hp} {p : Addr} {o : HO}
theorem newE (hs : Same F H) (hp : H p = none) (e : H2 = upd H p o) : ∃ F2, Go [] F H F2 H2 ∧ F2 p = some o ∧ H2 p = some o := ⟨upd F p o, by rw [e]; exact Go.new hs hp, upd_same, by rw [e]; exact upd_same⟩
theorem newM (hs : Same F H) (hp : H p = none) (e : H2 = upd H p o) : Go [] F H F H2 ∧ F p = none ∧ H2 p = some o := ⟨by rw [e]; exact Go.newM hs hp, same_none hs hp, by rw [e]; exact upd_same⟩
theorem putM (hs : Same F H) (hp : F p = none) (e : H2 = upd H p o) : Go [p] F H F H2 ∧ H2 p = some o := ⟨by rw [e]; exact Go.put hs hp, by rw [e]; exact upd_same⟩
end
section
variable {X : Cx} {e a b : Expr} {es : List Expr} {t t' te tb : TE} {ta : TA} {pos : Pos}
theorem pe_imp (h : PE X e t) (f : ∀ σ H Q, t' σ H Q → t σ H Q) : PE X e t' := ⟨fun pins s σ H Q I z => h.run pins s σ H Q I (f σ H Q z)⟩
def wkA (t : TA) : TA := fun σ H Q => ∃ Q0, t σ H Q0 ∧ ∀ xs H1, Q0 xs H1 → Q xs H1
theorem pa_wk (h : PA X es ta) : PA X es (wkA ta) := ⟨fun pos pins s σ H Q I ⟨Q0, z, f⟩ => thn (h.run pos pins s σ H Q0 I z) fun us s1 ⟨xs, H1, I1, r, q⟩ => ⟨xs, H1, I1, r, f xs H1 q⟩⟩
def wkE (t : TE) : TE := fun σ H Q => ∃ Q0, t σ H Q0 ∧ ∀ x H1, Q0 x H1 → Q x H1
theorem pe_wk (h : PE X e t) : PE X e (wkE t) := ⟨fun pins s σ H Q I ⟨Q0, z, f⟩ => thn (h.run pins s σ H Q0 I z) fun us s1 ⟨xs, H1, I1, r, q⟩ => ⟨xs, H1, I1, r, f xs H1 q⟩⟩
def tTupZ (t : TA) : TE := fun σ H Q => t σ H fun xs H1 => xs.length ≤ sizeLine ∧ New H1 (.tup xs) fun p H2 => Q (.ref p) H2
def tLstZ (t : TA) : TE := fun σ H Q => t σ H fun xs H1 => xs.length ≤ sizeLine ∧ New H1 (.lst xs) fun p H2 => Q (.ref p) H2
theorem pe_tupZ {x1} (h : PA X es ta) : PE X (.Tuple es x1 pos) (tTupZ ta) := pe_imp (pe_tup (pa_wk h)) fun _ _ _ z => ⟨_, z, fun _ _ q => ⟨q.1, q.2.run⟩⟩
theorem pe_lstZ (h : PA X es ta) : PE X (.List es pos) (tLstZ ta) := pe_imp (pe_lst (pa_wk h)) fun _ _ _ z => ⟨_, z, fun _ _ q => ⟨q.1, q.2.run⟩⟩
theorem op_imp {f : Value → Value → Sem Value} {r r' : R2} (h : OpR X f r) (g : ∀ x y H Q, r' x y H Q → r x y H Q) : OpR X f r' := fun pins s σ H x y v u Q I rx ry z => h pins s σ H x y v u Q I rx ry (g x y H Q z)
theorem call_imp {f : Value} {r r' : List V → Hp → VK → Prop} (h : CallR X f r) (g : ∀ xs H Q, r' xs H Q → r xs H Q) : CallR X f r' := fun pins s σ H xs us Q I rx z => h pins s σ H xs us Q I rx (g xs H Q z)
theorem mt_imp {id : String} {r r' : V → List V → Hp → VK → Prop} (h : MtR X id r) (g : ∀ x xs H Q, r' x xs H Q → r x xs H Q) : MtR X id r' := fun pins s σ H x xs v us Q I rx rs z => h pins s σ H x xs v us Q I rx rs (g x xs H Q z)
def rCatZ : R2 := fun x y H Q => ∃ l b xs zs, x = .ref l ∧ y = .ref b ∧ H l = some (.lst xs) ∧ H b = some (.lst zs) ∧ xs.length + zs.length ≤ sizeLine ∧ New H (.lst (xs ++ zs)) fun p H2 => Q (.ref p) H2
theorem op_catZ : OpR X (binaryOp .Add) rCatZ := op_imp op_cat fun _ _ _ _ ⟨l, b, xs, zs, e1, e2, h1, h2, hz, n⟩ => ⟨l, b, xs, zs, e1, e2, h1, h2, hz, n.run⟩
def rRepZ : R2 := fun x y H Q => ∃ l k xs, x = .ref l ∧ y = .int k ∧ H l = some (.lst xs) ∧ -(2 ^ 63) ≤ k ∧ k < 2 ^ 63 ∧ xs.length * k.toNat ≤ sizeLine ∧ New H (.lst (List.replicate k.toNat xs).flatten) fun p H2 => Q (.ref p) H2
def rListZ (K : Frg) : List V → Hp → VK → Prop := fun xs H Q => ∃ p ys, xs = [.ref p] ∧ (SqL K H p ys ∨ SqT K H p ys) ∧ New H (.lst ys) fun l H2 => Q (.ref l) H2
theorem call_listZ : CallR X (.type "list") (rListZ X.K) := call_imp call_list_of fun _ _ _ ⟨p, ys, e, h, n⟩ => ⟨p, ys, e, h, n.run⟩
/-- tuple(xs), xs a list -/
def rTupleZ (K : Frg) : List V → Hp → VK → Prop := fun xs H Q => ∃ p ys, xs = [.ref p] ∧ SqL K H p ys ∧ New H (.tup ys) fun l H2 => Q (.ref l) H2
theorem call_tupleZ : CallR X (.type "tuple") (rTupleZ X.K) := call_imp call_tuple_of fun _ _ _ ⟨p, ys, e, h, n⟩ => ⟨p, ys, e, .inl ⟨h, n.run⟩⟩
def rSlLZ (K : Frg) : V → Option Int → Option Int → Hp → VK → Prop := fun x lo hi H Q => ∃ a xs, x = .ref a ∧ SqL K H a xs ∧ New H (.lst (cutV xs lo hi)) fun p H2 => Q (.ref p) H2
theorem sl_listZ : L2.SlR X (rSlLZ X.K) := fun pins s σ H x v vl vu lo hi sl Q I rx hs pl pu ⟨a, xs, e, h, n⟩ => sl_list pins s σ H x v vl vu lo hi sl Q I rx hs pl pu ⟨a, xs, e, h, n.run⟩
def rAppZ : V → List V → Hp → VK → Prop := fun x vs H Q => ∃ l xs y, x = .ref l ∧ vs = [y] ∧ H l = some (.lst xs) ∧ xs.length < sizeLine ∧ Put H l (.lst (xs ++ [y])) fun H2 => Q .non H2
theorem mt_appZ : MtR X "list.append" rAppZ := mt_imp mt_append fun _ _ _ _ ⟨l, xs, y, e1, e2, h, hz, n⟩ => ⟨l, xs, y, e1, e2, h, hz, n.run⟩
def rSetLZ : TSet := fun o i v H Q => ∃ p xs k j, o = .ref p ∧ i = .int k ∧ H p = some (.lst xs) ∧ ixN xs.length k = some j ∧ Put H p (.lst (xs.set j v)) Q
theorem set_listZ : PSet X rSetLZ := fun pins s σ H o i v ov iv vv Q I ro ri rv ⟨p, xs, k, j, e1, e2, h, hj, n⟩ => set_list pins s σ H o i v ov iv vv Q I ro ri rv ⟨p, xs, k, j, e1, e2, h, hj, n.run⟩
theorem pe_globI {x : Str} {i : Int} (hg : Gl X x) (h : ∃ t, X.mg x = some (.int i t)) (hd : (x == ("__debug__" : Str)) = false := by decide) : PE X (.Name x pos) (tC (.int i)) := let ⟨t, q⟩ := h; pe_glob hg q ⟨t, rfl⟩ hd
theorem pe_globS {x z : Str} (hg : Gl X x) (h : ∃ t, X.mg x = some (.str z t)) (hd : (x == ("__debug__" : Str)) = false := by decide) : PE X (.Name x pos) (tC (.str z)) := let ⟨t, q⟩ := h; pe_glob hg q ⟨t, rfl⟩ hd
/-- making an instance, by what the maker promises -/
theorem zmake {CX : CXT} {k : Nat} {f C : Addr} {x : Str} {p : Pos} {spI spM : Sp} {E : XK} (mk : ∀ vs H Q, spM vs H Q E → ∀ x dx, H x = none → H dx = none → dx ≠ x → spI (.ref x :: vs) (upd (upd H dx (.own x)) x (.ins C dx [])) (fun v H2 => v = .non ∧ Q (.ref x) H2) E)
    (M : Mk X.K C f) (F : FnR X.prog X.w X.K X.mg X.base CX k f spI) (hr : Room (k + 1) X.A) (hg : Gl X x) (hm : X.mg x = some (.ref C)) (hx : Passes CX X E) (ha : PA X (e :: es) ta) (hdb : (x == ("__debug__" : Str)) = false := by decide)
    (he : starEach (e :: es) X.env = (false, eval e X.env) :: starEach es X.env := by rfl) (hpl : (backTo pos (starEach es X.env)).any (·.1) = false := by rfl) : PE X (.Call (.Name x p) (e :: es) [] pos) (tFn spM E ta) :=
  pe_imp (StX.pe_makeR M F hr hg hm hx (pa_wk ha) hdb he hpl) fun _ _ Q z => ⟨_, z, fun vs H1 q => mk vs H1 Q q⟩
end
/-- a statement and what follows, with a word between them -/
def tCutZ (t u : TS) : TS := fun D σ H => ∃ Mid : L2.St → Hp → Prop, t { D with nx := Mid } σ H ∧ ∀ σ' H', Mid σ' H' → u D σ' H'
theorem zcut {X : Cx} {st : Stmt} {rest : List Stmt} {t u : TS} (h1 : PS X st t) (h2 : PSs X rest u) : PSs X (st :: rest) (tCutZ t u) := by
  have w : PS X st (fun D σ H => ∃ Mid : L2.St → Hp → Prop, t { D with nx := Mid } σ H ∧ ∀ σ' H', Mid σ' H' → D.nx σ' H') := ⟨fun pins s σ H D I ⟨Mid, z, f⟩ => thn (h1.run pins s σ H _ I z) fun fl s' q => by
    cases fl with
    | next => obtain ⟨σ', H', I', q'⟩ := q; exact ⟨σ', H', I', f _ _ q'⟩
    | brk => exact q
    | cont => exact q
    | ret v => exact q⟩
  exact ⟨fun pins s σ H D I ⟨Mid, z, f⟩ => (pss_cons w h2).run pins s σ H D I ⟨Mid, z, f⟩⟩
theorem lenOk {α : Type} {xs : List α} (h : Nat.ble xs.length 1000 = true) : xs.length ≤ sizeLine := Nat.le_trans (Nat.le_of_ble_eq_true h) (by decide)
end Z
namespace Z
open PySem PySem.Spec PyProof.Rows L2
theorem tyT {K : Frg} {H : Hp} {a : Addr} {xs : List V} (h : SqT K H a xs) : TyX K H (.ref a) (.type "tuple") := by
  rcases h with (h | ⟨o, h⟩) | ⟨o, its, n, h1, h2, _⟩
  · exact .base (.tup h)
  · exact .fTuple h
  · exact .kTuple h1 h2
theorem tyL {K : Frg} {H : Hp} {a : Addr} {xs : List V} (h : SqL K H a xs) : TyX K H (.ref a) (.type "list") := by
  rcases h with (h | ⟨o, h⟩) | ⟨o, its, n, h1, h2, _⟩
  · exact .base (.lst h)
  · exact .base (.frz h)
  · exact .kList h1 h2
theorem tyI {K : Frg} {H : Hp} (i : Int) : TyX K H (.int i) (.type "int") := .base (.int i)
theorem tyO {K : Frg} {H : Hp} {C a dx : Addr} {fs : List (Str × V)} (c : Cls K C) (o : Own K C) (h : H a = some (.ins C dx fs)) : TyX K H (.ref a) (.ref C) := .base (.ins h c o.ha o.hn o.ht o.ob)
/-- the reading of a comprehension behind its source -/
def LcR (J : It) (g : TG) (tt : TT) (te : TE) (vs : List Nat) (σ : L2.St) (H1 : Hp) (Q : VK) : Prop := ∀ D, H1 D = none → ∃ W : Nat → Nat → Hp → Prop, (∃ m, W 0 m (upd H1 D (.lst []))) ∧ ∀ i m H, W i m H →
  (J.stop i H ∧ Q (.ref D) H) ∨ (J.go i H ∧ ∃ Nx : Hp → Prop, (∀ H', Nx H' → ∃ m', m' < m ∧ W (i + 1) m' H') ∧ ∀ x H', J.yld i H x H' → g x (wipe σ vs) H' fun σ2 H2 => wipe σ2 vs = wipe σ vs ∧ tt σ2 H2 fun b H3 =>
    if b = true then te σ2 H3 fun y H4 => ∃ acc, H4 D = some (.lst acc) ∧ acc.length < sizeLine ∧ Nx (upd H4 D (.lst (acc ++ [y]))) else Nx H3)
def tLcZ (wi : TI) (g : TG) (tt : TT) (te : TE) (vs : List Nat) : TE := fun σ H Q => wi σ H fun J H1 => LcR J g tt te vs σ H1 Q
theorem tLcZ_eq : @tLcZ = @tLc := rfl
theorem pe_lcZ {X : Cx} {e : Expr} {wi : TI} {g : TG} {tt : TT} {te : TE} {vs : List Nat} (h : PE X e (tLc wi g tt te vs)) : PE X e (tLcZ wi g tt te vs) := h
theorem ps_lcZ {X : Cx} {s : Stmt} {wi : TI} {g g2 : TG} {tt : TT} {te : TE} {vs : List Nat} (h : PS X s (tAsg (tLc wi g tt te vs) g2)) : PS X s (tAsg (tLcZ wi g tt te vs) g2) := h
/-- a comprehension, by what holds of the items made so far -/
theorem lc_go {J : It} {n : Nat} {G : Hp → Prop} {Y : Nat → Hp → V → Hp → Prop} (w : Walk J n G Y) {g : TG} {tt : TT} {te : TE} {vs : List Nat} {σ : L2.St} {F H : Hp} {ms : List Addr} {Q : VK} (hs : Same F H) (hm : ∀ a ∈ ms, H a ≠ none) (M : Hp → Hp → Prop) (m0 : M F H)
    (mst : ∀ D F1 H1 F2 H2, H D = none → M F1 H1 → Go [D] F1 H1 F2 H2 → M F2 H2) (hG : ∀ F1 H1, Go ms F H F1 H1 → M F1 H1 → G H1) (I : Nat → List V → Hp → Prop) (i0 : I 0 [] F) (im : ∀ i acc F1 F2, Same F1 F2 → I i acc F1 → I i acc F2) (hn : n ≤ 100000)
    (turn : ∀ i x acc F1 H1 H1', i < n → acc.length ≤ i → I i acc F1 → Go ms F H F1 H1 → M F1 H1 → Y i H1 x H1' → ∀ (Kp : V → Hp → Prop) (Sk : Hp → Prop), (∀ y F2 H2, Go ms F1 H1 F2 H2 → M F2 H2 → I (i + 1) (acc ++ [y]) F2 → Kp y H2) →
      (∀ F2 H2, Go ms F1 H1 F2 H2 → M F2 H2 → I (i + 1) acc F2 → Sk H2) → g x (wipe σ vs) H1' fun σ2 H2 => wipe σ2 vs = wipe σ vs ∧ tt σ2 H2 fun b H3 => if b = true then te σ2 H3 Kp else Sk H3)
    (fin : ∀ D ys F' H', Go ms F H F' H' → M F' H' → F' D = some (.lst ys) → ys.length ≤ n → I n ys F' → Q (.ref D) H') :
    LcR J g tt te vs σ H Q := by
  intro D hD
  have hsz : (100000 : Nat) < sizeLine := by decide
  have dm : D ∉ ms := fun z => hm D z hD
  have st : ∀ {F2 H2 : Hp} {acc : List V}, Go ms F H F2 H2 → M F2 H2 → F2 D = none → ∀ o, Go ms F H F2 (upd H2 D o) ∧ M F2 (upd H2 D o) := fun {F2 H2 acc} gg m fd o => by
    have p : Go [D] F2 H2 F2 (upd H2 D o) := Go.put gg.fh fd
    have p2 : Go (D :: ms) F2 H2 F2 (upd H2 D o) := p.sub fun a ha => by
      rcases List.mem_cons.mp ha with e | e
      · rw [e]; exact List.mem_cons_self
      · cases e
    have g2 : Go (D :: ms) F H F2 H2 := gg.sub fun a ha => List.mem_cons_of_mem _ ha
    exact ⟨(g2.trans p2).drop hD, mst D _ _ _ _ hD m p⟩
  refine lc_it w (fun i H' => ∃ F' acc, Go ms F H F' H' ∧ M F' H' ∧ F' D = none ∧ H' D = some (.lst acc) ∧ acc.length ≤ i ∧ I i acc F') ?_ (fun i H' _ ⟨F', acc, g1, m1, _⟩ => hG F' H' g1 m1) ?_ ?_
  · have fd := same_none hs hD
    obtain ⟨a, b⟩ := st (acc := []) (Go.refl hs) m0 fd (.lst [])
    exact ⟨F, [], a, b, fd, upd_same, Nat.le_refl _, i0⟩
  · rintro i x H1 H1' hi ⟨F1, acc, g1, m1, fd, hd, hl, hI⟩ hy
    refine turn i x acc F1 H1 H1' hi hl hI g1 m1 hy _ _ (fun y F2 H2 g2 m2 I2 => ?_) fun F2 H2 g2 m2 I2 => ?_
    · have key : F2 D = none ∧ H2 D = some (.lst acc) := g2.mu D _ dm fd hd
      obtain ⟨a, b⟩ := st (acc := acc) (g1.trans g2) m2 key.1 (.lst (acc ++ [y]))
      refine ⟨acc, key.2, by omega, F2, acc ++ [y], a, b, key.1, upd_same, ?_, I2⟩
      rw [List.length_append]
      show acc.length + 1 ≤ i + 1
      omega
    · have key : F2 D = none ∧ H2 D = some (.lst acc) := g2.mu D _ dm fd hd
      exact ⟨F2, acc, g1.trans g2, m2, key.1, key.2, by omega, I2⟩
  · rintro H' ⟨F', acc, g1, m1, fd, hd, hl, hI⟩
    have fz : Go [D] F' H' (upd F' D (.lst acc)) H' := Go.freeze g1.fh fd hd
    have g2 : Go (D :: ms) F H (upd F' D (.lst acc)) H' := (g1.sub fun a ha => List.mem_cons_of_mem _ ha).trans (fz.sub fun a ha => by
      rcases List.mem_cons.mp ha with e | e
      · rw [e]; exact List.mem_cons_self
      · cases e)
    exact fin D acc _ H' (g2.drop hD) (mst D _ _ _ _ hD m1 fz) upd_same hl (im _ _ _ _ fz.ff hI)
/-- law's promise -/
def spLaw (K : Frg) : Sp := Sp1 fun a H Q _ => ∃ (s : Addr) (ns : List Int), a = .ref s ∧ ns.length ≤ 63 ∧ SqL K H s (ns.map V.int) ∧ ∀ H', Q (.bl true) H'
def LawOk (P : Program) (w : World) (K : Frg) (mg : Str → Option Value) (k : Nat) (f : Addr) (x : Str) (sp : Sp) : Prop :=
  ∃ fd : FuncData, (∀ (s : Shared) (u : Value), BindsTo s fd ⟨[u], []⟩ [(x, u)]) ∧ ∀ base : Heap, FnOk P w K mg base (L2.CX P w) k f fd [x] sp
theorem zlaw {P : Program} {w : World} {K : Frg} {mg : Str → Option Value} {x qual px : Str} {st : Stmt} {f : Addr} {N : List Str} {k : Nat} {sp : Sp} (F : DefAt K x qual st f) (S : FnScope N [px] (defScope st)) (len : ∀ vs H Q E, sp vs H Q E → vs.length = 1)
    (hb : ∀ (kV doc pm : Value) (an : Option Addr) (cdv ct : Value) (us : List Value), us.length = 1 → bindArgs (PySem.W.fnOf x qual (defArgs st) (defBody st) (defScope st) .none kV doc pm an cdv ct) ⟨us, []⟩ = pure ([px].zip us))
    (hbody : ∀ (base : Heap) (cdv : Value) (A : Around) (outer : List Env) (s : Shared) (H : Hp) (vs : List V) (Q : VK) (E : XK), Room k (A.deeper (envOfC qual (defScope st) s.heap.objs.size f cdv)) → sp vs H Q E →
      ∃ t, PSs (cxOf (L2.CX P w) P w K mg base N qual (defScope st) f cdv A outer s H E) (defBody st) t ∧ t { nx := fun _ H' => Q .non H', rt := Q } (start N vs) H) : LawOk P w K mg (k + 1) f px sp := by
  obtain ⟨fd, F⟩ := F
  exact ⟨fd, fun s v => FunD.bindsA (ps := [px]) F hb s [v] rfl, fun base => FunD.ok F S len (hbody base)⟩
theorem cx_no {P : World → Program} (w : World) (H : Hp) (s : Shared) (e : Value) (s' : Shared) (h : L2.CX (P w) w [] H s (fun _ _ _ => False) e s') : False := by
  obtain ⟨_, _, _, _, _, _, _, _, _, _, _, _, z⟩ := h
  exact z
end Z
namespace Z
open PySem PySem.Spec PyProof.Rows L2
theorem blF {c : Prop} [Decidable c] (h : ¬ c) : V.bl (decide c) = .bl false := by rw [decide_eq_false h]
theorem blT {c : Prop} [Decidable c] (h : c) : V.bl (decide c) = .bl true := by rw [decide_eq_true h]
/-! ### what is_integer, is_place tell -/
theorem tyX_mono {K : Frg} {F H : Hp} (s : Same F H) {x : V} {t : Value} (h : TyX K F x t) : TyX K H x t := by
  cases h with
  | base b =>
    refine .base ?_
    cases b with
    | non => exact .non
    | bl y => exact .bl y
    | int i => exact .int i
    | str y => exact .str y
    | flt y => exact .flt y
    | lst e => exact .lst (s _ _ e)
    | frz e => exact .frz (s _ _ e)
    | tup e => exact .tup (s _ _ e)
    | dK e => exact .dK (s _ _ e)
    | dT e => exact .dT (s _ _ e)
    | ins e a b c d f => exact .ins (s _ _ e) a b c d f
  | byt b => exact .byt b
  | set e => exact .set (s _ _ e)
  | kList e c => exact .kList e c
  | kTuple e c => exact .kTuple e c
  | kDict e c => exact .kDict e c
  | fTuple e => exact .fTuple (s _ _ e)
  | fDict e => exact .fDict (s _ _ e)
def IntQ (K : Frg) (H : Hp) (v : V) (b : Bool) : Prop := ∃ t b1 b2, TyX K H v t ∧ PySem.W.kitOne K t (.type "int") = some b1 ∧ (b1 = true → PySem.W.kitOne K t (.type "bool") = some b2) ∧ b = (b1 && !b2)
theorem intQ_mono {K : Frg} {F H : Hp} (s : Same F H) {v : V} {b : Bool} (h : IntQ K F v b) : IntQ K H v b := by
  obtain ⟨t, b1, b2, ty, r⟩ := h
  exact ⟨t, b1, b2, tyX_mono s ty, r⟩
theorem intQ_int {K : Frg} {H : Hp} (i : Int) : IntQ K H (.int i) true := ⟨_, true, false, tyI i, kit_ty (by decide +kernel), fun _ => kit_ty (by decide +kernel), rfl⟩
def PlaceQ (K : Frg) (F : Hp) (a : V) (b : Bool) : Prop := (∃ t, TyX K F a t ∧ PySem.W.kitOne K t (.type "tuple") = some false ∧ b = false) ∨ (∃ p xs, a = .ref p ∧ SqT K F p xs ∧ xs.length ≠ 2 ∧ b = false) ∨
  (∃ p u v bu bv, a = .ref p ∧ SqT K F p [u, v] ∧ IntQ K F u bu ∧ IntQ K F v bv ∧ b = (bu && bv))
theorem placeQ {K : Frg} {F : Hp} {p : Addr} {x y : Int} (h : SqT K F p [.int x, .int y]) : PlaceQ K F (.ref p) true := .inr (.inr ⟨p, _, _, true, true, rfl, h, intQ_int x, intQ_int y, rfl⟩)
def spIsInt (K : Frg) : Sp := Sp1 fun a H Q _ => ∃ b, IntQ K H a b ∧ Q (.bl b) H
def spIsPlace (K : Frg) : Sp := Sp1 fun a H Q _ => ∃ F b, Same F H ∧ PlaceQ K F a b ∧ ∀ F' H', Go [] F H F' H' → Q (.bl b) H'
def spChkPlace (K : Frg) : Sp := Sp1 fun a H Q _ => ∃ F, Same F H ∧ PlaceQ K F a true ∧ ∀ F' H', Go [] F H F' H' → Q .non H'
def optV : Option Int → V
  | none => .non
  | some m => .int m
def spChkNum (K : Frg) : Sp := Sp3 fun a b c H Q _ => ∃ (v lo : Int) (hi : Option Int), a = .int v ∧ b = .int lo ∧ c = optV hi ∧ lo ≤ v ∧ (∀ m, hi = some m → v ≤ m) ∧ Q .non H
def spGcd : Sp := Sp2 fun a b H Q _ => ∃ x y : Int, a = .int x ∧ b = .int y ∧ Q (.int (Int.gcd x y)) H
theorem gcd_emod (x y : Int) : Int.gcd y x = Int.gcd y (x % y) := by
  have h := Int.gcd_add_mul_right_right y (x % y) (x / y)
  rw [show x % y + x / y * y = x from by rw [Int.mul_comm]; exact Int.emod_add_mul_ediv x y] at h
  exact h
def numsOk : V → V → V → Bool
  | .int a, .int b, .int c => decide (1 ≤ c) && (decide (0 ≤ b) && decide (b < a))
  | _, _, _ => false
def spAreNum (K : Frg) : Sp := Sp1 fun q H Q _ => ∃ F p u v x bu bv bx, q = .ref p ∧ Same F H ∧ SqT K F p [u, v, x] ∧ IntQ K F u bu ∧ IntQ K F v bv ∧ IntQ K F x bx ∧ ((bu && (bv && bx)) = true → ∃ a b c : Int, u = .int a ∧ v = .int b ∧ x = .int c) ∧
  ∀ F' H', Go [] F H F' H' → Q (.bl ((bu && (bv && bx)) && numsOk u v x)) H'
end Z
namespace MN
/-- the place of the cell -/
def low (a b c x y : Int) : Int × Int := ((x - y / c * b) % a, y - y / c * c)
/-- a shift of the net -/
def InN (a b c x y : Int) : Prop := ∃ m k : Int, x = m * a + k * b ∧ y = k * c
theorem inN_add {a b c x y x' y' : Int} (h : InN a b c x y) (h' : InN a b c x' y') : InN a b c (x + x') (y + y') := by
  obtain ⟨m, k, h1, h2⟩ := h
  obtain ⟨m', k', h3, h4⟩ := h'
  exact ⟨m + m', k + k', by grind, by grind⟩
theorem inN_neg {a b c x y : Int} (h : InN a b c x y) : InN a b c (-x) (-y) := by
  obtain ⟨m, k, h1, h2⟩ := h
  exact ⟨-m, -k, by grind, by grind⟩
theorem inN_sub {a b c x y x' y' : Int} (h : InN a b c x y) (h' : InN a b c x' y') : InN a b c (x - x') (y - y') := by
  obtain ⟨m, k, h1, h2⟩ := h
  obtain ⟨m', k', h3, h4⟩ := h'
  exact ⟨m - m', k - k', by grind, by grind⟩
theorem inN_zero {a b c : Int} : InN a b c 0 0 := ⟨0, 0, by grind, by grind⟩
theorem inN_mul {a b c x y : Int} (n : Int) (h : InN a b c x y) : InN a b c (n * x) (n * y) := by
  obtain ⟨m, k, h1, h2⟩ := h
  exact ⟨n * m, n * k, by grind, by grind⟩
theorem low_in (a b c x y : Int) : InN a b c (x - (low a b c x y).1) (y - (low a b c x y).2) := by
  refine ⟨(x - y / c * b) / a, y / c, ?_, ?_⟩
  · show x - (x - y / c * b) % a = _
    have := Int.emod_add_mul_ediv (x - y / c * b) a
    grind
  · show y - (y - y / c * c) = _
    grind
theorem low_rng {a b c x y : Int} (ha : 0 < a) (hc : 0 < c) : 0 ≤ (low a b c x y).1 ∧ (low a b c x y).1 < a ∧ 0 ≤ (low a b c x y).2 ∧ (low a b c x y).2 < c := by
  have h1 := Int.emod_nonneg (x - y / c * b) (show a ≠ 0 by omega)
  have h2 := Int.emod_lt_of_pos (x - y / c * b) ha
  have h3 := Int.emod_nonneg y (show c ≠ 0 by omega)
  have h4 := Int.emod_lt_of_pos y hc
  have h5 := Int.emod_add_mul_ediv y c
  have e : y - y / c * c = y % c := by grind
  refine ⟨h1, h2, ?_, ?_⟩
  · show 0 ≤ y - y / c * c
    omega
  · show y - y / c * c < c
    omega
/-- within the cell only (0, 0) belongs to the net -/
theorem in_cell {a b c x y : Int} (ha : 0 < a) (hc : 0 < c) (h : InN a b c x y) (hx : -a < x ∧ x < a) (hy : -c < y ∧ y < c) : x = 0 ∧ y = 0 := by
  obtain ⟨m, k, h1, h2⟩ := h
  have hk : k = 0 := by
    rcases Int.lt_trichotomy k 0 with z | z | z
    · have : k * c ≤ -1 * c := Int.mul_le_mul_of_nonneg_right (by omega) (by omega)
      omega
    · exact z
    · have : 1 * c ≤ k * c := Int.mul_le_mul_of_nonneg_right (by omega) (by omega)
      omega
  subst hk
  have hm : m = 0 := by
    rcases Int.lt_trichotomy m 0 with z | z | z
    · have : m * a ≤ -1 * a := Int.mul_le_mul_of_nonneg_right (by omega) (by omega)
      omega
    · exact z
    · have : 1 * a ≤ m * a := Int.mul_le_mul_of_nonneg_right (by omega) (by omega)
      omega
  subst hm
  exact ⟨by omega, by omega⟩
/-- two places have the same place of the cell exactly if they differ by a shift -/
theorem low_eq {a b c x y x' y' : Int} (ha : 0 < a) (hc : 0 < c) : low a b c x y = low a b c x' y' ↔ InN a b c (x - x') (y - y') := by
  have h1 := low_in a b c x y
  have h2 := low_in a b c x' y'
  have r1 := low_rng (b := b) (x := x) (y := y) ha hc
  have r2 := low_rng (b := b) (x := x') (y := y') ha hc
  constructor
  · intro e
    rw [e] at h1
    have := inN_sub h1 h2
    have e1 : x - (low a b c x' y').1 - (x' - (low a b c x' y').1) = x - x' := by omega
    have e2 : y - (low a b c x' y').2 - (y' - (low a b c x' y').2) = y - y' := by omega
    rw [e1, e2] at this
    exact this
  · intro h
    have h3 := inN_sub (inN_sub h h1) (inN_neg h2)
    have e1 : x - x' - (x - (low a b c x y).1) - -(x' - (low a b c x' y').1) = (low a b c x y).1 - (low a b c x' y').1 := by omega
    have e2 : y - y' - (y - (low a b c x y).2) - -(y' - (low a b c x' y').2) = (low a b c x y).2 - (low a b c x' y').2 := by omega
    rw [e1, e2] at h3
    obtain ⟨z1, z2⟩ := in_cell ha hc h3 (by omega) (by omega)
    exact Prod.ext (by omega) (by omega)
theorem low_zero {a b c x y : Int} (ha : 0 < a) (hc : 0 < c) : low a b c x y = (0, 0) ↔ InN a b c x y := by
  have e : low a b c 0 0 = (0, 0) := by simp [low]
  rw [← e, low_eq ha hc]
  simp
theorem low_self {a b c x y : Int} (hx : 0 ≤ x ∧ x < a) (hy : 0 ≤ y ∧ y < c) : low a b c x y = (x, y) := by
  have h : y / c = 0 := Int.ediv_eq_zero_of_lt hy.1 hy.2
  unfold low
  rw [h]
  have : (x - 0 * b) % a = x := by rw [show x - 0 * b = x by omega]; exact Int.emod_eq_of_lt hx.1 hx.2
  rw [this]
  simp
/-! ### the order of a shift -/
theorem dvd_gcd {c y n : Int} (hc : 0 < c) : c ∣ n * y ↔ (c / (Int.gcd c y : Int)) ∣ n := by
  have g0 : (Int.gcd c y : Int) ≠ 0 := by
    have := Int.gcd_pos_of_ne_zero_left y (show c ≠ 0 by omega)
    omega
  have e : (Int.gcd c y : Int) * (c / (Int.gcd c y : Int)) = c := Int.mul_ediv_cancel' (Int.gcd_dvd_left c y)
  have h := Int.mul_dvd_mul_iff_left (b := c / (Int.gcd c y : Int)) (c := n) g0
  rw [e] at h
  rw [Int.mul_comm n y, ← Int.dvd_gcd_mul_iff_dvd_mul, h]
def rowsZ (c y : Int) : Int := c / (Int.gcd c y : Int)
def rightZ (b c x y : Int) : Int := rowsZ c y * x - rowsZ c y * y / c * b
def orderZ (a b c x y : Int) : Int := rowsZ c y * (a / (Int.gcd a (rightZ b c x y) : Int))
theorem rows_pos {c y : Int} (hc : 0 < c) : 0 < rowsZ c y := by
  have g0 := Int.gcd_pos_of_ne_zero_left y (show c ≠ 0 by omega)
  have e : (Int.gcd c y : Int) * (c / (Int.gcd c y : Int)) = c := Int.mul_ediv_cancel' (Int.gcd_dvd_left c y)
  unfold rowsZ
  rcases Int.lt_trichotomy (c / (Int.gcd c y : Int)) 0 with z | z | z
  · have : (Int.gcd c y : Int) * (c / (Int.gcd c y : Int)) < 0 := Int.mul_neg_of_pos_of_neg (by omega) z
    omega
  · rw [z] at e; omega
  · exact z
theorem order_pos {a b c x y : Int} (ha : 0 < a) (hc : 0 < c) : 0 < orderZ a b c x y := Int.mul_pos (rows_pos hc) (rows_pos (y := rightZ b c x y) ha)
theorem rows_dvd {c y : Int} (hc : 0 < c) : rowsZ c y ∣ c := ⟨(Int.gcd c y : Int), (Int.ediv_mul_cancel (Int.gcd_dvd_left c y)).symm⟩
theorem order_dvd {a b c x y : Int} (ha : 0 < a) (hc : 0 < c) : orderZ a b c x y ∣ a * c := by
  rw [Int.mul_comm a c]
  exact Int.mul_dvd_mul (rows_dvd hc) (rows_dvd (y := rightZ b c x y) ha)
theorem inN_iff {a b c x y : Int} (hc : 0 < c) : InN a b c x y ↔ c ∣ y ∧ a ∣ x - y / c * b := by
  constructor
  · rintro ⟨m, k, h1, h2⟩
    have : y / c = k := by rw [h2]; exact Int.mul_ediv_cancel k (by omega)
    refine ⟨⟨k, by rw [h2, Int.mul_comm]⟩, m, ?_⟩
    rw [this]
    grind
  · rintro ⟨⟨k, h1⟩, m, h2⟩
    have : y / c = k := by rw [h1]; exact Int.mul_ediv_cancel_left k (by omega)
    rw [this] at h2
    exact ⟨m, k, by grind, by grind⟩
theorem order_iff {a b c x y : Int} (ha : 0 < a) (hc : 0 < c) (n : Int) : InN a b c (n * x) (n * y) ↔ orderZ a b c x y ∣ n := by
  have r0 := rows_pos (y := y) hc
  have key : ∀ m : Int, a ∣ rowsZ c y * m * x - rowsZ c y * m * y / c * b ↔ (a / (Int.gcd a (rightZ b c x y) : Int)) ∣ m := by
    intro m
    have hr : c ∣ rowsZ c y * y := (dvd_gcd hc).mpr (Int.dvd_refl _)
    have e : rowsZ c y * m * x - rowsZ c y * m * y / c * b = m * rightZ b c x y := by
      have e1 : rowsZ c y * m * y / c = m * (rowsZ c y * y / c) := by
        rw [show rowsZ c y * m * y = m * (rowsZ c y * y) by grind]
        exact Int.mul_ediv_assoc m hr
      rw [e1]
      unfold rightZ
      grind
    rw [e]
    exact dvd_gcd ha
  rw [inN_iff hc]
  constructor
  · rintro ⟨h1, h2⟩
    obtain ⟨m, rfl⟩ := (dvd_gcd hc).mp h1
    have h3 : a ∣ rowsZ c y * m * x - rowsZ c y * m * y / c * b := h2
    exact Int.mul_dvd_mul (Int.dvd_refl _) ((key m).mp h3)
  · rintro ⟨m, rfl⟩
    have hm : orderZ a b c x y * m = rowsZ c y * (a / (Int.gcd a (rightZ b c x y) : Int) * m) := by unfold orderZ; grind
    rw [hm]
    exact ⟨(dvd_gcd hc).mpr ⟨_, rfl⟩, (key _).mpr ⟨m, rfl⟩⟩
theorem order_neg {a b c x y : Int} (ha : 0 < a) (hc : 0 < c) : orderZ a b c (-x) (-y) = orderZ a b c x y := by
  have p1 := order_pos (b := b) (x := x) (y := y) ha hc
  have p2 := order_pos (b := b) (x := -x) (y := -y) ha hc
  have key : ∀ n : Int, orderZ a b c (-x) (-y) ∣ n ↔ orderZ a b c x y ∣ n := by
    intro n
    rw [← order_iff ha hc, ← order_iff ha hc]
    constructor
    · intro h
      have := inN_neg h
      rw [show -(n * -x) = n * x by grind, show -(n * -y) = n * y by grind] at this
      exact this
    · intro h
      have := inN_neg h
      rw [show -(n * x) = n * -x by grind, show -(n * y) = n * -y by grind] at this
      exact this
  have h1 := Int.le_of_dvd p1 ((key _).mpr (Int.dvd_refl _))
  have h2 := Int.le_of_dvd p2 ((key _).mp (Int.dvd_refl _))
  omega
theorem scaled_in {a b c f : Int} (ha : 0 < a) (hc : 0 < c) (hf : 0 < f) (h1 : 1 < a) : ¬ InN (a * f) (b * f) (c * f) f 0 := by
  rintro ⟨m, k, e1, e2⟩
  have h0 : 0 < c * f := Int.mul_pos hc hf
  have k0 : k = 0 := by
    rcases Int.mul_eq_zero.mp e2.symm with h | h
    · exact h
    · omega
  subst k0
  have e3 : (m * a) * f = 1 * f := by grind
  have e4 := Int.eq_of_mul_eq_mul_right (by omega) e3
  have := Int.le_of_dvd (by omega) (⟨m, by grind⟩ : a ∣ 1)
  omega
theorem scaled_order {a b c f : Int} (ha : 0 < a) (hc : 0 < c) (hf : 0 < f) : orderZ (a * f) (b * f) (c * f) a 0 = f := by
  have h0 : 0 < c * f := Int.mul_pos hc hf
  have h1 : 0 < a * f := Int.mul_pos ha hf
  have key : ∀ n, orderZ (a * f) (b * f) (c * f) a 0 ∣ n ↔ f ∣ n := by
    intro n
    rw [← order_iff h1 h0]
    constructor
    · rintro ⟨m, k, e1, e2⟩
      have k0 : k = 0 := by
        rcases Int.mul_eq_zero.mp (show k * (c * f) = 0 by omega) with h | h
        · exact h
        · omega
      subst k0
      have e3 : n * a = (f * m) * a := by grind
      exact ⟨m, Int.eq_of_mul_eq_mul_right (by omega) e3⟩
    · rintro ⟨m, rfl⟩
      exact ⟨m, 0, by grind, by grind⟩
  exact Int.dvd_antisymm (Int.le_of_lt (order_pos h1 h0)) (Int.le_of_lt hf) ((key f).mpr (Int.dvd_refl f)) ((key _).mp (Int.dvd_refl _))
end MN
namespace Z
open PySem PySem.Spec PyProof.Rows L2
/-! ### sizes -/
def Sz (n : Nat) (x : Int) : Prop := x.natAbs < 2 ^ n
theorem Sz.mono {a b : Nat} {x : Int} (h : Sz a x) (hl : a ≤ b) : Sz b x := Nat.lt_of_lt_of_le h (Nat.pow_le_pow_right (by decide) hl)
theorem sz_mul {a b : Nat} {x y : Int} (h : Sz a x) (h' : Sz b y) : Sz (a + b) (x * y) := wide_lt h h'
theorem sz_add {a : Nat} {x y : Int} (h : Sz a x) (h' : Sz a y) : Sz (a + 1) (x + y) := by
  have h1 := Int.natAbs_add_le x y
  have h2 : x.natAbs < 2 ^ a := h
  have h3 : y.natAbs < 2 ^ a := h'
  show (x + y).natAbs < 2 ^ (a + 1)
  rw [Nat.pow_succ]
  omega
theorem sz_neg {a : Nat} {x : Int} (h : Sz a x) : Sz a (-x) := by
  show (-x).natAbs < 2 ^ a
  rw [Int.natAbs_neg]
  exact h
theorem sz_sub {a : Nat} {x y : Int} (h : Sz a x) (h' : Sz a y) : Sz (a + 1) (x - y) := by
  rw [Int.sub_eq_add_neg]
  exact sz_add h (sz_neg h')
theorem sz_div {a : Nat} {x : Int} (y : Int) (h : Sz a x) : Sz a (x / y) := Nat.lt_of_le_of_lt (Int.natAbs_ediv_le_natAbs x y) h
theorem sz_le {a : Nat} {x y : Int} (h0 : 0 ≤ x) (h1 : x ≤ y) (h : Sz a y) : Sz a x := Nat.lt_of_le_of_lt (by omega) h
theorem sz_mod {a : Nat} {x y : Int} (h : Sz a y) (hy : 0 < y) : Sz a (x % y) := sz_le (Int.emod_nonneg x (by omega)) (Int.le_of_lt (Int.emod_lt_of_pos x hy)) h
theorem mulOk {x y : Int} (h : Sz 5000 x) (h' : Sz 5000 y) : CMulW x y := wide_mul h h' (by decide) (by decide) (by decide)
theorem divOk {x y : Int} (h : 0 < y) (h' : Sz 5000 y) : CDivW x y := wide_div h h' (by decide) (by decide)
theorem sz_of {x b : Int} {n : Nat} (h0 : -b < x) (h1 : x < b) (hb : Sz n b) : Sz n x := Nat.lt_of_le_of_lt (by omega) hb
/-! ### tuples of ints compared -/
section
variable {K : Frg} {H : Hp} {p q : Addr} {a b c d e f : Int} {Q : VK}
theorem eq_T2 : PyData.eqv (.tuple [.int a, .int b]) (.tuple [.int c, .int d]) = decide (a = c ∧ b = d) := by
  simp only [PyData.eqv, PyData.eqvAll, Bool.and_true]
  by_cases h1 : a = c <;> by_cases h2 : b = d <;> simp [h1, h2]
theorem eq_T3 : PyData.eqv (.tuple [.int a, .int b, .int c]) (.tuple [.int d, .int e, .int f]) = decide (a = d ∧ b = e ∧ c = f) := by
  simp only [PyData.eqv, PyData.eqvAll, Bool.and_true]
  by_cases h1 : a = d <;> by_cases h2 : b = e <;> by_cases h3 : c = f <;> simp [h1, h2, h3]
theorem dp2 (h : SqT K H p [.int a, .int b]) : Dp K H (.ref p) (.tuple [.int a, .int b]) := .tup h (.cons (.int a) (.cons (.int b) .nil))
theorem dp3 (h : SqT K H p [.int a, .int b, .int c]) : Dp K H (.ref p) (.tuple [.int a, .int b, .int c]) := .tup h (.cons (.int a) (.cons (.int b) (.cons (.int c) .nil)))
theorem sh2 : SeqAt.shaped (.tuple [.int a, .int b]) = true := by rfl
theorem sh3 : SeqAt.shaped (.tuple [.int a, .int b, .int c]) = true := by rfl
theorem rEqT2 (h : SqT K H p [.int a, .int b]) (h' : SqT K H q [.int c, .int d]) (k : Q (.bl (decide (a = c ∧ b = d))) H) : rEqD K (.ref p) (.ref q) H Q := ⟨_, _, dp2 h, dp2 h', sh2, sh2, by rw [eq_T2]; exact k⟩
theorem rNeT2 (h : SqT K H p [.int a, .int b]) (h' : SqT K H q [.int c, .int d]) (k : Q (.bl (!decide (a = c ∧ b = d))) H) : rNeD K (.ref p) (.ref q) H Q := ⟨_, _, dp2 h, dp2 h', sh2, sh2, by rw [eq_T2]; exact k⟩
theorem rEqT3 (h : SqT K H p [.int a, .int b, .int c]) (h' : SqT K H q [.int d, .int e, .int f]) (k : Q (.bl (decide (a = d ∧ b = e ∧ c = f))) H) : rEqD K (.ref p) (.ref q) H Q := ⟨_, _, dp3 h, dp3 h', sh3, sh3, by rw [eq_T3]; exact k⟩
theorem rNeT3 (h : SqT K H p [.int a, .int b, .int c]) (h' : SqT K H q [.int d, .int e, .int f]) (k : Q (.bl (!decide (a = d ∧ b = e ∧ c = f))) H) : rNeD K (.ref p) (.ref q) H Q := ⟨_, _, dp3 h, dp3 h', sh3, sh3, by rw [eq_T3]; exact k⟩
end
/-! ### nets -/
def netF (q : Addr) : List (Str × V) := [("own_numbers", .ref q)]
structure NetIs (C : Addr) (F : Hp) (x : Addr) (a b c : Int) : Prop where
  at_ : ∃ dx q, F x = some (.ins C dx (netF q)) ∧ F q = some (.tup [.int a, .int b, .int c])
  hc : 1 ≤ c
  hb : 0 ≤ b
  ba : b < a
  sa : Sz 1000 a
  sc : Sz 1000 c
theorem NetIs.mono {C : Addr} {F H : Hp} {x : Addr} {a b c : Int} (n : NetIs C F x a b c) (s : Same F H) : NetIs C H x a b c := by
  obtain ⟨⟨dx, q, h1, h2⟩, r1, r2, r3, r4, r5⟩ := n
  exact ⟨⟨dx, q, s _ _ h1, s _ _ h2⟩, r1, r2, r3, r4, r5⟩
theorem NetIs.sb {C : Addr} {F : Hp} {x : Addr} {a b c : Int} (n : NetIs C F x a b c) : Sz 1000 b := sz_le n.hb (Int.le_of_lt n.ba) n.sa
theorem NetIs.ha {C : Addr} {F : Hp} {x : Addr} {a b c : Int} (n : NetIs C F x a b c) : 0 < a := by have := n.hb; have := n.ba; omega
def spNetInit (C : Addr) : Sp := Sp4 fun s u v w H Q _ => ∃ F x dx a b c, s = .ref x ∧ u = .int a ∧ v = .int b ∧ w = .int c ∧ Same F H ∧ F x = none ∧ H x = some (.ins C dx []) ∧ 1 ≤ c ∧ 0 ≤ b ∧ b < a ∧
  ∀ F' H' q, Go [x] F H F' H' → F' x = none → H' x = some (.ins C dx (netF q)) → F' q = some (.tup [.int a, .int b, .int c]) → Q .non H'
def spNetMk (C : Addr) : Sp := Sp3 fun u v w H Q _ => ∃ F a b c, u = .int a ∧ v = .int b ∧ w = .int c ∧ Same F H ∧ 1 ≤ c ∧ 0 ≤ b ∧ b < a ∧ Sz 1000 a ∧ Sz 1000 c ∧ ∀ x F' H', Go [] F H F' H' → NetIs C F' x a b c → Q (.ref x) H'
theorem mkNet {C : Addr} {E : XK} (vs : List V) (H : Hp) (Q : VK) (h : spNetMk C vs H Q E) : ∀ x dx, H x = none → H dx = none → dx ≠ x → spNetInit C (.ref x :: vs) (upd (upd H dx (.own x)) x (.ins C dx [])) (fun v H2 => v = .non ∧ Q (.ref x) H2) E := by
  obtain ⟨_, _, _, rfl, F, a, b, c, rfl, rfl, rfl, hs, hc, hb, ba, sa, sc, k⟩ := h
  intro x dx nx nd ne
  have g1 : Go [] F H F (upd H dx (.own x)) := Go.newM hs nd
  have nx1 : (upd H dx (.own x)) x = none := by rw [upd_ne (Ne.symm ne)]; exact nx
  have g2 : Go [] F (upd H dx (.own x)) F (upd (upd H dx (.own x)) x (.ins C dx [])) := Go.newM g1.fh nx1
  have fx : F x = none := same_none hs nx
  refine ⟨_, _, _, _, rfl, F, x, dx, a, b, c, rfl, rfl, rfl, rfl, g2.fh, fx, upd_same, hc, hb, ba, fun F' H' q g3 fx' hx' hq => ⟨rfl, ?_⟩⟩
  have g4 : Go [x] F' H' (upd F' x (.ins C dx (netF q))) H' := Go.freeze g3.fh fx' hx'
  have g5 : Go [x] F H (upd F' x (.ins C dx (netF q))) H' := ((g1.trans g2).nil.trans g3).trans g4
  exact k x _ H' (g5.drop nx) ⟨⟨dx, q, upd_same, g4.ff _ _ hq⟩, hc, hb, ba, sa, sc⟩
def spNumbers (C : Addr) : Sp := Sp1 fun s H Q _ => ∃ F x a b c, s = .ref x ∧ Same F H ∧ NetIs C F x a b c ∧ ∀ q, F q = some (.tup [.int a, .int b, .int c]) → Q (.ref q) H
def spSize (C : Addr) : Sp := Sp1 fun s H Q _ => ∃ x a b c, s = .ref x ∧ NetIs C H x a b c ∧ Q (.int (a * c)) H
def spSpan (C : Addr) : Sp := Sp1 fun s H Q _ => ∃ F x a b c, s = .ref x ∧ Same F H ∧ NetIs C F x a b c ∧ ∀ l p1 p2 F' H', Go [] F H F' H' → F' l = some (.lst [.ref p1, .ref p2]) → F' p1 = some (.tup [.int a, .int 0]) → F' p2 = some (.tup [.int b, .int c]) → Q (.ref l) H'
def spCell (K : Frg) (C : Addr) : Sp := Sp2 fun s p H Q _ => ∃ F x a b c pl px py, s = .ref x ∧ p = .ref pl ∧ Same F H ∧ NetIs C F x a b c ∧ SqT K F pl [.int px, .int py] ∧ Sz 2000 px ∧ Sz 2000 py ∧
  ∀ r F' H', Go [] F H F' H' → F' r = some (.tup [.int (MN.low a b c px py).1, .int (MN.low a b c px py).2]) → Q (.ref r) H'
def InQ (K : Frg) (F : Hp) (a b c : Int) (v : V) (r : Bool) : Prop := (PlaceQ K F v false ∧ r = false) ∨ ∃ p x y, v = .ref p ∧ SqT K F p [.int x, .int y] ∧ Sz 2000 x ∧ Sz 2000 y ∧ r = decide (MN.low a b c x y = (0, 0))
def spContains (K : Frg) (C : Addr) : Sp := Sp2 fun s v H Q _ => ∃ F x a b c r, s = .ref x ∧ Same F H ∧ NetIs C F x a b c ∧ InQ K F a b c v r ∧ ∀ F' H', Go [] F H F' H' → Q (.bl r) H'
def EqQ (K : Frg) (C : Addr) (H : Hp) (a b c : Int) (v : V) (r : Bool) : Prop := (∃ t, TyX K H v t ∧ PySem.W.kitOne K t (.ref C) = some false ∧ r = false) ∨ ∃ y a' b' c', v = .ref y ∧ NetIs C H y a' b' c' ∧ r = decide (a = a' ∧ b = b' ∧ c = c')
def spEqN (K : Frg) (C : Addr) : Sp := Sp2 fun s v H Q _ => ∃ x a b c r, s = .ref x ∧ NetIs C H x a b c ∧ EqQ K C H a b c v r ∧ Q (.bl r) H
def spOrder (K : Frg) (C : Addr) : Sp := Sp2 fun s p H Q _ => ∃ F x a b c pl px py, s = .ref x ∧ p = .ref pl ∧ Same F H ∧ NetIs C F x a b c ∧ SqT K F pl [.int px, .int py] ∧ Sz 1000 px ∧ Sz 1000 py ∧
  ∀ F' H', Go [] F H F' H' → Q (.int (MN.orderZ a b c px py)) H'
def spWithin (C : Addr) : Sp := Sp2 fun s o H Q _ => ∃ F x a b c y p q r, s = .ref x ∧ o = .ref y ∧ Same F H ∧ NetIs C F x a b c ∧ NetIs C F y p q r ∧
  ∀ F' H', Go [] F H F' H' → Q (.bl (decide (MN.low p q r a 0 = (0, 0)) && decide (MN.low p q r b c = (0, 0)))) H'
def spScaled (C : Addr) : Sp := Sp2 fun s v H Q _ => ∃ F x a b c f, s = .ref x ∧ v = .int f ∧ Same F H ∧ NetIs C F x a b c ∧ 1 ≤ f ∧ Sz 1000 (a * f) ∧ Sz 1000 (c * f) ∧ Sz 1000 f ∧
  ∀ y F' H', Go [] F H F' H' → NetIs C F' y (a * f) (b * f) (c * f) → Q (.ref y) H'
end Z
namespace Z
open PySem PySem.Spec PyProof.Rows L2
/-- the tape: a list that changes -/
def TapeV (K : Frg) (F : Hp) (xs : List V) : Prop := ∃ (c : Addr) (ns : List Int) (i b r : Int), xs = [.ref c, .int i, .int b, .int r] ∧ SqL K F c (ns.map V.int) ∧ 0 ≤ i ∧ 0 ≤ b ∧ 0 ≤ r ∧ r < 2147483647
structure Tape (K : Frg) (F H : Hp) (t : Addr) : Prop where
  fr : F t = none
  at_ : ∃ xs, H t = some (.lst xs) ∧ TapeV K F xs
theorem Tape.go {K : Frg} {F H F' H' : Hp} {t : Addr} {ms : List Addr} (x : Tape K F H t) (g : Go ms F H F' H') (hm : t ∉ ms) : Tape K F' H' t := by
  obtain ⟨h1, xs, h2, c, ns, i, b, r, e, h3, h4⟩ := x
  obtain ⟨a1, a2⟩ := g.mu t _ hm h1 h2
  exact ⟨a1, xs, a2, c, ns, i, b, r, e, sqL g.ff h3, h4⟩
theorem Tape.go0 {K : Frg} {F H F' H' : Hp} {t : Addr} (x : Tape K F H t) (g : Go [] F H F' H') : Tape K F' H' t := x.go g (by simp)
theorem Tape.ne {K : Frg} {F H : Hp} {t : Addr} (x : Tape K F H t) : H t ≠ none := by
  obtain ⟨_, xs, h, _⟩ := x
  rw [h]
  exact fun z => nomatch z
def spDraw (K : Frg) : Sp := Sp2 fun a b H Q _ => ∃ F t many, a = .ref t ∧ b = .int many ∧ Same F H ∧ Tape K F H t ∧ 0 < many ∧ many.natAbs.log2 < 9000 ∧
  ∀ d H', 0 ≤ d → d < many → Go [t] F H F H' → Tape K F H' t → Q (.int d) H'
def spTape (K : Frg) : Sp := Sp1 fun a H Q _ => ∃ (F : Hp) (s : Addr) (ns : List Int), a = .ref s ∧ Same F H ∧ SqL K F s (ns.map V.int) ∧ ∀ t F' H', Go [] F H F' H' → Tape K F' H' t → Q (.ref t) H'
def spGreat (K : Frg) : Sp := Sp2 fun a b H Q _ => ∃ F t size, a = .ref t ∧ b = .int size ∧ Same F H ∧ Tape K F H t ∧ 60 ≤ size ∧ Sz 1000 size ∧
  ∀ d F' H', -size < d → d < size → Go [t] F H F' H' → Tape K F' H' t → Q (.int d) H'
def spPlace (K : Frg) : Sp := Sp1 fun a H Q _ => ∃ F t, a = .ref t ∧ Same F H ∧ Tape K F H t ∧
  ∀ p x y F' H', Go [t] F H F' H' → Tape K F' H' t → F' p = some (.tup [.int x, .int y]) → Sz 100 x → Sz 100 y → Q (.ref p) H'
def spLow (K : Frg) : Sp := Sp2 fun n p H Q _ => ∃ F nl pl a b c x y, n = .ref nl ∧ p = .ref pl ∧ Same F H ∧ SqT K F nl [.int a, .int b, .int c] ∧ SqT K F pl [.int x, .int y] ∧ 1 ≤ c ∧ 0 ≤ b ∧ b < a ∧ Sz 1000 a ∧ Sz 1000 c ∧ Sz 2000 x ∧ Sz 2000 y ∧
  ∀ r F' H', Go [] F H F' H' → F' r = some (.tup [.int (MN.low a b c x y).1, .int (MN.low a b c x y).2]) → Q (.ref r) H'
def spNet (K : Frg) : Sp := Sp2 fun a b H Q _ => ∃ F t most, a = .ref t ∧ b = .int most ∧ Same F H ∧ Tape K F H t ∧ 0 < most ∧ Sz 1000 most ∧
  ∀ p a b c F' H', Go [t] F H F' H' → Tape K F' H' t → F' p = some (.tup [.int a, .int b, .int c]) → 0 ≤ b → b < a → 1 ≤ c → a * c ≤ most → Q (.ref p) H'
theorem sz_lit {n : Nat} {x : Int} (h : Nat.blt x.natAbs (2 ^ n) = true) : Sz n x := Nat.le_of_ble_eq_true h
theorem szLog {x : Int} (h : Sz 8000 x) : x.natAbs.log2 < 9000 := Nat.lt_of_lt_of_le (PySem.Flt.log2_lt_of (by decide) h) (by decide)
theorem atI_mem {xs : List V} {k : Int} (h0 : 0 ≤ k) (h1 : k < xs.length) : ∃ v, atI xs k = some v ∧ v ∈ xs := by
  obtain ⟨j, rfl⟩ := Int.eq_ofNat_of_zero_le h0
  have hj : j < xs.length := by omega
  exact ⟨xs[j], atI_nat (List.getElem?_eq_getElem hj), List.getElem_mem hj⟩
theorem cut_ints (ns : List Int) (lo hi : Option Int) : ∃ ms : List Int, cutV (ns.map V.int) lo hi = ms.map V.int := by
  unfold cutV
  rw [← List.map_drop, ← List.map_take]
  exact ⟨_, rfl⟩
def spSteps (K : Frg) : Sp := Sp2 fun n p H Q _ => ∃ F nl pl a b c x y, n = .ref nl ∧ p = .ref pl ∧ Same F H ∧ SqT K F nl [.int a, .int b, .int c] ∧ SqT K F pl [.int x, .int y] ∧ 1 ≤ c ∧ 0 ≤ b ∧ b < a ∧ Sz 1000 a ∧ Sz 1000 c ∧ Sz 2000 x ∧ Sz 2000 y ∧
  ∀ F' H', Go [] F H F' H' → Q (.int (MN.orderZ a b c x y)) H'
theorem ixT {K : Frg} {H : Hp} {p : Addr} {xs : List V} {i : Int} {v : V} {Q : VK} (h : SqT K H p xs) (e : atI xs i = some v) (k : Q v H) : rIxT K (.ref p) (.int i) H Q := ⟨p, xs, i, v, rfl, rfl, h, e, k⟩
theorem ixL {K : Frg} {H : Hp} {p : Addr} {xs : List V} {i : Int} {v : V} {Q : VK} (h : SqL K H p xs) (e : atI xs i = some v) (k : Q v H) : rIxL K (.ref p) (.int i) H Q := ⟨p, xs, i, v, rfl, rfl, h, e, k⟩
end Z
namespace Z
open PySem PySem.Spec PyProof.Rows L2
/-! ### room, with nothing being shown above -/
structure RoomG (k : Nat) (A : Around) : Prop where
  rm : Room k A
  gd : A.guards = some []
theorem RoomG.mono {j k : Nat} {A : Around} (r : RoomG k A) (h : j ≤ k) : RoomG j A := ⟨r.rm.mono h, r.gd⟩
theorem RoomG.deeper {k : Nat} {A : Around} (r : RoomG (k + 1) A) (env : Env) : RoomG k (A.deeper env) := ⟨r.rm.deeper env, r.gd⟩
theorem RoomG.in1 {k : Nat} {A : Around} (r : RoomG (k + 1) A) : RoomG k A.in1 := ⟨r.rm.in1, r.gd⟩
theorem guards_make {A : Around} {C : Addr} {us : List Value} : (A.under (.builtin "type.__call__" ⟨.ref C :: us, []⟩)).guards = A.guards := by
  show pushGuards (Code.guards (.builtin "type.__call__" ⟨.ref C :: us, []⟩)) A.guards = A.guards
  have e : Code.guards (.builtin "type.__call__" ⟨.ref C :: us, []⟩) = [] := by
    unfold Code.guards
    first | rfl | decide +kernel | simp
  rw [e]
  cases A.guards <;> rfl
theorem RoomG.make {k : Nat} {A : Around} (r : RoomG (k + 1) A) (C : Addr) (us : List Value) : RoomG k (A.under (.builtin "type.__call__" ⟨.ref C :: us, []⟩)) := ⟨r.rm.make C us [], by rw [guards_make]; exact r.gd⟩
theorem RoomG.units {k : Nat} {A : Around} (r : RoomG k A) : A.units + 64 < cLine := r.rm.units
/-- a def, called where nothing is being shown -/
def FnG (P : Program) (w : World) (K : Frg) (mg : Str → Option Value) (base : Heap) (CX : CXT) (k : Nat) (f : Addr) (sp : Sp) : Prop :=
  ∀ (A : Around) (outer : List Env) (s : Shared) (H : Hp) (us : List Value) (vs : List V) (Q : VK) (E : XK), RoomG k A → Env0 P w K mg base A outer s H → Vals vs us → sp vs H Q E → codeAny (model P w) A (.call (.ref f) ⟨us, []⟩) (CR CX outer P w H s Q E) s
/-- .. at one such place -/
def FnA (A : Around) (P : Program) (w : World) (K : Frg) (mg : Str → Option Value) (base : Heap) (CX : CXT) (f : Addr) (sp : Sp) : Prop :=
  ∀ (outer : List Env) (s : Shared) (H : Hp) (us : List Value) (vs : List V) (Q : VK) (E : XK), Env0 P w K mg base A outer s H → Vals vs us → sp vs H Q E → codeAny (model P w) A (.call (.ref f) ⟨us, []⟩) (CR CX outer P w H s Q E) s
section
variable {P : Program} {w : World} {K : Frg} {mg : Str → Option Value} {base : Heap} {CX : CXT} {k : Nat} {f : Addr} {sp sp' : Sp} {A : Around}
theorem FnG.at (F : FnG P w K mg base CX k f sp) (hr : RoomG k A) : FnA A P w K mg base CX f sp := fun outer s H us vs Q E => F A outer s H us vs Q E hr
theorem FnG.of (F : FnR P w K mg base CX k f sp) : FnG P w K mg base CX k f sp := fun A outer s H us vs Q E hr => F A outer s H us vs Q E hr.rm
theorem FnG.imp (F : FnG P w K mg base CX k f sp) (h : ∀ vs H Q E, sp' vs H Q E → sp vs H Q E) : FnG P w K mg base CX k f sp' := fun A outer s H us vs Q E hr e0 r hs => F A outer s H us vs Q E hr e0 r (h _ _ _ _ hs)
end
section
variable {X : Cx} {CX : CXT} {k : Nat} {f C p g : Addr} {sp : Sp} {E : XK} {x m : Str} {p0 pos apos : Pos} {e o a b : Expr} {es : List Expr} {ta tb : TE} {t : TA} {pins : List (Addr × Obj)} {σ : L2.St} {H : Hp} {s : Shared}
theorem run_A {A : Around} {Q : VK} {us : List Value} {vs : List V} (F : FnA A X.prog X.w X.K X.mg X.base CX f sp) (e0 : Env0 X.prog X.w X.K X.mg X.base A X.stack s H) (hx : Passes CX X E) (I : L2.Inv X pins σ H s) (r : Vals vs us) (h : sp vs H Q E) :
    codeAny (model X.prog X.w) A (.call (.ref f) ⟨us, []⟩) (fun r s' => match r with | .ok (.ret v) => EP X pins σ Q v s' | .ok _ => False | .error e => X.xe e s') s :=
  codeAny_mono (F X.stack s H us vs Q E e0 r h) fun q s' hq => match q, hq with
    | .error er, hq => hx pins σ H s er s' I hq
    | .ok (.ret _), hq => I.after hq
    | .ok .next, hq => False.elim hq
    | .ok .brk, hq => False.elim hq
    | .ok .cont, hq => False.elim hq
theorem run_fnA {Q : VK} {us : List Value} {vs : List V} (F : FnA X.A X.prog X.w X.K X.mg X.base CX f sp) (hx : Passes CX X E) (I : L2.Inv X pins σ H s) (r : Vals vs us) (h : sp vs H Q E) :
    codeAny (model X.prog X.w) X.A (.call (.ref f) ⟨us, []⟩) (fun r s' => match r with | .ok (.ret v) => EP X pins σ Q v s' | .ok _ => False | .error e => X.xe e s') s := run_A F I.env0 hx I r h
theorem gcall (F : FnA X.A X.prog X.w X.K X.mg X.base CX f sp) (hg : Gl X x) (hm : X.mg x = some (.ref f)) (hk : PySem.W.keepIn X.K (.ref f) = true) (hx : Passes CX X E)
    (ha : PA X (e :: es) t) (hdb : (x == ("__debug__" : Str)) = false := by decide) (he : starEach (e :: es) X.env = (false, eval e X.env) :: starEach es X.env := by rfl) (hpl : (backTo pos (starEach es X.env)).any (·.1) = false := by rfl) :
    PE X (.Call (.Name x p0) (e :: es) [] pos) (tFn sp E t) := by
  refine ⟨fun pins s σ H Q I h => ?_⟩
  refine wpAny_Call_Name_kw (ld_glob I hg hm ?_ hdb)
  refine PySem.W.callWith_K (h₀ := X.base) I.ok.mod.kin hk (thn (ha.run pos pins s σ H _ I h) fun us s1 ⟨vs, H1, I1, r, q⟩ => ⟨I1.kIn, ?_⟩) he hpl
  exact wpAny_call (run_fnA F hx I1 r q)
theorem gcall0 (F : FnA X.A X.prog X.w X.K X.mg X.base CX f sp) (hg : Gl X x) (hm : X.mg x = some (.ref f)) (hk : PySem.W.keepIn X.K (.ref f) = true) (hx : Passes CX X E)
    (hdb : (x == ("__debug__" : Str)) = false := by decide) : PE X (.Call (.Name x p0) [] [] pos) (tFn sp E tNil) := by
  refine ⟨fun pins s σ H Q I h => ?_⟩
  refine wpAny_Call_Name_kw (ld_glob I hg hm ?_ hdb)
  exact PySem.W.callWith_K0 I.kIn hk (wpAny_call (run_fnA (us := []) F hx I .nil h))
theorem gop_in (hs : PySem.W.findIn X.K (.ref C) "__contains__" = some (some (.ref g))) (hf : PySem.W.isFn X.K (.ref g) = true) (F : FnA X.A X.prog X.w X.K X.mg X.base CX g sp) (hx : Passes CX X E) : OpR X (compareOp .In) (rInO false C sp E) := by
  intro pins s σ H x y v u Q I rx ry h
  obtain ⟨a, dx, fs, rfl, ea, q⟩ := h
  cases (show u = Value.ref a from ry)
  obtain ⟨mA, O, _, _, _, _⟩ := ins_get I.hok ea
  obtain ⟨od, J, _⟩ := O.look
  obtain ⟨m, hF⟩ := I.fr
  refine PySem.W.in_K hF I.ok.mod.kin J hs hf ?_
  refine wpAny_mono (wpAny_call (run_fnA (us := [.ref a, v]) (vs := [.ref a, x]) F hx I (.cons rfl (.cons rx .nil)) q)) (fun w s' z => ?_) fun _ _ x => x
  obtain ⟨z', H', I', rz, b, rfl, qz⟩ := z
  cases (show w = Value.bool b from rz)
  exact wpAny_truthy_bool ⟨.bl b, H', I', rfl, qz⟩
theorem gop_nin (hs : PySem.W.findIn X.K (.ref C) "__contains__" = some (some (.ref g))) (hf : PySem.W.isFn X.K (.ref g) = true) (F : FnA X.A X.prog X.w X.K X.mg X.base CX g sp) (hx : Passes CX X E) : OpR X (compareOp .NotIn) (rInO true C sp E) := by
  intro pins s σ H x y v u Q I rx ry h
  obtain ⟨a, dx, fs, rfl, ea, q⟩ := h
  cases (show u = Value.ref a from ry)
  obtain ⟨mA, O, _, _, _, _⟩ := ins_get I.hok ea
  obtain ⟨od, J, _⟩ := O.look
  obtain ⟨m, hF⟩ := I.fr
  refine PySem.W.notIn_K hF I.ok.mod.kin J hs hf ?_
  refine wpAny_mono (wpAny_call (run_fnA (us := [.ref a, v]) (vs := [.ref a, x]) F hx I (.cons rfl (.cons rx .nil)) q)) (fun w s' z => ?_) fun _ _ x => x
  obtain ⟨z', H', I', rz, b, rfl, qz⟩ := z
  cases (show w = Value.bool b from rz)
  exact wpAny_truthy_bool ⟨.bl (!b), H', I', rfl, qz⟩
theorem gop_eq (hs : PySem.W.findIn X.K (.ref C) "__eq__" = some (some (.ref g))) (hf : PySem.W.isFn X.K (.ref g) = true) (F : FnA X.A X.prog X.w X.K X.mg X.base CX g sp) (hu : X.A.units + 64 < cLine) (hx : Passes CX X E) : OpR X (compareOp .Eq) (rEqO false X.K C sp E) := by
  intro pins s σ H x y v u Q I rx ry h
  obtain ⟨a, dx, fs, t, rfl, ea, ty, hn, q⟩ := h
  cases (show v = Value.ref a from rx)
  obtain ⟨mA, O, _, _, _, _⟩ := ins_get I.hok ea
  obtain ⟨od, J, _⟩ := O.look
  obtain ⟨m, hF⟩ := I.fr
  obtain ⟨P, kx, hP, _⟩ := kit_of I ry ty
  refine PySem.W.cmp_K (op := .Eq) (tb := t) (by omega) hF I.ok.mod.kin J (kx.ty _ _ I.kIn hP) hn hs hf ?_
  refine wpAny_mono (wpAny_call (run_fnA (us := [.ref a, u]) (vs := [.ref a, y]) F hx I (.cons rfl (.cons ry .nil)) q)) (fun w s' z => ?_) fun _ _ x => x
  obtain ⟨z', H', I', rz, b, rfl, qz⟩ := z
  cases (show w = Value.bool b from rz)
  exact ⟨.bl b, H', I', rfl, qz⟩
theorem gop_ne (hne : PySem.W.findIn X.K (.ref C) "__ne__" = some (some (.builtin "object.__ne__"))) (hsub : PySem.W.mroIn X.K C (.type "object") = some true) (hs : PySem.W.findIn X.K (.ref C) "__eq__" = some (some (.ref g))) (hf : PySem.W.isFn X.K (.ref g) = true)
    (F : FnA X.A.in1 X.prog X.w X.K X.mg X.base CX g sp) (hu : X.A.units + 64 < cLine) (hx : Passes CX X E) : OpR X (compareOp .NotEq) (rEqO true X.K C sp E) := by
  intro pins s σ H x y v u Q I rx ry h
  obtain ⟨a, dx, fs, t, rfl, ea, ty, hn, q⟩ := h
  cases (show v = Value.ref a from rx)
  obtain ⟨mA, O, _, _, _, _⟩ := ins_get I.hok ea
  obtain ⟨od, J, _⟩ := O.look
  obtain ⟨P, kx, hP, _⟩ := kit_of I ry ty
  have one : wpAny (model X.prog X.w) X.A (tryCompare (.ref a) "__ne__" u) (fun r s' => ∃ b, r = some b ∧ EP X pins σ Q b s') X.xe s := by
    refine ne_try (by omega) I.kIn J hne hsub hs hf ?_
    refine codeAny_mono (run_A (us := [.ref a, u]) (vs := [.ref a, y]) F I.env0.in1 hx I (.cons rfl (.cons ry .nil)) q) fun r s' z => ?_
    cases r with
    | error e => exact z
    | ok fl =>
      cases fl with
      | ret w =>
        obtain ⟨z', H', I', rz, b, rfl, qz⟩ := z
        cases (show w = Value.bool b from rz)
        exact ⟨b, rfl, _, rfl, .bl (!b), H', I', rfl, qz⟩
      | next => exact z
      | brk => exact z
      | cont => exact z
  show wpAny (model X.prog X.w) X.A (richCompare .NotEq (.ref a) u) (EP X pins σ Q) X.xe s
  unfold richCompare
  simp only [oneThing_ref]
  refine wpAny_holding (wpAny_bind (wpAny_cRoomFor (by omega) ?_))
  refine wpAny_bind (J.type.here (wpAny_bind ((kx.ty _ _ I.kIn hP).here ?_)))
  split
  · rename_i q
    have e : PySem.W.subIn X.K t (.ref C) = some false := by
      rcases Bool.or_eq_true_iff.mp hn with e | e
      · rw [beq_iff_eq.mp e] at q; simp at q
      · exact beq_iff_eq.mp e
    refine wpAny_bind ((PySem.W.looks_subIn I.kIn e).here ?_)
    simp only [Bool.false_eq_true, if_false]
    refine wpAny_bind (wpAny_mono one (fun r s' z => ?_) fun _ _ e => e)
    obtain ⟨v, rfl, hq⟩ := z
    exact wpAny_pure hq
  · refine wpAny_bind (wpAny_pure ?_)
    simp only [Bool.false_eq_true, if_false]
    refine wpAny_bind (wpAny_mono one (fun r s' z => ?_) fun _ _ e => e)
    obtain ⟨v, rfl, hq⟩ := z
    exact wpAny_pure hq
theorem gop_bin {op : Operator} (hc : PySem.W.selfFirst X.K C = true) (hs : PySem.W.findIn X.K (.ref C) (PySem.dunder op.info.2) = some (some (.ref g))) (hf : PySem.W.isFn X.K (.ref g) = true)
    (F : FnA X.A X.prog X.w X.K X.mg X.base CX g sp) (hx : Passes CX X E) : OpR X (binaryOp op) (rBinO C sp E) := by
  intro pins s σ H x y v u Q I rx ry h
  obtain ⟨a, dx, fs, b, dy, gs, rfl, rfl, ea, eb, q⟩ := h
  cases (show v = Value.ref a from rx)
  cases (show u = Value.ref b from ry)
  obtain ⟨mA, O, _, _, _, _⟩ := ins_get I.hok ea
  obtain ⟨od, J, _⟩ := O.look
  obtain ⟨mB, O', _, _, _, _⟩ := ins_get I.hok eb
  obtain ⟨od', J', _⟩ := O'.look
  obtain ⟨m, hF⟩ := I.fr
  refine PySem.W.binop_K hF I.ok.mod.kin J J'.type hc hs hf ?_
  refine wpAny_mono (wpAny_call (run_fnA (us := [.ref a, .ref b]) (vs := [.ref a, .ref b]) F hx I (.cons rfl (.cons rfl .nil)) q)) (fun w s' z => ?_) fun _ _ x => x
  obtain ⟨z', H', I', rz, qz⟩ := z
  exact SlX.cmpback rz ⟨z', H', I', rz, qz⟩
/-- making an instance -/
theorem run_makeG {Q : VK} {us : List Value} {vs : List V} (M : Mk X.K C f) (F : FnG X.prog X.w X.K X.mg X.base CX k f sp) (hr : RoomG (k + 1) X.A) (hx : Passes CX X E) (I : L2.Inv X pins σ H s) (r : Vals vs us)
    (h : ∀ x dx, H x = none → H dx = none → dx ≠ x → sp (V.ref x :: vs) (upd (upd H dx (.own x)) x (.ins C dx [])) (fun v H2 => v = .non ∧ Q (.ref x) H2) E) :
    wpAny (model X.prog X.w) X.A (call (.ref C) us) (EP X pins σ Q) X.xe s := by
  have J := Inv.made (C := C) I
  have hq := h (s.heap.objs.size + 1) s.heap.objs.size (I.hok.fresh (Nat.le_succ _)) (I.hok.fresh (Nat.le_refl _)) (Nat.ne_of_lt (Nat.lt_succ_self _))
  have run := F _ X.stack _ _ (.ref (s.heap.objs.size + 1) :: us) (.ref (s.heap.objs.size + 1) :: vs) _ E (hr.make C us) (J.env0.make C us []) (.cons rfl r) hq
  exact wpAny_call (make_map (f := f) I.kIn M.makes M.init (beq_iff_eq.mp M.fn) (codeAny_mono run fun q s' z => match q, z with
    | .error er, z => hx pins σ _ _ er s' J z
    | .ok (.ret _), z => by
      obtain ⟨v, H', J3, rv, ev, q3⟩ := J.after z
      subst ev
      exact ⟨rv, V.ref (s.heap.objs.size + 1), H', J3, rfl, q3⟩
    | .ok .next, z => False.elim z
    | .ok .brk, z => False.elim z
    | .ok .cont, z => False.elim z))
theorem gmake {x : Str} {spI spM : Sp} (mk : ∀ vs H Q, spM vs H Q E → ∀ x dx, H x = none → H dx = none → dx ≠ x → spI (.ref x :: vs) (upd (upd H dx (.own x)) x (.ins C dx [])) (fun v H2 => v = .non ∧ Q (.ref x) H2) E)
    (M : Mk X.K C f) (F : FnG X.prog X.w X.K X.mg X.base CX k f spI) (hr : RoomG (k + 1) X.A) (hg : Gl X x) (hm : X.mg x = some (.ref C)) (hx : Passes CX X E) (ha : PA X (e :: es) t) (hdb : (x == ("__debug__" : Str)) = false := by decide)
    (he : starEach (e :: es) X.env = (false, eval e X.env) :: starEach es X.env := by rfl) (hpl : (backTo pos (starEach es X.env)).any (·.1) = false := by rfl) : PE X (.Call (.Name x p0) (e :: es) [] pos) (tFn spM E t) := by
  refine ⟨fun pins s σ H Q I h => ?_⟩
  refine wpAny_Call_Name_kw (ld_glob I hg hm ?_ hdb)
  refine PySem.W.callWith_K (h₀ := X.base) I.ok.mod.kin M.kp (thn (ha.run pos pins s σ H _ I h) fun us s1 ⟨vs, H1, I1, r, q⟩ => ⟨I1.kIn, ?_⟩) he hpl
  exact run_makeG M F hr hx I1 r (mk vs H1 Q q)
end
end Z
namespace Z
open PySem PySem.Spec PyProof.Rows L2
section
variable {P : Program} {w : World} {K : Frg} {mg : Str → Option Value} {base : Heap}
/-- a def by its text, where nothing is being shown -/
theorem zfnG {x qual : Str} {st : Stmt} {f : Addr} {N ps : List Str} {k : Nat} {sp : Sp} (F : DefAt K x qual st f) (S : FnScope N ps (defScope st)) (len : ∀ vs H Q E, sp vs H Q E → vs.length = ps.length)
    (hb : ∀ (kV doc pm : Value) (an : Option Addr) (cdv ct : Value) (us : List Value), us.length = ps.length → bindArgs (PySem.W.fnOf x qual (defArgs st) (defBody st) (defScope st) .none kV doc pm an cdv ct) ⟨us, []⟩ = pure (ps.zip us))
    (hbody : ∀ (cdv : Value) (A : Around) (outer : List Env) (s : Shared) (H : Hp) (vs : List V) (Q : VK) (E : XK), RoomG k (A.deeper (envOfC qual (defScope st) s.heap.objs.size f cdv)) → sp vs H Q E →
      ∃ t, PSs (cxOf (L2.CX P w) P w K mg base N qual (defScope st) f cdv A outer s H E) (defBody st) t ∧ t { nx := fun _ H' => Q .non H', rt := Q } (start N vs) H) : FnG P w K mg base (L2.CX P w) (k + 1) f sp := by
  obtain ⟨fd, F⟩ := F
  obtain ⟨oc, od, dV, kV, doc, pm, an, cdv, ct, osl, rfl, lk, hcd, hD, hK⟩ := F.ex
  have hD' : dV = .none := by
    rcases hD with ⟨_, z⟩ | ⟨z, _⟩
    · exact z
    · exact absurd rfl z
  subst hD'
  intro A outer s H us vs Q E hr e0 r hs
  have hl := len _ _ _ _ hs
  have hu : us.length = ps.length := r.length.symm.trans hl
  refine StX.run_bnd lk hcd S hr.rm e0 (G := fun xs H2 => xs = vs ∧ H2 = H) (fun A' Ex Q' h => ?_) fun s2 H2 xs g hr' => ?_
  · rw [hb kV doc pm an cdv ct us hu]
    exact wpAny_pure (h s H vs us e0 .refl rfl (fun _ _ z => z) r hl ⟨rfl, rfl⟩)
  · obtain ⟨rfl, rfl⟩ := g
    exact hbody cdv A outer s2 H2 xs Q E ⟨hr', hr.gd⟩ hs
/-- a def by its text, its code object told -/
theorem zfnGC {x qual : Str} {st : Stmt} {f : Addr} {N ps : List Str} {k : Nat} {sp : Sp} (F : DefAt K x qual st f) (S : FnScope N ps (defScope st)) (len : ∀ vs H Q E, sp vs H Q E → vs.length = ps.length)
    (hb : ∀ (kV doc pm : Value) (an : Option Addr) (cdv ct : Value) (us : List Value), us.length = ps.length → bindArgs (PySem.W.fnOf x qual (defArgs st) (defBody st) (defScope st) .none kV doc pm an cdv ct) ⟨us, []⟩ = pure (ps.zip us))
    (hbody : ∀ (cdv : Value), cdv = .ref (cdAt K f) → ∀ (A : Around) (outer : List Env) (s : Shared) (H : Hp) (vs : List V) (Q : VK) (E : XK), RoomG k (A.deeper (envOfC qual (defScope st) s.heap.objs.size f cdv)) → sp vs H Q E →
      ∃ t, PSs (cxOf (L2.CX P w) P w K mg base N qual (defScope st) f cdv A outer s H E) (defBody st) t ∧ t { nx := fun _ H' => Q .non H', rt := Q } (L2.start N vs) H) : FnG P w K mg base (L2.CX P w) (k + 1) f sp := by
  obtain ⟨fd, F⟩ := F
  obtain ⟨oc, od, dV, kV, doc, pm, an, cdv, ct, osl, rfl, lk, hcd, hD, hK⟩ := F.ex
  have hD' : dV = .none := by
    rcases hD with ⟨_, z⟩ | ⟨z, _⟩
    · exact z
    · exact absurd rfl z
  subst hD'
  have ecd : cdv = .ref (cdAt K f) := by
    have h := hcd
    unfold PySem.W.codeIn at h
    split at h
    · unfold cdAt
      rw [lk]
    · cases h
  intro A outer s H us vs Q E hr e0 r hs
  have hl := len _ _ _ _ hs
  have hu : us.length = ps.length := r.length.symm.trans hl
  refine StX.run_bnd lk hcd S hr.rm e0 (G := fun xs H2 => xs = vs ∧ H2 = H) (fun A' Ex Q' h => ?_) fun s2 H2 xs g hr' => ?_
  · rw [hb kV doc pm an cdv ct us hu]
    exact wpAny_pure (h s H vs us e0 .refl rfl (fun _ _ z => z) r hl ⟨rfl, rfl⟩)
  · obtain ⟨rfl, rfl⟩ := g
    exact hbody cdv ecd A outer s2 H2 xs Q E ⟨hr', hr.gd⟩ hs
/-- def f(*v) -/
theorem zfnSG {x qual pv : Str} {st : Stmt} {f : Addr} {N : List Str} {k : Nat} {sp : Sp} (F : DefAt K x qual st f) (S : FnScope N [pv] (defScope st))
    (hb : ∀ (kV doc pm : Value) (an : Option Addr) (cdv ct : Value) (rest : List Value), bindArgs (PySem.W.fnOf x qual (defArgs st) (defBody st) (defScope st) .none kV doc pm an cdv ct) ⟨rest, []⟩ = (newTuple rest >>= fun t => pure [(pv, t)]))
    (hbody : ∀ (cdv : Value) (A : Around) (outer : List Env) (s : Shared) (H : Hp) (vs : List V) (Q : VK) (E : XK), RoomG k (A.deeper (envOfC qual (defScope st) s.heap.objs.size f cdv)) → sp vs H Q E →
      ∃ t, PSs (cxOf (L2.CX P w) P w K mg base N qual (defScope st) f cdv A outer s H E) (defBody st) t ∧ t { nx := fun _ H' => Q .non H', rt := Q } (start N vs) H) :
    FnG P w K mg base (L2.CX P w) (k + 1) f (fun vs H Q E => vs.length ≤ sizeLine ∧ ∀ p, H p = none → sp [V.ref p] (upd H p (.tup vs)) Q E) := by
  obtain ⟨fd, F⟩ := F
  obtain ⟨oc, od, dV, kV, doc, pm, an, cdv, ct, osl, rfl, lk, hcd, hD, hK⟩ := F.ex
  have hD' : dV = .none := by
    rcases hD with ⟨_, z⟩ | ⟨z, _⟩
    · exact z
    · exact absurd rfl z
  subst hD'
  intro A outer s H us vs Q E hr e0 r ⟨hz, hs⟩
  have hn : H s.heap.objs.size = none := e0.hok.fresh (Nat.le_refl _)
  have hu : us.length ≤ sizeLine := by rw [← r.length]; exact hz
  refine StX.run_bnd lk hcd S hr.rm e0 (G := fun xs H2 => ∃ p, H p = none ∧ xs = [V.ref p] ∧ H2 = upd H p (.tup vs)) (fun A' Ex Q' h => ?_) fun s2 H2 xs g hr' => ?_
  · rw [hb kV doc pm an cdv ct us]
    refine wpAny_bind (wpAny_newTuple (wpAny_pure ?_) hu)
    have laid : ObjOk P w (upd H s.heap.objs.size (.tup vs)) (s.heap.push ({ cls := .type "tuple", data := .seq us.toArray } : Obj)) s.heap.objs.size (.tup vs) := ⟨hz, us, r, _, Heap.get?_push_size _ rfl, rfl, _, rfl⟩
    have un := StX.un_laid (fs := frs outer) (s := s) (o := ({ cls := .type "tuple", data := .seq us.toArray } : Obj)) (u := HO.tup vs) hn
    refine h _ _ [V.ref s.heap.objs.size] [Value.ref s.heap.objs.size] (StX.env0_laid e0 laid) un rfl (fun e s' => ?_) (.cons rfl .nil) rfl ⟨_, hn, rfl, rfl⟩
    exact StX.cxUp outer s H _ _ E e s' un (fun b o q => Heap.get?_push_of_some _ q) rfl
  · obtain ⟨p, hp, rfl, rfl⟩ := g
    exact hbody cdv A outer s2 _ _ Q E ⟨hr', hr.gd⟩ (hs p hp)
end
theorem run_cmA {X : Cx} {C g q : Addr} {pins : List (Addr × Obj)} {σ : L2.St} {H : Hp} {s : Shared} {CX : CXT} {sp : Sp} {E : XK} {Q : VK} {us : List Value} {vs : List V} (F : FnA X.A X.prog X.w X.K X.mg X.base CX g sp) (hx : Passes CX X E) (I : L2.Inv X ((q, PySem.W.methodObj (.ref g) (.ref C)) :: pins) σ H s)
    (r : Vals vs us) (h : sp (.ref C :: vs) H Q E) : wpAny (model X.prog X.w) X.A (call (.ref q) us) (EP X pins σ Q) X.xe s :=
  thn (wpAny_call (PySem.W.method_call (ClX.pin_at I) (run_fnA (vs := V.ref C :: vs) F hx I (.cons rfl r) h))) fun _ _ y => ClX.unpinE y
section
variable {P : Program} {w : World} {K : Frg} {mg : Str → Option Value} {base : Heap}
/-! ### the end -/
/-- what is tracked where the law begins: the tables ts and the script (if it is not the module's) -/
def atLaw (K : Frg) (ts : List Addr) (a : Addr) (o : Obj) (xs : List V) : Hp := fun b =>
  if b ∈ ts then some (.tbl #[]) else if b = a then (match K.lookup a with | none => some (.frz o (.lst xs)) | some _ => none) else none
theorem atLaw_inv {ts : List Addr} {a b : Addr} {o : Obj} {xs : List V} {u : HO} (h : atLaw K ts a o xs b = some u) : (b ∈ ts ∧ u = .tbl #[]) ∨ (b ∉ ts ∧ b = a ∧ K.lookup a = none ∧ u = .frz o (.lst xs)) := by
  unfold atLaw at h
  split at h
  · rename_i m
    cases h
    exact .inl ⟨m, rfl⟩
  · rename_i m
    split at h
    · rename_i e
      split at h
      · rename_i n
        cases h
        exact .inr ⟨m, e, n, rfl⟩
      · cases h
    · cases h
theorem atLaw_t {ts : List Addr} {a b : Addr} {o : Obj} {xs : List V} (h : b ∈ ts) : atLaw K ts a o xs b = some (.tbl #[]) := if_pos h
theorem law_run {mb : Str → Option Value} {CX : CXT} {k : Nat} {fa a : Addr} {cs : List (Addr × Addr)} {sp : Sp} {s₁ : Shared} {vs : List Value} {ns : List Int}
    (KX : K.In s₁.heap) (hns : s₁.heap.Ns mainGlobals mg) (hb : s₁.heap.Ns builtinsNs mb) (hbb : ∀ x : Str, x ≠ "__name__" → mb x = bootBuiltins x) (hlim : s₁.heap.NoLimit) (hg : s₁.gens = #[])
    (hT : ∀ p ∈ cs, s₁.heap.get? p.2 = some { cls := .none, data := .fields #[] }) (nT : ∀ p ∈ cs, K.lookup p.2 = none) (C : ∀ p ∈ cs, PySem.W.CodeHd s₁.heap p.1 p.2)
    (hbm : ∃ (bm : Addr) (ob : Obj), mg "__builtins__" = some (.ref bm) ∧ bm ≠ builtinsNs ∧ s₁.heap.get? bm = some ob ∧ ob.cls = .type "module" ∧ ob.dict = some builtinsNs ∧ ob.data = .plain)
    (ha : s₁.heap.get? a = some { cls := .type "list", data := .seq vs.toArray }) (hi : IntsAre vs ns) (hl : ns.length ≤ sizeLine) (hr : RoomG k callerA)
    (F : ∀ base : Heap, K.In base → base.Ns mainGlobals mg → (∀ p ∈ cs, LamX.TabB base mg p.1 p.2) → FnG P w K mg base CX k fa sp)
    (hsp : ∀ H : Hp, (∀ p ∈ cs, H p.2 = some (.tbl #[])) → SqL K H a (ns.map V.int) → sp [.ref a] H (fun v _ => v = .bl true) fun _ _ _ => False)
    (hCX : ∀ H e s', CX [] H s₁ (fun _ _ _ => False) e s' → False) :
    codeAny (model P w) callerA (.call (.ref fa) ⟨[.ref a], []⟩) (fun r s' => r = .ok (.ret (.bool true)) ∧ OldK s₁.heap s'.heap ∧ s'.os = s₁.os ∧ AllBare s'.gens) s₁ := by
  have rv := vals_ints hi
  let ts := cs.map (·.2)
  let o1 : Obj := { cls := .type "list", data := .seq vs.toArray }
  let H0 : Hp := atLaw K ts a o1 (ns.map V.int)
  have inT : ∀ p ∈ cs, p.2 ∈ ts := fun p hp => List.mem_map.mpr ⟨p, hp, rfl⟩
  have ofT : ∀ b ∈ ts, ∃ p ∈ cs, p.2 = b := fun b m => List.mem_map.mp m
  have getT : ∀ b ∈ ts, s₁.heap.get? b = some { cls := .none, data := .fields #[] } := fun b m => by
    obtain ⟨p, hp, rfl⟩ := ofT b m
    exact hT p hp
  have aT : a ∉ ts := fun m => by
    have q := (getT a m).symm.trans ha
    cases q
  -- an object that is neither a list nor an empty table is not tracked
  have un0 : ∀ {b : Addr} {o : Obj}, s₁.heap.get? b = some o → (∀ ws n, o.data ≠ .seq ws n) → o.data ≠ .fields #[] → H0 b = none := fun {b o} e n1 n2 => by
    match q : H0 b with
    | none => rfl
    | some u =>
      rcases atLaw_inv q with ⟨m, _⟩ | ⟨_, rfl, _⟩
      · have e' := (getT b m).symm.trans e
        cases e'
        exact absurd rfl n2
      · have e' := ha.symm.trans e
        cases e'
        exact absurd rfl (n1 _ _)
  have see : ∀ {b : Addr} {o : Obj}, s₁.heap.get? b = some o → H0 b = none → (hidT s₁.heap H0).get? b = some o := fun e n => hidT_get e n
  have seeN : ∀ {b : Addr} {m : Str → Option Value}, s₁.heap.Ns b m → (hidT s₁.heap H0).Ns b m := fun {b m} ⟨o, es, ep, e, hd, r⟩ => by
    refine ⟨o, es, ep, see e (un0 e (fun ws n z => ?_) fun z => ?_), hd, r⟩
    · exact nomatch hd.symm.trans z
    · exact nomatch hd.symm.trans z
  have KB : K.In (hidT s₁.heap H0) := fun b o e => by
    refine see (KX b o e) ?_
    match q : H0 b with
    | none => rfl
    | some u =>
      rcases atLaw_inv q with ⟨m, _⟩ | ⟨_, rfl, z, _⟩
      · obtain ⟨p, hp, rfl⟩ := ofT b m
        exact nomatch (nT p hp).symm.trans e
      · exact nomatch z.symm.trans e
  have M0 : L2.Mod K mg (hidT s₁.heap H0) := by
    obtain ⟨mc, l1, l2⟩ := hlim
    exact ⟨KB, seeN hns, ⟨mb, seeN hb, hbb⟩, mc, seeN l1, l2⟩
  have tabs : ∀ p ∈ cs, LamX.TabB (hidT s₁.heap H0) mg p.1 p.2 := fun p hp => by
    refine ⟨?_, ?_, fun z => ?_⟩
    · obtain ⟨o, us, file, tf, flags, tg, inF, text, tt, e1, r1, r2, r3, rr⟩ := C p hp
      refine ⟨o, us, file, tf, flags, tg, inF, text, tt, see e1 (un0 e1 (fun ws n z => nomatch r2.symm.trans z) fun z => ?_), r1, r2, r3, rr⟩
      have q := r2.symm.trans z
      cases q
      simp at r3
    · obtain ⟨bm, ob, b1, b2, b3, b4, b5, b6⟩ := hbm
      refine ⟨bm, ob, b1, b2, fun q => ?_, fun q => ?_, see b3 (un0 b3 (fun ws n z => nomatch b6.symm.trans z) fun z => nomatch b6.symm.trans z), b4, b5, b6⟩
      · obtain ⟨o, es, ep, e, hd, _⟩ := hns
        subst q
        have q := b3.symm.trans e
        cases q
        exact nomatch b6.symm.trans hd
      · subst q
        have q := b3.symm.trans (hT p hp)
        cases q
        cases b6
    · obtain ⟨o, es, ep, e, hd, _⟩ := hns
      rw [z] at e
      have q := (hT p hp).symm.trans e
      cases q
      cases hd
  have ok0 : HOk P w H0 s₁.heap := fun b u q => by
    rcases atLaw_inv q with ⟨m, rfl⟩ | ⟨_, rfl, _, rfl⟩
    · exact getT b m
    · exact ⟨ha, by rw [List.length_map]; exact hl, vs, _, rv, ha⟩
  have sq : SqL K H0 a (ns.map V.int) := by
    match hk : K.lookup a with
    | none =>
      refine .inl (.inr ⟨o1, ?_⟩)
      show atLaw K ts a o1 (ns.map V.int) a = _
      unfold atLaw
      rw [if_neg aT, if_pos rfl, hk]
    | some o =>
      have e := (KX a o hk).symm.trans ha
      cases e
      exact .inr ⟨_, vs.toArray, _, hk, rfl, rfl, rfl, by rw [List.size_toArray, hi.length]; exact hl, by simpa using rv⟩
  have e0 : Env0 P w K mg (hidT s₁.heap H0) callerA [] s₁ H0 :=
    { frames := rfl, mod := M0, bs := fun b o e => of_hidT e, bsz := Nat.le_of_eq (hidT_size _ _), funs := trivial, frf := fun b m => (List.not_mem_nil m).elim, hok := ok0, bare := .of_eq hg }
  refine codeAny_mono (F _ KB (seeN hns) tabs callerA [] s₁ H0 [.ref a] [.ref a] _ _ hr e0 (.cons rfl .nil) (hsp H0 (fun p hp => atLaw_t (inT p hp)) sq)) fun r s' h => ?_
  match r, h with
  | .error e, h => exact (hCX H0 e s' h).elim
  | .ok .next, h => exact False.elim h
  | .ok .brk, h => exact False.elim h
  | .ok .cont, h => exact False.elim h
  | .ok (.ret u), ⟨v, H2, os, bare, un, ok2, rr, q⟩ =>
    have ev : v = .bl true := q
    subst ev
    have eu : u = Value.bool true := rr
    subst eu
    have rest : ∀ b o, b ∉ ts → s₁.heap.get? b = some o → s'.heap.get? b = some o := fun b o nb e => by
      match z : H0 b with
      | none => exact un.keep b o e z (fun m => (List.not_mem_nil m).elim) (fun m => (List.not_mem_nil m).elim)
      | some u =>
        rcases atLaw_inv z with ⟨m, _⟩ | ⟨_, _, _, rfl⟩
        · exact absurd m nb
        · have e1 := (ok0 b _ z).1
          have e2 := (ok2 b _ (un.frzs b _ _ z)).1
          exact e2.trans (e1.symm.trans e)
    have grew : ∀ b ∈ ts, ∃ more : Array Value, s'.heap.get? b = some { cls := .none, data := .fields more } := fun b m => by
      obtain ⟨more, z⟩ := un.tbls b #[] (atLaw_t m)
      exact ⟨_, ok2 b _ z⟩
    refine ⟨rfl, ⟨fun b o e => ?_, fun b o e => ?_⟩, os, bare⟩
    · by_cases m : b ∈ ts
      · obtain ⟨p, hp, rfl⟩ := ofT b m
        obtain ⟨more, hm⟩ := grew _ m
        have q := (hT p hp).symm.trans e
        cases q
        exact .inr (.inl ⟨((C p hp).tab (hT p hp)).isCodeTable, rfl, #[], more, rfl, by rw [Array.empty_append]; exact hm⟩)
      · exact .inl (rest b o m e)
    · by_cases m : b ∈ ts
      · obtain ⟨more, hm⟩ := grew b m
        exact ⟨_, hm⟩
      · exact ⟨o, rest b o m e⟩
end
/-- what a law's def keeps -/
def LawG (l : PySem.W.OpenLaw) (w : World) (K : Frg) (CX : CXT) (k n : Nat) (mg : Str → Option Value) (fa : Addr) (h : Heap) : Prop :=
  ∃ (cs : List (Addr × Addr)) (sp : Sp), (∀ p ∈ cs, h.get? p.2 = some { cls := .none, data := .fields #[] }) ∧ (∀ p ∈ cs, K.lookup p.2 = none) ∧ (∀ p ∈ cs, PySem.W.CodeHd h p.1 p.2) ∧
    (∀ (H : Hp) (a : Addr) (ns : List Int), ns.length ≤ n → (∀ p ∈ cs, H p.2 = some (.tbl #[])) → SqL K H a (ns.map V.int) → sp [.ref a] H (fun v _ => v = .bl true) fun _ _ _ => False) ∧
    ∀ base : Heap, K.In base → base.Ns mainGlobals mg → (∀ p ∈ cs, LamX.TabB base mg p.1 p.2) → FnG l.prog w K mg base CX k fa sp
theorem walk_G {l : PySem.W.OpenLaw} {n k : Nat} {q : Program} {loose : List Str} {XP : (Str → Option Value) → Heap → Prop} {YP : World → Heap → Prop} {d : DefRec} {CX : World → CXT}
    (hn : l.most = some n) (hn2 : n ≤ sizeLine) (hdf : d.params.defaults = []) (hr : Room k callerA)
    (F : ∀ (w : World) (mg : Str → Option Value) (fa : Addr) (h : Heap), YP w h → h.Ns mainGlobals mg → mg d.name = some (.ref fa) → ∃ K : Frg, K.In h ∧ LawG l w K (CX w) k n mg fa h)
    (hCX : ∀ (w : World) (H : Hp) (s : Shared) (e : Value) (s' : Shared), CX w [] H s (fun _ _ _ => False) e s' → False) :
    PySem.W.WalkO q loose XP YP l.row.toRowW d [] (fun f vs => PySem.call f vs) :=
  Att.attach_callB hn hdf fun w s₀ s₁ mg mb fa o pm cd doc a vs ns G Y ho hd hcd hmg hobj hints hlen hbits hg => by
    obtain ⟨K, KX, cs, sp, t1, t2, t3, t4, t5⟩ := F w mg fa _ Y G.T.g hmg
    exact law_run KX G.T.g G.T.b G.T.builtins G.T.nolimit hg t1 t2 t3 G.T.bmain hobj hints (Nat.le_trans hlen hn2) ⟨hr, rfl⟩ t5 (fun H h1 h2 => t4 H a ns hlen h1 h2) fun H e s' => hCX w H s₁ e s'
end Z
namespace Z
open PySem PySem.Spec PyProof.Rows L2 HandSHeadRun PySem.W PySem.Calls
/-- what is asked in a run of its own -/
def RunP (r : OpenRow) (n : Nat) (a : Ask) (M : Nat) (w : World) : Prop := ∀ os : OsState, (endF (stepQ (denQ tabQ) r.prog w) M r.prog w os).map (fun s => obsG n a (getT s)) = some (valZ a w)
theorem obs_add {n : Nat} {w : World} {fs1 fs2 : List (Frg → Bool)} {fn1 fn2 : List He5.DefA} {ts : List He.Tab} {tf : List (Frg → Addr)} {g : Addr → Option Obj} (h1 : obsG n ⟨fs1, fn1, ts, tf⟩ g = valZ ⟨fs1, fn1, ts, tf⟩ w) (h2 : obsG n ⟨fs2, fn2, [], []⟩ g = valZ ⟨fs2, fn2, [], []⟩ w) :
    obsG n ⟨fs1 ++ fs2, fn1 ++ fn2, ts, tf⟩ g = valZ ⟨fs1 ++ fs2, fn1 ++ fn2, ts, tf⟩ w := by
  unfold obsG obsZ valZ at *
  simp only [Prod.mk.injEq] at h1 h2 ⊢
  obtain ⟨⟨a1, a2⟩, a3⟩ := h1
  obtain ⟨⟨b1, b2⟩, b3⟩ := h2
  rw [Bool.and_eq_true] at a1 b1
  refine ⟨⟨?_, ?_⟩, a3⟩
  · rw [List.all_append, List.all_append, a1.1, a1.2, b1.1, b1.2]; rfl
  · rw [List.map_append, List.map_append, a2, b2]
theorem run_add {r : OpenRow} {q : Program} {n M : Nat} {loose : List PySem.Str} {w : World} {fs1 fs2 : List (Frg → Bool)} {fn1 fn2 : List He5.DefA} {ts : List He.Tab} {tf : List (Frg → Addr)}
    (h1 : RunEq r q (hookZ n ⟨fs1, fn1, ts, tf⟩) (fun s => obsG n ⟨fs1, fn1, ts, tf⟩ (getT s)) M loose w) (h2 : RunP r n ⟨fs2, fn2, [], []⟩ M w) :
    RunEq r q (hookZ n ⟨fs1 ++ fs2, fn1 ++ fn2, ts, tf⟩) (fun s => obsG n ⟨fs1 ++ fs2, fn1 ++ fn2, ts, tf⟩ (getT s)) M loose w := fun os => by
  have e1 := h1 os
  have e2 := h2 os
  cases z : endF (stepQ (denQ tabQ) r.prog w) M r.prog w os with
  | none => rw [z] at e1; cases e1
  | some s =>
    rw [z] at e1 e2
    have e1 := Option.some.inj e1
    have e2 := Option.some.inj e2
    have f1 := congrArg Prod.fst e1
    have f2 := congrArg (fun p => p.2.1) e1
    have f3 := congrArg (fun p => p.2.2) e1
    exact congrArg some (Prod.ext f1 (Prod.ext f2 (obs_add f3 e2)))
end Z
namespace Y
open PySem PySem.Spec PyProof.Rows L2 Z
/-! ### plain data, and the values that bear it in a frozen heap -/
inductive D where
  | non | bl (b : Bool) | int (i : Int) | str (s : Str) | lst (ds : List D) | tup (ds : List D) | obj (c : Str) (ns : List Str) (ds : List D) | ty (n : String) | glob (x : Str) | tape | fn (a : Addr) | dic (ks : List Key) (ds : List D)
/-! ### the tables of the code objects of defs that make lambdas -/
def lamNames : List Str := ["law", "overlay", "enlarged", "sampled", "layered", "masked", "uncovered", "_law_net_right", "_law_triples_right", "_law_shifts_right", "_law_rows_right", "_law_fixed_right", "_law_refusals_right", "_law_errors_right", "_law_far_right", "_law_round_right", "_law_apart", "_law_stepped", "_law_acted"]
def isFnB : Option Obj → Bool
  | some ⟨_, _, .func _, _⟩ => true
  | _ => false
def tabN (K : Frg) (x : Str) : Addr := He.tabOf K (cdAt K (He.ga K x))
def lamQ (x : Str) : Str := (x ++ ".<locals>.") ++ "<lambda>"
def tabsOf (K : Frg) : List (Addr × Str) := (lamNames.filter fun x => isFnB (K.lookup (He.ga K x))).map fun x => (tabN K x, lamQ x)
def tabA (K : Frg) : List Addr := (tabsOf K).map (·.1)
mutual
inductive Rp (K : Frg) (ms : List Addr) (F : Hp) : V → D → Prop
  | non : Rp K ms F .non .non
  | bl (b : Bool) : Rp K ms F (.bl b) (.bl b)
  | int (i : Int) : Rp K ms F (.int i) (.int i)
  | str (s : Str) : Rp K ms F (.str s) (.str s)
  | ty (n : String) : Rp K ms F (.ty n) (.ty n)
  | glob (x : Str) : Rp K ms F (.ref (He.ga K x)) (.glob x)
  | tape {t : Addr} : t ∈ ms → t ∉ tabA K → Rp K ms F (.ref t) .tape
  | fn (a : Addr) : Rp K ms F (.ref a) (.fn a)
  | lst {a : Addr} {vs : List V} {ds : List D} : F a = some (.lst vs) → Rps K ms F vs ds → Rp K ms F (.ref a) (.lst ds)
  | tup {a : Addr} {vs : List V} {ds : List D} : SqT K F a vs → Rps K ms F vs ds → Rp K ms F (.ref a) (.tup ds)
  | obj {a dx : Addr} {c : Str} {ns : List Str} {vs : List V} {ds : List D} : F a = some (.ins (He.ga K c) dx (ns.zip vs)) → ns.length = vs.length → Rps K ms F vs ds → Rp K ms F (.ref a) (.obj c ns ds)
  | dic {a : Addr} {ks : List Key} {vs : List V} {ds : List D} : F a = some (.dK (ks.zip vs)) → ks.length = vs.length → Rps K ms F vs ds → Rp K ms F (.ref a) (.dic ks ds)
inductive Rps (K : Frg) (ms : List Addr) (F : Hp) : List V → List D → Prop
  | nil : Rps K ms F [] []
  | cons {v : V} {d : D} {vs : List V} {ds : List D} : Rp K ms F v d → Rps K ms F vs ds → Rps K ms F (v :: vs) (d :: ds)
end
section
variable {K : Frg} {ms : List Addr} {F F' H : Hp}
mutual
theorem Rp.mono (s : Same F F') : ∀ (d : D) (v : V), Rp K ms F v d → Rp K ms F' v d
  | .non, _, h => by cases h; exact .non
  | .bl b, _, h => by cases h; exact .bl b
  | .int i, _, h => by cases h; exact .int i
  | .str x, _, h => by cases h; exact .str x
  | .ty x, _, h => by cases h; exact .ty x
  | .glob x, _, h => by cases h; exact .glob x
  | .tape, _, h => by cases h with | tape m n => exact .tape m n
  | .fn a, _, h => by cases h; exact .fn a
  | .lst ds, _, h => by cases h with | lst h1 h2 => exact .lst (s _ _ h1) (Rps.mono s ds _ h2)
  | .tup ds, _, h => by cases h with | tup h1 h2 => exact .tup (sqT s h1) (Rps.mono s ds _ h2)
  | .obj c ns ds, _, h => by cases h with | obj h1 h2 h3 => exact .obj (s _ _ h1) h2 (Rps.mono s ds _ h3)
  | .dic ks ds, _, h => by cases h with | dic h1 h2 h3 => exact .dic (s _ _ h1) h2 (Rps.mono s ds _ h3)
theorem Rps.mono (s : Same F F') : ∀ (ds : List D) (vs : List V), Rps K ms F vs ds → Rps K ms F' vs ds
  | [], _, h => by cases h; exact .nil
  | d :: ds, _, h => by cases h with | cons h1 h2 => exact .cons (Rp.mono s d _ h1) (Rps.mono s ds _ h2)
end
theorem Rp.up {v : V} {d : D} (h : Rp K ms F v d) (s : Same F F') : Rp K ms F' v d := Rp.mono s d v h
theorem Rps.up {v : List V} {d : List D} (h : Rps K ms F v d) (s : Same F F') : Rps K ms F' v d := Rps.mono s d v h
theorem Rps.len : ∀ {vs : List V} {ds : List D}, Rps K ms F vs ds → vs.length = ds.length
  | [], [], _ => rfl
  | _ :: _, _ :: _, h => by
    cases h with
    | cons _ h => simp only [List.length_cons]; rw [Rps.len h]
  | [], _ :: _, h => by cases h
  | _ :: _, [], h => by cases h
theorem Rps.app : ∀ {vs ws : List V} {ds es : List D}, Rps K ms F vs ds → Rps K ms F ws es → Rps K ms F (vs ++ ws) (ds ++ es)
  | [], _, [], _, _, h => h
  | _ :: _, _, _ :: _, _, h, h' => by
    cases h with
    | cons h1 h2 => exact .cons h1 (Rps.app h2 h')
  | [], _, _ :: _, _, h, _ => by cases h
  | _ :: _, _, [], _, h, _ => by cases h
theorem Rps.get : ∀ {vs : List V} {ds : List D} {i : Nat} {d : D}, Rps K ms F vs ds → ds[i]? = some d → ∃ v, vs[i]? = some v ∧ Rp K ms F v d
  | [], [], _, _, _, e => by simp at e
  | v :: _, _ :: _, 0, _, h, e => by
    cases h with
    | cons h1 _ => simp at e; subst e; exact ⟨v, rfl, h1⟩
  | _ :: vs, _ :: ds, i + 1, d, h, e => by
    cases h with
    | cons _ h2 =>
      obtain ⟨v, h3, h4⟩ := Rps.get (i := i) h2 (by simpa using e)
      exact ⟨v, by simpa using h3, h4⟩
  | [], _ :: _, _, _, h, _ => by cases h
  | _ :: _, [], _, _, h, _ => by cases h
theorem Rps.getV : ∀ {vs : List V} {ds : List D} {i : Nat} {v : V}, Rps K ms F vs ds → vs[i]? = some v → ∃ d, ds[i]? = some d ∧ Rp K ms F v d := fun {vs ds i v} h e => by
  have hi : i < vs.length := by
    rcases Nat.lt_or_ge i vs.length with z | z
    · exact z
    · rw [List.getElem?_eq_none z] at e; cases e
  have hd : i < ds.length := by rw [← h.len]; exact hi
  obtain ⟨w, h1, h2⟩ := h.get (i := i) (d := ds[i]) (List.getElem?_eq_getElem hd)
  rw [e] at h1
  cases h1
  exact ⟨_, List.getElem?_eq_getElem hd, h2⟩
theorem Rps.take : ∀ {vs : List V} {ds : List D} (n : Nat), Rps K ms F vs ds → Rps K ms F (vs.take n) (ds.take n)
  | _, _, 0, _ => .nil
  | [], [], _ + 1, _ => .nil
  | _ :: _, _ :: _, n + 1, h => by
    cases h with
    | cons h1 h2 => exact .cons h1 (Rps.take n h2)
  | [], _ :: _, _ + 1, h => by cases h
  | _ :: _, [], _ + 1, h => by cases h
theorem Rps.drop : ∀ {vs : List V} {ds : List D} (n : Nat), Rps K ms F vs ds → Rps K ms F (vs.drop n) (ds.drop n)
  | _, _, 0, h => h
  | [], [], _ + 1, _ => .nil
  | _ :: _, _ :: _, n + 1, h => by
    cases h with
    | cons h1 h2 => exact Rps.drop n h2
  | [], _ :: _, _ + 1, h => by cases h
  | _ :: _, [], _ + 1, h => by cases h
theorem Rps.rep {v : V} {d : D} (h : Rp K ms F v d) : ∀ n : Nat, Rps K ms F (List.replicate n v) (List.replicate n d)
  | 0 => .nil
  | n + 1 => .cons h (Rps.rep h n)
theorem Rps.flat {vs : List V} {ds : List D} (h : Rps K ms F vs ds) : ∀ n : Nat, Rps K ms F (List.replicate n vs).flatten (List.replicate n ds).flatten
  | 0 => .nil
  | n + 1 => by
    rw [List.replicate_succ, List.replicate_succ, List.flatten_cons, List.flatten_cons]
    exact h.app (Rps.flat h n)
theorem Rps.one {v : V} {d : D} (h : Rp K ms F v d) : Rps K ms F [v] [d] := .cons h .nil
theorem Rps.two {v w : V} {d e : D} (h : Rp K ms F v d) (h' : Rp K ms F w e) : Rps K ms F [v, w] [d, e] := .cons h (.cons h' .nil)
theorem Rps.ints : ∀ {vs : List V} {is : List Int}, Rps K ms F vs (is.map D.int) → vs = is.map V.int
  | [], [], _ => rfl
  | _ :: _, _ :: _, h => by
    cases h with
    | cons h1 h2 => cases h1; rw [Rps.ints h2]; rfl
  | [], _ :: _, h => by cases h
  | _ :: _, [], h => by cases h
theorem Rps.bls : ∀ {vs : List V} {is : List Bool}, Rps K ms F vs (is.map D.bl) → vs = is.map V.bl
  | [], [], _ => rfl
  | _ :: _, _ :: _, h => by
    cases h with
    | cons h1 h2 => cases h1; rw [Rps.bls h2]; rfl
  | [], _ :: _, h => by cases h
  | _ :: _, [], h => by cases h
theorem Rps.strs : ∀ {vs : List V} {is : List Str}, Rps K ms F vs (is.map D.str) → vs = is.map V.str
  | [], [], _ => rfl
  | _ :: _, _ :: _, h => by
    cases h with
    | cons h1 h2 => cases h1; rw [Rps.strs h2]; rfl
  | [], _ :: _, h => by cases h
  | _ :: _, [], h => by cases h
end
/-! ### as data of the library -/
mutual
def pd : D → Option PyData
  | .non => some .none
  | .bl b => some (.bool b)
  | .int i => some (.int i)
  | .str s => some (.str s)
  | .lst ds => (pds ds).map PyData.list
  | .tup ds => (pds ds).map PyData.tuple
  | .obj _ _ _ => none
  | .ty _ => none
  | .glob _ => none
  | .tape => none
  | .fn _ => none
  | .dic _ _ => none
def pds : List D → Option (List PyData)
  | [] => some []
  | d :: ds => match pd d, pds ds with
    | some a, some b => some (a :: b)
    | _, _ => none
end
mutual
/-- == of plain data -/
def eqD : D → D → Bool
  | .non, .non => true
  | .bl a, .bl b => a == b
  | .bl a, .int j => (if a then 1 else 0) == j
  | .int i, .bl b => i == (if b then 1 else 0)
  | .int i, .int j => i == j
  | .str x, .str y => x == y
  | .lst xs, .lst ys => eqDs xs ys
  | .tup xs, .tup ys => eqDs xs ys
  | _, _ => false
def eqDs : List D → List D → Bool
  | [], [] => true
  | x :: xs, y :: ys => eqD x y && eqDs xs ys
  | _, _ => false
end
/-- data of at most so many layers, with texts of real signs -/
def okD : Nat → D → Bool
  | _, .non | _, .bl _ | _, .int _ => true
  | _, .str s => PyData.strOk s
  | n + 1, .lst ds => ds.all (okD n)
  | n + 1, .tup ds => ds.all (okD n)
  | _, _ => false
theorem okD_pd : ∀ (n : Nat) (d : D), okD n d = true → ∃ e, pd d = some e ∧ e.canLay0 = true ∧ e.depth ≤ n := by
  have key : ∀ (n : Nat) (P : D → Prop), (∀ d, okD n d = true → ∃ e, pd d = some e ∧ e.canLay0 = true ∧ e.depth ≤ n) → ∀ ds : List D, ds.all (okD n) = true → ∃ es, pds ds = some es ∧ PyData.canLayAll0 es = true ∧ PyData.depthAll es ≤ n := by
    intro n P ih ds
    induction ds with
    | nil => intro _; exact ⟨[], rfl, rfl, Nat.zero_le _⟩
    | cons d ds ih2 =>
      intro h
      rw [List.all_cons, Bool.and_eq_true] at h
      obtain ⟨e, h1, h2, h3⟩ := ih d h.1
      obtain ⟨es, h4, h5, h6⟩ := ih2 h.2
      refine ⟨e :: es, by simp [pds, h1, h4], by simp [PyData.canLayAll0, h2, h5], ?_⟩
      simp only [PyData.depthAll]
      omega
  intro n
  induction n with
  | zero =>
    intro d h
    cases d with
    | non => exact ⟨_, rfl, rfl, Nat.le_refl _⟩
    | bl b => exact ⟨_, rfl, rfl, Nat.le_refl _⟩
    | int i => exact ⟨_, rfl, rfl, Nat.le_refl _⟩
    | str s => exact ⟨_, rfl, by simpa [okD, PyData.canLay0] using h, Nat.le_refl _⟩
    | _ => simp [okD] at h
  | succ n ih =>
    intro d h
    cases d with
    | non => exact ⟨_, rfl, rfl, by simp [PyData.depth]⟩
    | bl b => exact ⟨_, rfl, rfl, by simp [PyData.depth]⟩
    | int i => exact ⟨_, rfl, rfl, by simp [PyData.depth]⟩
    | str s => exact ⟨_, rfl, by simpa [okD, PyData.canLay0] using h, by simp [PyData.depth]⟩
    | lst ds =>
      simp only [okD] at h
      obtain ⟨es, h1, h2, h3⟩ := key n (fun _ => True) ih ds h
      exact ⟨.list es, by simp [pd, h1], by simpa [PyData.canLay0] using h2, by simp only [PyData.depth]; omega⟩
    | tup ds =>
      simp only [okD] at h
      obtain ⟨es, h1, h2, h3⟩ := key n (fun _ => True) ih ds h
      exact ⟨.tuple es, by simp [pd, h1], by simpa [PyData.canLay0] using h2, by simp only [PyData.depth]; omega⟩
    | _ => simp [okD] at h
theorem pds_cons {x : D} {xs : List D} {as : List PyData} (h : pds (x :: xs) = some as) : ∃ a r, pd x = some a ∧ pds xs = some r ∧ as = a :: r := by
  unfold pds at h
  split at h
  · rename_i a r h1 h2
    cases h
    exact ⟨a, r, h1, h2, rfl⟩
  · cases h
mutual
theorem eqD_pd : ∀ (x y : D) (a b : PyData), pd x = some a → pd y = some b → eqD x y = PyData.eqv a b
  | .non, y, a, b, h1, h2 => by
    cases h1
    cases y <;> simp [pd] at h2 <;> first | (subst h2; simp [eqD, PyData.eqv]) | (obtain ⟨_, _, rfl⟩ := h2; simp [eqD, PyData.eqv])
  | .bl c, y, a, b, h1, h2 => by
    cases h1
    cases y <;> simp [pd] at h2 <;> first | (subst h2; simp [eqD, PyData.eqv]) | (obtain ⟨_, _, rfl⟩ := h2; simp [eqD, PyData.eqv])
  | .int c, y, a, b, h1, h2 => by
    cases h1
    cases y <;> simp [pd] at h2 <;> first | (subst h2; simp [eqD, PyData.eqv]) | (obtain ⟨_, _, rfl⟩ := h2; simp [eqD, PyData.eqv])
  | .str c, y, a, b, h1, h2 => by
    cases h1
    cases y <;> simp [pd] at h2 <;> first | (subst h2; simp [eqD, PyData.eqv]) | (obtain ⟨_, _, rfl⟩ := h2; simp [eqD, PyData.eqv])
  | .lst xs, y, a, b, h1, h2 => by
    simp [pd] at h1
    obtain ⟨as, h1, rfl⟩ := h1
    cases y with
    | lst ys =>
      simp [pd] at h2
      obtain ⟨bs, h2, rfl⟩ := h2
      simp only [eqD, PyData.eqv]
      exact eqDs_pd xs ys as bs h1 h2
    | _ => simp [pd] at h2 <;> first | (subst h2; simp [eqD, PyData.eqv]) | (obtain ⟨_, _, rfl⟩ := h2; simp [eqD, PyData.eqv])
  | .tup xs, y, a, b, h1, h2 => by
    simp [pd] at h1
    obtain ⟨as, h1, rfl⟩ := h1
    cases y with
    | tup ys =>
      simp [pd] at h2
      obtain ⟨bs, h2, rfl⟩ := h2
      simp only [eqD, PyData.eqv]
      exact eqDs_pd xs ys as bs h1 h2
    | _ => simp [pd] at h2 <;> first | (subst h2; simp [eqD, PyData.eqv]) | (obtain ⟨_, _, rfl⟩ := h2; simp [eqD, PyData.eqv])
  | .obj _ _ _, _, _, _, h1, _ => by simp [pd] at h1
  | .ty _, _, _, _, h1, _ => by simp [pd] at h1
  | .glob _, _, _, _, h1, _ => by simp [pd] at h1
  | .tape, _, _, _, h1, _ => by simp [pd] at h1
  | .fn _, _, _, _, h1, _ => by simp [pd] at h1
  | .dic _ _, _, _, _, h1, _ => by simp [pd] at h1
theorem eqDs_pd : ∀ (xs ys : List D) (as bs : List PyData), pds xs = some as → pds ys = some bs → eqDs xs ys = PyData.eqvAll as bs
  | [], [], _, _, h1, h2 => by cases h1; cases h2; simp [eqDs, PyData.eqvAll]
  | [], _ :: _, _, _, h1, h2 => by
    cases h1
    obtain ⟨_, _, _, _, rfl⟩ := pds_cons h2
    simp [eqDs, PyData.eqvAll]
  | _ :: _, [], _, _, h1, h2 => by
    cases h2
    obtain ⟨_, _, _, _, rfl⟩ := pds_cons h1
    simp [eqDs, PyData.eqvAll]
  | x :: xs, y :: ys, _, _, h1, h2 => by
    obtain ⟨a, r, p1, p2, rfl⟩ := pds_cons h1
    obtain ⟨b, t, q1, q2, rfl⟩ := pds_cons h2
    simp only [eqDs, PyData.eqvAll]
    rw [eqD_pd x y a b p1 q1, eqDs_pd xs ys r t p2 q2]
end
section
variable {K : Frg} {ms : List Addr} {F : Hp}
mutual
theorem dp_of : ∀ (d : D) (v : V) (e : PyData), pd d = some e → Rp K ms F v d → Dp K F v e
  | .non, _, _, h, r => by cases h; cases r; exact .non
  | .bl b, _, _, h, r => by cases h; cases r; exact .bl b
  | .int i, _, _, h, r => by cases h; cases r; exact .int i
  | .str x, _, _, h, r => by cases h; cases r; exact .str x
  | .lst ds, _, _, h, r => by
    simp [pd] at h
    obtain ⟨es, h, rfl⟩ := h
    cases r with
    | lst h1 h2 => exact .lst (SqL.of h1) (dps_of ds _ es h h2)
  | .tup ds, _, _, h, r => by
    simp [pd] at h
    obtain ⟨es, h, rfl⟩ := h
    cases r with
    | tup h1 h2 => exact .tup h1 (dps_of ds _ es h h2)
  | .obj _ _ _, _, _, h, _ => by simp [pd] at h
  | .ty _, _, _, h, _ => by simp [pd] at h
  | .glob _, _, _, h, _ => by simp [pd] at h
  | .tape, _, _, h, _ => by simp [pd] at h
  | .fn _, _, _, h, _ => by simp [pd] at h
  | .dic _ _, _, _, h, _ => by simp [pd] at h
theorem dps_of : ∀ (ds : List D) (vs : List V) (es : List PyData), pds ds = some es → Rps K ms F vs ds → DpAll K F vs es
  | [], _, _, h, r => by cases h; cases r; exact .nil
  | d :: ds, _, _, h, r => by
    obtain ⟨a, t, h1, h2, rfl⟩ := pds_cons h
    cases r with
    | cons r1 r2 => exact .cons (dp_of d _ a h1 r1) (dps_of ds _ t h2 r2)
end
end
end Y
namespace Y
open PySem PySem.Spec PyProof.Rows L2 Z
/-- an error: its class (.glob or .ty), the names of its fields, their values -/
structure Ex where
  c : D
  ns : List Str
  ds : List D
def clsV (K : Frg) : D → Option Value
  | .glob x => some (.ref (He.ga K x))
  | .ty n => some (.type n)
  | _ => none
def XR (K : Frg) (ms : List Addr) (F : Hp) (cls : Value) (d : Option Addr) (x : Ex) : Prop :=
  clsV K x.c = some cls ∧ (x.ns ≠ [] → ∃ a vs, d = some a ∧ F a = some (.xd (x.ns.zip vs)) ∧ x.ns.length = vs.length ∧ Rps K ms F vs x.ds)
/-- a thing that only one slot holds: a list that grows, an instance that is being made -/
inductive Mo where
  | lst (ds : List D) | ins (x : Addr) (c : Str) (ns : List Str) (ds : List D) | dct (kvs : List (List Int × D)) | exc (x : Ex)
/-- a slot: not known, a plain value, a thing that only this slot holds -/
inductive Sl where
  | no | val (d : D) | mu (m : Mo)
/-- dicts whose keys are tuples of ints -/
def tupI (k : List Int) : Int := reduceHash (Builtin.Tuple.tupleHashOf (k.map hashInt))
def entI (x : List Int × Addr × Value) : DictEntry := ⟨tupI x.1, .ref x.2.1, x.2.2⟩
def dxO (a : Addr) (es : Array DictEntry) (ep : Nat) : HO := .ext fun h => ∃ o, h.get? a = some o ∧ o.ExactDict ∧ o.data = .dict es ep
inductive DRl (K : Frg) (ms : List Addr) (F : Hp) : List (List Int × D) → List (List Int × Addr × Value) → Prop
  | nil : DRl K ms F [] []
  | cons {k : List Int} {b : Addr} {u : Value} {v : V} {d : D} {kvs : List (List Int × D)} {xs : List (List Int × Addr × Value)} : SqT K F b (k.map V.int) → RelV v u → Rp K ms F v d → DRl K ms F kvs xs → DRl K ms F ((k, d) :: kvs) ((k, b, u) :: xs)
theorem DRl.up {K : Frg} {ms : List Addr} {F F' : Hp} {kvs : List (List Int × D)} {xs : List (List Int × Addr × Value)} (h : DRl K ms F kvs xs) (s : Same F F') : DRl K ms F' kvs xs := by
  induction h with
  | nil => exact .nil
  | cons h1 h2 h3 _ ih => exact .cons (sqT s h1) h2 (h3.up s) ih
theorem XR.up {K : Frg} {ms : List Addr} {F F' : Hp} {cls : Value} {d : Option Addr} {x : Ex} (h : XR K ms F cls d x) (s : Same F F') : XR K ms F' cls d x :=
  ⟨h.1, fun n => let ⟨a, vs, h1, h2, h3, h4⟩ := h.2 n; ⟨a, vs, h1, s _ _ h2, h3, h4.up s⟩⟩
/-- a caught error at a -/
def XO (cls : Value) (d : Option Addr) (a : Addr) : HO := .ext fun h => ∃ (oe : Obj) (vs : Array Value), h.get? a = some oe ∧ Zc cls d oe ∧ oe.data = .fields vs
def MoR (K : Frg) (ms : List Addr) (F : Hp) (a : Addr) : Mo → HO → Prop
  | .exc x, o => ∃ cls d, o = XO cls d a ∧ XR K ms F cls d x
  | .dct kvs, o => ∃ es ep xs, o = dxO a es ep ∧ (a == sysModules) = false ∧ kvs.length ≤ 100000 ∧ DRl K ms F kvs xs ∧ es.toList = xs.map entI ∧ (xs.map (·.1)).Nodup
  | .lst ds, o => ∃ vs, o = .lst vs ∧ Rps K ms F vs ds
  | .ins x c ns ds, o => x = a ∧ ∃ dx vs, o = .ins (He.ga K c) dx (ns.zip vs) ∧ ns.length = vs.length ∧ Rps K ms F vs ds
theorem MoR.up {K : Frg} {ms : List Addr} {F F' : Hp} {a : Addr} {m : Mo} {o : HO} (h : MoR K ms F a m o) (s : Same F F') : MoR K ms F' a m o := by
  cases m with
  | exc x => obtain ⟨c, d, e, r⟩ := h; exact ⟨c, d, e, r.up s⟩
  | dct kvs => obtain ⟨es, ep, xs, e, e1, e2, r, e3⟩ := h; exact ⟨es, ep, xs, e, e1, e2, r.up s, e3⟩
  | lst ds => obtain ⟨vs, e, r⟩ := h; exact ⟨vs, e, r.up s⟩
  | ins x c ns ds => obtain ⟨ex, dx, vs, e, l, r⟩ := h; exact ⟨ex, dx, vs, e, l, r.up s⟩
abbrev Ev := List Sl
/-- the base of a def: the tapes, the heaps at its entry, what is wanted of an error -/
structure Bs where
  ms : List Addr
  F0 : Hp
  H0 : Hp
  Ed : Ex → Prop
/-- what a table of code objects tells: each of them is known, and bears the lambda's name -/
def TabF (F H : Hp) (P : Addr) (q : Str) : Prop := F P = none ∧ ∃ ps : Array Value, H P = some (.tbl ps) ∧ PySem.TriplesOk ps.toList ∧ ∀ (pos : Pos) (cv : Value), PySem.codeAmong pos ps.toList = some cv → ∃ c, cv = .ref c ∧ F c = some (LamX.CodeO c q)
theorem TabF.go {F H F' H' : Hp} {P : Addr} {q : Str} {ms : List Addr} (t : TabF F H P q) (g : Go ms F H F' H') (hm : P ∉ ms) : TabF F' H' P q := by
  obtain ⟨t0, ps, t1, t2, t3⟩ := t
  obtain ⟨g1, g2⟩ := g.mu P _ hm t0 t1
  exact ⟨g1, ps, g2, t2, fun pos cv hc => let ⟨c, e1, e2⟩ := t3 pos cv hc; ⟨c, e1, g.ff _ _ e2⟩⟩
structure Tp (K : Frg) (ms : List Addr) (F H : Hp) : Prop where
  sm : Same F H
  tape : ∀ t ∈ ms, t ∉ tabA K → Tape K F H t
  tabs : ∀ p ∈ tabsOf K, p.1 ∈ ms ∧ TabF F H p.1 p.2
theorem Tp.ne {K : Frg} {ms : List Addr} {F H : Hp} (h : Tp K ms F H) {a : Addr} (m : a ∈ ms) : H a ≠ none := by
  by_cases ha : a ∈ tabA K
  · obtain ⟨p, hp, rfl⟩ := List.mem_map.mp ha
    obtain ⟨_, _, ps, e, _⟩ := h.tabs p hp
    rw [e]
    exact fun z => nomatch z
  · exact (h.tape a m ha).ne
/-- a thing that is no tape and no table is written or frozen -/
theorem Tp.go1 {K : Frg} {ms ns : List Addr} {F H F' H' : Hp} (h : Tp K ms F H) (g : Go ns F H F' H') (hd : ∀ d ∈ ns, d ∉ ms) : Tp K ms F' H' :=
  ⟨g.fh, fun t m n => (h.tape t m n).go g fun z => hd t z m, fun p hp => ⟨(h.tabs p hp).1, (h.tabs p hp).2.go g fun z => hd _ z (h.tabs p hp).1⟩⟩
theorem Tp.go0 {K : Frg} {ms : List Addr} {F H F' H' : Hp} (h : Tp K ms F H) (g : Go [] F H F' H') : Tp K ms F' H' := h.go1 g fun _ z => nomatch z
theorem Tp.gox {K : Frg} {ms : List Addr} {F H F' H' : Hp} {d : Addr} (h : Tp K ms F H) (g : Go [d] F H F' H') (hd : d ∉ ms) : Tp K ms F' H' := h.go1 g fun x hx => by
  have : x = d := by simpa using hx
  rw [this]; exact hd
/-- what lies at an address of ms: no instance, no dict -/
theorem Tp.notIns {K : Frg} {ms : List Addr} {F H : Hp} (h : Tp K ms F H) {a C dx : Addr} {fs : List (Str × V)} (e : H a = some (.ins C dx fs)) : a ∉ ms := fun m => by
  by_cases ha : a ∈ tabA K
  · obtain ⟨p, hp, rfl⟩ := List.mem_map.mp ha
    obtain ⟨_, _, ps, e', _⟩ := h.tabs p hp
    rw [e] at e'
    cases e'
  · obtain ⟨_, xs, e', _⟩ := h.tape a m ha
    rw [e] at e'
    cases e'
structure Iv (K : Frg) (B : Bs) (F H : Hp) (σ : L2.St) (ρ : Ev) : Prop where
  go : Go B.ms B.F0 B.H0 F H
  tp : Tp K B.ms F H
  len : σ.length = ρ.length
  val : ∀ (i : Nat) (d : D), ρ[i]? = some (.val d) → ∃ v, σ[i]? = some (some v) ∧ Rp K B.ms F v d
  own : ∀ (i : Nat) (m : Mo), ρ[i]? = some (.mu m) → ∃ a o, σ[i]? = some (some (.ref a)) ∧ F a = none ∧ a ∉ B.ms ∧ B.H0 a = none ∧ H a = some o ∧ MoR K B.ms F a m o
  sep : ∀ (i j : Nat) (m n : Mo) (a : Addr), i ≠ j → ρ[i]? = some (.mu m) → ρ[j]? = some (.mu n) → σ[i]? = some (some (.ref a)) → σ[j]? ≠ some (some (.ref a))
section
variable {K : Frg} {B : Bs} {F H F' H' : Hp} {σ : L2.St} {ρ : Ev}
theorem Iv.same (I : Iv K B F H σ ρ) : Same F H := I.tp.1
theorem Iv.step (I : Iv K B F H σ ρ) (g : Go B.ms F H F' H') (t : Tp K B.ms F' H') : Iv K B F' H' σ ρ where
  go := I.go.trans g
  tp := t
  len := I.len
  val := fun i d e => let ⟨v, h1, h2⟩ := I.val i d e; ⟨v, h1, h2.up g.ff⟩
  own := fun i ds e => by
    obtain ⟨a, vs, h1, h2, h3, h4, h5, h6⟩ := I.own i ds e
    obtain ⟨p1, p2⟩ := g.mu a _ h3 h2 h5
    exact ⟨a, vs, h1, p1, h3, h4, p2, h6.up g.ff⟩
  sep := I.sep
theorem Iv.step0 (I : Iv K B F H σ ρ) (g : Go [] F H F' H') : Iv K B F' H' σ ρ := I.step g.nil (I.tp.go0 g)
/-- store a plain value -/
theorem Iv.set (I : Iv K B F H σ ρ) {v : V} {d : D} (i : Nat) (r : Rp K B.ms F v d) : Iv K B F H (σ.set i (some v)) (ρ.set i (.val d)) where
  go := I.go
  tp := I.tp
  len := by rw [List.length_set, List.length_set]; exact I.len
  val := fun j e h => by
    have hj := I.len
    by_cases hij : i = j
    · subst hij
      rcases Nat.lt_or_ge i ρ.length with z | z
      · rw [List.getElem?_set_self z] at h
        cases h
        exact ⟨v, List.getElem?_set_self (by omega), r⟩
      · rw [List.getElem?_eq_none (by rw [List.length_set]; exact z)] at h; cases h
    · rw [List.getElem?_set_ne hij] at h
      rw [List.getElem?_set_ne hij]
      exact I.val j e h
  own := fun j ds h => by
    have hj := I.len
    by_cases hij : i = j
    · subst hij
      rcases Nat.lt_or_ge i ρ.length with z | z
      · rw [List.getElem?_set_self z] at h; cases h
      · rw [List.getElem?_eq_none (by rw [List.length_set]; exact z)] at h; cases h
    · rw [List.getElem?_set_ne hij] at h
      rw [List.getElem?_set_ne hij]
      exact I.own j ds h
  sep := fun j k ds es a hjk h1 h2 h3 => by
    have key : ∀ (m : Nat) (ds : Mo), (ρ.set i (.val d))[m]? = some (.mu ds) → i ≠ m := fun m ds h e => by
      subst e
      rcases Nat.lt_or_ge i ρ.length with z | z
      · rw [List.getElem?_set_self z] at h; cases h
      · rw [List.getElem?_eq_none (by rw [List.length_set]; exact z)] at h; cases h
    have e1 := key j _ h1
    have e2 := key k _ h2
    rw [List.getElem?_set_ne e1] at h1 h3
    rw [List.getElem?_set_ne e2] at h2 ⊢
    exact I.sep j k ds es a hjk h1 h2 h3
/-- forget a slot -/
theorem Iv.wipe (I : Iv K B F H σ ρ) (i : Nat) : Iv K B F H (σ.set i none) (ρ.set i .no) where
  go := I.go
  tp := I.tp
  len := by rw [List.length_set, List.length_set]; exact I.len
  val := fun j e h => by
    have hj := I.len
    by_cases hij : i = j
    · subst hij
      rcases Nat.lt_or_ge i ρ.length with z | z
      · rw [List.getElem?_set_self z] at h; cases h
      · rw [List.getElem?_eq_none (by rw [List.length_set]; exact z)] at h; cases h
    · rw [List.getElem?_set_ne hij] at h
      rw [List.getElem?_set_ne hij]
      exact I.val j e h
  own := fun j ds h => by
    have hj := I.len
    by_cases hij : i = j
    · subst hij
      rcases Nat.lt_or_ge i ρ.length with z | z
      · rw [List.getElem?_set_self z] at h; cases h
      · rw [List.getElem?_eq_none (by rw [List.length_set]; exact z)] at h; cases h
    · rw [List.getElem?_set_ne hij] at h
      rw [List.getElem?_set_ne hij]
      exact I.own j ds h
  sep := fun j k ds es a hjk h1 h2 h3 => by
    have hj := I.len
    have key : ∀ (m : Nat) (ds : Mo), (ρ.set i .no)[m]? = some (.mu ds) → i ≠ m := fun m ds h e => by
      subst e
      rcases Nat.lt_or_ge i ρ.length with z | z
      · rw [List.getElem?_set_self z] at h; cases h
      · rw [List.getElem?_eq_none (by rw [List.length_set]; exact z)] at h; cases h
    have e1 := key j _ h1
    have e2 := key k _ h2
    rw [List.getElem?_set_ne e1] at h1 h3
    rw [List.getElem?_set_ne e2] at h2 ⊢
    exact I.sep j k ds es a hjk h1 h2 h3
end
def wipeR (ρ : Ev) : List Nat → Ev
  | [] => ρ
  | v :: vs => (wipeR ρ vs).set v .no
theorem Iv.wipes {K : Frg} {B : Bs} {F H : Hp} {σ : L2.St} {ρ : Ev} (I : Iv K B F H σ ρ) : ∀ vs : List Nat, Iv K B F H (L2.wipe σ vs) (wipeR ρ vs)
  | [] => I
  | v :: vs => (Iv.wipes I vs).wipe v
/-! ### a choice that nothing opens by itself -/
@[irreducible] def ifB (b : Bool) (p q : Prop) : Prop := if b = true then p else q
theorem ifB_eq (b : Bool) (p q : Prop) : ifB b p q = if b = true then p else q := by unfold ifB; rfl
theorem ifB_t {p q : Prop} (h : ifB true p q) : p := by rw [ifB_eq] at h; exact h
theorem ifB_f {p q : Prop} (h : ifB false p q) : q := by rw [ifB_eq] at h; exact h
theorem ifB_T {b : Bool} {p q : Prop} (e : b = true) (h : p) : ifB b p q := by rw [ifB_eq, if_pos e]; exact h
theorem ifB_F {b : Bool} {p q : Prop} (e : b = false) (h : q) : ifB b p q := by rw [ifB_eq, e]; exact h
theorem ifB_2 {b : Bool} {p q : Prop} (h : b = true → p) (h' : b = false → q) : ifB b p q := by
  cases b with
  | true => exact ifB_T rfl (h rfl)
  | false => exact ifB_F rfl (h' rfl)
theorem ifB_d {c : Prop} [Decidable c] {p q : Prop} (h : c → p) (h' : ¬ c → q) : ifB (decide c) p q := ifB_2 (fun e => h (of_decide_eq_true e)) (fun e => h' (of_decide_eq_false e))
theorem ifB_nd {c : Prop} [Decidable c] {p q : Prop} (h : ¬ c → p) (h' : c → q) : ifB (!decide c) p q := ifB_2 (fun e => h (by simpa using e)) (fun e => h' (by simpa using e))
/-! ### readings -/
abbrev Rd := Ev → (D → Prop) → Prop
abbrev RdT := Ev → (Bool → Prop) → Prop
abbrev RdA := Ev → (List D → Prop) → Prop
structure En where
  nx : Ev → Prop
  rt : D → Prop
  bk : Ev → Prop := fun _ => False
  ct : Ev → Prop := fun _ => False
abbrev RdS := Ev → En → Prop
def tE (K : Frg) (B : Bs) (r : Rd) : TE := fun σ H Q => ∃ F ρ Qd, Iv K B F H σ ρ ∧ r ρ Qd ∧ ∀ v F' H' d, Go B.ms F H F' H' → Tp K B.ms F' H' → Rp K B.ms F' v d → Qd d → Q v H'
def tT (K : Frg) (B : Bs) (r : RdT) : TT := fun σ H Q => ∃ F ρ Qd, Iv K B F H σ ρ ∧ r ρ Qd ∧ ∀ b F' H', Go B.ms F H F' H' → Tp K B.ms F' H' → Qd b → Q b H'
def tA (K : Frg) (B : Bs) (r : RdA) : TA := fun σ H Q => ∃ F ρ Qd, Iv K B F H σ ρ ∧ r ρ Qd ∧ ∀ vs F' H' ds, Go B.ms F H F' H' → Tp K B.ms F' H' → Rps K B.ms F' vs ds → Qd ds → Q vs H'
def tS (K : Frg) (B : Bs) (r : RdS) : TS := fun Dd σ H => ∃ F ρ En, Iv K B F H σ ρ ∧ r ρ En ∧ (∀ σ' ρ' F' H', Same F F' → Iv K B F' H' σ' ρ' → En.nx ρ' → Dd.nx σ' H') ∧
  (∀ v d F' H', Go B.ms B.F0 B.H0 F' H' → Tp K B.ms F' H' → Rp K B.ms F' v d → En.rt d → Dd.rt v H') ∧
  (∀ σ' ρ' F' H', Same F F' → Iv K B F' H' σ' ρ' → En.bk ρ' → Dd.bk σ' H') ∧ (∀ σ' ρ' F' H', Same F F' → Iv K B F' H' σ' ρ' → En.ct ρ' → Dd.ct σ' H')
def PEp (X : Cx) (B : Bs) (e : Expr) (r : Rd) : Prop := PE X e (tE X.K B r)
def PTp (X : Cx) (B : Bs) (e : Expr) (r : RdT) : Prop := PT X e (tT X.K B r)
def PWp (X : Cx) (B : Bs) (e : Expr) (r : RdT) : Prop := PW X e (tT X.K B r)
def PAp (X : Cx) (B : Bs) (es : List Expr) (r : RdA) : Prop := PA X es (tA X.K B r)
def PSp (X : Cx) (B : Bs) (st : Stmt) (r : RdS) : Prop := PS X st (tS X.K B r)
def PSsp (X : Cx) (B : Bs) (st : List Stmt) (r : RdS) : Prop := PSs X st (tS X.K B r)
theorem pt_imp {X : Cx} {e : Expr} {t t' : TT} (h : PT X e t) (f : ∀ σ H Q, t' σ H Q → t σ H Q) : PT X e t' := ⟨fun pins s σ H Q I z => h.run pins s σ H Q I (f σ H Q z)⟩
theorem pw_imp {X : Cx} {e : Expr} {t t' : TT} (h : PW X e t) (f : ∀ σ H Q, t' σ H Q → t σ H Q) : PW X e t' := ⟨fun w pins s σ H Q I z => h.run w pins s σ H Q I (f σ H Q z)⟩
theorem pa_imp {X : Cx} {e : List Expr} {t t' : TA} (h : PA X e t) (f : ∀ σ H Q, t' σ H Q → t σ H Q) : PA X e t' := ⟨fun p pins s σ H Q I z => h.run p pins s σ H Q I (f σ H Q z)⟩
theorem ps_imp {X : Cx} {e : Stmt} {t t' : TS} (h : PS X e t) (f : ∀ σ H Q, t' Q σ H → t Q σ H) : PS X e t' := ⟨fun pins s σ H Q I z => h.run pins s σ H Q I (f σ H Q z)⟩
theorem pss_imp {X : Cx} {e : List Stmt} {t t' : TS} (h : PSs X e t) (f : ∀ σ H Q, t' Q σ H → t Q σ H) : PSs X e t' := ⟨fun pins s σ H Q I z => h.run pins s σ H Q I (f σ H Q z)⟩
section
variable {X : Cx} {B : Bs} {a b c e : Expr} {es : List Expr} {ra rb rc r : Rd} {rt ru : RdT} {rl : RdA} {pos : Pos}
/-! ### names, constants -/
def rVar (i : Nat) : Rd := fun ρ Q => match ρ[i]? with
  | some (.val d) => Q d
  | _ => False
def rC (d : D) : Rd := fun _ Q => Q d
theorem y_var {i : Nat} {x : Str} (h : PE X (.Name x pos) (tVar i)) : PEp X B (.Name x pos) (rVar i) := pe_imp h fun σ H Q ⟨F, ρ, Qd, I, z, k⟩ => by
  unfold rVar at z
  split at z
  · rename_i d e
    obtain ⟨v, h1, h2⟩ := I.val i d e
    exact ⟨v, h1, k v F H d (Go.refl I.same) I.tp h2 z⟩
  · exact z.elim
theorem y_c {v : V} {d : D} (h : PE X e (tC v)) (hr : ∀ K ms F, Rp K ms F v d) : PEp X B e (rC d) := pe_imp h fun σ H Q ⟨F, ρ, Qd, I, z, k⟩ => k v F H d (Go.refl I.same) I.tp (hr _ _ _) z
theorem y_int {i j} : PEp X B (.Constant (.int i) j pos) (rC (.int i)) := y_c pe_int fun _ _ _ => .int i
theorem y_bl {b j} : PEp X B (.Constant (.bool b) j pos) (rC (.bl b)) := y_c pe_bl fun _ _ _ => .bl b
theorem y_non {j} : PEp X B (.Constant .none j pos) (rC .non) := y_c pe_non fun _ _ _ => .non
theorem y_str {x j} : PEp X B (.Constant (.str x) j pos) (rC (.str x)) := y_c pe_str fun _ _ _ => .str x
theorem y_globI {x : Str} {i : Int} (hg : Gl X x) (h : ∃ t, X.mg x = some (.int i t)) (hd : (x == ("__debug__" : Str)) = false := by decide) : PEp X B (.Name x pos) (rC (.int i)) := y_c (pe_globI hg h hd) fun _ _ _ => .int i
theorem y_globS {x z : Str} (hg : Gl X x) (h : ∃ t, X.mg x = some (.str z t)) (hd : (x == ("__debug__" : Str)) = false := by decide) : PEp X B (.Name x pos) (rC (.str z)) := y_c (pe_globS hg h hd) fun _ _ _ => .str z
theorem y_glob {x : Str} (hg : Gl X x) (h : X.mg x = some (.ref (He.ga X.K x))) (hd : (x == ("__debug__" : Str)) = false := by decide) : PEp X B (.Name x pos) (rC (.glob x)) :=
  pe_imp (pe_glob (v := .ref (He.ga X.K x)) hg h rfl hd) fun σ H Q ⟨F, ρ, Qd, I, z, k⟩ => k _ F H _ (Go.refl I.same) I.tp (.glob x) z
theorem y_ty {x : Str} {n : String} (hg : Gl X x) (hm : X.mg x = none) (hv : bootBuiltins x = some (.type n)) (hn : x ≠ "__name__" := by decide) (hd : (x == ("__debug__" : Str)) = false := by decide) : PEp X B (.Name x pos) (rC (.ty n)) := y_c (pe_bltn (v := .ty n) hg hm hv rfl hn hd) fun _ _ _ => .ty n
/-! ### two-place operations -/
def OpL (K : Frg) (ms : List Addr) (r : R2) (g : D → D → (D → Prop) → Prop) : Prop := ∀ (F H : Hp) (x y : V) (dx dy : D) (Qd : D → Prop) (Q : VK), Same F H → Rp K ms F x dx → Rp K ms F y dy → g dx dy Qd → (∀ v F' H' d, Go [] F H F' H' → Rp K ms F' v d → Qd d → Q v H') → r x y H Q
theorem tOp_of {g : D → D → (D → Prop) → Prop} {o : R2} (hl : OpL X.K B.ms o g) (σ : L2.St) (H : Hp) (Q : VK) (h : tE X.K B (fun ρ Q => ra ρ fun x => rb ρ fun y => g x y Q) σ H Q) : tOp o (tE X.K B ra) (tE X.K B rb) σ H Q := by
  obtain ⟨F, ρ, Qd, I, z, k⟩ := h
  refine ⟨F, ρ, _, I, z, fun v F1 H1 d g1 t1 r1 z1 => ⟨F1, ρ, _, I.step g1 t1, z1, fun u F2 H2 e g2 t2 r2 z2 => ?_⟩⟩
  exact hl F2 H2 v u d e Qd Q t2.1 (r1.up g2.ff) r2 z2 fun w F3 H3 d3 g3 r3 q3 => k w F3 H3 d3 ((g1.trans g2).trans g3.nil) (t2.go0 g3) r3 q3
theorem y_op {op : Operator} {g : D → D → (D → Prop) → Prop} {o : R2} (ho : OpR X (binaryOp op) o) (hl : OpL X.K B.ms o g) (ha : PEp X B a ra) (hb : PEp X B b rb) : PEp X B (.BinOp a op b pos) (fun ρ Q => ra ρ fun x => rb ρ fun y => g x y Q) :=
  pe_imp (pe_op ho ha hb) (tOp_of hl)
theorem y_cmp {op : CmpOp} {g : D → D → (D → Prop) → Prop} {o : R2} (ho : OpR X (compareOp op) o) (hl : OpL X.K B.ms o g) (ha : PEp X B a ra) (hb : PEp X B b rb) (hm : behindInMarks op b = false) : PEp X B (.Compare a [op] [b] pos) (fun ρ Q => ra ρ fun x => rb ρ fun y => g x y Q) :=
  pe_imp (pe_cmpR ho ha hb hm) (tOp_of hl)
def tst (d : D) (Q : Bool → Prop) : Prop := match d with
  | .bl b => Q b
  | _ => False
theorem tTest_of {t : TE} (h0 : ∀ σ H Q, tE X.K B r σ H Q → t σ H Q) (σ : L2.St) (H : Hp) (Q : Bool → Hp → Prop) (h : tT X.K B (fun ρ Q => r ρ fun d => tst d Q) σ H Q) : tTest t σ H Q := by
  obtain ⟨F, ρ, Qd, I, z, k⟩ := h
  refine h0 _ _ _ ⟨F, ρ, _, I, z, fun v F1 H1 d g1 t1 r1 z1 => ?_⟩
  unfold tst at z1
  split at z1
  · rename_i b
    cases r1
    exact ⟨b, rfl, k b F1 H1 g1 t1 z1⟩
  · exact z1.elim
theorem z_cmp {op : CmpOp} {g : D → D → (D → Prop) → Prop} {o : R2} (ho : OpR X (compareOp op) o) (hl : OpL X.K B.ms o g) (ha : PEp X B a ra) (hb : PEp X B b rb) (hm : behindInMarks op b = false) : PTp X B (.Compare a [op] [b] pos) (fun ρ Q => ra ρ fun x => rb ρ fun y => g x y fun d => tst d Q) :=
  pt_imp (pt_cmpR ho ha hb hm) (tTest_of (tOp_of hl))
theorem z_val (h : PEp X B e r) (he : ∀ whole, isTrue e X.env whole = (do let v ← whole; standAt e.pos; holding [v] (truthy v)) := by intro _; rfl) : PTp X B e (fun ρ Q => r ρ fun d => tst d Q) :=
  pt_imp (pt_val h he) (tTest_of fun _ _ _ z => z)
/-- a op b op' c -/
def chn (g g' : D → D → (D → Prop) → Prop) (ra rb rc : Rd) : Rd := fun ρ Q => ra ρ fun x => rb ρ fun y => g x y fun z => tst z fun k => ifB k (rc ρ fun w => g' y w Q) (Q (.bl false))
theorem tChain_of {g g' : D → D → (D → Prop) → Prop} {o o' : R2} (hl : OpL X.K B.ms o g) (hl' : OpL X.K B.ms o' g') (σ : L2.St) (H : Hp) (Q : VK) (h : tE X.K B (chn g g' ra rb rc) σ H Q) : tChain o o' (tE X.K B ra) (tE X.K B rb) (tE X.K B rc) σ H Q := by
  obtain ⟨F, ρ, Qd, I, z, k⟩ := h
  refine ⟨F, ρ, _, I, z, fun v F1 H1 d g1 t1 r1 z1 => ⟨F1, ρ, _, I.step g1 t1, z1, fun u F2 H2 e g2 t2 r2 z2 => ?_⟩⟩
  refine hl F2 H2 v u d e _ _ t2.1 (r1.up g2.ff) r2 z2 fun w F3 H3 d3 g3 r3 q3 => ?_
  have t3 := t2.go0 g3
  unfold tst at q3
  split at q3
  · rename_i b
    cases r3
    refine ⟨b, rfl, ?_⟩
    cases b with
    | false => exact k _ F3 H3 _ ((g1.trans g2).trans g3.nil) t3 (.bl false) (ifB_f q3)
    | true => exact ⟨F3, ρ, _, ((I.step g1 t1).step g2 t2).step g3.nil t3, ifB_t q3, fun w4 F4 H4 d4 g4 t4 r4 z4 => hl' F4 H4 u w4 e d4 Qd Q t4.1 ((r2.up g3.ff).up g4.ff) r4 z4 fun w5 F5 H5 d5 g5 r5 q5 => k w5 F5 H5 d5 (((g1.trans g2).trans g3.nil).trans (g4.trans g5.nil)) (t4.go0 g5) r5 q5⟩
  · exact q3.elim
theorem y_chain {op op' : CmpOp} {g g' : D → D → (D → Prop) → Prop} {o o' : R2} (ho : OpR X (compareOp op) o) (hl : OpL X.K B.ms o g) (ho' : OpR X (compareOp op') o') (hl' : OpL X.K B.ms o' g') (ha : PEp X B a ra) (hb : PEp X B b rb) (hc : PEp X B c rc)
    (hm : lastMarks [op, op'] [b, c] = false := by with_unfolding_all rfl) : PEp X B (.Compare a [op, op'] [b, c] pos) (chn g g' ra rb rc) := pe_imp (pe_chain ho ho' ha hb hc hm) (tChain_of hl hl')
theorem z_chain {op op' : CmpOp} {g g' : D → D → (D → Prop) → Prop} {o o' : R2} (ho : OpR X (compareOp op) o) (hl : OpL X.K B.ms o g) (ho' : OpR X (compareOp op') o') (hl' : OpL X.K B.ms o' g') (ha : PEp X B a ra) (hb : PEp X B b rb) (hc : PEp X B c rc)
    (hm : lastMarks [op, op'] [b, c] = false := by with_unfolding_all rfl) : PTp X B (.Compare a [op, op'] [b, c] pos) (fun ρ Q => chn g g' ra rb rc ρ fun d => tst d Q) := pt_imp (pt_chain ho ho' ha hb hc hm) (tTest_of (tChain_of hl hl'))
/-! ### and, or, not, if -/
theorem z_and1 (ha : PTp X B a rt) : PWp X B (.BoolOp .And [a] pos) rt := pw_and1 ha
theorem z_or1 (ha : PTp X B a rt) : PWp X B (.BoolOp .Or [a] pos) rt := pw_or1 ha
theorem z_and {rest : List Expr} (ha : PTp X B a rt) (hb : PWp X B (.BoolOp .And (b :: rest) pos) ru) : PWp X B (.BoolOp .And (a :: b :: rest) pos) (fun ρ Q => rt ρ fun c => ifB c (ru ρ Q) (Q false)) :=
  pw_imp (pw_and ha hb) fun σ H Q ⟨F, ρ, Qd, I, z, k⟩ => ⟨F, ρ, _, I, z, fun b F1 H1 g1 t1 z1 => by
    cases b with
    | false => exact k false F1 H1 g1 t1 (ifB_f z1)
    | true => exact ⟨F1, ρ, _, I.step g1 t1, ifB_t z1, fun b F2 H2 g2 t2 z2 => k b F2 H2 (g1.trans g2) t2 z2⟩⟩
theorem z_or {rest : List Expr} (ha : PTp X B a rt) (hb : PWp X B (.BoolOp .Or (b :: rest) pos) ru) : PWp X B (.BoolOp .Or (a :: b :: rest) pos) (fun ρ Q => rt ρ fun c => ifB c (Q true) (ru ρ Q)) :=
  pw_imp (pw_or ha hb) fun σ H Q ⟨F, ρ, Qd, I, z, k⟩ => ⟨F, ρ, _, I, z, fun b F1 H1 g1 t1 z1 => by
    cases b with
    | true => exact k true F1 H1 g1 t1 (ifB_t z1)
    | false => exact ⟨F1, ρ, _, I.step g1 t1, ifB_f z1, fun b F2 H2 g2 t2 z2 => k b F2 H2 (g1.trans g2) t2 z2⟩⟩
theorem z_pt (h : PWp X B a rt) : PTp X B a rt := PW.pt h
theorem z_not (ha : PTp X B a rt) : PTp X B (.UnaryOp .Not a pos) (fun ρ Q => rt ρ fun c => Q (!c)) :=
  pt_imp (pt_not ha) fun σ H Q ⟨F, ρ, Qd, I, z, k⟩ => ⟨F, ρ, _, I, z, fun b F1 H1 g1 t1 z1 => k (!b) F1 H1 g1 t1 z1⟩
theorem y_one {op} (h : PEp X B a ra) : PEp X B (.BoolOp op [a] pos) ra := pe_one h
theorem y_and {rest : List Expr} (ha : PEp X B a ra) (hb : PEp X B (.BoolOp .And (b :: rest) pos) rb) : PEp X B (.BoolOp .And (a :: b :: rest) pos) (fun ρ Q => ra ρ fun d => tst d fun c => ifB c (rb ρ Q) (Q (.bl false))) :=
  pe_imp (pe_and ha hb) fun σ H Q ⟨F, ρ, Qd, I, z, k⟩ => ⟨F, ρ, _, I, z, fun v F1 H1 d g1 t1 r1 z1 => by
    unfold tst at z1
    split at z1
    · rename_i b
      cases r1
      refine ⟨b, rfl, ?_⟩
      cases b with
      | false => exact k _ F1 H1 _ g1 t1 (.bl false) (ifB_f z1)
      | true => exact ⟨F1, ρ, _, I.step g1 t1, ifB_t z1, fun w F2 H2 d g2 t2 r2 z2 => k w F2 H2 d (g1.trans g2) t2 r2 z2⟩
    · exact z1.elim⟩
theorem y_or {rest : List Expr} (ha : PEp X B a ra) (hb : PEp X B (.BoolOp .Or (b :: rest) pos) rb) : PEp X B (.BoolOp .Or (a :: b :: rest) pos) (fun ρ Q => ra ρ fun d => tst d fun c => ifB c (Q (.bl true)) (rb ρ Q)) :=
  pe_imp (pe_or ha hb) fun σ H Q ⟨F, ρ, Qd, I, z, k⟩ => ⟨F, ρ, _, I, z, fun v F1 H1 d g1 t1 r1 z1 => by
    unfold tst at z1
    split at z1
    · rename_i b
      cases r1
      refine ⟨b, rfl, ?_⟩
      cases b with
      | true => exact k _ F1 H1 _ g1 t1 (.bl true) (ifB_t z1)
      | false => exact ⟨F1, ρ, _, I.step g1 t1, ifB_f z1, fun w F2 H2 d g2 t2 r2 z2 => k w F2 H2 d (g1.trans g2) t2 r2 z2⟩
    · exact z1.elim⟩
theorem y_not (ha : PEp X B a ra) : PEp X B (.UnaryOp .Not a pos) (fun ρ Q => ra ρ fun d => tst d fun c => Q (.bl (!c))) :=
  pe_imp (pe_not ha) fun σ H Q ⟨F, ρ, Qd, I, z, k⟩ => ⟨F, ρ, _, I, z, fun v F1 H1 d g1 t1 r1 z1 => by
    unfold tst at z1
    split at z1
    · rename_i b
      cases r1
      exact ⟨b, rfl, k _ F1 H1 _ g1 t1 (.bl (!b)) z1⟩
    · exact z1.elim⟩
theorem y_if (hc : PTp X B c rt) (ha : PEp X B a ra) (hb : PEp X B b rb) : PEp X B (.IfExp c a b pos) (fun ρ Q => rt ρ fun c => ifB c (ra ρ Q) (rb ρ Q)) :=
  pe_imp (pe_ifExp hc ha hb) fun σ H Q ⟨F, ρ, Qd, I, z, k⟩ => ⟨F, ρ, _, I, z, fun c F1 H1 g1 t1 z1 => by
    cases c with
    | true => exact ⟨F1, ρ, _, I.step g1 t1, ifB_t z1, fun w F2 H2 d g2 t2 r2 z2 => k w F2 H2 d (g1.trans g2) t2 r2 z2⟩
    | false => exact ⟨F1, ρ, _, I.step g1 t1, ifB_f z1, fun w F2 H2 d g2 t2 r2 z2 => k w F2 H2 d (g1.trans g2) t2 r2 z2⟩⟩
/-- a one-place operation -/
def UnL (K : Frg) (ms : List Addr) (r : V → Hp → VK → Prop) (g : D → (D → Prop) → Prop) : Prop := ∀ (F H : Hp) (x : V) (dx : D) (Qd : D → Prop) (Q : VK), Same F H → Rp K ms F x dx → g dx Qd → (∀ v F' H' d, Go [] F H F' H' → Rp K ms F' v d → Qd d → Q v H') → r x H Q
theorem y_un {op : UnaryOp} {g : D → (D → Prop) → Prop} {o : V → Hp → VK → Prop} (ho : UnR X (unaryOp op) o) (hl : UnL X.K B.ms o g) (ha : PEp X B a ra) : PEp X B (.UnaryOp op a pos) (fun ρ Q => ra ρ fun x => g x Q) :=
  pe_imp (pe_un ho ha) fun σ H Q ⟨F, ρ, Qd, I, z, k⟩ => ⟨F, ρ, _, I, z, fun v F1 H1 d g1 t1 r1 z1 => hl F1 H1 v d Qd Q t1.1 r1 z1 fun w F2 H2 e g2 r2 z2 => k w F2 H2 e (g1.trans g2.nil) (t1.go0 g2) r2 z2⟩
/-! ### arguments, displays -/
def aNil : RdA := fun _ Q => Q []
def aCons (ra : Rd) (rl : RdA) : RdA := fun ρ Q => ra ρ fun x => rl ρ fun xs => Q (x :: xs)
theorem a_nil : PAp X B [] aNil := pa_imp pa_nil fun σ H Q ⟨F, ρ, Qd, I, z, k⟩ => k [] F H [] (Go.refl I.same) I.tp .nil z
theorem a_cons (ha : PEp X B e ra) (hr : PAp X B es rl) (hs : starEach (e :: es) X.env = (false, eval e X.env) :: starEach es X.env := by rfl) : PAp X B (e :: es) (aCons ra rl) :=
  pa_imp (pa_cons ha hr hs) fun σ H Q ⟨F, ρ, Qd, I, z, k⟩ => ⟨F, ρ, _, I, z, fun v F1 H1 d g1 t1 r1 z1 => ⟨F1, ρ, _, I.step g1 t1, z1, fun vs F2 H2 ds g2 t2 r2 z2 => k (v :: vs) F2 H2 (d :: ds) (g1.trans g2) t2 (.cons (r1.up g2.ff) r2) z2⟩⟩
theorem y_tup {x1} (h : PAp X B es rl) : PEp X B (.Tuple es x1 pos) (fun ρ Q => rl ρ fun ds => ds.length ≤ 100000 ∧ Q (.tup ds)) :=
  pe_imp (pe_tupZ h) fun σ H Q ⟨F, ρ, Qd, I, z, k⟩ => ⟨F, ρ, _, I, z, fun vs F1 H1 ds g1 t1 r1 z1 => ⟨Nat.le_trans (by rw [r1.len]; exact z1.1) (by decide), fun p H2 hp e2 => by
    obtain ⟨F2, g2, q2, _⟩ := newE g1.fh hp e2
    exact k _ F2 H2 _ (g1.trans g2.nil) (t1.go0 g2) (.tup (SqT.of q2) (r1.up g2.ff)) z1.2⟩⟩
theorem y_lst (h : PAp X B es rl) : PEp X B (.List es pos) (fun ρ Q => rl ρ fun ds => ds.length ≤ 100000 ∧ Q (.lst ds)) :=
  pe_imp (pe_lstZ h) fun σ H Q ⟨F, ρ, Qd, I, z, k⟩ => ⟨F, ρ, _, I, z, fun vs F1 H1 ds g1 t1 r1 z1 => ⟨Nat.le_trans (by rw [r1.len]; exact z1.1) (by decide), fun p H2 hp e2 => by
    obtain ⟨F2, g2, q2, _⟩ := newE g1.fh hp e2
    exact k _ F2 H2 _ (g1.trans g2.nil) (t1.go0 g2) (.lst q2 (r1.up g2.ff)) z1.2⟩⟩
end
end Y
namespace Y
open PySem PySem.Spec PyProof.Rows L2 Z
/-! ### statements -/
section
variable {X : Cx} {B : Bs} {a b c e : Expr} {es : List Expr} {ra rb rc r : Rd} {rt ru : RdT} {rl : RdA} {pos : Pos} {st : Stmt} {rest : List Stmt} {s1 s2 : RdS}
theorem s_nil : PSsp X B [] (fun ρ E => E.nx ρ) := pss_imp pss_nil fun σ H Dd ⟨F, ρ, E, I, z, kn, _⟩ => kn σ ρ F H (Same.refl _) I z
theorem s_cons (h1 : PSp X B st s1) (h2 : PSsp X B rest s2) : PSsp X B (st :: rest) (fun ρ E => s1 ρ { E with nx := fun ρ' => s2 ρ' E }) :=
  pss_imp (pss_cons h1 h2) fun σ H Dd ⟨F, ρ, E, I, z, kn, kr, kb, kc⟩ => ⟨F, ρ, _, I, z, fun σ' ρ' F' H' s I' z' => ⟨F', ρ', E, I', z', fun σ2 ρ2 F2 H2 s' I2 z2 => kn σ2 ρ2 F2 H2 (s.trans s') I2 z2, kr, fun σ2 ρ2 F2 H2 s' I2 z2 => kb σ2 ρ2 F2 H2 (s.trans s') I2 z2, fun σ2 ρ2 F2 H2 s' I2 z2 => kc σ2 ρ2 F2 H2 (s.trans s') I2 z2⟩, kr, kb, kc⟩
theorem s_one (h1 : PSp X B st s1) : PSsp X B [st] s1 := pss_one h1
theorem s_ret (he : PEp X B e r) : PSp X B (.Return (some e) pos) (fun ρ E => r ρ E.rt) :=
  ps_imp (ps_ret he) fun σ H Dd ⟨F, ρ, E, I, z, kn, kr, kb, kc⟩ => ⟨F, ρ, _, I, z, fun v F' H' d g t r q => kr v d F' H' (I.go.trans g) t r q⟩
theorem s_retN : PSp X B (.Return none pos) (fun _ E => E.rt .non) := ps_imp ps_retN fun σ H Dd ⟨F, ρ, E, I, z, kn, kr, kb, kc⟩ => kr .non .non F H I.go I.tp .non z
theorem s_pass : PSp X B (.Pass pos) (fun ρ E => E.nx ρ) := ps_imp ps_pass fun σ H Dd ⟨F, ρ, E, I, z, kn, kr, kb, kc⟩ => kn σ ρ F H (Same.refl _) I z
theorem s_brk : PSp X B (.Break pos) (fun ρ E => E.bk ρ) := ps_imp ps_break fun σ H Dd ⟨F, ρ, E, I, z, kn, kr, kb, kc⟩ => kb σ ρ F H (Same.refl _) I z
theorem s_cnt : PSp X B (.Continue pos) (fun ρ E => E.ct ρ) := ps_imp ps_continue fun σ H Dd ⟨F, ρ, E, I, z, kn, kr, kb, kc⟩ => kc σ ρ F H (Same.refl _) I z
theorem s_never : PSp X B st (fun _ _ => False) := ps_imp ps_never fun σ H Dd ⟨F, ρ, E, I, z, _⟩ => z
theorem s_doc {x j pos'} : PSp X B (.Expr (.Constant (.str x) j pos) pos') (fun ρ E => E.nx ρ) := ps_imp ps_doc fun σ H Dd ⟨F, ρ, E, I, z, kn, kr, kb, kc⟩ => kn σ ρ F H (Same.refl _) I z
theorem s_expr (he : PEp X B e r) (hs : swapsWith e none pos.line X.env = pure false := by rfl) : PSp X B (.Expr e pos) (fun ρ E => r ρ fun _ => E.nx ρ) :=
  ps_imp (ps_expr he hs) fun σ H Dd ⟨F, ρ, E, I, z, kn, kr, kb, kc⟩ => ⟨F, ρ, _, I, z, fun v F' H' d g t r q => kn σ ρ F' H' g.ff (I.step g t) q⟩
theorem s_if {bs cs : List Stmt} (hc : PTp X B c rt) (ha : PSsp X B bs s1) (hb : PSsp X B cs s2) : PSp X B (.If c bs cs pos) (fun ρ E => rt ρ fun k => ifB k (s1 ρ E) (s2 ρ E)) :=
  ps_imp (ps_if hc ha hb) fun σ H Dd ⟨F, ρ, E, I, z, kn, kr, kb, kc⟩ => ⟨F, ρ, _, I, z, fun k F1 H1 g1 t1 z1 => by
    have J := I.step g1 t1
    cases k with
    | true => exact ⟨F1, ρ, E, J, ifB_t z1, fun σ2 ρ2 F2 H2 s' I2 z2 => kn σ2 ρ2 F2 H2 (g1.ff.trans s') I2 z2, kr, fun σ2 ρ2 F2 H2 s' I2 z2 => kb σ2 ρ2 F2 H2 (g1.ff.trans s') I2 z2, fun σ2 ρ2 F2 H2 s' I2 z2 => kc σ2 ρ2 F2 H2 (g1.ff.trans s') I2 z2⟩
    | false => exact ⟨F1, ρ, E, J, ifB_f z1, fun σ2 ρ2 F2 H2 s' I2 z2 => kn σ2 ρ2 F2 H2 (g1.ff.trans s') I2 z2, kr, fun σ2 ρ2 F2 H2 s' I2 z2 => kb σ2 ρ2 F2 H2 (g1.ff.trans s') I2 z2, fun σ2 ρ2 F2 H2 s' I2 z2 => kc σ2 ρ2 F2 H2 (g1.ff.trans s') I2 z2⟩⟩
/-! ### targets -/
inductive Tg where
  | nm (i : Nat) | tp (is : List Nat)
def stN : List Nat → List D → Ev → (Ev → Prop) → Prop
  | [], [], ρ, Q => Q ρ
  | i :: is, d :: ds, ρ, Q => stN is ds (ρ.set i (.val d)) Q
  | _, _, _, _ => False
def tgD : Tg → D → Ev → (Ev → Prop) → Prop
  | .nm i, d, ρ, Q => Q (ρ.set i (.val d))
  | .tp is, .tup ds, ρ, Q => stN is ds ρ Q
  | .tp is, .lst ds, ρ, Q => stN is ds ρ Q
  | _, _, _, _ => False
def gNs : List Nat → TGs
  | [] => gNil
  | i :: is => gCons (gName i) (gNs is)
def tgV (K : Frg) : Tg → TG
  | .nm i => gName i
  | .tp is => fun v σ H Q => gTup K is.length (gNs is) v σ H Q ∨ gLst K is.length (gNs is) v σ H Q
theorem g_nm {i : Nat} {x : Str} (h : PG X (.Name x pos) (gName i)) : PG X (.Name x pos) (tgV X.K (.nm i)) := h
theorem g_tp {is : List Nat} {k : Nat} (hc : X.calm = true) (h : PGs X es (gNs is)) (hl : is.length = (assignEach es X.env).length := by rfl) (hst : (assignEach es X.env).findIdx? (·.1) = none := by rfl) : PG X (.Tuple es k pos) (tgV X.K (.tp is)) := by
  have h1 := pg_tup (pos := pos) (k := k) hc h hl.symm hst
  have h2 := pg_lst (pos := pos) (k := k) hc h hl.symm hst
  exact ⟨fun pins s σ H v u Q I r z => z.elim (h1.run pins s σ H v u Q I r) (h2.run pins s σ H v u Q I r)⟩
theorem stN_run {K : Frg} : ∀ {is : List Nat} {vs : List V} {ds : List D} {F H : Hp} {σ : L2.St} {ρ : Ev} {Qd : Ev → Prop} {Q : L2.St → Hp → Prop}, Iv K B F H σ ρ → Rps K B.ms F vs ds → stN is ds ρ Qd → (∀ σ' ρ', Iv K B F H σ' ρ' → Qd ρ' → Q σ' H) → gNs is vs σ H Q
  | [], [], [], F, H, σ, ρ, Qd, Q, I, _, z, k => ⟨rfl, k σ ρ I z⟩
  | i :: is, v :: vs, d :: ds, F, H, σ, ρ, Qd, Q, I, r, z, k => by
    cases r with
    | cons r1 r2 => exact ⟨v, vs, rfl, stN_run (I.set i r1) r2 z k⟩
  | [], _ :: _, [], _, _, _, _, _, _, _, r, _, _ => by cases r
  | [], _, _ :: _, _, _, _, _, _, _, _, _, z, _ => z.elim
  | _ :: _, _, [], _, _, _, _, _, _, _, _, z, _ => z.elim
  | _ :: _, [], _ :: _, _, _, _, _, _, _, _, r, _, _ => by cases r
theorem stN_len : ∀ {is : List Nat} {ds : List D} {ρ : Ev} {Qd : Ev → Prop}, stN is ds ρ Qd → ds.length = is.length
  | [], [], _, _, _ => rfl
  | _ :: is, _ :: ds, _, _, z => by simp only [List.length_cons]; rw [stN_len (is := is) (ds := ds) z]
  | [], _ :: _, _, _, z => z.elim
  | _ :: _, [], _, _, z => z.elim
theorem tg_run {K : Frg} {tg : Tg} {v : V} {d : D} {F H : Hp} {σ : L2.St} {ρ : Ev} {Qd : Ev → Prop} {Q : L2.St → Hp → Prop} (I : Iv K B F H σ ρ) (r : Rp K B.ms F v d) (z : tgD tg d ρ Qd) (k : ∀ σ' ρ', Iv K B F H σ' ρ' → Qd ρ' → Q σ' H) : tgV K tg v σ H Q := by
  cases tg with
  | nm i => exact k _ _ (I.set i r) z
  | tp is =>
    cases d with
    | tup ds =>
      cases r with
      | tup h1 h2 => exact .inl ⟨_, _, rfl, sqT I.same h1, by rw [h2.len]; exact stN_len z, stN_run I h2 z k⟩
    | lst ds =>
      cases r with
      | lst h1 h2 => exact .inr ⟨_, _, rfl, SqL.of (I.same _ _ h1), by rw [h2.len]; exact stN_len z, stN_run I h2 z k⟩
    | _ => exact z.elim
/-- a target touches its own slots alone -/
def Tg.slots : Tg → List Nat
  | .nm i => [i]
  | .tp is => is
theorem wipe_get (σ : L2.St) : ∀ (vs : List Nat) (j : Nat), (L2.wipe σ vs)[j]? = if j ∈ vs then (if j < σ.length then some none else none) else σ[j]?
  | [], j => by simp [L2.wipe]
  | v :: vs, j => by
    unfold L2.wipe
    rw [List.getElem?_set, L2.wipe_length, wipe_get σ vs j]
    by_cases hv : v = j
    · subst hv; simp
    · rw [if_neg hv]
      have : (j ∈ v :: vs) = (j ∈ vs) := by simp [Ne.symm hv]
      simp only [this]
theorem wipe_set (σ : L2.St) {i : Nat} {x : Option V} {vs : List Nat} (h : i ∈ vs) : L2.wipe (σ.set i x) vs = L2.wipe σ vs := by
  apply List.ext_getElem?
  intro j
  rw [wipe_get, wipe_get, List.length_set]
  by_cases hj : j ∈ vs
  · rw [if_pos hj, if_pos hj]
  · rw [if_neg hj, if_neg hj, List.getElem?_set_ne (fun (e : i = j) => hj (e ▸ h))]
theorem gNs_wipe {vs0 : List Nat} {H : Hp} {Q : L2.St → Hp → Prop} : ∀ {is : List Nat} {vs : List V} {σ : L2.St}, (∀ i ∈ is, i ∈ vs0) → gNs is vs σ H Q → gNs is vs σ H fun σ2 H2 => L2.wipe σ2 vs0 = L2.wipe σ vs0 ∧ Q σ2 H2
  | [], _, _, _, h => ⟨h.1, rfl, h.2⟩
  | i :: is, vs, σ, hm, ⟨v, r, e, h⟩ => by
    refine ⟨v, r, e, ?_⟩
    have := gNs_wipe (is := is) (fun j hj => hm j (List.mem_cons_of_mem _ hj)) h
    rw [wipe_set σ (hm i List.mem_cons_self)] at this
    exact this
theorem tg_wipe {K : Frg} {tg : Tg} {vs0 : List Nat} {v : V} {σ : L2.St} {H : Hp} {Q : L2.St → Hp → Prop} (hm : ∀ i ∈ tg.slots, i ∈ vs0) (h : tgV K tg v σ H Q) : tgV K tg v σ H fun σ2 H2 => L2.wipe σ2 vs0 = L2.wipe σ vs0 ∧ Q σ2 H2 := by
  cases tg with
  | nm i => exact ⟨wipe_set σ (hm i List.mem_cons_self), h⟩
  | tp is =>
    rcases h with ⟨a, xs, e, h1, h2, h3⟩ | ⟨a, xs, e, h1, h2, h3⟩
    · exact .inl ⟨a, xs, e, h1, h2, gNs_wipe hm h3⟩
    · exact .inr ⟨a, xs, e, h1, h2, gNs_wipe hm h3⟩
/-! ### assignments -/
theorem asg_of {te : TE} {tg : Tg} (h0 : ∀ σ H Q, tE X.K B r σ H Q → te σ H Q) (σ : L2.St) (H : Hp) (Dd : Ends) (h : tS X.K B (fun ρ E => r ρ fun d => tgD tg d ρ E.nx) Dd σ H) : tAsg te (tgV X.K tg) Dd σ H := by
  obtain ⟨F, ρ, E, I, z, kn, kr, kb, kc⟩ := h
  exact h0 _ _ _ ⟨F, ρ, _, I, z, fun v F' H' d g t r q => tg_run (I.step g t) r q fun σ' ρ' I' z' => kn σ' ρ' F' H' g.ff I' z'⟩
theorem s_set {i : Nat} {x : Str} {pos' : Pos} (hN : X.N.Nodup) (hi : X.N[i]? = some x) (hx : Loc X.env.scope x) (he : PEp X B e r) (hs : swapsWith e (some (.Name x pos')) pos.line X.env = pure false := by rfl) (hf : X.fn x = true ∨ X.env.scope.names.lookup x = some .local := by first | exact .inl rfl | exact .inr rfl | assumption) :
    PSp X B (.Assign [.Name x pos'] e pos) (fun ρ E => r ρ fun d => E.nx (ρ.set i (.val d))) := ps_imp (ps_set hN hi hx he hs hf) (asg_of (tg := .nm i) fun _ _ _ z => z)
theorem s_asg {tg : Expr} {t : Tg} (he : PEp X B e r) (hg : PG X tg (tgV X.K t)) (hs : swapsWithSole [tg] e pos.line X.env = pure false := by rfl) (hw : swappedStores [tg] e X.env = pure none := by rfl)
    (h1 : (assignEach [tg] X.env).map (·.2) = [assign tg X.env] := by rfl) : PSp X B (.Assign [tg] e pos) (fun ρ E => r ρ fun d => tgD t d ρ E.nx) := ps_imp (ps_asg he hg hs hw h1) (asg_of (tg := t) fun _ _ _ z => z)
theorem s_par {i j : Nat} {x y : Str} {px py pt : Pos} {kt k2 pt2} (hc : X.calm = true) (hN : X.N.Nodup) (hi : X.N[i]? = some x) (hj : X.N[j]? = some y) (hij : i ≠ j)
    (hx : X.env.scope.names.lookup x = some .local) (hy : X.env.scope.names.lookup y = some .local) (ha : PAp X B [a, b] rl)
    (hw : swappedStores [.Tuple [.Name x px, .Name y py] kt pt] (.Tuple [a, b] k2 pt2) X.env = pure (some [x, y]))
    (hs : swapsWithSole [.Tuple [.Name x px, .Name y py] kt pt] (.Tuple [a, b] k2 pt2) pos.line X.env = pure false := by rfl) :
    PSp X B (.Assign [.Tuple [.Name x px, .Name y py] kt pt] (.Tuple [a, b] k2 pt2) pos) (fun ρ E => rl ρ fun ds => stN [i, j] ds ρ E.nx) :=
  ps_imp (ps_par hc hN hi hj hij hx hy ha hw hs) fun σ H Dd ⟨F, ρ, E, I, z, kn, kr, kb, kc⟩ => ⟨F, ρ, _, I, z, fun vs F' H' ds g t r q => by
    match vs, ds, r, q with
    | [v, w], [d, d'], r, q =>
      cases r with
      | cons r1 r2 =>
        cases r2 with
        | cons r2 r3 => exact ⟨v, w, rfl, kn _ _ F' H' g.ff (((I.step g t).set i r1).set j r2) q⟩
    | [], [], _, q => exact q.elim
    | [_], [_], _, q => exact q.elim
    | _ :: _ :: _ :: _, _ :: _ :: _ :: _, _, q => exact q.elim
    | [], _ :: _, r, _ => exact (nomatch r)
    | _ :: _, [], r, _ => exact (nomatch r)
    | [_], _ :: _ :: _, r, _ => cases r with | cons _ r => exact (nomatch r)
    | _ :: _ :: _, [_], r, _ => cases r with | cons _ r => exact (nomatch r)
    | [_, _], _ :: _ :: _ :: _, r, _ => cases r with | cons _ r => cases r with | cons _ r => exact (nomatch r)
    | _ :: _ :: _ :: _, [_, _], r, _ => cases r with | cons _ r => cases r with | cons _ r => exact (nomatch r)⟩
/-! ### loops -/
theorem s_while {body : List Stmt} (hp : PassesOwn (model X.prog X.w) X.A X.env X.xe) (hc : PTp X B c rt) (hb : PSsp X B body s1) : PSp X B (.While c body [] pos) (fun ρ E => ∃ Iw : Nat → Ev → Prop, (∃ m, Iw m ρ) ∧ ∀ m ρ, Iw m ρ →
    rt ρ fun k => ifB k (s1 ρ { E with nx := fun ρ' => ∃ m', m' < m ∧ Iw m' ρ', ct := fun ρ' => ∃ m', m' < m ∧ Iw m' ρ', bk := E.nx }) (E.nx ρ)) :=
  ps_imp (ps_while hp hc hb) fun σ H Dd ⟨F, ρ, E, I, ⟨Iw, ⟨m0, i0⟩, turn⟩, kn, kr, kb, kc⟩ => by
    refine ⟨fun m σ' H' => ∃ F' ρ', Same F F' ∧ Iv X.K B F' H' σ' ρ' ∧ Iw m ρ', ⟨m0, F, ρ, Same.refl _, I, i0⟩, ?_⟩
    rintro m σ' H' ⟨F', ρ', s', I', z'⟩
    refine ⟨F', ρ', _, I', turn m ρ' z', fun k F1 H1 g1 t1 z1 => ?_⟩
    have J := I'.step g1 t1
    have sF := s'.trans g1.ff
    cases k with
    | false => exact kn σ' ρ' F1 H1 sF J (ifB_f z1)
    | true =>
      refine ⟨fun σ2 H2 => ∃ m', m' < m ∧ ∃ F2 ρ2, Same F F2 ∧ Iv X.K B F2 H2 σ2 ρ2 ∧ Iw m' ρ2, fun σ2 H2 ⟨m', hm, F2, ρ2, s2, I2, z2⟩ => ⟨m', hm, F2, ρ2, s2, I2, z2⟩, F1, ρ', _, J, ifB_t z1, ?_, kr, ?_, ?_⟩
      · rintro σ2 ρ2 F2 H2 s2 I2 ⟨m', hm, z2⟩
        exact ⟨m', hm, F2, ρ2, sF.trans s2, I2, z2⟩
      · intro σ2 ρ2 F2 H2 s2 I2 z2
        exact kn σ2 ρ2 F2 H2 (sF.trans s2) I2 z2
      · rintro σ2 ρ2 F2 H2 s2 I2 ⟨m', hm, z2⟩
        exact ⟨m', hm, F2, ρ2, sF.trans s2, I2, z2⟩
end
/-- an iterator that hands out the data ds -/
def Sqs (K : Frg) (ms : List Addr) (F : Hp) (J : It) (ds : List D) : Prop := ∃ (G : Hp → Prop) (Yd : Nat → Hp → V → Hp → Prop), Walk J ds.length G Yd ∧ (∀ F1 H1, Same F F1 → Same F1 H1 → G H1) ∧
  ∀ (i : Nat) (F1 H1 : Hp) (x : V) (H1' : Hp) (d : D), Same F F1 → Same F1 H1 → Yd i H1 x H1' → ds[i]? = some d → ∃ F2, Go [] F1 H1 F2 H1' ∧ Rp K ms F2 x d
def tI (K : Frg) (B : Bs) (r : RdA) : L2.TI := fun σ H R => ∃ F ρ Qd, Iv K B F H σ ρ ∧ r ρ Qd ∧ ∀ J F' H' ds, Go B.ms F H F' H' → Tp K B.ms F' H' → Sqs K B.ms F' J ds → Qd ds → R J H'
def PIp (X : Cx) (B : Bs) (tg iter : Expr) (r : RdA) : Prop := PI X tg iter (tI X.K B r)
theorem pi_imp {X : Cx} {tg it : Expr} {t t' : L2.TI} (h : PI X tg it t) (f : ∀ σ H R, t' σ H R → t σ H R) : PI X tg it t' := ⟨fun pins s σ H R I z => h.run pins s σ H R I (f σ H R z)⟩
/-- a for, turn by turn -/
def forP (tg : Tg) (sb : RdS) (E : En) : List D → Ev → Prop
  | [], ρ => E.nx ρ
  | d :: ds, ρ => tgD tg d ρ fun ρ1 => sb ρ1 { E with nx := forP tg sb E ds, ct := forP tg sb E ds, bk := E.nx }
/-- a for, by what holds behind each turn -/
def forI (tg : Tg) (sb : RdS) (E : En) (ds : List D) (ρ : Ev) : Prop := ∃ I : Nat → Ev → Prop, I 0 ρ ∧ (∀ (i : Nat) (d : D) (ρ' : Ev), ds[i]? = some d → I i ρ' → tgD tg d ρ' fun ρ1 => sb ρ1 { E with nx := I (i + 1), ct := I (i + 1), bk := E.nx }) ∧ ∀ ρ', I ds.length ρ' → E.nx ρ'
theorem lt_of_get {α : Type} {ds : List α} {i : Nat} {d : α} (h : ds[i]? = some d) : i < ds.length := by
  rcases Nat.lt_or_ge i ds.length with z | z
  · exact z
  · rw [List.getElem?_eq_none z] at h; cases h
theorem drop_of_get {α : Type} {ds : List α} {i : Nat} {d : α} (h : ds[i]? = some d) : ds.drop i = d :: ds.drop (i + 1) := by
  have hi := lt_of_get h
  rw [List.getElem?_eq_getElem hi] at h
  cases h
  exact List.drop_eq_getElem_cons hi
theorem forI_of {tg : Tg} {sb : RdS} {E : En} {ds : List D} {ρ : Ev} (h : forP tg sb E ds ρ) : forI tg sb E ds ρ := by
  refine ⟨fun i ρ' => forP tg sb E (ds.drop i) ρ', h, fun i d ρ' hd z => ?_, fun ρ' z => ?_⟩
  · dsimp only at z
    rw [drop_of_get hd] at z
    exact z
  · dsimp only at z
    rw [List.drop_length] at z
    exact z
/-- a comprehension, item by item -/
def mapP (tg : Tg) (rt : RdT) (re : Rd) (ρ : Ev) : List D → (List D → Prop) → Prop
  | [], Q => Q []
  | d :: ds, Q => tgD tg d ρ fun ρ2 => rt ρ2 fun k => ifB k (re ρ2 fun y => mapP tg rt re ρ ds fun ys => Q (y :: ys)) (mapP tg rt re ρ ds Q)
/-- a comprehension, by what holds of the items made so far -/
def mapI (tg : Tg) (rt : RdT) (re : Rd) (ρ : Ev) (ds : List D) (Q : List D → Prop) : Prop := ∃ J : Nat → List D → Prop, J 0 [] ∧ (∀ (i : Nat) (d : D) (acc : List D), ds[i]? = some d → J i acc → tgD tg d ρ fun ρ2 => rt ρ2 fun k => ifB k (re ρ2 fun y => J (i + 1) (acc ++ [y])) (J (i + 1) acc)) ∧ ∀ out, J ds.length out → Q out
theorem mapI_of {tg : Tg} {rt : RdT} {re : Rd} {ρ : Ev} {ds : List D} {Q : List D → Prop} (h : mapP tg rt re ρ ds Q) : mapI tg rt re ρ ds Q := by
  refine ⟨fun i acc => mapP tg rt re ρ (ds.drop i) fun zs => Q (acc ++ zs), h, fun i d acc hd z => ?_, fun out z => ?_⟩
  · dsimp only at z
    rw [drop_of_get hd] at z
    simp only [List.append_assoc, List.singleton_append]
    exact z
  · dsimp only at z
    rw [List.drop_length] at z
    have z2 : Q (out ++ []) := z
    rw [List.append_nil] at z2
    exact z2
section
variable {X : Cx} {B : Bs} {a b c e : Expr} {es : List Expr} {ra rb rc r : Rd} {rt ru : RdT} {rl : RdA} {pos : Pos} {st : Stmt} {rest : List Stmt} {s1 s2 : RdS}
theorem drop_cons {α : Type} {ds : List α} {i : Nat} (h : i < ds.length) : ds.drop i = ds[i] :: ds.drop (i + 1) := List.drop_eq_getElem_cons h
theorem s_for {iter tg : Expr} {t : Tg} {body : List Stmt} (hp : PassesOwn (model X.prog X.w) X.A X.env X.xe) (hc : X.calm = true) (hi : PIp X B tg iter rl) (hg : PG X tg (tgV X.K t)) (hb : PSsp X B body s1) (hs : ∀ x, foldedSetIterable iter X.env x = pure x := by intro _; rfl) :
    PSp X B (.For tg iter body [] pos) (fun ρ E => rl ρ fun ds => forI t s1 E ds ρ) :=
  ps_imp (ps_for hp hc hi hg hb hs) fun σ H Dd ⟨F, ρ, E, I, z, kn, kr, kb, kc⟩ => ⟨F, ρ, _, I, z, fun J F1 H1 ds g1 t1 ⟨G, Yd, w, hG, hY⟩ ⟨Iw, z1, zs, zf⟩ => by
    refine for_it w (fun i σ' H' => ∃ F' ρ', Same F1 F' ∧ Iv X.K B F' H' σ' ρ' ∧ Iw i ρ') ⟨F1, ρ, Same.refl _, I.step g1 t1, z1⟩ (fun i σ' H' _ ⟨F', ρ', s', I', _⟩ => hG F' H' s' I'.same) ?_ ?_
    · rintro i x σ' H' H'' hi ⟨F', ρ', s', I', z'⟩ hy
      have z' := zs i ds[i] ρ' (List.getElem?_eq_getElem hi) z'
      obtain ⟨F2, g2, r2⟩ := hY i F' H' x H'' ds[i] s' I'.same hy (List.getElem?_eq_getElem hi)
      have J2 := I'.step0 g2
      refine tg_run J2 r2 z' fun σ3 ρ3 I3 z3 => ⟨F2, ρ3, _, I3, z3, ?_, kr, ?_, ?_⟩
      · exact fun σ4 ρ4 F4 H4 s4 I4 z4 => ⟨F4, ρ4, (s'.trans g2.ff).trans s4, I4, z4⟩
      · exact fun σ4 ρ4 F4 H4 s4 I4 z4 => kn σ4 ρ4 F4 H4 (((g1.ff.trans s').trans g2.ff).trans s4) I4 z4
      · exact fun σ4 ρ4 F4 H4 s4 I4 z4 => ⟨F4, ρ4, (s'.trans g2.ff).trans s4, I4, z4⟩
    · rintro σ' H' ⟨F', ρ', s', I', z'⟩
      exact kn σ' ρ' F' H' (g1.ff.trans s') I' (zf ρ' z')⟩
/-! ### iterables -/
theorem i_lst {tg l : Expr} (hl : PE X l (tE X.K B r)) : PI X tg l (tI X.K B (fun ρ Q => r ρ fun d => match d with | .lst ds => Q ds | _ => False)) :=
  pi_imp (pi_list hl) fun σ H R ⟨F, ρ, Qd, I, z, k⟩ => ⟨F, ρ, _, I, z, fun v F1 H1 d g1 t1 r1 z1 => by
    split at z1
    · rename_i ds
      cases r1 with
      | @lst a vs _ h1 h2 =>
        refine ⟨a, rfl, ⟨vs, SqL.of (t1.1 _ _ h1)⟩, k _ F1 H1 ds g1 t1 ⟨_, _, by rw [← h2.len]; exact walk_list (K := X.K) (a := a) (xs := vs), fun F2 H2 s s' => SqL.of (s' _ _ (s _ _ h1)), ?_⟩ z1⟩
        rintro i F2 H2 x H2' d s s' ⟨rfl, hx⟩ hd
        obtain ⟨v, hv, hr⟩ := h2.get hd
        rw [hx] at hv
        cases hv
        exact ⟨F2, Go.refl s', hr.up s⟩
    · exact z1.elim⟩
theorem i_tup {tg l : Expr} (hl : PE X l (tE X.K B r)) : PI X tg l (tI X.K B (fun ρ Q => r ρ fun d => match d with | .tup ds => Q ds | _ => False)) :=
  pi_imp (pi_tup hl) fun σ H R ⟨F, ρ, Qd, I, z, k⟩ => ⟨F, ρ, _, I, z, fun v F1 H1 d g1 t1 r1 z1 => by
    split at z1
    · rename_i ds
      cases r1 with
      | @tup a vs _ h1 h2 =>
        refine ⟨a, rfl, ⟨vs, sqT t1.1 h1⟩, k _ F1 H1 ds g1 t1 ⟨_, _, by rw [← h2.len]; exact walk_tup (K := X.K) (a := a) (xs := vs), fun F2 H2 s s' => sqT s' (sqT s h1), ?_⟩ z1⟩
        rintro i F2 H2 x H2' d s s' ⟨rfl, hx⟩ hd
        obtain ⟨v, hv, hr⟩ := h2.get hd
        rw [hx] at hv
        cases hv
        exact ⟨F2, Go.refl s', hr.up s⟩
    · exact z1.elim⟩
/-- lo, lo + 1, .. -/
def rngD (lo : Int) (n : Nat) : List D := (List.range n).map fun i => .int (lo + (i : Nat))
theorem rng_sqs {K : Frg} {ms : List Addr} {F : Hp} {lo : Int} {n : Nat} : Sqs K ms F (Itr lo n) (rngD lo n) := by
  refine ⟨_, _, by rw [show (rngD lo n).length = n by simp [rngD]]; exact walk_range, fun _ _ _ _ => trivial, ?_⟩
  rintro i F2 H2 x H2' d s s' ⟨rfl, rfl⟩ hd
  have hi : i < n := by
    rcases Nat.lt_or_ge i n with z | z
    · exact z
    · rw [List.getElem?_eq_none (by simp [rngD]; exact z)] at hd; cases hd
  simp [rngD, hi] at hd
  subst hd
  exact ⟨F2, Go.refl s', .int _⟩
def rng1 (ds : List D) (Q : List D → Prop) : Prop := match ds with
  | [.int j] => -(2 ^ 62) ≤ j ∧ j < 2 ^ 62 ∧ Q (rngD 0 j.toNat)
  | _ => False
def rng2 (ds : List D) (Q : List D → Prop) : Prop := match ds with
  | [.int i, .int j] => (-(2 ^ 62) ≤ i ∧ i < 2 ^ 62 ∧ -(2 ^ 62) ≤ j ∧ j < 2 ^ 62) ∧ Q (rngD i (j - i).toNat)
  | _ => False
theorem i_rng1 {tg a : Expr} {p : Pos} (hg : Gl X "range") (hm : X.mg "range" = none) (ha : PAp X B [a] rl) (hs : starEach [a] X.env = [(false, eval a X.env)] := by rfl) : PIp X B tg (.Call (.Name "range" p) [a] [] pos) (fun ρ Q => rl ρ fun ds => rng1 ds Q) :=
  pi_imp (pi_range1 hg hm ha hs) fun σ H R ⟨F, ρ, Qd, I, z, k⟩ => ⟨F, ρ, _, I, z, fun vs F1 H1 ds g1 t1 r1 z1 => by
    unfold rng1 at z1
    split at z1
    · cases r1 with
      | cons r1 r2 =>
        cases r1
        cases r2
        exact ⟨_, rfl, z1.1, z1.2.1, k _ F1 H1 _ g1 t1 rng_sqs z1.2.2⟩
    · exact z1.elim⟩
theorem i_rng2 {tg a b : Expr} {p : Pos} (hg : Gl X "range") (hm : X.mg "range" = none) (ha : PAp X B [a, b] rl) (hs : starEach [a, b] X.env = [(false, eval a X.env), (false, eval b X.env)] := by rfl) (hs2 : starEach [b] X.env = [(false, eval b X.env)] := by rfl) :
    PIp X B tg (.Call (.Name "range" p) [a, b] [] pos) (fun ρ Q => rl ρ fun ds => rng2 ds Q) :=
  pi_imp (pi_range2 hg hm ha hs hs2) fun σ H R ⟨F, ρ, Qd, I, z, k⟩ => ⟨F, ρ, _, I, z, fun vs F1 H1 ds g1 t1 r1 z1 => by
    unfold rng2 at z1
    split at z1
    · cases r1 with
      | cons r1 r2 =>
        cases r1
        cases r2 with
        | cons r2 r3 =>
          cases r2
          cases r3
          exact ⟨_, _, rfl, z1.1, k _ F1 H1 _ g1 t1 rng_sqs z1.2⟩
    · exact z1.elim⟩
end
end Y
namespace Y
open PySem PySem.Spec PyProof.Rows L2 Z
/-! ### comprehensions -/
def Bs.nox (B : Bs) : Bs := { B with Ed := fun _ => False }
theorem Iv.nox {K : Frg} {B : Bs} {F H : Hp} {σ : L2.St} {ρ : Ev} (I : Iv K B F H σ ρ) : Iv K B.nox F H σ ρ := ⟨I.go, I.tp, I.len, I.val, I.own, I.sep⟩
theorem Tp.put {K : Frg} {ms : List Addr} {F H F1 H1 F2 H2 : Hp} {d : Addr} (h0 : Tp K ms F H) (hd : H d = none) (h : Tp K ms F1 H1) (g : Go [d] F1 H1 F2 H2) : Tp K ms F2 H2 := h.gox g fun m => h0.ne m hd
section
variable {X : Cx} {B : Bs} {a b c e : Expr} {es : List Expr} {ra rb rc r : Rd} {rt ru : RdT} {rl : RdA} {pos : Pos} {st : Stmt} {rest : List Stmt} {s1 s2 : RdS}
def rYes : RdT := fun _ Q => Q true
theorem c_nil : PTs X [] (tT X.K B rYes) := ⟨fun pins s σ H Q I ⟨F, ρ, Qd, J, z, k⟩ => (pts_nil (X := X)).run pins s σ H Q I (k true F H (Go.refl J.same) J.tp z)⟩
theorem c_one (h : PTp X B c rt) : PTs X [c] (tT X.K B rt) := pts_one h
theorem lc_of {K : Frg} {t : Tg} {wi : L2.TI} {vs : List Nat} {re : Rd} (hw : ∀ i ∈ t.slots, i ∈ vs) (h0 : ∀ σ H R, tI K B rl σ H R → wi σ H R) (σ : L2.St) (H : Hp) (Q : VK) (h : tE K B (fun ρ Q => rl ρ fun ds => ds.length ≤ 100000 ∧ mapI t rt re (wipeR ρ vs) ds fun ys => Q (.lst ys)) σ H Q) :
    tLcZ wi (tgV K t) (tT K B.nox rt) (tE K B.nox re) vs σ H Q := by
  obtain ⟨F, ρ, Qd, I, z, k⟩ := h
  refine h0 _ _ _ ⟨F, ρ, _, I, z, fun J F1 H1 ds g1 t1 ⟨G, Yd, w, hG, hY⟩ ⟨hn, Jw, z1, zs, zf⟩ => ?_⟩
  have I1 := (I.step g1 t1).nox.wipes vs
  refine lc_go w t1.1 (ms := B.ms) (fun t m => t1.ne m) (fun F H => Tp K B.ms F H) t1 (fun D F1 H1 F2 H2 hD h g => t1.put hD h g) (fun F2 H2 g _ => hG F2 H2 g.ff g.fh)
    (fun i acc F2 => ∃ ys, Rps K B.ms F2 acc ys ∧ Jw i ys) ⟨[], .nil, z1⟩ (fun i acc F2 F3 s ⟨ys, h1, h2⟩ => ⟨ys, h1.up s, h2⟩) hn ?_ ?_
  · rintro i x acc F2 H2 H2' hi hl ⟨ys, hys, zz⟩ g2 t2 hy Kp Sk kp sk
    have zz := zs i ds[i] ys (List.getElem?_eq_getElem hi) zz
    obtain ⟨F3, g3, r3⟩ := hY i F2 H2 x H2' ds[i] g2.ff g2.fh hy (List.getElem?_eq_getElem hi)
    have I2 := (I1.step g2 t2).step0 g3
    have t3 := t2.go0 g3
    have e : L2.wipe (L2.wipe σ vs) vs = L2.wipe σ vs := by
      apply List.ext_getElem?
      intro j
      rw [wipe_get, L2.wipe_length, wipe_get]
      by_cases hj : j ∈ vs
      · rw [if_pos hj, if_pos hj]
      · rw [if_neg hj]
    have q := tg_wipe (K := K) (v := x) (σ := L2.wipe σ vs) (H := H2') (Q := fun σ2 H2 => tT K B.nox rt σ2 H2 fun b H3 => if b = true then tE K B.nox re σ2 H3 Kp else Sk H3) hw (tg_run I2 r3 zz fun σ4 ρ4 I4 z4 => by
      refine ⟨F3, ρ4, _, I4, z4, fun b F5 H5 g5 t5 z5 => ?_⟩
      cases b with
      | false => exact sk F5 H5 (g3.nil.trans g5) t5 ⟨ys, (hys.up g3.ff).up g5.ff, ifB_f z5⟩
      | true => exact ⟨F5, ρ4, _, I4.step g5 t5, ifB_t z5, fun v F6 H6 d g6 t6 r6 z6 => kp v F6 H6 (g3.nil.trans (g5.trans g6)) t6 ⟨ys ++ [d], (((hys.up g3.ff).up g5.ff).up g6.ff).app (.one r6), z6⟩⟩)
    rw [e] at q
    exact q
  · rintro D ys F2 H2 g2 t2 hD _ ⟨zs', hz, zz⟩
    exact k _ F2 H2 _ (g1.trans g2) t2 (.lst hD hz) (zf _ zz)
theorem y_lc {elt tg iter : Expr} {ifs : List Expr} {scope : Scope} {own : List (Str × Nat)} {t : Tg} {re : Rd} (hc : X.calm = true) (hN : X.N.Nodup) (hi : PIp X B tg iter rl) (ok : BlkOk X.N X.env.scope scope own)
    (hg : ∀ (s : Shared) (H : Hp) (C : Addr) (cl : List (Str × Addr)) (fp : List Addr), PG (X.blk s H scope (compEnvC scope cl C X.env) fp) tg (tgV X.K t)) (ht : ∀ (s : Shared) (H : Hp) (C : Addr) (cl : List (Str × Addr)) (fp : List Addr), PTs (X.blk s H scope (compEnvC scope cl C X.env) fp) ifs (tT X.K B.nox rt))
    (he : ∀ (s : Shared) (H : Hp) (C : Addr) (cl : List (Str × Addr)) (fp : List Addr), PEp (X.blk s H scope (compEnvC scope cl C X.env) fp) B.nox elt re) (hw : ∀ i ∈ t.slots, i ∈ own.map (·.2) := by decide) (hs : ∀ x, foldedSetIterable iter X.env x = pure x := by intro _; rfl) :
    PEp X B (.ListComp elt [⟨tg, iter, ifs, 0⟩] scope pos) (fun ρ Q => rl ρ fun ds => ds.length ≤ 100000 ∧ mapI t rt re (wipeR ρ (own.map (·.2))) ds fun ys => Q (.lst ys)) :=
  pe_imp (pe_lcZ (pe_lc (te := tE X.K B.nox re) hc hN hi ok hg ht he hs)) (lc_of hw fun _ _ _ z => z)
theorem s_lc {i : Nat} {y : Str} {py : Pos} {elt tg iter : Expr} {ifs : List Expr} {scope : Scope} {own : List (Str × Nat)} {spos : Pos} {t : Tg} {re : Rd} (hc : X.calm = true) (hN : X.N.Nodup) (hy : X.N[i]? = some y) (hyl : X.env.scope.names.lookup y = some .local)
    (hsw : swapsWith (.ListComp elt [⟨tg, iter, ifs, 0⟩] scope pos) (some (.Name y py)) spos.line X.env = pure true) (hi : PIp X B tg iter rl) (ok : BlkOk X.N X.env.scope scope own)
    (hg : ∀ (s : Shared) (H : Hp) (C : Addr) (cl : List (Str × Addr)) (fp : List Addr), PG (X.blk s H scope (compEnvC scope cl C X.env) fp) tg (tgV X.K t)) (ht : ∀ (s : Shared) (H : Hp) (C : Addr) (cl : List (Str × Addr)) (fp : List Addr), PTs (X.blk s H scope (compEnvC scope cl C X.env) fp) ifs (tT X.K B.nox rt))
    (he : ∀ (s : Shared) (H : Hp) (C : Addr) (cl : List (Str × Addr)) (fp : List Addr), PEp (X.blk s H scope (compEnvC scope cl C X.env) fp) B.nox elt re) (hw : ∀ i ∈ t.slots, i ∈ own.map (·.2) := by decide) (hs : ∀ x, foldedSetIterable iter X.env x = pure x := by intro _; rfl) :
    PSp X B (.Assign [.Name y py] (.ListComp elt [⟨tg, iter, ifs, 0⟩] scope pos) spos) (fun ρ E => rl ρ fun ds => ds.length ≤ 100000 ∧ mapI t rt re (wipeR ρ (own.map (·.2))) ds fun ys => E.nx (ρ.set i (.val (.lst ys)))) :=
  ps_imp (ps_lcZ (ps_setLc (te := tE X.K B.nox re) hc hN hy hyl hsw hi ok hg ht he hs)) (asg_of (tg := .nm i) (lc_of hw fun _ _ _ z => z))
end
/-! ### defs -/
abbrev RdF := List D → (D → Prop) → (Ex → Prop) → Prop
def spP (K : Frg) (R : RdF) : Sp := fun vs H Q E => ∃ ms F ds Qd Ed, Tp K ms F H ∧ Rps K ms F vs ds ∧ R ds Qd Ed ∧ (∀ v F' H' d, Go ms F H F' H' → Tp K ms F' H' → Rp K ms F' v d → Qd d → Q v H') ∧
  (∀ cls d F' H' x, Go ms F H F' H' → Tp K ms F' H' → XR K ms F' cls d x → Ed x → E cls d H')
def EE (K : Frg) (B : Bs) : XK := fun cls d H' => ∃ F' x, Go B.ms B.F0 B.H0 F' H' ∧ Tp K B.ms F' H' ∧ XR K B.ms F' cls d x ∧ B.Ed x
abbrev Px (X : Cx) (B : Bs) : Prop := Passes (L2.CX X.prog X.w) X (EE X.K B)
theorem px_nox {X : Cx} {B : Bs} : Px X B.nox := fun pins σ H s e s' I ⟨_, _, _, _, _, _, _, _, _, _, _, _, F', x, _, _, _, z⟩ => z.elim
def ar0 (P : (D → Prop) → (Ex → Prop) → Prop) : RdF := fun ds Q E => match ds with | [] => P Q E | _ => False
def ar1 (P : D → (D → Prop) → (Ex → Prop) → Prop) : RdF := fun ds Q E => match ds with | [a] => P a Q E | _ => False
def ar2 (P : D → D → (D → Prop) → (Ex → Prop) → Prop) : RdF := fun ds Q E => match ds with | [a, b] => P a b Q E | _ => False
def ar3 (P : D → D → D → (D → Prop) → (Ex → Prop) → Prop) : RdF := fun ds Q E => match ds with | [a, b, c] => P a b c Q E | _ => False
def ar4 (P : D → D → D → D → (D → Prop) → (Ex → Prop) → Prop) : RdF := fun ds Q E => match ds with | [a, b, c, d] => P a b c d Q E | _ => False
def ar5 (P : D → D → D → D → D → (D → Prop) → (Ex → Prop) → Prop) : RdF := fun ds Q E => match ds with | [a, b, c, d, e] => P a b c d e Q E | _ => False
theorem arl0 {P} : ∀ ds Q E, ar0 P ds Q E → ds.length = 0 := fun ds Q E h => by unfold ar0 at h; split at h; rfl; exact h.elim
theorem arl1 {P} : ∀ ds Q E, ar1 P ds Q E → ds.length = 1 := fun ds Q E h => by unfold ar1 at h; split at h; rfl; exact h.elim
theorem arl2 {P} : ∀ ds Q E, ar2 P ds Q E → ds.length = 2 := fun ds Q E h => by unfold ar2 at h; split at h; rfl; exact h.elim
theorem arl3 {P} : ∀ ds Q E, ar3 P ds Q E → ds.length = 3 := fun ds Q E h => by unfold ar3 at h; split at h; rfl; exact h.elim
theorem arl4 {P} : ∀ ds Q E, ar4 P ds Q E → ds.length = 4 := fun ds Q E h => by unfold ar4 at h; split at h; rfl; exact h.elim
theorem arl5 {P} : ∀ ds Q E, ar5 P ds Q E → ds.length = 5 := fun ds Q E h => by unfold ar5 at h; split at h; rfl; exact h.elim
section
variable {P : Program} {w : World} {K : Frg} {mg : Str → Option Value} {base : Heap}
def startE (n : Nat) (ds : List D) : Ev := ds.map Sl.val ++ List.replicate (n - ds.length) .no
theorem iv_start {B : Bs} {N : List Str} {vs : List V} {ds : List D} (t : Tp K B.ms B.F0 B.H0) (r : Rps K B.ms B.F0 vs ds) : Iv K B B.F0 B.H0 (L2.start N vs) (startE N.length ds) where
  go := Go.refl t.1
  tp := t
  len := by simp [L2.start, startE, r.len]
  val := fun i d h => by
    unfold startE at h
    have hi : i < ds.length := by
      rcases Nat.lt_or_ge i ds.length with z | z
      · exact z
      · rw [List.getElem?_append_right (by simpa using z), List.getElem?_replicate] at h
        split at h <;> cases h
    rw [List.getElem?_append_left (by simpa using hi), List.getElem?_map] at h
    have hd : ds[i]? = some d := by
      rw [List.getElem?_eq_getElem hi] at h ⊢
      simpa using h
    obtain ⟨v, h1, h2⟩ := r.get hd
    refine ⟨v, ?_, h2⟩
    unfold L2.start
    rw [List.getElem?_append_left (by simp [r.len]; exact hi), List.getElem?_map, h1]
    rfl
  own := fun i m h => by
    unfold startE at h
    rcases Nat.lt_or_ge i ds.length with z | z
    · rw [List.getElem?_append_left (by simpa using z), List.getElem?_map, List.getElem?_eq_getElem z] at h
      cases h
    · rw [List.getElem?_append_right (by simpa using z), List.getElem?_replicate] at h
      split at h <;> cases h
  sep := fun i j m n a _ h _ _ => by
    exfalso
    unfold startE at h
    rcases Nat.lt_or_ge i ds.length with z | z
    · rw [List.getElem?_append_left (by simpa using z), List.getElem?_map, List.getElem?_eq_getElem z] at h
      cases h
    · rw [List.getElem?_append_right (by simpa using z), List.getElem?_replicate] at h
      split at h <;> cases h
theorem px_of {N : List Str} {qual : Str} {scope : Scope} {f : Addr} {cdv : Value} {A : Around} {outer : List Env} {s : Shared} {H : Hp} {E : XK} {B : Bs} (h : ∀ cls d H', EE K B cls d H' → E cls d H') : Px (cxOf (L2.CX P w) P w K mg base N qual scope f cdv A outer s H E) B := by
  have tk : Takes (cxOf (L2.CX P w) P w K mg base N qual scope f cdv A outer s H E) (fun cls d _ H => E cls d H) := takes_of rfl rfl rfl rfl
  exact passes_call tk fun cls d σ H z => h cls d H z
theorem po_of {N : List Str} {qual : Str} {scope : Scope} {f : Addr} {cdv : Value} {A : Around} {outer : List Env} {s : Shared} {H : Hp} {E : XK} :
    PassesOwn (model P w) (cxOf (L2.CX P w) P w K mg base N qual scope f cdv A outer s H E).A (cxOf (L2.CX P w) P w K mg base N qual scope f cdv A outer s H E).env (cxOf (L2.CX P w) P w K mg base N qual scope f cdv A outer s H E).xe := passes_of rfl
/-- a def by its body -/
theorem y_fn {x qual : Str} {st : Stmt} {f : Addr} {N ps : List Str} {k : Nat} {R : RdF} (F : DefAt K x qual st f) (S : FnScope N ps (defScope st)) (len : ∀ ds Q E, R ds Q E → ds.length = ps.length)
    (hb : ∀ (kV doc pm : Value) (an : Option Addr) (cdv ct : Value) (us : List Value), us.length = ps.length → bindArgs (PySem.W.fnOf x qual (defArgs st) (defBody st) (defScope st) .none kV doc pm an cdv ct) ⟨us, []⟩ = pure (ps.zip us))
    (hbody : ∀ (cdv : Value) (A : Around) (outer : List Env) (s : Shared) (H : Hp) (E : XK) (B : Bs), Same B.F0 B.H0 → RoomG k (A.deeper (envOfC qual (defScope st) s.heap.objs.size f cdv)) → Px (cxOf (L2.CX P w) P w K mg base N qual (defScope st) f cdv A outer s H E) B →
      PassesOwn (model P w) (cxOf (L2.CX P w) P w K mg base N qual (defScope st) f cdv A outer s H E).A (cxOf (L2.CX P w) P w K mg base N qual (defScope st) f cdv A outer s H E).env (cxOf (L2.CX P w) P w K mg base N qual (defScope st) f cdv A outer s H E).xe →
      ∃ r, PSsp (cxOf (L2.CX P w) P w K mg base N qual (defScope st) f cdv A outer s H E) B (defBody st) r ∧ ∀ ds Q, R ds Q B.Ed → r (startE N.length ds) { nx := fun _ => Q .non, rt := Q }) : FnG P w K mg base (L2.CX P w) (k + 1) f (spP K R) := by
  refine zfnG F S (fun vs H Q E ⟨ms, F, ds, Qd, Ed, _, r, h, _⟩ => by rw [r.len]; exact len _ _ _ h) hb fun cdv A outer s H vs Q E hr h => ?_
  obtain ⟨ms, F, ds, Qd, Ed, t, r, h, kq, ke⟩ := h
  obtain ⟨rr, h1, h2⟩ := hbody cdv A outer s H E ⟨ms, F, H, Ed⟩ t.1 hr (px_of fun cls d H' ⟨F', x, g, t', xr, z⟩ => ke cls d F' H' x g t' xr z) po_of
  refine ⟨_, h1, F, _, _, iv_start (B := ⟨ms, F, H, Ed⟩) t r, h2 ds Qd h, ?_, ?_, ?_, ?_⟩
  · intro σ' ρ' F' H' _ I' z
    exact kq .non F' H' .non I'.go I'.tp .non z
  · intro v d F' H' g t' r' z
    exact kq v F' H' d g t' r' z
  · intro _ _ _ _ _ _ z; exact z
  · intro _ _ _ _ _ _ z; exact z
end
/-! ### calls -/
section
variable {X : Cx} {B : Bs} {a b c e o : Expr} {es : List Expr} {ra rb rc r ro : Rd} {rt ru : RdT} {rl : RdA} {pos p0 apos : Pos} {R : RdF} {k : Nat} {f C g p : Addr} {x m : Str}
theorem sp_call {K : Frg} {F H F1 H1 : Hp} {σ : L2.St} {ρ : Ev} {vs : List V} {ds : List D} {Qd : D → Prop} {Q : VK} (I : Iv K B F H σ ρ) (kk : ∀ v F' H' d, Go B.ms F H F' H' → Tp K B.ms F' H' → Rp K B.ms F' v d → Qd d → Q v H') (g1 : Go B.ms F H F1 H1) (t1 : Tp K B.ms F1 H1) (r1 : Rps K B.ms F1 vs ds) (h : R ds Qd B.Ed) : spP K R vs H1 Q (EE K B) :=
  ⟨B.ms, F1, ds, Qd, B.Ed, t1, r1, h, fun v F2 H2 d g2 t2 r2 q2 => kk v F2 H2 d (g1.trans g2) t2 r2 q2, fun cls d F2 H2 x g2 t2 xr q => ⟨F2, x, (I.go.trans g1).trans g2, t2, xr, q⟩⟩
theorem y_call (F : FnG X.prog X.w X.K X.mg X.base (L2.CX X.prog X.w) k f (spP X.K R)) (hr : RoomG k X.A) (hg : Gl X x) (hm : X.mg x = some (.ref f)) (hk : PySem.W.keepIn X.K (.ref f) = true) (hx : Px X B)
    (ha : PAp X B (e :: es) rl) (hdb : (x == ("__debug__" : Str)) = false := by decide) (he : starEach (e :: es) X.env = (false, eval e X.env) :: starEach es X.env := by rfl) (hpl : (backTo pos (starEach es X.env)).any (·.1) = false := by rfl) :
    PEp X B (.Call (.Name x p0) (e :: es) [] pos) (fun ρ Q => rl ρ fun ds => R ds Q B.Ed) :=
  pe_imp (gcall (F.at hr) hg hm hk hx ha hdb he hpl) fun σ H Q ⟨F, ρ, Qd, I, z, k⟩ => ⟨F, ρ, _, I, z, fun vs F1 H1 ds g1 t1 r1 z1 => sp_call I k g1 t1 r1 z1⟩
theorem y_call0 (F : FnG X.prog X.w X.K X.mg X.base (L2.CX X.prog X.w) k f (spP X.K R)) (hr : RoomG k X.A) (hg : Gl X x) (hm : X.mg x = some (.ref f)) (hk : PySem.W.keepIn X.K (.ref f) = true) (hx : Px X B) (hdb : (x == ("__debug__" : Str)) = false := by decide) :
    PEp X B (.Call (.Name x p0) [] [] pos) (fun ρ Q => R [] Q B.Ed) :=
  pe_imp (gcall0 (F.at hr) hg hm hk hx hdb) fun σ H Q ⟨F, ρ, Qd, I, z, k⟩ => sp_call (vs := []) (ds := []) I k (Go.refl I.same) I.tp .nil z
/-- an object of the classes cs with the fields ns -/
def asO (cs : List Str) (ns : List Str) (o : D) (k : Prop) : Prop := match o with
  | .obj c n _ => c ∈ cs ∧ n = ns ∧ k
  | _ => False
theorem look_none : ∀ {ns : List Str} {vs : List V} {m : Str}, (ns.all fun y => !(m == y)) = true → (ns.zip vs).lookup m = none
  | [], _, _, _ => rfl
  | _ :: _, [], _, _ => rfl
  | n :: ns, v :: vs, m, h => by
    rw [List.all_cons, Bool.and_eq_true] at h
    have h1 : (m == n) = false := by simpa using h.1
    rw [List.zip_cons_cons, List.lookup_cons, h1]
    exact look_none h.2
theorem y_meth {cs ns : List Str} {pl : Sem Bool} (ho : PEp X B o ro) (hc : ∀ c ∈ cs, Cls X.K (He.ga X.K c) ∧ Meth X.K (He.ga X.K c) m f) (F : FnG X.prog X.w X.K X.mg X.base (L2.CX X.prog X.w) k f (spP X.K R)) (hr : RoomG k X.A) (hx : Px X B) (ha : PAp X B (e :: es) rl)
    (hn : (ns.all fun y => !(m == y)) = true := by decide +kernel)
    (hst : starEach (e :: es) X.env = (false, eval e X.env) :: starEach es X.env := by rfl) (hpl : (backTo pos (starEach es X.env)).any (·.1) = false := by rfl)
    (ht : eval (.Call (.Attribute o m apos) (e :: es) [] pos) X.env = (do
      let ov ← eval o X.env
      standAt apos.atName
      let (f, first) ← holding [ov] (getMethod ov m pl)
      callWith pos f first (backTo pos (starEach (e :: es) X.env)) (backToKw pos (keywordEach [] X.env))) := by rfl) :
    PEp X B (.Call (.Attribute o m apos) (e :: es) [] pos) (fun ρ Q => ro ρ fun d => asO cs ns d (rl ρ fun ds => R (d :: ds) Q B.Ed)) := by
  refine ⟨fun pins s σ H Q I h => ?_⟩
  obtain ⟨F0, ρ, Qd, J, z, kk⟩ := h
  refine PySem.W.methodCall_KW (pl := pl) (thn (ho.run pins s σ H (fun v H1 => ∃ F1 d, Go B.ms F0 H F1 H1 ∧ Tp X.K B.ms F1 H1 ∧ Rp X.K B.ms F1 v d ∧ asO cs ns d (rl ρ fun ds => R (d :: ds) Qd B.Ed)) I ⟨F0, ρ, _, J, z, fun v F1 H1 d g1 t1 r1 z1 => ⟨F1, d, g1, t1, r1, z1⟩⟩) fun u s1 ⟨v, H1, I1, rx, F1, d, g1, t1, r1, z1⟩ => ?_) ht
  unfold asO at z1
  split at z1
  · obtain ⟨hcs, rfl, z2⟩ := z1
    cases r1 with
    | @obj a dx _ _ vs ds h1 h2 h3 =>
      obtain rfl : u = Value.ref a := rx
      obtain ⟨c1, m1⟩ := hc _ hcs
      refine getmeth_ok I1 (t1.1 _ _ h1) c1 m1 (look_none hn) ?_
      refine PySem.W.callWith_K (first := [.ref a]) (h₀ := X.base) I.ok.mod.kin m1.kp (thn (ha.run pos pins s1 σ H1 (fun vs H2 => ∃ F2 ds', Go B.ms F1 H1 F2 H2 ∧ Tp X.K B.ms F2 H2 ∧ Rps X.K B.ms F2 vs ds' ∧ R (_ :: ds') Qd B.Ed) I1 ⟨F1, ρ, _, J.step g1 t1, z2, fun vs F2 H2 ds g2 t2 r2 z3 => ⟨F2, ds, g2, t2, r2, z3⟩⟩) fun us s2 ⟨vs', H2, I2, rv, F2, ds', g2, t2, r2, z3⟩ => ⟨I2.kIn, ?_⟩) hst hpl
      exact wpAny_call (run_fnA (us := .ref a :: us) (vs := .ref a :: vs') (F.at hr) hx I2 (.cons rfl rv) (sp_call (vs := .ref a :: vs') J kk (g1.trans g2) t2 (.cons (.obj (g2.ff _ _ h1) h2 (h3.up g2.ff)) r2) z3))
  · exact z1.elim
theorem y_meth0 {cs ns : List Str} {pl : Sem Bool} (ho : PEp X B o ro) (hc : ∀ c ∈ cs, Cls X.K (He.ga X.K c) ∧ Meth X.K (He.ga X.K c) m f) (F : FnG X.prog X.w X.K X.mg X.base (L2.CX X.prog X.w) k f (spP X.K R)) (hr : RoomG k X.A) (hx : Px X B)
    (hn : (ns.all fun y => !(m == y)) = true := by decide +kernel)
    (ht : eval (.Call (.Attribute o m apos) [] [] pos) X.env = (do
      let ov ← eval o X.env
      standAt apos.atName
      let (f, first) ← holding [ov] (getMethod ov m pl)
      callWith pos f first (backTo pos (starEach [] X.env)) (backToKw pos (keywordEach [] X.env))) := by rfl) :
    PEp X B (.Call (.Attribute o m apos) [] [] pos) (fun ρ Q => ro ρ fun d => asO cs ns d (R [d] Q B.Ed)) := by
  refine ⟨fun pins s σ H Q I h => ?_⟩
  obtain ⟨F0, ρ, Qd, J, z, kk⟩ := h
  refine PySem.W.methodCall_KW (pl := pl) (thn (ho.run pins s σ H (fun v H1 => ∃ F1 d, Go B.ms F0 H F1 H1 ∧ Tp X.K B.ms F1 H1 ∧ Rp X.K B.ms F1 v d ∧ asO cs ns d (R [d] Qd B.Ed)) I ⟨F0, ρ, _, J, z, fun v F1 H1 d g1 t1 r1 z1 => ⟨F1, d, g1, t1, r1, z1⟩⟩) fun u s1 ⟨v, H1, I1, rx, F1, d, g1, t1, r1, z1⟩ => ?_) ht
  unfold asO at z1
  split at z1
  · obtain ⟨hcs, rfl, z2⟩ := z1
    cases r1 with
    | @obj a dx _ _ vs ds h1 h2 h3 =>
      obtain rfl : u = Value.ref a := rx
      obtain ⟨c1, m1⟩ := hc _ hcs
      refine getmeth_ok I1 (t1.1 _ _ h1) c1 m1 (look_none hn) ?_
      exact PySem.W.callWith_K0 (first := [.ref a]) I1.kIn m1.kp (wpAny_call (run_fnA (us := [.ref a]) (vs := [.ref a]) (F.at hr) hx I1 (.cons rfl .nil) (sp_call (vs := [.ref a]) J kk g1 t1 (.cons (.obj h1 h2 h3) .nil) z2)))
  · exact z1.elim
end
end Y
namespace Y
open PySem PySem.Spec PyProof.Rows L2 Z
section
variable {X : Cx} {B : Bs} {K : Frg} {ms : List Addr}
theorem line_ge : 100000 ≤ sizeLine := by decide
/-! ### + - * // % ** -/
def dAdd (x y : D) (Q : D → Prop) : Prop := match x, y with
  | .int i, .int j => Q (.int (i + j))
  | .str s, .str t => s.length + t.length ≤ 100000 ∧ Q (.str (s ++ t))
  | .lst xs, .lst ys => xs.length + ys.length ≤ 100000 ∧ Q (.lst (xs ++ ys))
  | .tup xs, .tup ys => xs ≠ [] ∧ ys ≠ [] ∧ xs.length + ys.length ≤ 100000 ∧ Q (.tup (xs ++ ys))
  | _, _ => False
theorem op_addY : OpR X (binaryOp .Add) (fun x y H Q => rI0 (fun i j => .int (i + j)) x y H Q ∨ (∃ i j, x = .str i ∧ y = .str j ∧ i.length + j.length ≤ sizeLine ∧ Q (.str (i ++ j)) H) ∨ rCatZ x y H Q ∨ rCatT X.K x y H Q) := op_add.or (op_add_str.or (op_catZ.or op_catT))
theorem addL : OpL K ms (fun x y H Q => rI0 (fun i j => .int (i + j)) x y H Q ∨ (∃ i j, x = .str i ∧ y = .str j ∧ i.length + j.length ≤ sizeLine ∧ Q (.str (i ++ j)) H) ∨ rCatZ x y H Q ∨ rCatT K x y H Q) dAdd := by
  intro F H x y dx dy Qd Q hs rx ry h k
  unfold dAdd at h
  split at h
  · cases rx; cases ry
    exact .inl ⟨_, _, rfl, rfl, k _ F H _ (Go.refl hs) (.int _) h⟩
  · cases rx; cases ry
    exact .inr (.inl ⟨_, _, rfl, rfl, Nat.le_trans h.1 line_ge, k _ F H _ (Go.refl hs) (.str _) h.2⟩)
  · cases rx with
    | lst h1 h2 =>
      cases ry with
      | lst h3 h4 =>
        refine .inr (.inr (.inl ⟨_, _, _, _, rfl, rfl, hs _ _ h1, hs _ _ h3, by rw [h2.len, h4.len]; exact Nat.le_trans h.1 line_ge, fun p H2 hp e2 => ?_⟩))
        obtain ⟨F2, g2, q2, _⟩ := newE hs hp e2
        exact k _ F2 H2 _ g2 (.lst q2 ((h2.app h4).up g2.ff)) h.2
  · cases rx with
    | tup h1 h2 =>
      cases ry with
      | tup h3 h4 =>
        obtain ⟨n1, n2, n3, h⟩ := h
        have m1 := h2.len
        have m2 := h4.len
        refine .inr (.inr (.inr ⟨_, _, _, _, rfl, rfl, sqT hs h1, sqT hs h3, fun e => n1 ?_, by rw [m1, m2]; exact Nat.le_trans n3 line_ge, fun e => (n2 ?_).elim, fun _ p hp => ?_⟩))
        · rw [e] at m1; exact List.length_eq_zero_iff.mp m1.symm
        · rw [e] at m2; exact List.length_eq_zero_iff.mp m2.symm
        · obtain ⟨F2, g2, q2, _⟩ := newE hs hp rfl
          exact k _ F2 _ _ g2 (.tup (SqT.of q2) ((h2.app h4).up g2.ff)) h
  · exact h.elim
def dSub (x y : D) (Q : D → Prop) : Prop := match x, y with
  | .int i, .int j => Q (.int (i - j))
  | _, _ => False
theorem subL : OpL K ms (rI0 fun i j => .int (i - j)) dSub := by
  intro F H x y dx dy Qd Q hs rx ry h k
  unfold dSub at h
  split at h
  · cases rx; cases ry
    exact ⟨_, _, rfl, rfl, k _ F H _ (Go.refl hs) (.int _) h⟩
  · exact h.elim
def dMul (x y : D) (Q : D → Prop) : Prop := match x, y with
  | .int i, .int j => (Sz 5000 i ∧ Sz 5000 j) ∧ Q (.int (i * j))
  | .lst xs, .int n => (-(2 ^ 62) ≤ n ∧ n < 2 ^ 62 ∧ xs.length * n.toNat ≤ 100000) ∧ Q (.lst (List.replicate n.toNat xs).flatten)
  | _, _ => False
theorem op_repZ : OpR X (binaryOp .Mult) rRepZ := op_imp op_rep fun _ _ _ _ ⟨l, k, xs, e1, e2, h, h1, h2, hz, n⟩ => ⟨l, k, xs, e1, e2, h, h1, h2, hz, n.run⟩
theorem mulL : OpL K ms (fun x y H Q => rI CMulW (fun i j => .int (i * j)) x y H Q ∨ rRepZ x y H Q) dMul := by
  intro F H x y dx dy Qd Q hs rx ry h k
  unfold dMul at h
  split at h
  · cases rx; cases ry
    exact .inl ⟨_, _, rfl, rfl, mulOk h.1.1 h.1.2, k _ F H _ (Go.refl hs) (.int _) h.2⟩
  · cases rx with
    | lst h1 h2 =>
      cases ry
      obtain ⟨⟨a1, a2, a3⟩, h⟩ := h
      refine .inr ⟨_, _, _, rfl, rfl, hs _ _ h1, by omega, by omega, by rw [h2.len]; exact Nat.le_trans a3 line_ge, fun p H2 hp e2 => ?_⟩
      obtain ⟨F2, g2, q2, _⟩ := newE hs hp e2
      exact k _ F2 H2 _ g2 (.lst q2 ((h2.flat _).up g2.ff)) h
  · exact h.elim
/-- // and % by what is above 0 -/
def dDiv (x y : D) (Q : D → Prop) : Prop := match x, y with
  | .int i, .int j => (0 < j ∧ Sz 5000 j) ∧ Q (.int (i / j))
  | _, _ => False
theorem divL : OpL K ms (rI CDivW fun i j => .int (i / j)) dDiv := by
  intro F H x y dx dy Qd Q hs rx ry h k
  unfold dDiv at h
  split at h
  · cases rx; cases ry
    exact ⟨_, _, rfl, rfl, divOk h.1.1 h.1.2, k _ F H _ (Go.refl hs) (.int _) h.2⟩
  · exact h.elim
def dMod (x y : D) (Q : D → Prop) : Prop := match x, y with
  | .int i, .int j => 0 < j ∧ Q (.int (i % j))
  | _, _ => False
theorem modL : OpL K ms (rI (fun _ j => 0 < j) fun i j => .int (i % j)) dMod := by
  intro F H x y dx dy Qd Q hs rx ry h k
  unfold dMod at h
  split at h
  · cases rx; cases ry
    exact ⟨_, _, rfl, rfl, h.1, k _ F H _ (Go.refl hs) (.int _) h.2⟩
  · exact h.elim
/-- // by what is not 0 -/
def dDivZ (x y : D) (Q : D → Prop) : Prop := match x, y with
  | .int i, .int j => (j ≠ 0 ∧ Sz 8000 j) ∧ Q (.int (i.fdiv j))
  | _, _ => False
theorem divZL : OpL K ms (rI CDivZ fun i j => .int (i.fdiv j)) dDivZ := by
  intro F H x y dx dy Qd Q hs rx ry h k
  unfold dDivZ at h
  split at h
  · cases rx; cases ry
    exact ⟨_, _, rfl, rfl, ⟨h.1.1, szLog h.1.2⟩, k _ F H _ (Go.refl hs) (.int _) h.2⟩
  · exact h.elim
def dPow (x y : D) (Q : D → Prop) : Prop := match x, y with
  | .int i, .int j => (0 ≤ j ∧ j ≤ 1000 ∧ i.natAbs < 18446744073709551616) ∧ Q (.int (i ^ j.toNat))
  | _, _ => False
theorem powL : OpL K ms (rI CPow fun i j => .int (i ^ j.toNat)) dPow := by
  intro F H x y dx dy Qd Q hs rx ry h k
  unfold dPow at h
  split at h
  · cases rx; cases ry
    exact ⟨_, _, rfl, rfl, ⟨h.1.1, by omega, by have := h.1.2.2; omega⟩, k _ F H _ (Go.refl hs) (.int _) h.2⟩
  · exact h.elim
def dNeg (x : D) (Q : D → Prop) : Prop := match x with
  | .int i => Q (.int (-i))
  | _ => False
theorem negL : UnL K ms (rU fun i => .int (-i)) dNeg := by
  intro F H x dx Qd Q hs rx h k
  unfold dNeg at h
  split at h
  · cases rx
    exact ⟨_, rfl, k _ F H _ (Go.refl hs) (.int _) h⟩
  · exact h.elim
/-! ### < <= > >= == != is in -/
def dCmp (f : Int → Int → Bool) (x y : D) (Q : D → Prop) : Prop := match x, y with
  | .int i, .int j => Q (.bl (f i j))
  | _, _ => False
theorem cmpL {f : Int → Int → Bool} : OpL K ms (rI0 fun i j => .bl (f i j)) (dCmp f) := by
  intro F H x y dx dy Qd Q hs rx ry h k
  unfold dCmp at h
  split at h
  · cases rx; cases ry
    exact ⟨_, _, rfl, rfl, k _ F H _ (Go.refl hs) (.bl _) h⟩
  · exact h.elim
def dEq (x y : D) (Q : D → Prop) : Prop := match x, y with
  | .int i, .int j => Q (.bl (decide (i = j)))
  | .str i, .str j => Q (.bl (decide (i = j)))
  | .bl i, .bl j => Q (.bl (decide (i = j)))
  | _, _ => (okD 8 x = true ∧ okD 8 y = true) ∧ Q (.bl (eqD x y))
def dNe (x y : D) (Q : D → Prop) : Prop := match x, y with
  | .int i, .int j => Q (.bl (!decide (i = j)))
  | .str i, .str j => Q (.bl (!decide (i = j)))
  | .bl i, .bl j => Q (.bl (!decide (i = j)))
  | _, _ => (okD 8 x = true ∧ okD 8 y = true) ∧ Q (.bl (!eqD x y))
theorem shaped_of {n : Nat} {e : PyData} (h1 : e.canLay0 = true) (h2 : e.depth ≤ n) (hn : n ≤ 64) : SeqAt.shaped e = true := by
  unfold SeqAt.shaped
  rw [h1, Bool.true_and]
  exact decide_eq_true (by omega)
theorem eqL : OpL K ms (fun x y H Q => rEq x y H Q ∨ rEqD K x y H Q) dEq := by
  intro F H x y dx dy Qd Q hs rx ry h k
  unfold dEq at h
  split at h
  · cases rx; cases ry
    refine .inl ⟨rfl, k _ F H _ (Go.refl hs) (.bl _) ?_⟩
    simpa using h
  · cases rx; cases ry
    refine .inl ⟨rfl, k _ F H _ (Go.refl hs) (.bl _) ?_⟩
    simpa using h
  · cases rx; cases ry
    refine .inl ⟨rfl, k _ F H _ (Go.refl hs) (.bl _) ?_⟩
    simpa using h
  · obtain ⟨⟨h1, h2⟩, h⟩ := h
    obtain ⟨e1, a1, a2, a3⟩ := okD_pd 8 _ h1
    obtain ⟨e2, b1, b2, b3⟩ := okD_pd 8 _ h2
    refine .inr ⟨e1, e2, dp_mono hs _ _ (dp_of _ _ _ a1 rx), dp_mono hs _ _ (dp_of _ _ _ b1 ry), shaped_of a2 a3 (by decide), shaped_of b2 b3 (by decide), k _ F H _ (Go.refl hs) (.bl _) ?_⟩
    rw [← eqD_pd _ _ _ _ a1 b1]
    exact h
theorem neL : OpL K ms (fun x y H Q => rNe x y H Q ∨ rNeD K x y H Q) dNe := by
  intro F H x y dx dy Qd Q hs rx ry h k
  unfold dNe at h
  split at h
  · cases rx; cases ry
    refine .inl ⟨rfl, k _ F H _ (Go.refl hs) (.bl _) ?_⟩
    simpa using h
  · cases rx; cases ry
    refine .inl ⟨rfl, k _ F H _ (Go.refl hs) (.bl _) ?_⟩
    simpa using h
  · cases rx; cases ry
    refine .inl ⟨rfl, k _ F H _ (Go.refl hs) (.bl _) ?_⟩
    simpa using h
  · obtain ⟨⟨h1, h2⟩, h⟩ := h
    obtain ⟨e1, a1, a2, a3⟩ := okD_pd 8 _ h1
    obtain ⟨e2, b1, b2, b3⟩ := okD_pd 8 _ h2
    refine .inr ⟨e1, e2, dp_mono hs _ _ (dp_of _ _ _ a1 rx), dp_mono hs _ _ (dp_of _ _ _ b1 ry), shaped_of a2 a3 (by decide), shaped_of b2 b3 (by decide), k _ F H _ (Go.refl hs) (.bl _) ?_⟩
    rw [← eqD_pd _ _ _ _ a1 b1]
    exact h
def isNon : D → Bool
  | .non => true
  | _ => false
theorem non_of {F : Hp} {x : V} {d : D} (r : Rp K ms F x d) : decide (x = V.non) = isNon d := by
  cases r <;> simp [isNon]
def dIsN (x y : D) (Q : D → Prop) : Prop := match y with
  | .non => Q (.bl (isNon x))
  | _ => False
def dNotN (x y : D) (Q : D → Prop) : Prop := match y with
  | .non => Q (.bl (!isNon x))
  | _ => False
theorem isNL : OpL K ms (fun x y H Q => y = .non ∧ Q (.bl (decide (x = .non))) H) dIsN := by
  intro F H x y dx dy Qd Q hs rx ry h k
  unfold dIsN at h
  split at h
  · cases ry
    exact ⟨rfl, by rw [non_of rx]; exact k _ F H _ (Go.refl hs) (.bl _) h⟩
  · exact h.elim
theorem notNL : OpL K ms (fun x y H Q => y = .non ∧ Q (.bl (!decide (x = .non))) H) dNotN := by
  intro F H x y dx dy Qd Q hs rx ry h k
  unfold dNotN at h
  split at h
  · cases ry
    exact ⟨rfl, by rw [non_of rx]; exact k _ F H _ (Go.refl hs) (.bl _) h⟩
  · exact h.elim
/-- x in a list of data, in a tuple of flat data, in a text -/
def flatD : D → Bool
  | .non | .bl _ | .int _ | .str _ => true
  | _ => false
def anyD (x : D) (ds : List D) : Bool := ds.any fun z => eqD z x
def dIn (neg : Bool) (x y : D) (Q : D → Prop) : Prop := match x, y with
  | .str s, .str t => Q (.bl (neg != !(Builtin.Str.occurrences t s 0 t.length 1).isEmpty))
  | x, .lst ds => (okD 8 x = true ∧ okD 8 (.lst ds) = true) ∧ Q (.bl (neg != anyD x ds))
  | x, .tup ds => (flatD x = true ∧ ds.all flatD = true) ∧ Q (.bl (neg != anyD x ds))
  | _, _ => False
theorem pds_any {x : D} {e : PyData} (hx : pd x = some e) : ∀ {ds : List D} {es : List PyData}, pds ds = some es → (es.any fun z => PyData.eqv z e) = anyD x ds
  | [], _, h => by cases h; rfl
  | d :: ds, _, h => by
    obtain ⟨a, r, h1, h2, rfl⟩ := pds_cons h
    have := pds_any hx h2
    simp only [anyD, List.any_cons] at this ⊢
    rw [← eqD_pd _ _ _ _ h1 hx, this]
theorem flat_of {F : Hp} {x : V} {d : D} (r : Rp K ms F x d) (h : flatD d = true) : flatV x = true := by
  cases r <;> first | rfl | simp [flatD] at h
theorem flats_of {F : Hp} : ∀ {xs : List V} {ds : List D}, Rps K ms F xs ds → ds.all flatD = true → xs.all flatV = true
  | [], [], _, _ => rfl
  | _ :: _, _ :: _, h, z => by
    cases h with
    | cons h1 h2 =>
      rw [List.all_cons, Bool.and_eq_true] at z ⊢
      exact ⟨flat_of h1 z.1, flats_of h2 z.2⟩
  | [], _ :: _, h, _ => by cases h
  | _ :: _, [], h, _ => by cases h
theorem eqV_of {F : Hp} {x y : V} {d e : D} (r : Rp K ms F x d) (r' : Rp K ms F y e) (h : flatD d = true) (h' : flatD e = true) : eqV x y = eqD d e := by
  cases r <;> cases r' <;> first | rfl | (simp [flatD] at h; done) | (simp [flatD] at h'; done) | (simp [eqV, eqD]; done)
theorem inV_of {F : Hp} {x : V} {d : D} (r : Rp K ms F x d) (h : flatD d = true) : ∀ {xs : List V} {ds : List D}, Rps K ms F xs ds → ds.all flatD = true → inV x xs = anyD d ds
  | [], [], _, _ => rfl
  | _ :: _, _ :: _, q, z => by
    cases q with
    | cons h1 h2 =>
      rw [List.all_cons, Bool.and_eq_true] at z
      have := inV_of r h h2 z.2
      simp only [inV, anyD, List.any_cons] at this ⊢
      rw [eqV_of h1 r z.1 h, this]
  | [], _ :: _, h, _ => by cases h
  | _ :: _, [], h, _ => by cases h
theorem inL : OpL K ms (fun x y H Q => (∃ i j, x = .str i ∧ y = .str j ∧ Q (.bl (!(Builtin.Str.occurrences j i 0 j.length 1).isEmpty)) H) ∨ rInD K x y H Q ∨ rIn K false x y H Q) (dIn false) := by
  intro F H x y dx dy Qd Q hs rx ry h k
  unfold dIn at h
  split at h
  · cases rx; cases ry
    refine .inl ⟨_, _, rfl, rfl, k _ F H _ (Go.refl hs) (.bl _) ?_⟩
    simpa using h
  · obtain ⟨⟨h1, h2⟩, h⟩ := h
    obtain ⟨e1, a1, a2, a3⟩ := okD_pd 8 _ h1
    obtain ⟨e2, b1, b2, b3⟩ := okD_pd 8 _ h2
    simp [pd] at b1
    obtain ⟨es, b1, rfl⟩ := b1
    refine .inr (.inl ⟨e1, es, dp_mono hs _ _ (dp_of _ _ _ a1 rx), dp_mono hs _ _ (dp_of (K := K) (ms := ms) _ _ _ (by simp [pd, b1]) ry), shaped_of a2 a3 (by decide), shaped_of b2 b3 (by decide), k _ F H _ (Go.refl hs) (.bl _) ?_⟩)
    rw [pds_any a1 b1]
    simpa using h
  · cases ry with
    | tup h1 h2 =>
      obtain ⟨⟨f1, f2⟩, h⟩ := h
      refine .inr (.inr ⟨_, _, rfl, .inr (sqT hs h1), flat_of rx f1, flats_of h2 f2, k _ F H _ (Go.refl hs) (.bl _) ?_⟩)
      rw [if_neg (by decide), inV_of rx f1 h2 f2]
      simpa using h
  · exact h.elim
theorem op_inY (hu : X.A.units + 65 < cLine) : OpR X (compareOp .In) (fun x y H Q => (∃ i j, x = .str i ∧ y = .str j ∧ Q (.bl (!(Builtin.Str.occurrences j i 0 j.length 1).isEmpty)) H) ∨ rInD X.K x y H Q ∨ rIn X.K false x y H Q) := op_in_str.or ((op_inD hu).or op_in_seq)
theorem ninL : OpL K ms (fun x y H Q => (∃ i j, x = .str i ∧ y = .str j ∧ Q (.bl (!(!(Builtin.Str.occurrences j i 0 j.length 1).isEmpty))) H) ∨ rNotInD K x y H Q ∨ rIn K true x y H Q) (dIn true) := by
  intro F H x y dx dy Qd Q hs rx ry h k
  unfold dIn at h
  split at h
  · cases rx; cases ry
    refine .inl ⟨_, _, rfl, rfl, k _ F H _ (Go.refl hs) (.bl _) ?_⟩
    simpa using h
  · obtain ⟨⟨h1, h2⟩, h⟩ := h
    obtain ⟨e1, a1, a2, a3⟩ := okD_pd 8 _ h1
    obtain ⟨e2, b1, b2, b3⟩ := okD_pd 8 _ h2
    simp [pd] at b1
    obtain ⟨es, b1, rfl⟩ := b1
    refine .inr (.inl ⟨e1, es, dp_mono hs _ _ (dp_of _ _ _ a1 rx), dp_mono hs _ _ (dp_of (K := K) (ms := ms) _ _ _ (by simp [pd, b1]) ry), shaped_of a2 a3 (by decide), shaped_of b2 b3 (by decide), k _ F H _ (Go.refl hs) (.bl _) ?_⟩)
    rw [pds_any a1 b1]
    simpa using h
  · cases ry with
    | tup h1 h2 =>
      obtain ⟨⟨f1, f2⟩, h⟩ := h
      refine .inr (.inr ⟨_, _, rfl, .inr (sqT hs h1), flat_of rx f1, flats_of h2 f2, k _ F H _ (Go.refl hs) (.bl _) ?_⟩)
      rw [if_pos rfl, inV_of rx f1 h2 f2]
      simpa using h
  · exact h.elim
theorem op_ninY (hu : X.A.units + 65 < cLine) : OpR X (compareOp .NotIn) (fun x y H Q => (∃ i j, x = .str i ∧ y = .str j ∧ Q (.bl (!(!(Builtin.Str.occurrences j i 0 j.length 1).isEmpty))) H) ∨ rNotInD X.K x y H Q ∨ rIn X.K true x y H Q) := op_notIn_str.or ((op_notInD hu).or op_notIn_seq)
theorem op_eqY (hu : X.A.units + 64 < cLine) : OpR X (compareOp .Eq) (fun x y H Q => rEq x y H Q ∨ rEqD X.K x y H Q) := op_eq.or (op_eqD hu)
theorem op_neY (hu : X.A.units + 64 < cLine) : OpR X (compareOp .NotEq) (fun x y H Q => rNe x y H Q ∨ rNeD X.K x y H Q) := op_ne.or (op_neD hu)
theorem op_mulY : OpR X (binaryOp .Mult) (fun x y H Q => rI CMulW (fun i j => .int (i * j)) x y H Q ∨ rRepZ x y H Q) := op_mulW.or op_repZ
end
end Y
namespace Y
open PySem PySem.Spec PyProof.Rows L2 Z
section
variable {X : Cx} {B : Bs} {K : Frg} {ms : List Addr} {a b c e o : Expr} {es : List Expr} {ra rb rc r ro : Rd} {rt ru : RdT} {rl : RdA} {pos p0 apos : Pos} {R : RdF} {k : Nat} {f C g p : Addr} {x m : Str} {s1 s2 : RdS}
/-! ### xs[i], xs[i:j] -/
def dIx (x y : D) (Q : D → Prop) : Prop := match x, y with
  | .lst ds, .int i => (match atI ds i with | some d => Q d | none => False)
  | .tup ds, .int i => (match atI ds i with | some d => Q d | none => False)
  | .str s, .int i => s.length ≤ 100000 ∧ (match atI s.cps.toList i with | some c => Q (.str ⟨#[c]⟩) | none => False)
  | _, _ => False
theorem atI_rps {F : Hp} {vs : List V} {ds : List D} {i : Int} {d : D} (r : Rps K ms F vs ds) (h : atI ds i = some d) : ∃ v, atI vs i = some v ∧ Rp K ms F v d := by
  unfold atI at h ⊢
  rw [r.len]
  cases e : ixN ds.length i with
  | none => rw [e] at h; cases h
  | some j =>
    rw [e] at h
    obtain ⟨v, h1, h2⟩ := r.get (i := j) (d := d) h
    exact ⟨v, h1, h2⟩
theorem ixL' : OpL K ms (rIx K) dIx := by
  intro F H x y dx dy Qd Q hs rx ry h k
  unfold dIx at h
  split at h
  · split at h
    · rename_i d e
      cases rx with
      | lst h1 h2 =>
        cases ry
        obtain ⟨v, e1, e2⟩ := atI_rps h2 e
        exact .inl ⟨_, _, _, v, rfl, rfl, SqL.of (hs _ _ h1), e1, k v F H d (Go.refl hs) e2 h⟩
    · exact h.elim
  · split at h
    · rename_i d e
      cases rx with
      | tup h1 h2 =>
        cases ry
        obtain ⟨v, e1, e2⟩ := atI_rps h2 e
        exact .inr (.inl ⟨_, _, _, v, rfl, rfl, sqT hs h1, e1, k v F H d (Go.refl hs) e2 h⟩)
    · exact h.elim
  · obtain ⟨hz, h⟩ := h
    split at h
    · rename_i d e
      cases rx
      cases ry
      exact .inr (.inr ⟨_, _, _, rfl, rfl, Nat.le_trans hz line_ge, e, k _ F H _ (Go.refl hs) (.str _) h⟩)
    · exact h.elim
  · exact h.elim
theorem y_ix (ha : PEp X B a ra) (hb : PEp X B b rb) (hs : PlainIx b) : PEp X B (.Subscript a b pos) (fun ρ Q => ra ρ fun x => rb ρ fun y => dIx x y Q) := pe_imp (pe_ix ix_seq ha hb hs) (tOp_of ixL')
def cutD {α : Type} (xs : List α) (lo hi : Option Int) : List α := (xs.drop (HT.sIx xs.length 0 lo)).take (HT.sIx xs.length xs.length hi - HT.sIx xs.length 0 lo)
theorem cut_rps {F : Hp} {vs : List V} {ds : List D} (r : Rps K ms F vs ds) (lo hi : Option Int) : Rps K ms F (cutV vs lo hi) (cutD ds lo hi) := by
  unfold cutV cutD
  rw [r.len]
  exact (r.drop _).take _
@[irreducible] def dSl (x : D) (lo hi : Option Int) (Q : D → Prop) : Prop := match x with
  | .lst ds => Q (.lst (cutD ds lo hi))
  | .str s => s.length ≤ 100000 ∧ Q (.str (cutS s lo hi))
  | .tup ds => ¬ (HT.sIx ds.length 0 lo = 0 ∧ HT.sIx ds.length ds.length hi = ds.length) ∧ Q (.tup (cutD ds lo hi))
  | _ => False
abbrev RdO := Ev → (Option Int → Prop) → Prop
def tO (K : Frg) (B : Bs) (r : RdO) : TO := fun σ H Q => ∃ F ρ Qd, Iv K B F H σ ρ ∧ r ρ Qd ∧ ∀ o F' H', Go B.ms F H F' H' → Tp K B.ms F' H' → Qd o → Q o H'
theorem po_imp {X : Cx} {e : Option Expr} {t t' : TO} (h : PO X e t) (f : ∀ σ H Q, t' σ H Q → t σ H Q) : PO X e t' := ⟨fun pins s σ H Q I z => h.run pins s σ H Q I (f σ H Q z)⟩
theorem o_none : PO X none (tO X.K B fun _ Q => Q none) := po_imp po_none fun σ H Q ⟨F, ρ, Qd, I, z, k⟩ => k none F H (Go.refl I.same) I.tp z
def asI (d : D) (Q : Int → Prop) : Prop := match d with
  | .int i => Q i
  | _ => False
theorem o_some (h : PEp X B e r) : PO X (some e) (tO X.K B fun ρ Q => r ρ fun d => asI d fun i => Q (some i)) := po_imp (po_some h) fun σ H Q ⟨F, ρ, Qd, I, z, k⟩ => ⟨F, ρ, _, I, z, fun v F1 H1 d g1 t1 r1 z1 => by
  unfold asI at z1
  split at z1
  · cases r1
    exact ⟨_, rfl, k _ F1 H1 g1 t1 z1⟩
  · exact z1.elim⟩
theorem y_sl {lo hi : Option Expr} {rlo rhi : RdO} {p2 : Pos} (he : PEp X B e r) (hl : PO X lo (tO X.K B rlo)) (hh : PO X hi (tO X.K B rhi)) : PEp X B (.Subscript e (.Slice lo hi none p2) pos) (fun ρ Q => r ρ fun d => rlo ρ fun l => rhi ρ fun h => dSl d l h Q) :=
  pe_imp (pe_slice (sl_listZ.or (sl_str.or sl_tup)) he hl hh) fun σ H Q ⟨F, ρ, Qd, I, z, k⟩ => ⟨F, ρ, _, I, z, fun v F1 H1 d g1 t1 r1 z1 => ⟨F1, ρ, _, I.step g1 t1, z1, fun l F2 H2 g2 t2 z2 => ⟨F2, ρ, _, (I.step g1 t1).step g2 t2, z2, fun h F3 H3 g3 t3 z3 => by
    have g13 := (g1.trans g2).trans g3
    have r3 := (r1.up g2.ff).up g3.ff
    unfold dSl at z3
    split at z3
    · cases r3 with
      | lst h1 h2 =>
        refine .inl ⟨_, _, rfl, SqL.of (t3.1 _ _ h1), fun p H4 hp e4 => ?_⟩
        obtain ⟨F4, g4, q4, _⟩ := newE t3.1 hp e4
        exact k _ F4 H4 _ (g13.trans g4.nil) (t3.go0 g4) (.lst q4 ((cut_rps h2 l h).up g4.ff)) z3
    · cases r3
      exact .inr (.inl ⟨_, rfl, Nat.le_trans z3.1 line_ge, k _ F3 H3 _ g13 t3 (.str _) z3.2⟩)
    · cases r3 with
      | tup h1 h2 =>
        refine .inr (.inr ⟨_, _, rfl, sqT t3.1 h1, by rw [h2.len]; exact z3.1, fun p hp => ?_⟩)
        obtain ⟨F4, g4, q4, _⟩ := newE t3.1 hp rfl
        exact k _ F4 _ _ (g13.trans g4.nil) (t3.go0 g4) (.tup (SqT.of q4) ((cut_rps h2 l h).up g4.ff)) z3.2
    · exact z3.elim⟩⟩⟩
/-! ### fields, properties -/
def ixOf : List Str → Str → Option Nat
  | [], _ => none
  | n :: ns, f => if (f == n) = true then some 0 else (ixOf ns f).map (· + 1)
theorem look_ix : ∀ {ns : List Str} {vs : List V} {f : Str} {j : Nat}, ns.length = vs.length → ixOf ns f = some j → (ns.zip vs).lookup f = vs[j]?
  | [], _, _, _, _, h => by simp [ixOf] at h
  | _ :: _, [], _, _, h, _ => by simp at h
  | n :: ns, v :: vs, f, j, hl, h => by
    unfold ixOf at h
    rw [List.zip_cons_cons, List.lookup_cons]
    by_cases e : (f == n) = true
    · rw [if_pos e] at h
      cases h
      rw [e]
      rfl
    · rw [if_neg e] at h
      obtain ⟨i, h1, rfl⟩ := Option.map_eq_some_iff.mp h
      have e2 : (f == n) = false := by simpa using e
      rw [e2, List.getElem?_cons_succ]
      exact look_ix (by simpa using hl) h1
def fldD (cs ns : List Str) (j : Nat) (o : D) (Q : D → Prop) : Prop := match o with
  | .obj c n ds => (c ∈ cs ∧ n = ns) ∧ (match ds[j]? with | some d => Q d | none => False)
  | _ => False
theorem y_fld {cs ns : List Str} {fl : Str} {j : Nat} (he : PEp X B e r) (hc : ∀ c ∈ cs, Cls X.K (He.ga X.K c) ∧ NoAttr X.K (He.ga X.K c) fl) (hj : ixOf ns fl = some j := by decide +kernel) (hb : attributeBase e fl X.env (eval e X.env) = eval e X.env := by rfl) :
    PEp X B (.Attribute e fl pos) (fun ρ Q => r ρ fun o => fldD cs ns j o Q) :=
  pe_imp (pe_fld he hb) fun σ H Q ⟨F, ρ, Qd, I, z, k⟩ => ⟨F, ρ, _, I, z, fun v F1 H1 d g1 t1 r1 z1 => by
    unfold fldD at z1
    split at z1
    · obtain ⟨⟨h1, rfl⟩, z1⟩ := z1
      split at z1
      · rename_i dd e
        cases r1 with
        | @obj a dx _ _ vs _ h2 h3 h4 =>
          obtain ⟨v, e1, e2⟩ := h4.get e
          exact ⟨_, _, dx, _, v, rfl, t1.1 _ _ h2, (hc _ h1).1, (hc _ h1).2, by rw [look_ix h3 hj, e1], k v F1 H1 dd g1 t1 e2 z1⟩
      · exact z1.elim
    · exact z1.elim⟩
theorem cls_some {C : Addr} (c1 : Cls K C) : (PySem.W.clsIn K C).isSome = true := by
  obtain ⟨cd, hc, _⟩ := PySem.W.any_some c1.hd
  rw [hc]
  rfl
theorem y_prop {cs ns : List Str} (he : PEp X B e r) (hc : ∀ c ∈ cs, Cls X.K (He.ga X.K c) ∧ ∃ p, PropOf X.K (He.ga X.K c) m p g) (F : FnG X.prog X.w X.K X.mg X.base (L2.CX X.prog X.w) k g (spP X.K R)) (hr : RoomG (k + 1) X.A) (hx : Passes (L2.CX X.prog X.w) X.nox (EE X.K B.nox))
    (hab : attributeBase e m X.env (eval e X.env) = eval e X.env := by rfl) : PEp X B (.Attribute e m pos) (fun ρ Q => r ρ fun o => asO cs ns o (R [o] Q fun _ => False)) := by
  refine ⟨fun pins s σ H Q I h => ?_⟩
  obtain ⟨F0, ρ, Qd, J, z, kk⟩ := h
  refine attr_of hab (thn (he.run pins s σ H (fun v H1 => ∃ F1 d, Go B.ms F0 H F1 H1 ∧ Tp X.K B.ms F1 H1 ∧ Rp X.K B.ms F1 v d ∧ asO cs ns d (R [d] Qd fun _ => False)) I ⟨F0, ρ, _, J, z, fun v F1 H1 d g1 t1 r1 z1 => ⟨F1, d, g1, t1, r1, z1⟩⟩) fun u s1 ⟨v, H1, I1, rx, F1, d, g1, t1, r1, z1⟩ => ?_)
  unfold asO at z1
  split at z1
  · obtain ⟨hcs, rfl, z2⟩ := z1
    cases r1 with
    | @obj a dx _ _ vs ds h1 h2 h3 =>
      obtain rfl : u = Value.ref a := rx
      obtain ⟨c1, p, hp⟩ := hc _ hcs
      have ea := t1.1 _ _ h1
      obtain ⟨mA, O, _, _, _, _⟩ := ins_get I1.hok ea
      obtain ⟨od, J1, _⟩ := O.look
      obtain ⟨rest, hrec⟩ := hp.rec_
      have I2 := I1.tok (s1.toks + 1)
      have hcl := cls_some c1
      refine PySem.W.get_bind I1.kIn J1 (PySem.W.plainGet_of (c1.get m)).1 (PySem.W.findObj_data hcl hp.at_ hp.get hp.tak) (PySem.W.plainGet_of (c1.get m)).2 (wpAny_call (PySem.W.prop_get (s := { s1 with toks := s1.toks + 1 }) I1.kIn hrec ?_))
      have q : spP X.K R [.ref a] H1 Q (EE X.K B.nox) := sp_call (B := B.nox) (vs := [.ref a]) J.nox kk g1 t1 (.cons (.obj h1 h2 h3) .nil) z2
      refine codeAny_mono (F X.A.in1 X.stack { s1 with toks := s1.toks + 1 } H1 [.ref a] [.ref a] Q _ hr.in1 I2.env0.in1 (.cons rfl .nil) q) fun r s' hq => ?_
      cases r with
      | error er => exact False.elim (hx pins σ H1 { s1 with toks := s1.toks + 1 } er s' (I2.wish _) hq)
      | ok fl =>
        cases fl with
        | ret u =>
          obtain ⟨v, H', I3, rv, q3⟩ := I2.after hq
          show wpAny _ _ (handedOut u) _ _ _
          rw [PySem.W.handedOut_of (handed_of rv)]
          exact wpAny_pure ⟨v, H', I3, rv, q3⟩
        | next => exact False.elim hq
        | brk => exact False.elim hq
        | cont => exact False.elim hq
  · exact z1.elim
/-! ### builtins -/
def CalL (K : Frg) (ms : List Addr) (r : List V → Hp → VK → Prop) (g : List D → (D → Prop) → Prop) : Prop := ∀ (F H : Hp) (xs : List V) (ds : List D) (Qd : D → Prop) (Q : VK), Same F H → Rps K ms F xs ds → g ds Qd → (∀ v F' H' d, Go [] F H F' H' → Rp K ms F' v d → Qd d → Q v H') → r xs H Q
theorem tCB_of {q : List V → Hp → VK → Prop} {g : List D → (D → Prop) → Prop} (hl : CalL X.K B.ms q g) (σ : L2.St) (H : Hp) (Q : VK) (h : tE X.K B (fun ρ Q => rl ρ fun ds => g ds Q) σ H Q) : tCB q (tA X.K B rl) σ H Q := by
  obtain ⟨F, ρ, Qd, I, z, k⟩ := h
  exact ⟨F, ρ, _, I, z, fun vs F1 H1 ds g1 t1 r1 z1 => hl F1 H1 vs ds Qd Q t1.1 r1 z1 fun w F2 H2 e g2 r2 z2 => k w F2 H2 e (g1.trans g2.nil) (t1.go0 g2) r2 z2⟩
theorem y_callB {id : String} {q : List V → Hp → VK → Prop} {g : List D → (D → Prop) → Prop} (hc : CallR X (.builtin id) q) (hl : CalL X.K B.ms q g) (hg : Gl X x) (hm : X.mg x = none) (hv : bootBuiltins x = some (.builtin id)) (ha : PAp X B (e :: es) rl) (hn : x ≠ "__name__" := by decide) (hdb : (x == ("__debug__" : Str)) = false := by decide)
    (he : starEach (e :: es) X.env = (false, eval e X.env) :: starEach es X.env := by rfl) (hpl : (backTo pos (starEach es X.env)).any (·.1) = false := by rfl) : PEp X B (.Call (.Name x p0) (e :: es) [] pos) (fun ρ Q => rl ρ fun ds => g ds Q) := pe_imp (pe_callB hc hg hm hv ha hn hdb he hpl) (tCB_of hl)
theorem y_callT {id : String} {q : List V → Hp → VK → Prop} {g : List D → (D → Prop) → Prop} (hc : CallR X (.type id) q) (hl : CalL X.K B.ms q g) (hg : Gl X x) (hm : X.mg x = none) (hv : bootBuiltins x = some (.type id)) (ha : PAp X B (e :: es) rl) (hn : x ≠ "__name__" := by decide) (hdb : (x == ("__debug__" : Str)) = false := by decide)
    (he : starEach (e :: es) X.env = (false, eval e X.env) :: starEach es X.env := by rfl) (hpl : (backTo pos (starEach es X.env)).any (·.1) = false := by rfl) : PEp X B (.Call (.Name x p0) (e :: es) [] pos) (fun ρ Q => rl ρ fun ds => g ds Q) := pe_imp (pe_callTy hc hg hm hv ha hn hdb he hpl) (tCB_of hl)
theorem rps1 {F : Hp} {xs : List V} {d : D} (r : Rps K ms F xs [d]) : ∃ x, xs = [x] ∧ Rp K ms F x d := by
  cases r with
  | cons r1 r2 => cases r2; exact ⟨_, rfl, r1⟩
theorem rps2 {F : Hp} {xs : List V} {d e : D} (r : Rps K ms F xs [d, e]) : ∃ x y, xs = [x, y] ∧ Rp K ms F x d ∧ Rp K ms F y e := by
  cases r with
  | cons r1 r2 =>
    obtain ⟨y, rfl, r3⟩ := rps1 r2
    exact ⟨_, _, rfl, r1, r3⟩
def dLen (ds : List D) (Q : D → Prop) : Prop := match ds with
  | [.lst xs] => Q (.int (xs.length : Int))
  | [.tup xs] => Q (.int (xs.length : Int))
  | [.str s] => s.length ≤ 100000 ∧ Q (.int (s.length : Int))
  | _ => False
theorem call_lenY : CallR X (.builtin "len") (fun xs H Q => (∃ p ys, xs = [.ref p] ∧ (SqL X.K H p ys ∨ SqT X.K H p ys) ∧ Q (.int ys.length) H) ∨ (∃ z, xs = [.str z] ∧ z.length ≤ sizeLine ∧ Q (.int z.length) H)) := call_len_seq.or call_len_str
theorem lenL : CalL K ms (fun xs H Q => (∃ p ys, xs = [.ref p] ∧ (SqL K H p ys ∨ SqT K H p ys) ∧ Q (.int ys.length) H) ∨ (∃ z, xs = [.str z] ∧ z.length ≤ sizeLine ∧ Q (.int z.length) H)) dLen := by
  intro F H xs ds Qd Q hs r h k
  unfold dLen at h
  split at h
  · obtain ⟨x, rfl, r1⟩ := rps1 r
    cases r1 with
    | lst h1 h2 => exact .inl ⟨_, _, rfl, .inl (SqL.of (hs _ _ h1)), by rw [h2.len]; exact k _ F H _ (Go.refl hs) (.int _) h⟩
  · obtain ⟨x, rfl, r1⟩ := rps1 r
    cases r1 with
    | tup h1 h2 => exact .inl ⟨_, _, rfl, .inr (sqT hs h1), by rw [h2.len]; exact k _ F H _ (Go.refl hs) (.int _) h⟩
  · obtain ⟨x, rfl, r1⟩ := rps1 r
    cases r1
    exact .inr ⟨_, rfl, Nat.le_trans h.1 line_ge, k _ F H _ (Go.refl hs) (.int _) h.2⟩
  · exact h.elim
def dAbs (ds : List D) (Q : D → Prop) : Prop := match ds with
  | [.int i] => Q (.int (if i < 0 then -i else i))
  | _ => False
theorem absL : CalL K ms (fun xs H Q => ∃ i, xs = [.int i] ∧ Q (.int (if i < 0 then -i else i)) H) dAbs := by
  intro F H xs ds Qd Q hs r h k
  unfold dAbs at h
  split at h
  · obtain ⟨x, rfl, r1⟩ := rps1 r
    cases r1
    exact ⟨_, rfl, k _ F H _ (Go.refl hs) (.int _) h⟩
  · exact h.elim
def blsOf : List D → Option (List Bool)
  | [] => some []
  | .bl b :: ds => (blsOf ds).map (b :: ·)
  | _ => none
theorem blsOf_map : ∀ {ds : List D} {bs : List Bool}, blsOf ds = some bs → ds = bs.map D.bl
  | [], _, h => by cases h; rfl
  | .bl b :: ds, _, h => by
    unfold blsOf at h
    obtain ⟨r, h1, rfl⟩ := Option.map_eq_some_iff.mp h
    rw [blsOf_map h1]
    rfl
  | .non :: _, _, h => by simp [blsOf] at h
  | .int _ :: _, _, h => by simp [blsOf] at h
  | .str _ :: _, _, h => by simp [blsOf] at h
  | .lst _ :: _, _, h => by simp [blsOf] at h
  | .tup _ :: _, _, h => by simp [blsOf] at h
  | .obj _ _ _ :: _, _, h => by simp [blsOf] at h
  | .ty _ :: _, _, h => by simp [blsOf] at h
  | .glob _ :: _, _, h => by simp [blsOf] at h
  | .tape :: _, _, h => by simp [blsOf] at h
  | .fn _ :: _, _, h => by simp [blsOf] at h
  | .dic _ _ :: _, _, h => by simp [blsOf] at h
def dAll (f : List Bool → Bool) (ds : List D) (Q : D → Prop) : Prop := match ds with
  | [.lst xs] => (match blsOf xs with | some bs => Q (.bl (f bs)) | none => False)
  | _ => False
theorem allL {f : List Bool → Bool} : CalL K ms (fun vs H Q => ∃ (a : Addr) (bs : List Bool), vs = [V.ref a] ∧ SqL K H a (bs.map V.bl) ∧ Q (.bl (f bs)) H) (dAll f) := by
  intro F H xs ds Qd Q hs r h k
  unfold dAll at h
  split at h
  · obtain ⟨x, rfl, r1⟩ := rps1 r
    split at h
    · rename_i ds bs e
      obtain rfl := blsOf_map e
      cases r1 with
      | lst h1 h2 =>
        rw [h2.bls] at h1
        exact ⟨_, bs, rfl, SqL.of (hs _ _ h1), k _ F H _ (Go.refl hs) (.bl _) h⟩
    · exact h.elim
  · exact h.elim
def dList (ds : List D) (Q : D → Prop) : Prop := match ds with
  | [.lst xs] => Q (.lst xs)
  | [.tup xs] => Q (.lst xs)
  | _ => False
theorem listL : CalL K ms (rListZ K) dList := by
  intro F H xs ds Qd Q hs r h k
  unfold dList at h
  split at h
  · obtain ⟨x, rfl, r1⟩ := rps1 r
    cases r1 with
    | lst h1 h2 =>
      refine ⟨_, _, rfl, .inl (SqL.of (hs _ _ h1)), fun p H2 hp e2 => ?_⟩
      obtain ⟨F2, g2, q2, _⟩ := newE hs hp e2
      exact k _ F2 H2 _ g2 (.lst q2 (h2.up g2.ff)) h
  · obtain ⟨x, rfl, r1⟩ := rps1 r
    cases r1 with
    | tup h1 h2 =>
      refine ⟨_, _, rfl, .inr (sqT hs h1), fun p H2 hp e2 => ?_⟩
      obtain ⟨F2, g2, q2, _⟩ := newE hs hp e2
      exact k _ F2 H2 _ g2 (.lst q2 (h2.up g2.ff)) h
  · exact h.elim
def dTuple (ds : List D) (Q : D → Prop) : Prop := match ds with
  | [.lst xs] => Q (.tup xs)
  | [.tup xs] => Q (.tup xs)
  | _ => False
theorem tupleL : CalL K ms (fun xs H Q => ∃ p ys, xs = [.ref p] ∧ ((SqL K H p ys ∧ ∀ l, H l = none → Q (.ref l) (upd H l (.tup ys))) ∨ (SqT K H p ys ∧ Q (.ref p) H))) dTuple := by
  intro F H xs ds Qd Q hs r h k
  unfold dTuple at h
  split at h
  · obtain ⟨x, rfl, r1⟩ := rps1 r
    cases r1 with
    | lst h1 h2 =>
      refine ⟨_, _, rfl, .inl ⟨SqL.of (hs _ _ h1), fun p hp => ?_⟩⟩
      obtain ⟨F2, g2, q2, _⟩ := newE hs hp rfl
      exact k _ F2 _ _ g2 (.tup (SqT.of q2) (h2.up g2.ff)) h
  · obtain ⟨x, rfl, r1⟩ := rps1 r
    cases r1 with
    | tup h1 h2 => exact ⟨_, _, rfl, .inr ⟨sqT hs h1, k _ F H _ (Go.refl hs) (.tup h1 h2) h⟩⟩
  · exact h.elim
/-! ### isinstance -/
def OwnC (K : Frg) (c : Str) : Prop := Cls K (He.ga K c) ∧ Own K (He.ga K c)
def tyD (K : Frg) : D → Option Value
  | .non => some (.type "NoneType")
  | .bl _ => some (.type "bool")
  | .int _ => some (.type "int")
  | .str _ => some (.type "str")
  | .lst _ => some (.type "list")
  | .tup _ => some (.type "tuple")
  | .dic _ _ => some (.type "dict")
  | .obj c _ _ => some (.ref (He.ga K c))
  | _ => none
theorem tyX_of {F H : Hp} {v : V} {d : D} {t : Value} (r : Rp K ms F v d) (hs : Same F H) (h : tyD K d = some t) (ho : ∀ c ns ds, d = .obj c ns ds → OwnC K c) : TyX K H v t := by
  cases r with
  | non => cases h; exact .base .non
  | bl b => cases h; exact .base (.bl b)
  | int i => cases h; exact tyI i
  | str s => cases h; exact .base (.str s)
  | ty n => cases h
  | glob x => cases h
  | fn a => cases h
  | tape m => cases h
  | lst h1 h2 => cases h; exact tyL (SqL.of (K := K) (hs _ _ h1))
  | tup h1 h2 => cases h; exact tyT (sqT hs h1)
  | obj h1 h2 h3 => cases h; exact tyO (ho _ _ _ rfl).1 (ho _ _ _ rfl).2 (hs _ _ h1)
  | dic h1 h2 h3 => cases h; exact .base (.dK (hs _ _ h1))
def dIsB (cs : List Str) (T : String) (d : D) (Q : D → Prop) : Prop := match d with
  | .non => Q (.bl false)
  | .bl _ => Q (.bl (T == "bool" || T == "int"))
  | .int _ => Q (.bl (T == "int"))
  | .str _ => Q (.bl (T == "str"))
  | .lst _ => Q (.bl (T == "list"))
  | .tup _ => Q (.bl (T == "tuple"))
  | .dic _ _ => Q (.bl (T == "dict"))
  | .obj c _ _ => c ∈ cs ∧ Q (.bl false)
  | _ => False
def dIs2 (g : D → (D → Prop) → Prop) (c : D) (ds : List D) (Q : D → Prop) : Prop := match ds with
  | [x, y] => y = c ∧ g x Q
  | _ => False
theorem isBL {cs : List Str} {T : String} (hT : T ∈ ["bool", "int", "str", "list", "tuple", "dict"]) (hc : ∀ c ∈ cs, OwnC K c) : CalL K ms (rIsi K) (dIs2 (dIsB cs T) (.ty T)) := by
  intro F H xs ds Qd Q hs r h k
  unfold dIs2 at h
  split at h
  · obtain ⟨x, y, rfl, r1, r2⟩ := rps2 r
    obtain ⟨rfl, h⟩ := h
    cases r2
    have fin : ∀ (t : Value) (b : Bool), TyX K H x t → PySem.W.kitOne K t (.type T) = some b → Qd (.bl b) → rIsi K [x, V.ty T] H Q := fun t b ty e q => ⟨_, _, t, _, b, rfl, .ty T, ty, e, k _ F H _ (Go.refl hs) (.bl _) q⟩
    have kb : ∀ (a : String) (b : Bool), (∀ T ∈ ["bool", "int", "str", "list", "tuple", "dict"], kitB a T = some (if a = "bool" then (T == "bool" || T == "int") else (T == a))) → b = (if a = "bool" then (T == "bool" || T == "int") else (T == a)) → PySem.W.kitOne K (.type a) (.type T) = some b := fun a b h e => by
      rw [e]
      exact kit_ty (h T hT)
    unfold dIsB at h
    split at h
    · refine fin _ false (tyX_of r1 hs rfl (fun _ _ _ z => nomatch z)) (kb "NoneType" _ (by decide +kernel) ?_) h
      simp at hT; rcases hT with rfl | rfl | rfl | rfl | rfl | rfl <;> decide
    · exact fin _ _ (tyX_of r1 hs rfl (fun _ _ _ z => nomatch z)) (kb "bool" _ (by decide +kernel) rfl) h
    · exact fin _ _ (tyX_of r1 hs rfl (fun _ _ _ z => nomatch z)) (kb "int" _ (by decide +kernel) rfl) h
    · exact fin _ _ (tyX_of r1 hs rfl (fun _ _ _ z => nomatch z)) (kb "str" _ (by decide +kernel) rfl) h
    · exact fin _ _ (tyX_of r1 hs rfl (fun _ _ _ z => nomatch z)) (kb "list" _ (by decide +kernel) rfl) h
    · exact fin _ _ (tyX_of r1 hs rfl (fun _ _ _ z => nomatch z)) (kb "tuple" _ (by decide +kernel) rfl) h
    · exact fin _ _ (tyX_of r1 hs rfl (fun _ _ _ z => nomatch z)) (kb "dict" _ (by decide +kernel) rfl) h
    · exact fin _ false (tyX_of r1 hs rfl (fun c _ _ z => by cases z; exact hc _ h.1)) ((hc _ h.1).2.kt T hT) h.2
    · exact h.elim
  · exact h.elim
def dIsO (cs cs' : List Str) (d : D) (Q : D → Prop) : Prop := match d with
  | .obj c _ _ => (c ∈ cs ∧ Q (.bl true)) ∨ (c ∈ cs' ∧ Q (.bl false))
  | .non | .bl _ | .int _ | .str _ | .lst _ | .tup _ | .dic _ _ => Q (.bl false)
  | _ => False
theorem isOL {cs cs' : List Str} {C : Str} (hC : OwnC K C) (hc : ∀ c ∈ cs, OwnC K c ∧ PySem.W.kitOne K (.ref (He.ga K c)) (.ref (He.ga K C)) = some true) (hc' : ∀ c ∈ cs', OwnC K c ∧ PySem.W.kitOne K (.ref (He.ga K c)) (.ref (He.ga K C)) = some false) : CalL K ms (rIsi K) (dIs2 (dIsO cs cs') (.glob C)) := by
  intro F H xs ds Qd Q hs r h k
  unfold dIs2 at h
  split at h
  · obtain ⟨x, y, rfl, r1, r2⟩ := rps2 r
    obtain ⟨rfl, h⟩ := h
    cases r2
    have fin : ∀ (t : Value) (b : Bool), TyX K H x t → PySem.W.kitOne K t (.ref (He.ga K C)) = some b → Qd (.bl b) → rIsi K [x, V.ref (He.ga K C)] H Q := fun t b ty e q => ⟨_, _, t, _, b, rfl, .own _, ty, e, k _ F H _ (Go.refl hs) (.bl _) q⟩
    unfold dIsO at h
    split at h
    · rcases h with ⟨h1, h⟩ | ⟨h1, h⟩
      · exact fin _ true (tyX_of r1 hs rfl (fun c _ _ z => by cases z; exact (hc _ h1).1)) (hc _ h1).2 h
      · exact fin _ false (tyX_of r1 hs rfl (fun c _ _ z => by cases z; exact (hc' _ h1).1)) (hc' _ h1).2 h
    · exact fin _ false (tyX_of r1 hs rfl (fun _ _ _ z => nomatch z)) (hC.2.kb "NoneType" (by decide)) h
    · exact fin _ false (tyX_of r1 hs rfl (fun _ _ _ z => nomatch z)) (hC.2.kb "bool" (by decide)) h
    · exact fin _ false (tyX_of r1 hs rfl (fun _ _ _ z => nomatch z)) (hC.2.kb "int" (by decide)) h
    · exact fin _ false (tyX_of r1 hs rfl (fun _ _ _ z => nomatch z)) (hC.2.kb "str" (by decide)) h
    · exact fin _ false (tyX_of r1 hs rfl (fun _ _ _ z => nomatch z)) (hC.2.kb "list" (by decide)) h
    · exact fin _ false (tyX_of r1 hs rfl (fun _ _ _ z => nomatch z)) (hC.2.kb "tuple" (by decide)) h
    · exact fin _ false (tyX_of r1 hs rfl (fun _ _ _ z => nomatch z)) (hC.2.kb "dict" (by decide)) h
    · exact h.elim
  · exact h.elim
end
end Y
namespace Y
open PySem PySem.Spec PyProof.Rows L2 Z
/-! ### things that one slot holds -/
section
variable {K : Frg} {B : Bs} {F H F' H' : Hp} {σ : L2.St} {ρ : Ev}
theorem Tp.nms {ms : List Addr} {p : Addr} (t : Tp K ms F H) (hp : H p = none) : p ∉ ms := fun m => t.ne m hp
theorem go_none {ms : List Addr} {F0 H0 F H : Hp} {p : Addr} (g : Go ms F0 H0 F H) (hf : Same F0 H0) (hp : H p = none) (hm : p ∉ ms) : H0 p = none := by
  cases e : H0 p with
  | none => rfl
  | some o =>
    cases e2 : F0 p with
    | some o' => have := g.fh p o' (g.ff p o' e2); rw [hp] at this; cases this
    | none => have := (g.mu p o hm e2 e).2; rw [hp] at this; cases this
/-- a new thing comes into a slot -/
theorem Iv.newM (I : Iv K B F H σ ρ) (h0 : Same B.F0 B.H0) {p : Addr} {o : HO} {m : Mo} {H2 : Hp} (i : Nat) (hp : H p = none) (e : H2 = upd H p o) (r : MoR K B.ms F p m o) : Iv K B F H2 (σ.set i (some (.ref p))) (ρ.set i (.mu m)) := by
  have nm := I.tp.nms hp
  have g : Go [] F H F H2 := by rw [e]; exact Go.newM I.same hp
  have I2 := I.step0 g
  have hn : ∀ (j : Nat) (n : Mo), ρ[j]? = some (.mu n) → σ[j]? ≠ some (some (.ref p)) := fun j n h z => by
    obtain ⟨a, o', h1, h2, h3, h4, h5, h6⟩ := I.own j n h
    rw [z] at h1
    cases h1
    rw [hp] at h5
    cases h5
  have hl := I.len
  refine ⟨I2.go, I2.tp, by rw [List.length_set, List.length_set]; exact I.len, fun j d h => ?_, fun j n h => ?_, fun j k n n' a hjk h1 h2 h3 => ?_⟩
  · by_cases hij : i = j
    · subst hij
      rcases Nat.lt_or_ge i ρ.length with z | z
      · rw [List.getElem?_set_self z] at h; cases h
      · rw [List.getElem?_eq_none (by rw [List.length_set]; exact z)] at h; cases h
    · rw [List.getElem?_set_ne hij] at h ⊢
      exact I2.val j d h
  · by_cases hij : i = j
    · subst hij
      rcases Nat.lt_or_ge i ρ.length with z | z
      · rw [List.getElem?_set_self z] at h
        cases h
        exact ⟨p, o, List.getElem?_set_self (by omega), same_none I.same hp, nm, go_none I.go h0 hp nm, by rw [e]; exact upd_same, r⟩
      · rw [List.getElem?_eq_none (by rw [List.length_set]; exact z)] at h; cases h
    · rw [List.getElem?_set_ne hij] at h ⊢
      exact I2.own j n h
  · by_cases hij : i = j
    · subst hij
      have hik : i ≠ k := hjk
      rw [List.getElem?_set_ne hik] at h2 ⊢
      rcases Nat.lt_or_ge i σ.length with z | z
      · rw [List.getElem?_set_self z] at h3
        cases h3
        exact hn k n' h2
      · rw [List.getElem?_eq_none (by rw [List.length_set]; exact z)] at h3; cases h3
    · rw [List.getElem?_set_ne hij] at h1 h3
      by_cases hik : i = k
      · subst hik
        rcases Nat.lt_or_ge i σ.length with z | z
        · rw [List.getElem?_set_self z]
          intro q
          cases q
          exact hn j n h1 h3
        · rw [List.getElem?_eq_none (by rw [List.length_set]; exact z)]
          intro q; cases q
      · rw [List.getElem?_set_ne hik] at h2 ⊢
        exact I.sep j k n n' a hjk h1 h2 h3
/-- a thing changes in its place -/
theorem Iv.put (I : Iv K B F H σ ρ) {a : Addr} {o : HO} {m m' : Mo} {H2 : Hp} (i : Nat) (hi : ρ[i]? = some (.mu m)) (ha : σ[i]? = some (some (.ref a))) (e : H2 = upd H a o) (r : MoR K B.ms F a m' o) : Iv K B F H2 σ (ρ.set i (.mu m')) := by
  obtain ⟨a', o', h1, fa, nm, h0, h5, _⟩ := I.own i m hi
  rw [ha] at h1
  cases h1
  have gp : Go [a] F H F H2 := by rw [e]; exact Go.put I.same fa
  have go : Go B.ms B.F0 B.H0 F H2 := ((I.go.sub (ms' := a :: B.ms) fun x hx => List.mem_cons_of_mem _ hx).trans (gp.sub fun x hx => by
    have : x = a := by simpa using hx
    rw [this]; exact List.mem_cons_self)).drop h0
  have ho : ∀ b, b ≠ a → H2 b = H b := fun b hb => by rw [e]; exact upd_ne hb
  refine ⟨go, I.tp.gox gp nm, by rw [List.length_set]; exact I.len, fun j d h => ?_, fun j n h => ?_, fun j k n n' b hjk h1 h2 h3 => ?_⟩
  · by_cases hij : i = j
    · subst hij
      rcases Nat.lt_or_ge i ρ.length with z | z
      · rw [List.getElem?_set_self z] at h; cases h
      · rw [List.getElem?_eq_none (by rw [List.length_set]; exact z)] at h; cases h
    · rw [List.getElem?_set_ne hij] at h
      exact I.val j d h
  · by_cases hij : i = j
    · subst hij
      rcases Nat.lt_or_ge i ρ.length with z | z
      · rw [List.getElem?_set_self z] at h
        cases h
        exact ⟨a, o, ha, fa, nm, h0, by rw [e]; exact upd_same, r⟩
      · rw [List.getElem?_eq_none (by rw [List.length_set]; exact z)] at h; cases h
    · rw [List.getElem?_set_ne hij] at h
      obtain ⟨b, u, b1, b2, b3, b4, b5, b6⟩ := I.own j n h
      have hb : b ≠ a := fun q => by
        subst q
        exact I.sep i j m n b hij hi h ha b1
      exact ⟨b, u, b1, b2, b3, b4, by rw [ho b hb]; exact b5, b6⟩
  · have w : ∀ (q : Nat) (n : Mo), (ρ.set i (.mu m'))[q]? = some (.mu n) → ∃ n' : Mo, ρ[q]? = some (.mu n') := fun q n h => by
      by_cases hq : i = q
      · subst hq; exact ⟨m, hi⟩
      · rw [List.getElem?_set_ne hq] at h; exact ⟨n, h⟩
    obtain ⟨n1, w1⟩ := w j n h1
    obtain ⟨n2, w2⟩ := w k n' h2
    exact I.sep j k n1 n2 b hjk w1 w2 h3
/-- a list that grew is plain data from now on -/
theorem Iv.freeze (I : Iv K B F H σ ρ) {ds : List D} (i : Nat) (hi : ρ[i]? = some (.mu (.lst ds))) : ∃ F2, Same F F2 ∧ Iv K B F2 H σ (ρ.set i (.val (.lst ds))) := by
  obtain ⟨a, o, ha, fa, nm, h0, h5, vs, rfl, hr⟩ := I.own i _ hi
  have gp : Go [a] F H (upd F a (.lst vs)) H := Go.freeze I.same fa h5
  have go : Go B.ms B.F0 B.H0 (upd F a (.lst vs)) H := ((I.go.sub (ms' := a :: B.ms) fun x hx => List.mem_cons_of_mem _ hx).trans (gp.sub fun x hx => by
    have : x = a := by simpa using hx
    rw [this]; exact List.mem_cons_self)).drop h0
  refine ⟨upd F a (.lst vs), gp.ff, go, I.tp.gox gp nm, by rw [List.length_set]; exact I.len, fun j d h => ?_, fun j n h => ?_, fun j k n n' b hjk h1 h2 h3 => ?_⟩
  · by_cases hij : i = j
    · subst hij
      rcases Nat.lt_or_ge i ρ.length with z | z
      · rw [List.getElem?_set_self z] at h
        cases h
        exact ⟨.ref a, ha, .lst upd_same (hr.up gp.ff)⟩
      · rw [List.getElem?_eq_none (by rw [List.length_set]; exact z)] at h; cases h
    · rw [List.getElem?_set_ne hij] at h
      obtain ⟨v, h1, h2⟩ := I.val j d h
      exact ⟨v, h1, h2.up gp.ff⟩
  · by_cases hij : i = j
    · subst hij
      rcases Nat.lt_or_ge i ρ.length with z | z
      · rw [List.getElem?_set_self z] at h; cases h
      · rw [List.getElem?_eq_none (by rw [List.length_set]; exact z)] at h; cases h
    · rw [List.getElem?_set_ne hij] at h
      obtain ⟨b, u, b1, b2, b3, b4, b5, b6⟩ := I.own j n h
      have hb : b ≠ a := fun q => by
        subst q
        exact I.sep i j _ n b hij hi h ha b1
      exact ⟨b, u, b1, by rw [upd_ne hb]; exact b2, b3, b4, b5, b6.up gp.ff⟩
  · have w : ∀ (q : Nat) (n : Mo), (ρ.set i (.val (.lst ds)))[q]? = some (.mu n) → ρ[q]? = some (.mu n) := fun q n h => by
      by_cases hq : i = q
      · subst hq
        rcases Nat.lt_or_ge i ρ.length with z | z
        · rw [List.getElem?_set_self z] at h; cases h
        · rw [List.getElem?_eq_none (by rw [List.length_set]; exact z)] at h; cases h
      · rw [List.getElem?_set_ne hq] at h; exact h
    exact I.sep j k n n' b hjk (w _ _ h1) (w _ _ h2) h3
end
section
variable {X : Cx} {B : Bs} {K : Frg} {ms : List Addr} {a b c e o : Expr} {es : List Expr} {ra rb rc r ro : Rd} {rt ru : RdT} {rl : RdA} {pos p0 apos : Pos} {R : RdF} {k : Nat} {f C g p : Addr} {x m : Str} {s1 s2 : RdS}
/-- x = [..], a list that grows -/
theorem s_own (h0 : Same B.F0 B.H0) {i : Nat} {x : Str} {pos' : Pos} (hN : X.N.Nodup) (hi : X.N[i]? = some x) (hx : Loc X.env.scope x) (ha : PAp X B es rl) (hs : swapsWith (.List es p0) (some (.Name x pos')) pos.line X.env = pure false := by rfl) (hf : X.fn x = true ∨ X.env.scope.names.lookup x = some .local := by first | exact .inl rfl | exact .inr rfl | assumption) :
    PSp X B (.Assign [.Name x pos'] (.List es p0) pos) (fun ρ E => rl ρ fun ds => ds.length ≤ 100000 ∧ E.nx (ρ.set i (.mu (.lst ds)))) :=
  ps_imp (ps_set hN hi hx (pe_lstZ ha) hs hf) fun σ H Dd ⟨F, ρ, E, I, z, kn, kr, kb, kc⟩ => ⟨F, ρ, _, I, z, fun vs F1 H1 ds g1 t1 r1 z1 => ⟨Nat.le_trans (by rw [r1.len]; exact z1.1) line_ge, fun p H2 hp e2 => kn _ _ F1 H2 g1.ff ((I.step g1 t1).newM (m := .lst ds) h0 i hp e2 ⟨vs, rfl, r1⟩) z1.2⟩⟩
def appM (i : Nat) (ρ : Ev) (d : D) (Q : Ev → Prop) : Prop := match ρ[i]? with
  | some (.mu (.lst ds)) => ds.length < 100000 ∧ Q (ρ.set i (.mu (.lst (ds ++ [d]))))
  | _ => False
/-- x.append(e) -/
theorem s_app {i : Nat} {x : Str} {pv cpos : Pos} (hv : PE X (.Name x pv) (tVar i)) (he : PEp X B e r)
    (hc : ∀ t : TA, PA X [e] t → PE X (.Call (.Attribute (.Name x pv) "append" apos) [e] [] cpos) (tBM X.K "list" rAppZ (tVar i) t)) (h1 : starEach [e] X.env = (false, eval e X.env) :: starEach [] X.env := by rfl)
    (hs : swapsWith (.Call (.Attribute (.Name x pv) "append" apos) [e] [] cpos) none pos.line X.env = pure false := by rfl) : PSp X B (.Expr (.Call (.Attribute (.Name x pv) "append" apos) [e] [] cpos) pos) (fun ρ E => (∃ ds, ρ[i]? = some (.mu (.lst ds))) ∧ r ρ fun d => appM i ρ d E.nx) :=
  ps_imp (ps_expr (hc _ (pa_cons he pa_nil h1)) hs) fun σ H Dd ⟨F, ρ, E, I, ⟨⟨ds, hds⟩, z⟩, kn, kr, kb, kc⟩ => by
    obtain ⟨a, oo, ha, fa, nm, h0, h5, vs, rfl, hr⟩ := I.own i _ hds
    refine ⟨.ref a, ha, .inl ⟨rfl, _, SqL.of h5⟩, F, ρ, _, I, z, fun v F1 H1 d g1 t1 r1 z1 => ?_⟩
    have I1 := I.step g1 t1
    unfold appM at z1
    rw [hds] at z1
    obtain ⟨a', o', b1, b2, b3, b4, b5, vs', rfl, b6⟩ := I1.own i _ hds
    rw [ha] at b1
    cases b1
    refine ⟨a, vs', v, rfl, rfl, b5, by rw [b6.len]; exact Nat.lt_of_lt_of_le z1.1 line_ge, fun H2 e2 => ?_⟩
    exact kn σ _ F1 H2 g1.ff (I1.put (m' := .lst (ds ++ [d])) i hds ha e2 ⟨_, rfl, b6.app (.one r1)⟩) z1.2
theorem pe_app {t : TA} {pv cpos : Pos} {x : Str} {i : Nat} (hv : PE X (.Name x pv) (tVar i)) (ha : PA X [e] t) (hbase : attributeBase (.Name x pv) "append" X.env (eval (.Name x pv) X.env) = eval (.Name x pv) X.env := by rfl)
    (h2 : PE X (.Call (.Attribute (.Name x pv) "append" apos) [e] [] cpos) (tBM X.K "list" rAppZ (tVar i) t) := by exact pe_bm PySem.F.plainAttrs_list PySem.F.slot_list_append PySem.F.type_list_append mt_appZ (by assumption) (by assumption)) : PE X (.Call (.Attribute (.Name x pv) "append" apos) [e] [] cpos) (tBM X.K "list" rAppZ (tVar i) t) := h2
def frzM (i : Nat) (ρ : Ev) (Q : Ev → Prop) : Prop := match ρ[i]? with
  | some (.mu (.lst ds)) => Q (ρ.set i (.val (.lst ds)))
  | _ => False
theorem s_frz (i : Nat) {rest : List Stmt} (h : PSsp X B rest s1) : PSsp X B rest (fun ρ E => frzM i ρ fun ρ' => s1 ρ' E) :=
  pss_imp h fun σ H Dd ⟨F, ρ, E, I, z, kn, kr, kb, kc⟩ => by
    have z' : frzM i ρ fun ρ' => s1 ρ' E := z
    clear z
    unfold frzM at z'
    split at z'
    · rename_i ds e
      obtain ⟨F2, s2, I2⟩ := I.freeze i e
      exact ⟨F2, _, E, I2, z', fun σ' ρ' F' H' s I' z' => kn σ' ρ' F' H' (s2.trans s) I' z', kr, fun σ' ρ' F' H' s I' z' => kb σ' ρ' F' H' (s2.trans s) I' z', fun σ' ρ' F' H' s I' z' => kc σ' ρ' F' H' (s2.trans s) I' z'⟩
    · exact z'.elim
/-! ### operators of own classes -/
theorem sp_callG {K : Frg} {F1 H1 : Hp} {vs : List V} {ds : List D} {Qd : D → Prop} {Q : VK} (g0 : Go B.ms B.F0 B.H0 F1 H1) (t1 : Tp K B.ms F1 H1) (r1 : Rps K B.ms F1 vs ds) (kk : ∀ v F' H' d, Go B.ms F1 H1 F' H' → Tp K B.ms F' H' → Rp K B.ms F' v d → Qd d → Q v H') (h : R ds Qd B.Ed) : spP K R vs H1 Q (EE K B) :=
  ⟨B.ms, F1, ds, Qd, B.Ed, t1, r1, h, fun v F2 H2 d g2 t2 r2 q2 => kk v F2 H2 d g2 t2 r2 q2, fun cls d F2 H2 x g2 t2 xr q => ⟨F2, x, g0.trans g2, t2, xr, q⟩⟩
def OpI (K : Frg) (B : Bs) (r : R2) (g : D → D → (D → Prop) → Prop) : Prop := ∀ (F H : Hp) (x y : V) (dx dy : D) (Qd : D → Prop) (Q : VK), Go B.ms B.F0 B.H0 F H → Tp K B.ms F H → Rp K B.ms F x dx → Rp K B.ms F y dy → g dx dy Qd → (∀ v F' H' d, Go B.ms F H F' H' → Tp K B.ms F' H' → Rp K B.ms F' v d → Qd d → Q v H') → r x y H Q
theorem tOpI_of {g : D → D → (D → Prop) → Prop} {o : R2} (hl : OpI X.K B o g) (σ : L2.St) (H : Hp) (Q : VK) (h : tE X.K B (fun ρ Q => ra ρ fun x => rb ρ fun y => g x y Q) σ H Q) : tOp o (tE X.K B ra) (tE X.K B rb) σ H Q := by
  obtain ⟨F, ρ, Qd, I, z, k⟩ := h
  refine ⟨F, ρ, _, I, z, fun v F1 H1 d g1 t1 r1 z1 => ⟨F1, ρ, _, I.step g1 t1, z1, fun u F2 H2 e g2 t2 r2 z2 => ?_⟩⟩
  exact hl F2 H2 v u d e Qd Q ((I.go.trans g1).trans g2) t2 (r1.up g2.ff) r2 z2 fun w F3 H3 d3 g3 t3 r3 q3 => k w F3 H3 d3 ((g1.trans g2).trans g3) t3 r3 q3
theorem y_opI {op : Operator} {g : D → D → (D → Prop) → Prop} {o : R2} (ho : OpR X (binaryOp op) o) (hl : OpI X.K B o g) (ha : PEp X B a ra) (hb : PEp X B b rb) : PEp X B (.BinOp a op b pos) (fun ρ Q => ra ρ fun x => rb ρ fun y => g x y Q) := pe_imp (pe_op ho ha hb) (tOpI_of hl)
theorem y_cmpI {op : CmpOp} {g : D → D → (D → Prop) → Prop} {o : R2} (ho : OpR X (compareOp op) o) (hl : OpI X.K B o g) (ha : PEp X B a ra) (hb : PEp X B b rb) (hm : behindInMarks op b = false) : PEp X B (.Compare a [op] [b] pos) (fun ρ Q => ra ρ fun x => rb ρ fun y => g x y Q) := pe_imp (pe_cmpR ho ha hb hm) (tOpI_of hl)
theorem z_cmpI {op : CmpOp} {g : D → D → (D → Prop) → Prop} {o : R2} (ho : OpR X (compareOp op) o) (hl : OpI X.K B o g) (ha : PEp X B a ra) (hb : PEp X B b rb) (hm : behindInMarks op b = false) : PTp X B (.Compare a [op] [b] pos) (fun ρ Q => ra ρ fun x => rb ρ fun y => g x y fun d => tst d Q) :=
  pt_imp (pt_cmpR ho ha hb hm) (tTest_of (tOpI_of hl))
/-- both of the own class C -/
def dBinO (B : Bs) (R : RdF) (C : Str) (ns : List Str) (x y : D) (Q : D → Prop) : Prop := asO [C] ns x (asO [C] ns y (R [x, y] Q B.Ed))
theorem asO_of {K : Frg} {ms : List Addr} {F : Hp} {cs ns : List Str} {v : V} {d : D} {k : Prop} (r : Rp K ms F v d) (h : asO cs ns d k) : ∃ a dx fs c, v = .ref a ∧ c ∈ cs ∧ F a = some (.ins (He.ga K c) dx fs) ∧ k := by
  unfold asO at h
  split at h
  · obtain ⟨h1, rfl, h2⟩ := h
    cases r with
    | obj h3 h4 h5 => exact ⟨_, _, _, _, rfl, h1, h3, h2⟩
  · exact h.elim
theorem binOL {C : Str} {ns : List Str} : OpI K B (rBinO (He.ga K C) (spP K R) (EE K B)) (dBinO B R C ns) := by
  intro F H x y dx dy Qd Q g0 t0 rx ry h k
  obtain ⟨a, d1, f1, c1, rfl, hc1, h1, hh⟩ := asO_of rx h
  obtain ⟨b, d2, f2, c2, rfl, hc2, h2, hhh⟩ := asO_of ry hh
  have e1 : c1 = C := by simpa using hc1
  have e2 : c2 = C := by simpa using hc2
  subst e1
  subst e2
  exact ⟨a, d1, f1, b, d2, f2, rfl, rfl, t0.1 _ _ h1, t0.1 _ _ h2, sp_callG g0 t0 (.cons rx (.cons ry .nil)) k hhh⟩
/-- == and != of an own class: the right one any value with a type that is known -/
def dEqO (B : Bs) (R : RdF) (neg : Bool) (C : Str) (ns cs : List Str) (x y : D) (Q : D → Prop) : Prop := asO [C] ns x ((match y with | .obj c _ _ => c ∈ cs | .ty _ | .glob _ | .tape | .fn _ => False | _ => True) ∧ R [x, y] (fun d => tst d fun b => Q (.bl (neg != b))) B.Ed)
theorem eqOL {C : Str} {ns cs : List Str} {neg : Bool} (hC : OwnC K C) (hc : ∀ c ∈ cs, OwnC K c ∧ PySem.W.notFirst K (He.ga K C) (.ref (He.ga K c)) = true) : OpI K B (rEqO neg K (He.ga K C) (spP K R) (EE K B)) (dEqO B R neg C ns cs) := by
  intro F H x y dx dy Qd Q g0 t0 rx ry h k
  obtain ⟨a, d1, f1, c1, rfl, hc1, h1, ht, hh⟩ := asO_of rx h
  obtain rfl : c1 = C := by simpa using hc1
  have ty : ∃ t, TyX K H y t ∧ PySem.W.notFirst K (He.ga K c1) t = true := by
    cases dy with
    | obj c _ _ => exact ⟨_, tyX_of ry t0.1 rfl (fun _ _ _ z => by cases z; exact (hc _ ht).1), (hc _ ht).2⟩
    | non => exact ⟨_, tyX_of ry t0.1 rfl (fun _ _ _ z => nomatch z), hC.2.nf _ (by decide)⟩
    | bl _ => exact ⟨_, tyX_of ry t0.1 rfl (fun _ _ _ z => nomatch z), hC.2.nf _ (by decide)⟩
    | int _ => exact ⟨_, tyX_of ry t0.1 rfl (fun _ _ _ z => nomatch z), hC.2.nf _ (by decide)⟩
    | str _ => exact ⟨_, tyX_of ry t0.1 rfl (fun _ _ _ z => nomatch z), hC.2.nf _ (by decide)⟩
    | lst _ => exact ⟨_, tyX_of ry t0.1 rfl (fun _ _ _ z => nomatch z), hC.2.nf _ (by decide)⟩
    | tup _ => exact ⟨_, tyX_of ry t0.1 rfl (fun _ _ _ z => nomatch z), hC.2.nf _ (by decide)⟩
    | dic _ _ => exact ⟨_, tyX_of ry t0.1 rfl (fun _ _ _ z => nomatch z), hC.2.nf _ (by decide)⟩
    | _ => exact ht.elim
  obtain ⟨t, ty1, ty2⟩ := ty
  refine ⟨a, d1, f1, t, rfl, t0.1 _ _ h1, ty1, ty2, sp_callG g0 t0 (.cons rx (.cons ry .nil)) (fun v F' H' d g t r q => ?_) hh⟩
  unfold tst at q
  split at q
  · cases r
    refine ⟨_, rfl, k _ F' H' _ g t (.bl _) ?_⟩
    cases neg <;> simpa using q
  · exact q.elim
/-- x in o -/
def dInO (B : Bs) (R : RdF) (neg : Bool) (C : Str) (ns : List Str) (x y : D) (Q : D → Prop) : Prop := asO [C] ns y (R [y, x] (fun d => tst d fun b => Q (.bl (neg != b))) B.Ed)
theorem inOL {C : Str} {ns : List Str} {neg : Bool} : OpI K B (rInO neg (He.ga K C) (spP K R) (EE K B)) (dInO B R neg C ns) := by
  intro F H x y dx dy Qd Q g0 t0 rx ry h k
  obtain ⟨a, d1, f1, c1, rfl, hc1, h1, hh⟩ := asO_of ry h
  obtain rfl : c1 = C := by simpa using hc1
  refine ⟨a, d1, f1, rfl, t0.1 _ _ h1, sp_callG g0 t0 (.cons ry (.cons rx .nil)) (fun v F' H' d g t r q => ?_) hh⟩
  unfold tst at q
  split at q
  · cases r
    refine ⟨_, rfl, k _ F' H' _ g t (.bl _) ?_⟩
    cases neg <;> simpa using q
  · exact q.elim
end
end Y
namespace Y
open PySem PySem.Spec PyProof.Rows L2 Z
/-! ### making instances -/
def spI (K : Frg) (C : Str) (R : RdF) : Sp := fun vs H Q E => ∃ ms F Hb x args ds Qd Ed, vs = .ref x :: args ∧ Go ms F Hb F H ∧ Same F Hb ∧ Hb x = none ∧ Tp K ms F H ∧ (∃ dx, H x = some (.ins (He.ga K C) dx [])) ∧ Rps K ms F args ds ∧ R ds Qd Ed ∧
  (∀ F' H' o ns fs, Go ms F Hb F' H' → Tp K ms F' H' → F' x = none → H' x = some o → MoR K ms F' x (.ins x C ns fs) o → Qd (.obj C ns fs) → Q .non H') ∧ (∀ cls d F' H' y, Go ms F Hb F' H' → Tp K ms F' H' → XR K ms F' cls d y → Ed y → E cls d H')
theorem spI_of {K : Frg} {C : Str} {R : RdF} {E : XK} (vs : List V) (H : Hp) (Q : VK) (h : spP K R vs H Q E) : ∀ x dx, H x = none → H dx = none → dx ≠ x → spI K C R (.ref x :: vs) (upd (upd H dx (.own x)) x (.ins (He.ga K C) dx [])) (fun v H2 => v = .non ∧ Q (.ref x) H2) E := by
  obtain ⟨ms, F, ds, Qd, Ed, t, r, h, kq, ke⟩ := h
  intro x dx nx nd ne
  have g1 : Go [] F H F (upd H dx (.own x)) := Go.newM t.1 nd
  have nx1 : (upd H dx (.own x)) x = none := by rw [upd_ne (Ne.symm ne)]; exact nx
  have g2 : Go [] F (upd H dx (.own x)) F (upd (upd H dx (.own x)) x (.ins (He.ga K C) dx [])) := Go.newM g1.fh nx1
  have g12 := g1.trans g2
  have nm := t.nms nx
  refine ⟨ms, F, H, x, vs, ds, Qd, Ed, rfl, g12.nil, t.1, nx, t.go0 g12, ⟨dx, upd_same⟩, r, h, fun F' H' o ns fs g3 t3 fx hx mo q => ⟨rfl, ?_⟩, fun cls d F' H' y g3 t3 xr q => ke cls d F' H' y g3 t3 xr q⟩
  obtain ⟨_, dx', ws, rfl, hl, hr⟩ := mo
  have g4 : Go [x] F' H' (upd F' x (.ins (He.ga K C) dx' (ns.zip ws))) H' := Go.freeze t3.1 fx hx
  have g5 : Go ms F H (upd F' x (.ins (He.ga K C) dx' (ns.zip ws))) H' := ((g3.sub (ms' := x :: ms) fun y hy => List.mem_cons_of_mem _ hy).trans (g4.sub fun y hy => by
    have : y = x := by simpa using hy
    rw [this]; exact List.mem_cons_self)).drop nx
  exact kq _ _ H' _ g5 (t3.gox g4 nm) (.obj upd_same hl (hr.up g4.ff)) q
def finI (x : Addr) (C : Str) (Q : D → Prop) (ρ : Ev) : Prop := match ρ[0]? with
  | some (Sl.mu (Mo.ins y c ns fs)) => (y = x ∧ c = C) ∧ Q (.obj c ns fs)
  | _ => False
section
variable {P : Program} {w : World} {K : Frg} {mg : Str → Option Value} {base : Heap}
theorem startI_get {N : List Str} {ds : List D} {m : Mo} {j : Nat} : (Sl.mu m :: startE (N.length - 1) ds)[j + 1]? = (startE (N.length - 1) ds)[j]? := List.getElem?_cons_succ
theorem y_initB {C qual : Str} {st : Stmt} {f : Addr} {N ps : List Str} {k : Nat} {R : RdF} (S : FnScope N ps (defScope st)) (len : ∀ ds Q E, R ds Q E → ds.length + 1 = ps.length)
    (hbody : ∀ (cdv : Value) (A : Around) (outer : List Env) (s : Shared) (H : Hp) (E : XK) (B : Bs), Same B.F0 B.H0 → RoomG k (A.deeper (envOfC qual (defScope st) s.heap.objs.size f cdv)) → Px (cxOf (L2.CX P w) P w K mg base N qual (defScope st) f cdv A outer s H E) B →
      PassesOwn (model P w) (cxOf (L2.CX P w) P w K mg base N qual (defScope st) f cdv A outer s H E).A (cxOf (L2.CX P w) P w K mg base N qual (defScope st) f cdv A outer s H E).env (cxOf (L2.CX P w) P w K mg base N qual (defScope st) f cdv A outer s H E).xe →
      ∃ r, PSsp (cxOf (L2.CX P w) P w K mg base N qual (defScope st) f cdv A outer s H E) B (defBody st) r ∧ ∀ x ds Q, R ds Q B.Ed → r (.mu (.ins x C [] []) :: startE (N.length - 1) ds) { nx := finI x C Q, rt := fun _ => False }) (cdv : Value) (A : Around) (outer : List Env) (s : Shared) (H : Hp) (vs : List V) (Q : VK) (E : XK) (hr : RoomG k (A.deeper (envOfC qual (defScope st) s.heap.objs.size f cdv))) (h : spI K C R vs H Q E) :
    ∃ t, PSs (cxOf (L2.CX P w) P w K mg base N qual (defScope st) f cdv A outer s H E) (defBody st) t ∧ t { nx := fun _ H' => Q .non H', rt := Q } (start N vs) H := by
  obtain ⟨ms, F, Hb, x, args, ds, Qd, Ed, rfl, g0, sb, nx, t, ⟨dx, hx⟩, r, h, kq, ke⟩ := h
  obtain ⟨rr, h1, h2⟩ := hbody cdv A outer s H E ⟨ms, F, Hb, Ed⟩ sb hr (px_of fun cls d H' ⟨F', y, g, t', xr, z⟩ => ke cls d F' H' y g t' xr z) po_of
  have hN : 1 ≤ N.length := by
    have e1 := len _ _ _ h
    have e2 := congrArg List.length S.pre
    rw [List.length_take] at e2
    omega
  have nm : x ∉ ms := t.notIns hx
  have iv : Iv K ⟨ms, F, Hb, Ed⟩ F H (L2.start N (.ref x :: args)) (.mu (.ins x C [] []) :: startE (N.length - 1) ds) := by
    refine ⟨g0, t, ?_, fun i d h => ?_, fun i m h => ?_, fun i j m n a hij h1 h2 h3 => ?_⟩
    · simp [L2.start, startE, r.len]
      omega
    · cases i with
      | zero => cases h
      | succ i =>
        rw [List.getElem?_cons_succ] at h
        unfold startE at h
        have hi : i < ds.length := by
          rcases Nat.lt_or_ge i ds.length with z | z
          · exact z
          · rw [List.getElem?_append_right (by simpa using z), List.getElem?_replicate] at h
            split at h <;> cases h
        rw [List.getElem?_append_left (by simpa using hi), List.getElem?_map, List.getElem?_eq_getElem hi] at h
        have hd : ds[i]? = some d := by
          rw [List.getElem?_eq_getElem hi]
          simpa using h
        obtain ⟨v, h1, h2⟩ := r.get hd
        refine ⟨v, ?_, h2⟩
        unfold L2.start
        rw [List.getElem?_append_left (by simp [r.len]; omega), List.getElem?_map, List.getElem?_cons_succ, h1]
        rfl
    · cases i with
      | zero =>
        cases h
        exact ⟨x, _, rfl, same_none sb nx, nm, nx, hx, rfl, dx, [], rfl, rfl, .nil⟩
      | succ i =>
        exfalso
        rw [List.getElem?_cons_succ] at h
        unfold startE at h
        rcases Nat.lt_or_ge i ds.length with z | z
        · rw [List.getElem?_append_left (by simpa using z), List.getElem?_map, List.getElem?_eq_getElem z] at h
          cases h
        · rw [List.getElem?_append_right (by simpa using z), List.getElem?_replicate] at h
          split at h <;> cases h
    · have key : ∀ (i : Nat) (m : Mo), (Sl.mu (.ins x C [] []) :: startE (N.length - 1) ds)[i]? = some (.mu m) → i = 0 := fun i m h => by
        cases i with
        | zero => rfl
        | succ i =>
          exfalso
          rw [List.getElem?_cons_succ] at h
          unfold startE at h
          rcases Nat.lt_or_ge i ds.length with z | z
          · rw [List.getElem?_append_left (by simpa using z), List.getElem?_map, List.getElem?_eq_getElem z] at h
            cases h
          · rw [List.getElem?_append_right (by simpa using z), List.getElem?_replicate] at h
            split at h <;> cases h
      exact absurd ((key i m h1).trans (key j n h2).symm) hij
  refine ⟨_, h1, F, _, _, iv, h2 x ds Qd h, ?_, ?_, ?_, ?_⟩
  · intro σ' ρ' F' H' _ I' z
    have z' : finI x C Qd ρ' := z
    clear z
    unfold finI at z'
    split at z'
    · rename_i y c ns fs e
      obtain ⟨⟨rfl, rfl⟩, z'⟩ := z'
      obtain ⟨a, o, b1, b2, b3, b4, b5, b6⟩ := I'.own 0 _ e
      obtain ⟨ea, _⟩ := id b6
      subst ea
      exact kq F' H' o ns fs I'.go I'.tp b2 b5 b6 z'
    · exact z'.elim
  · intro v d F' H' g t' r' z
    exact z.elim
  · intro _ _ _ _ _ _ z; exact z
  · intro _ _ _ _ _ _ z; exact z
theorem y_init {C x qual : Str} {st : Stmt} {f : Addr} {N ps : List Str} {k : Nat} {R : RdF} (F : DefAt K x qual st f) (S : FnScope N ps (defScope st)) (len : ∀ ds Q E, R ds Q E → ds.length + 1 = ps.length)
    (hb : ∀ (kV doc pm : Value) (an : Option Addr) (cdv ct : Value) (us : List Value), us.length = ps.length → bindArgs (PySem.W.fnOf x qual (defArgs st) (defBody st) (defScope st) .none kV doc pm an cdv ct) ⟨us, []⟩ = pure (ps.zip us))
    (hbody : ∀ (cdv : Value) (A : Around) (outer : List Env) (s : Shared) (H : Hp) (E : XK) (B : Bs), Same B.F0 B.H0 → RoomG k (A.deeper (envOfC qual (defScope st) s.heap.objs.size f cdv)) → Px (cxOf (L2.CX P w) P w K mg base N qual (defScope st) f cdv A outer s H E) B →
      PassesOwn (model P w) (cxOf (L2.CX P w) P w K mg base N qual (defScope st) f cdv A outer s H E).A (cxOf (L2.CX P w) P w K mg base N qual (defScope st) f cdv A outer s H E).env (cxOf (L2.CX P w) P w K mg base N qual (defScope st) f cdv A outer s H E).xe →
      ∃ r, PSsp (cxOf (L2.CX P w) P w K mg base N qual (defScope st) f cdv A outer s H E) B (defBody st) r ∧ ∀ x ds Q, R ds Q B.Ed → r (.mu (.ins x C [] []) :: startE (N.length - 1) ds) { nx := finI x C Q, rt := fun _ => False }) : FnG P w K mg base (L2.CX P w) (k + 1) f (spI K C R) := by
  exact zfnG F S (fun vs H Q E ⟨ms, F, Hb, x, args, ds, Qd, Ed, e, _, _, _, _, _, r, h, _⟩ => by rw [e, List.length_cons, r.len]; exact len _ _ _ h) hb (y_initB S len hbody)
/-! ### a def with one default -/
def DefAtD (K : Frg) (x qual : Str) (st : Stmt) (f : Addr) (d : D) : Prop := ∃ fd v, L2.FunD K x qual (defArgs st) (defBody st) (defScope st) [v] [] f fd ∧ ∀ ms F, Rp K ms F v d
theorem zfnGD {x qual : Str} {st : Stmt} {f : Addr} {N ps : List Str} {k : Nat} {sp : Sp} {v : V} (F : ∃ fd, L2.FunD K x qual (defArgs st) (defBody st) (defScope st) [v] [] f fd) (S : FnScope N ps (defScope st)) (len : ∀ vs H Q E, sp vs H Q E → vs.length = ps.length)
    (hb0 : ∀ (T : Addr) (kV doc pm : Value) (an : Option Addr) (cdv ct : Value) (us : List Value) (u : Value), us.length + 1 = ps.length → ∃ k, bindArgs (PySem.W.fnOf x qual (defArgs st) (defBody st) (defScope st) (.ref T) kV doc pm an cdv ct) ⟨us, []⟩ = seqItems? (.ref T) >>= k ∧ k (some #[u]) = pure (ps.zip (us ++ [u])))
    (hb1 : ∀ (T : Addr) (kV doc pm : Value) (an : Option Addr) (cdv ct : Value) (us : List Value) (u : Value), us.length = ps.length → ∃ k, bindArgs (PySem.W.fnOf x qual (defArgs st) (defBody st) (defScope st) (.ref T) kV doc pm an cdv ct) ⟨us, []⟩ = seqItems? (.ref T) >>= k ∧ k (some #[u]) = pure (ps.zip us))
    (hbody : ∀ (cdv : Value) (A : Around) (outer : List Env) (s : Shared) (H : Hp) (vs : List V) (Q : VK) (E : XK), RoomG k (A.deeper (envOfC qual (defScope st) s.heap.objs.size f cdv)) → sp vs H Q E →
      ∃ t, PSs (cxOf (L2.CX P w) P w K mg base N qual (defScope st) f cdv A outer s H E) (defBody st) t ∧ t { nx := fun _ H' => Q .non H', rt := Q } (start N vs) H) : FnG P w K mg base (L2.CX P w) (k + 1) f (fun vs H Q E => sp (vs ++ [v]) H Q E ∨ sp vs H Q E) := by
  obtain ⟨fd, F⟩ := F
  obtain ⟨oc, od, dV, kV, doc, pm, an, cdv, ct, osl, rfl, lk, hcd, hD, hK⟩ := F.ex
  rcases hD with ⟨e, _⟩ | ⟨_, T, o, its, m, rfl, lT, oT, rT⟩
  · cases e
  · obtain ⟨u, rfl⟩ : ∃ u, its = [u] := by
      have := rT.length
      match its, this with
      | [u], _ => exact ⟨u, rfl⟩
    intro A outer s H us vs Q E hr e0 r hs
    have KX : K.In s.heap := e0.mod.kin.keeps fun b o e => (e0.bs b o e).1
    rcases hs with hs | hs
    · have hl := len _ _ _ _ hs
      refine StX.run_bnd lk hcd S hr.rm e0 (G := fun xs H2 => xs = vs ++ [v] ∧ H2 = H) (fun A' Ex Q' h => ?_) fun s2 H2 xs g hr' => ?_
      · have hu : us.length + 1 = ps.length := by
          have := r.length
          rw [List.length_append] at hl
          simp only [List.length_cons, List.length_nil] at hl
          omega
        obtain ⟨k, e1, e2⟩ := hb0 T kV doc pm an cdv ct us u hu
        rw [e1]
        refine wpAny_bind (wpAny_seqItems (KX _ _ lT) oT ?_)
        rw [e2]
        exact wpAny_pure (h s H _ _ e0 .refl rfl (fun _ _ z => z) (r.append rT) hl ⟨rfl, rfl⟩)
      · obtain ⟨rfl, rfl⟩ := g
        exact hbody cdv A outer s2 H2 _ Q E ⟨hr', hr.gd⟩ hs
    · have hl := len _ _ _ _ hs
      refine StX.run_bnd lk hcd S hr.rm e0 (G := fun xs H2 => xs = vs ∧ H2 = H) (fun A' Ex Q' h => ?_) fun s2 H2 xs g hr' => ?_
      · have hu : us.length = ps.length := r.length.symm.trans hl
        obtain ⟨k, e1, e2⟩ := hb1 T kV doc pm an cdv ct us u hu
        rw [e1]
        refine wpAny_bind (wpAny_seqItems (KX _ _ lT) oT ?_)
        rw [e2]
        exact wpAny_pure (h s H vs us e0 .refl rfl (fun _ _ z => z) r hl ⟨rfl, rfl⟩)
      · obtain ⟨rfl, rfl⟩ := g
        exact hbody cdv A outer s2 H2 xs Q E ⟨hr', hr.gd⟩ hs
/-- R0 with the default d of its last place -/
def dflR (R0 : RdF) (n : Nat) (d : D) : RdF := fun ds Q E => cond (Nat.beq ds.length n) (R0 (ds ++ [d]) Q E) (R0 ds Q E)
theorem y_initD {C x qual : Str} {st : Stmt} {f : Addr} {N ps : List Str} {k n : Nat} {R : RdF} {d : D} (F : DefAtD K x qual st f d) (S : FnScope N ps (defScope st)) (len : ∀ ds Q E, R ds Q E → ds.length + 1 = ps.length)
    (hb0 : ∀ (T : Addr) (kV doc pm : Value) (an : Option Addr) (cdv ct : Value) (us : List Value) (u : Value), us.length + 1 = ps.length → ∃ k, bindArgs (PySem.W.fnOf x qual (defArgs st) (defBody st) (defScope st) (.ref T) kV doc pm an cdv ct) ⟨us, []⟩ = seqItems? (.ref T) >>= k ∧ k (some #[u]) = pure (ps.zip (us ++ [u])))
    (hb1 : ∀ (T : Addr) (kV doc pm : Value) (an : Option Addr) (cdv ct : Value) (us : List Value) (u : Value), us.length = ps.length → ∃ k, bindArgs (PySem.W.fnOf x qual (defArgs st) (defBody st) (defScope st) (.ref T) kV doc pm an cdv ct) ⟨us, []⟩ = seqItems? (.ref T) >>= k ∧ k (some #[u]) = pure (ps.zip us))
    (hbody : ∀ (cdv : Value) (A : Around) (outer : List Env) (s : Shared) (H : Hp) (E : XK) (B : Bs), Same B.F0 B.H0 → RoomG k (A.deeper (envOfC qual (defScope st) s.heap.objs.size f cdv)) → Px (cxOf (L2.CX P w) P w K mg base N qual (defScope st) f cdv A outer s H E) B →
      PassesOwn (model P w) (cxOf (L2.CX P w) P w K mg base N qual (defScope st) f cdv A outer s H E).A (cxOf (L2.CX P w) P w K mg base N qual (defScope st) f cdv A outer s H E).env (cxOf (L2.CX P w) P w K mg base N qual (defScope st) f cdv A outer s H E).xe →
      ∃ r, PSsp (cxOf (L2.CX P w) P w K mg base N qual (defScope st) f cdv A outer s H E) B (defBody st) r ∧ ∀ x ds Q, R ds Q B.Ed → r (.mu (.ins x C [] []) :: startE (N.length - 1) ds) { nx := finI x C Q, rt := fun _ => False }) : FnG P w K mg base (L2.CX P w) (k + 1) f (spI K C (dflR R n d)) := by
  obtain ⟨fd, v, F, hv⟩ := F
  refine FnG.imp (zfnGD ⟨fd, F⟩ S (fun vs H Q E ⟨ms, F, Hb, x, args, ds, Qd, Ed, e, _, _, _, _, _, r, h, _⟩ => by rw [e, List.length_cons, r.len]; exact len _ _ _ h) hb0 hb1 (y_initB S len hbody)) ?_
  rintro vs H Q E ⟨ms, F, Hb, x, args, ds, Qd, Ed, rfl, h1, h2, h3, h4, h5, h6, h7, h8⟩
  unfold dflR at h7
  cases hb : Nat.beq ds.length n
  · rw [hb] at h7
    exact .inr ⟨ms, F, Hb, x, args, ds, Qd, Ed, rfl, h1, h2, h3, h4, h5, h6, h7, h8⟩
  · rw [hb] at h7
    exact .inl ⟨ms, F, Hb, x, args ++ [v], ds ++ [d], Qd, Ed, rfl, h1, h2, h3, h4, h5, h6.app (.one (hv ms F)), h7, h8⟩
end
end Y
namespace Y
open PySem PySem.Spec PyProof.Rows L2 Z
section
variable {X : Cx} {B : Bs} {K : Frg} {ms : List Addr} {a b c e o : Expr} {es : List Expr} {ra rb rc r ro : Rd} {rt ru : RdT} {rl : RdA} {pos p0 apos : Pos} {R : RdF} {k : Nat} {f g p : Addr} {x m : Str} {s1 s2 : RdS}
theorem y_make {C : Str} (M : Mk X.K (He.ga X.K C) f) (F : FnG X.prog X.w X.K X.mg X.base (L2.CX X.prog X.w) k f (spI X.K C R)) (hr : RoomG (k + 1) X.A) (hg : Gl X C) (hm : X.mg C = some (.ref (He.ga X.K C))) (hx : Px X B) (ha : PAp X B (e :: es) rl) (hdb : (C == ("__debug__" : Str)) = false := by decide)
    (he : starEach (e :: es) X.env = (false, eval e X.env) :: starEach es X.env := by rfl) (hpl : (backTo pos (starEach es X.env)).any (·.1) = false := by rfl) : PEp X B (.Call (.Name C p0) (e :: es) [] pos) (fun ρ Q => rl ρ fun ds => R ds Q B.Ed) :=
  pe_imp (gmake (spM := spP X.K R) (fun vs H Q h x dx h1 h2 h3 => spI_of vs H Q h x dx h1 h2 h3) M F hr hg hm hx ha hdb he hpl) fun σ H Q ⟨F, ρ, Qd, I, z, k⟩ => ⟨F, ρ, _, I, z, fun vs F1 H1 ds g1 t1 r1 z1 => sp_call I k g1 t1 r1 z1⟩
def putM (C : Str) (ns : List Str) (fl : Str) (i : Nat) (ρ : Ev) (d : D) (Q : Ev → Prop) : Prop := match ρ[i]? with
  | some (Sl.mu (Mo.ins y c n ds)) => (c = C ∧ n = ns) ∧ Q (ρ.set i (.mu (.ins y C (ns ++ [fl]) (ds ++ [d]))))
  | _ => False
theorem putF_new {f : Str} {v : V} : ∀ {ns : List Str} {vs : List V}, ns.length = vs.length → (ns.all fun y => !(f == y)) = true → putF f v (ns.zip vs) = (ns ++ [f]).zip (vs ++ [v])
  | [], [], _, _ => rfl
  | n :: ns, u :: vs, hl, h => by
    rw [List.all_cons, Bool.and_eq_true] at h
    have h1 : ¬ n = f := fun e => by
      have := h.1
      rw [e] at this
      simp at this
    show putF f v ((n, u) :: ns.zip vs) = (n, u) :: (ns ++ [f]).zip (vs ++ [v])
    unfold putF
    rw [if_neg h1, putF_new (by simpa using hl) h.2]
  | [], _ :: _, hl, _ => by simp at hl
  | _ :: _, [], hl, _ => by simp at hl
/-- self.f = v in the making -/
def gFld (K : Frg) (ta : TE) (f : Str) : TG := fun v σ H Q => ta σ H fun x H2 => ∃ a C dx fs, x = .ref a ∧ H2 a = some (.ins C dx fs) ∧ Cls K C ∧ NoAttr K C f ∧ fs.length < 1000 ∧ Q σ (upd H2 a (.ins C dx (putF f v fs)))
theorem pg_fld {ta : TE} {fl : Str} (ha : PE X o ta) : PG X (.Attribute o fl pos) (gFld X.K ta fl) := by
  refine ⟨fun pins s σ H v u Q I r h => ?_⟩
  refine PySem.W.kas_attr (thn (ha.run pins s σ H _ I h) fun ov s2 ⟨x, H2, I2, rx, a, C, dx, fs, ex, ea, c, n, l, q2⟩ => ?_)
  subst ex
  obtain rfl : ov = Value.ref a := rx
  exact setattr_ok I2 ea c n l r fun s3 I3 => ⟨σ, _, I3, q2⟩
theorem fld_run {C fl : Str} {ns : List Str} {i : Nat} {F H : Hp} {σ : L2.St} {ρ : Ev} {v : V} {d : D} {Qd : Ev → Prop} {Q : L2.St → Hp → Prop} (hc : Cls K (He.ga K C)) (hn : NoAttr K (He.ga K C) fl) (hf : (ns.all fun y => !(fl == y)) = true) (hl : ns.length < 1000) (I : Iv K B F H σ ρ) (r : Rp K B.ms F v d) (z : putM C ns fl i ρ d Qd)
    (kk : ∀ ρ' H', Iv K B F H' σ ρ' → Qd ρ' → Q σ H') : gFld K (tVar i) fl v σ H Q := by
  unfold putM at z
  split at z
  · rename_i y c n ds e
    obtain ⟨⟨rfl, rfl⟩, z⟩ := z
    obtain ⟨a, oo, h1, fa, nm, h0, h5, ey, dx, vs, rfl, h6, h7⟩ := I.own i _ e
    subst ey
    refine ⟨.ref y, h1, y, _, dx, _, rfl, h5, hc, hn, ?_, kk _ _ (I.put (m' := .ins y c (n ++ [fl]) (ds ++ [d])) i e h1 rfl ⟨rfl, dx, vs ++ [v], by rw [putF_new h6 hf], by simp [h6], h7.app (.one r)⟩) z⟩
    rw [List.length_zip]
    omega
  · exact z.elim
theorem s_fld {C fl : Str} {ns : List Str} {i : Nat} {ox : Str} {op pos' : Pos} (hc : Cls X.K (He.ga X.K C)) (hn : NoAttr X.K (He.ga X.K C) fl) (hv : PE X (.Name ox op) (tVar i)) (he : PEp X B e r) (hs : swapsWith e (some (.Attribute (.Name ox op) fl pos')) pos.line X.env = pure false := by rfl)
    (hf : (ns.all fun y => !(fl == y)) = true := by decide +kernel) (hl : ns.length < 1000 := by decide) : PSp X B (.Assign [.Attribute (.Name ox op) fl pos'] e pos) (fun ρ E => r ρ fun d => putM C ns fl i ρ d E.nx) :=
  ps_imp (ps_fld hv he hs) fun σ H Dd ⟨F, ρ, E, I, z, kn, kr, kb, kc⟩ => ⟨F, ρ, _, I, z, fun v F1 H1 d g1 t1 r1 z1 => by
    exact fld_run hc hn hf hl (I.step g1 t1) r1 z1 fun ρ' H' I' z' => kn σ ρ' F1 H' g1.ff I' z'⟩
/-- self.f, self.g = e -/
theorem s_fld2 {C f1 f2 : Str} {ns : List Str} {i : Nat} {ox oy : Str} {op oq p1 p2 tp : Pos} {kt : Nat} (hcm : X.calm = true) (hc : Cls X.K (He.ga X.K C)) (hn1 : NoAttr X.K (He.ga X.K C) f1) (hn2 : NoAttr X.K (He.ga X.K C) f2) (hv : PE X (.Name ox op) (tVar i)) (hv2 : PE X (.Name oy oq) (tVar i)) (he : PEp X B e r)
    (hs : swapsWithSole [.Tuple [.Attribute (.Name ox op) f1 p1, .Attribute (.Name oy oq) f2 p2] kt tp] e pos.line X.env = pure false := by rfl) (hw : swappedStores [.Tuple [.Attribute (.Name ox op) f1 p1, .Attribute (.Name oy oq) f2 p2] kt tp] e X.env = pure none := by rfl)
    (hf1 : (ns.all fun y => !(f1 == y)) = true := by decide +kernel) (hf2 : ((ns ++ [f1]).all fun y => !(f2 == y)) = true := by decide +kernel) (hl : ns.length < 900 := by decide) :
    PSp X B (.Assign [.Tuple [.Attribute (.Name ox op) f1 p1, .Attribute (.Name oy oq) f2 p2] kt tp] e pos) (fun ρ E => r ρ fun d => match d with | .tup [d1, d2] => putM C ns f1 i ρ d1 fun ρ1 => putM C (ns ++ [f1]) f2 i ρ1 d2 E.nx | _ => False) :=
  ps_imp (ps_asg (tg := .Tuple [.Attribute (.Name ox op) f1 p1, .Attribute (.Name oy oq) f2 p2] kt tp) he (pg_tup (n := 2) hcm (pgs_cons (pg_fld hv) (pgs_cons (pg_fld hv2) pgs_nil))) hs hw) fun σ H Dd ⟨F, ρ, E, I, z, kn, kr, kb, kc⟩ => ⟨F, ρ, _, I, z, fun v F1 H1 d g1 t1 r1 z1 => by
    split at z1
    · rename_i d1 d2
      cases r1 with
      | tup h1 h2 =>
        obtain ⟨v1, v2, rfl, q1, q2⟩ := rps2 h2
        refine ⟨_, _, rfl, sqT t1.1 h1, rfl, v1, [v2], rfl, fld_run hc hn1 hf1 (by omega) (I.step g1 t1) q1 z1 fun ρ' H' I' z' => ⟨v2, [], rfl, fld_run hc hn2 hf2 (by rw [List.length_append]; show ns.length + 1 < 1000; omega) I' q2 z' fun ρ2 H2 I2 z2 => ⟨rfl, kn σ ρ2 F1 H2 g1.ff I2 z2⟩⟩⟩
    · exact z1.elim⟩
/-! ### static methods, class methods -/
structure SMet (K : Frg) (C : Addr) (m : Str) (p g : Addr) : Prop where
  rd : ClX.CRead K C (.type "type")
  at_ : PySem.W.findCls K (.ref C) (.type "type") m = some (.get (.builtin "staticmethod.__get__") (.ref p) .none (.ref C))
  rc : ∃ rest, PySem.W.recIn K p "staticmethod" = some (.ref g :: rest)
  kp : PySem.W.keepIn K (.ref g) = true
theorem getsm {C : Addr} {pins : List (Addr × Obj)} {σ : L2.St} {H : Hp} {s : Shared} {A : Around} {E : Value → Shared → Prop} {pl : Sem Bool} {Q : Value × List Value → Shared → Prop} (I : L2.Inv X pins σ H s) (k : SMet X.K C m p g) (h : ∀ s', L2.Inv X pins σ H s' → Q (.ref g, []) s') : wpAny (model X.prog X.w) A (getMethod (.ref C) m pl) Q E s := by
  obtain ⟨rest, hp⟩ := k.rc
  refine PySem.W.method_cls I.kIn k.rd.ga (PySem.W.cls_bind I.kIn k.rd.rd k.at_ ?_)
  refine wpAny_call (PySem.W.sm_get (s := { s with toks := s.toks + 1 }) I.kIn hp (PySem.W.handed_on rfl ?_))
  exact h _ (I.tok _)
theorem y_smeth {C : Str} {pl : Sem Bool} {cp : Pos} (hg : Gl X C) (hm : X.mg C = some (.ref (He.ga X.K C))) (k0 : SMet X.K (He.ga X.K C) m p g) (F : FnG X.prog X.w X.K X.mg X.base (L2.CX X.prog X.w) k g (spP X.K R)) (hr : RoomG k X.A) (hx : Px X B) (ha : PAp X B (e :: es) rl) (hdb : (C == ("__debug__" : Str)) = false := by decide)
    (hst : starEach (e :: es) X.env = (false, eval e X.env) :: starEach es X.env := by rfl) (hpl : (backTo pos (starEach es X.env)).any (·.1) = false := by rfl)
    (ht : eval (.Call (.Attribute (.Name C cp) m apos) (e :: es) [] pos) X.env = (do
      let ov ← eval (.Name C cp) X.env
      standAt apos.atName
      let (f, first) ← holding [ov] (getMethod ov m pl)
      callWith pos f first (backTo pos (starEach (e :: es) X.env)) (backToKw pos (keywordEach [] X.env))) := by rfl) :
    PEp X B (.Call (.Attribute (.Name C cp) m apos) (e :: es) [] pos) (fun ρ Q => rl ρ fun ds => R ds Q B.Ed) := by
  refine ⟨fun pins s σ H Q I h => ?_⟩
  obtain ⟨F0, ρ, Qd, J, z, kk⟩ := h
  refine PySem.W.methodCall_KW (pl := pl) (ld_glob I hg hm ?_ hdb) ht
  refine getsm I k0 fun s1 I1 => ?_
  refine PySem.W.callWith_K (first := []) (h₀ := X.base) I.ok.mod.kin k0.kp (thn (ha.run pos pins s1 σ H (fun vs H2 => ∃ F2 ds', Go B.ms F0 H F2 H2 ∧ Tp X.K B.ms F2 H2 ∧ Rps X.K B.ms F2 vs ds' ∧ R ds' Qd B.Ed) I1 ⟨F0, ρ, _, J, z, fun vs F2 H2 ds g2 t2 r2 z3 => ⟨F2, ds, g2, t2, r2, z3⟩⟩) fun us s2 ⟨vs', H2, I2, rv, F2, ds', g2, t2, r2, z3⟩ => ⟨I2.kIn, ?_⟩) hst hpl
  exact wpAny_call (run_fnA (us := us) (vs := vs') (F.at hr) hx I2 rv (sp_call J kk g2 t2 r2 z3))
/-- C.m(*e) -/
def starD (d : D) (Q : List D → Prop) : Prop := match d with
  | .lst ds => Q ds
  | .tup ds => Q ds
  | _ => False
theorem getsmA {C : Addr} {pins : List (Addr × Obj)} {σ : L2.St} {H : Hp} {s : Shared} {A : Around} {E : Value → Shared → Prop} {ex : Bool} {Q : Value → Shared → Prop} (I : L2.Inv X pins σ H s) (k : SMet X.K C m p g) (h : ∀ s', L2.Inv X pins σ H s' → Q (.ref g) s') : wpAny (model X.prog X.w) A (getAttr (.ref C) m ex) Q E s := by
  obtain ⟨rest, hp⟩ := k.rc
  refine PySem.W.cls_bind I.kIn k.rd.rd k.at_ ?_
  refine wpAny_call (PySem.W.sm_get (s := { s with toks := s.toks + 1 }) I.kIn hp (PySem.W.handed_on rfl ?_))
  exact h _ (I.tok _)
theorem y_smethS {C : Str} {cp sp_ : Pos} (hg : Gl X C) (hm : X.mg C = some (.ref (He.ga X.K C))) (k0 : SMet X.K (He.ga X.K C) m p g) (F : FnG X.prog X.w X.K X.mg X.base (L2.CX X.prog X.w) k g (spP X.K R)) (hr : RoomG k X.A) (hx : Px X B) (he : PEp X B e r) (hdb : (C == ("__debug__" : Str)) = false := by decide)
    (hst : starEach [.Starred e sp_] X.env = [(true, eval e X.env)] := by rfl)
    (ht : eval (.Call (.Attribute (.Name C cp) m apos) [.Starred e sp_] [] pos) X.env = (do
      let ov ← eval (.Name C cp) X.env
      standAt apos.atName
      let (f, first) ← holding [ov] (do pure (← getAttr ov m true, []))
      callWith pos f first (backTo pos (starEach [.Starred e sp_] X.env)) (backToKw pos (keywordEach [] X.env))) := by rfl) :
    PEp X B (.Call (.Attribute (.Name C cp) m apos) [.Starred e sp_] [] pos) (fun ρ Q => r ρ fun d => starD d fun ds => R ds Q B.Ed) := by
  refine ⟨fun pins s σ H Q I h => ?_⟩
  obtain ⟨F0, ρ, Qd, J, z, kk⟩ := h
  rw [ht]
  refine wpAny_bind (ld_glob I hg hm ?_ hdb)
  refine wpAny_bind (wpAny_standAt (wpAny_bind (wpAny_holding (wpAny_bind (getsmA I k0 fun s1 I1 => wpAny_pure ?_)))))
  refine PySem.W.callWith_S (h₀ := X.base) I.ok.mod.kin k0.kp (thn (he.run pins s1 σ H (fun v H2 => ∃ F2 d, Go B.ms F0 H F2 H2 ∧ Tp X.K B.ms F2 H2 ∧ Rp X.K B.ms F2 v d ∧ starD d fun ds => R ds Qd B.Ed) I1 ⟨F0, ρ, _, J, z, fun v F2 H2 d g2 t2 r2 z3 => ⟨F2, d, g2, t2, r2, z3⟩⟩) fun v s2 ⟨y, H2, I2, ry, F2, d, g2, t2, r2, z3⟩ => ?_) hst
  unfold starD at z3
  split at z3
  · cases r2 with
    | lst h1 h2 =>
      obtain rfl : v = Value.ref _ := ry
      exact StX.star_any I2 (.inr (SqL.of (t2.1 _ _ h1))) fun us s3 I3 rv => ⟨I3.kIn, wpAny_call (run_fnA (F.at hr) hx I3 rv (sp_call J kk g2 t2 h2 z3))⟩
  · cases r2 with
    | tup h1 h2 =>
      obtain rfl : v = Value.ref _ := ry
      exact StX.star_any I2 (.inl (sqT t2.1 h1)) fun us s3 I3 rv => ⟨I3.kIn, wpAny_call (run_fnA (F.at hr) hx I3 rv (sp_call J kk g2 t2 h2 z3))⟩
  · exact z3.elim
/-- C.m(), a class method -/
theorem y_cmeth0 {C : Str} {pl : Sem Bool} {cp : Pos} (hg : Gl X C) (hm : X.mg C = some (.ref (He.ga X.K C))) (rd : ClX.CRead X.K (He.ga X.K C) (.type "type")) (k0 : ClX.CMet X.K (He.ga X.K C) (.type "type") m p g) (F : FnG X.prog X.w X.K X.mg X.base (L2.CX X.prog X.w) k g (spP X.K R)) (hr : RoomG k X.A) (hx : Px X B) (hdb : (C == ("__debug__" : Str)) = false := by decide)
    (ht : eval (.Call (.Attribute (.Name C cp) m apos) [] [] pos) X.env = (do
      let ov ← eval (.Name C cp) X.env
      standAt apos.atName
      let (f, first) ← holding [ov] (getMethod ov m pl)
      callWith pos f first (backTo pos (starEach [] X.env)) (backToKw pos (keywordEach [] X.env))) := by rfl) :
    PEp X B (.Call (.Attribute (.Name C cp) m apos) [] [] pos) (fun ρ Q => R [.glob C] Q B.Ed) := by
  refine ⟨fun pins s σ H Q I h => ?_⟩
  obtain ⟨F0, ρ, Qd, J, z, kk⟩ := h
  refine PySem.W.methodCall_KW (pl := pl) (ld_glob I hg hm ?_ hdb) ht
  refine ClX.getmethcm_ok I rd k0 fun s1 I1 => ?_
  refine PySem.W.callWith_M0 (first := []) ⟨ClX.pin_at I1, I1.kIn⟩ k0.fi ?_
  exact run_cmA (us := []) (vs := []) (F.at hr) hx I1 .nil (sp_call (vs := [.ref _]) J kk (Go.refl J.same) J.tp (.cons (.glob C) .nil) z)
end
end Y
namespace Y
open PySem PySem.Spec PyProof.Rows L2 Z
section
variable {P : Program} {w : World} {K : Frg} {mg : Str → Option Value} {base : Heap}
/-- def f(*v) -/
theorem y_fnS {x qual pv : Str} {st : Stmt} {f : Addr} {N : List Str} {k : Nat} {R : RdF} (F : DefAt K x qual st f) (S : FnScope N [pv] (defScope st)) (len : ∀ ds Q E, R ds Q E → ds.length ≤ 100000)
    (hb : ∀ (kV doc pm : Value) (an : Option Addr) (cdv ct : Value) (rest : List Value), bindArgs (PySem.W.fnOf x qual (defArgs st) (defBody st) (defScope st) .none kV doc pm an cdv ct) ⟨rest, []⟩ = (newTuple rest >>= fun t => pure [(pv, t)]))
    (hbody : ∀ (cdv : Value) (A : Around) (outer : List Env) (s : Shared) (H : Hp) (E : XK) (B : Bs), Same B.F0 B.H0 → RoomG k (A.deeper (envOfC qual (defScope st) s.heap.objs.size f cdv)) → Px (cxOf (L2.CX P w) P w K mg base N qual (defScope st) f cdv A outer s H E) B →
      PassesOwn (model P w) (cxOf (L2.CX P w) P w K mg base N qual (defScope st) f cdv A outer s H E).A (cxOf (L2.CX P w) P w K mg base N qual (defScope st) f cdv A outer s H E).env (cxOf (L2.CX P w) P w K mg base N qual (defScope st) f cdv A outer s H E).xe →
      ∃ r, PSsp (cxOf (L2.CX P w) P w K mg base N qual (defScope st) f cdv A outer s H E) B (defBody st) r ∧ ∀ ds Q, R ds Q B.Ed → r (startE N.length [.tup ds]) { nx := fun _ => Q .non, rt := Q }) : FnG P w K mg base (L2.CX P w) (k + 1) f (spP K R) := by
  refine (zfnSG (sp := spP K (ar1 fun d Q E => starD d fun ds => d = .tup ds ∧ R ds Q E)) F S hb fun cdv A outer s H vs Q E hr h => ?_).imp fun vs H Q E h => ?_
  · obtain ⟨ms, F, ds, Qd, Ed, t, r, h, kq, ke⟩ := h
    unfold ar1 at h
    split at h
    · rename_i d
      unfold starD at h
      split at h
      · exact absurd h.1 (fun z => nomatch z)
      · rename_i ds
        obtain ⟨rr, h1, h2⟩ := hbody cdv A outer s H E ⟨ms, F, H, Ed⟩ t.1 hr (px_of fun cls d H' ⟨F', x, g, t', xr, z⟩ => ke cls d F' H' x g t' xr z) po_of
        refine ⟨_, h1, F, _, _, iv_start (B := ⟨ms, F, H, Ed⟩) t r, h2 ds Qd h.2, ?_, ?_, ?_, ?_⟩
        · intro σ' ρ' F' H' _ I' z
          exact kq .non F' H' .non I'.go I'.tp .non z
        · intro v d F' H' g t' r' z
          exact kq v F' H' d g t' r' z
        · intro _ _ _ _ _ _ z; exact z
        · intro _ _ _ _ _ _ z; exact z
      · exact h.elim
    · exact h.elim
  · obtain ⟨ms, F, ds, Qd, Ed, t, r, h, kq, ke⟩ := h
    refine ⟨by rw [r.len]; exact Nat.le_trans (len _ _ _ h) line_ge, fun p hp => ?_⟩
    obtain ⟨F2, g2, q2, _⟩ := newE t.1 hp rfl
    exact ⟨ms, F2, [.tup ds], Qd, Ed, t.go0 g2, .cons (.tup (SqT.of q2) (r.up g2.ff)) .nil, ⟨rfl, h⟩, fun v F' H' d g t' r' q => kq v F' H' d (g2.nil.trans g) t' r' q, fun cls d F' H' x g t' xr q => ke cls d F' H' x (g2.nil.trans g) t' xr q⟩
/-- the tape's draw, as a plain promise -/
def rDraw : RdF := ar2 fun t n Q _ => match t, n with
  | .tape, .int n => (0 < n ∧ Sz 8000 n) ∧ ∀ d, 0 ≤ d → d < n → Q (.int d)
  | _, _ => False
theorem draw_of {k : Nat} {f : Addr} {CX : CXT} (F : FnR P w K mg base CX k f (spDraw K)) : FnG P w K mg base CX k f (spP K rDraw) := (FnG.of F).imp fun vs H Q E h => by
  obtain ⟨ms, F, ds, Qd, Ed, t, r, h, kq, ke⟩ := h
  unfold rDraw ar2 at h
  split at h
  · split at h
    · obtain ⟨v, u, rfl, r1, r2⟩ := rps2 r
      cases r2
      cases r1 with
      | @tape tt mt nt =>
        refine ⟨_, _, rfl, F, tt, _, rfl, rfl, t.1, t.tape _ mt nt, h.1.1, szLog h.1.2, fun d H' d0 d1 g tp => ?_⟩
        refine kq _ F H' _ (g.sub fun y hy => ?_) ⟨g.fh, fun y my ny => ?_, fun p hp => ⟨(t.tabs p hp).1, (t.tabs p hp).2.go g fun z => ?_⟩⟩ (.int d) (h.2 d d0 d1)
        · have : y = tt := by simpa using hy
          rw [this]; exact mt
        · by_cases e : y = tt
          · subst e; exact tp
          · exact (t.tape y my ny).go g (by simpa using e)
        · have e : p.1 = tt := by simpa using z
          exact nt (e ▸ List.mem_map.mpr ⟨p, hp, rfl⟩)
    · exact h.elim
  · exact h.elim
/-- law's promise, where the tables are empty -/
def spLawT (K : Frg) : Sp := Sp1 fun a H Q _ => ∃ (s : Addr) (ns : List Int), a = .ref s ∧ ns.length ≤ 63 ∧ SqL K H s (ns.map V.int) ∧ (∀ p ∈ tabsOf K, H p.1 = some (.tbl #[])) ∧ ∀ H', Q (.bl true) H'
/-- the heap but for the tables -/
def noTb (K : Frg) (H : Hp) : Hp := fun b => if b ∈ tabA K then none else H b
theorem noTb_same {K : Frg} {H : Hp} : Same (noTb K H) H := fun b u e => by
  unfold noTb at e
  split at e
  · cases e
  · exact e
theorem noTb_ne {K : Frg} {H : Hp} {a : Addr} (h : a ∉ tabA K) : noTb K H a = H a := if_neg h
theorem tab_in {K : Frg} {H : Hp} {a : Addr} (hT : ∀ p ∈ tabsOf K, H p.1 = some (.tbl #[])) (m : a ∈ tabA K) : H a = some (.tbl #[]) := by
  obtain ⟨p, hp, rfl⟩ := List.mem_map.mp m
  exact hT p hp
theorem noTb_sq {K : Frg} {H : Hp} {a : Addr} {xs : List V} (hT : ∀ p ∈ tabsOf K, H p.1 = some (.tbl #[])) (h : SqL K H a xs) : SqL K (noTb K H) a xs := by
  rcases h with (h | ⟨o, h⟩) | h
  · exact .inl (.inl (by show noTb K H a = _; rw [noTb_ne fun m => by rw [tab_in hT m] at h; cases h]; exact h))
  · exact .inl (.inr ⟨o, by show noTb K H a = _; rw [noTb_ne fun m => by rw [tab_in hT m] at h; cases h]; exact h⟩)
  · exact .inr h
theorem noTb_tab {K : Frg} {H F1 H1 : Hp} {p : Addr × Str} (hT : ∀ p ∈ tabsOf K, H p.1 = some (.tbl #[])) (g : Go [] (noTb K H) H F1 H1) (hp : p ∈ tabsOf K) : TabF F1 H1 p.1 p.2 := by
  have m : p.1 ∈ tabA K := List.mem_map.mpr ⟨p, hp, rfl⟩
  obtain ⟨e1, e2⟩ := g.mu p.1 _ (fun z => nomatch z) (show noTb K H p.1 = none from if_pos m) (hT p hp)
  exact ⟨e1, #[], e2, True.intro, fun pos cv hc => by
    have z : PySem.codeAmong pos [] = some cv := hc
    simp [PySem.codeAmong] at z⟩
theorem noTb_tape {K : Frg} {H F1 H1 : Hp} {t : Addr} (hT : ∀ p ∈ tabsOf K, H p.1 = some (.tbl #[])) (g : Go [] (noTb K H) H F1 H1) (tp : Tape K F1 H1 t) : t ∉ tabA K := fun m => by
  obtain ⟨p, hp, rfl⟩ := List.mem_map.mp m
  obtain ⟨_, ps, e, _⟩ := noTb_tab hT g hp
  obtain ⟨_, xs, e', _⟩ := tp
  rw [e] at e'
  cases e'
/-- the law: the tape first, then its own body -/
theorem y_law {qual px : Str} {st : Stmt} {f : Addr} {N : List Str} {k i : Nat} {xt : Str} {pt pc pn pa pp : Pos} {rest : List Stmt} (F : DefAt K "law" qual st f) (S : FnScope N [px] (defScope st))
    (hb : ∀ (kV doc pm : Value) (an : Option Addr) (cdv ct : Value) (us : List Value), us.length = 1 → bindArgs (PySem.W.fnOf "law" qual (defArgs st) (defBody st) (defScope st) .none kV doc pm an cdv ct) ⟨us, []⟩ = pure ([px].zip us))
    (hs : defBody st = .Assign [.Name xt pt] (.Call (.Name "_law_tape" pn) [.Name px pa] [] pc) pp :: rest)
    (FT : ∀ base, FnR P w K mg base (L2.CX P w) 1 (He.ga K "_law_tape") (spTape K)) (mt : mg "_law_tape" = some (.ref (He.ga K "_law_tape"))) (kt : PySem.W.keepIn K (.ref (He.ga K "_law_tape")) = true) (hk : 1 ≤ k) (h0 : N[0]? = some px) (hi : N[i]? = some xt) (hi0 : i ≠ 0)
    (hgl : ∀ cdv (s : Shared), (envOfC qual (defScope st) s.heap.objs.size f cdv).kindOf "_law_tape" = some .globalImplicit) (hvis : Vis (defScope st) px) (hloc : Loc (defScope st) xt)
    (hsw : ∀ cdv (s : Shared), swapsWith (.Call (.Name "_law_tape" pn) [.Name px pa] [] pc) (some (.Name xt pt)) pp.line (envOfC qual (defScope st) s.heap.objs.size f cdv) = pure false)
    (hst : ∀ cdv (s : Shared), starEach [.Name px pa] (envOfC qual (defScope st) s.heap.objs.size f cdv) = (false, eval (.Name px pa) (envOfC qual (defScope st) s.heap.objs.size f cdv)) :: starEach [] (envOfC qual (defScope st) s.heap.objs.size f cdv))
    (hpx : (px == ("__debug__" : Str)) = false) (hpc : (px == ("__classdict__" : Str)) = false)
    (hbody : ∀ (base : Heap) (cdv : Value), cdv = .ref (cdAt K f) → ∀ (A : Around) (outer : List Env) (s : Shared) (H : Hp) (E : XK) (B : Bs), Same B.F0 B.H0 → (∀ x, ¬ B.Ed x) → RoomG k (A.deeper (envOfC qual (defScope st) s.heap.objs.size f cdv)) → Px (cxOf (L2.CX P w) P w K mg base N qual (defScope st) f cdv A outer s H E) B →
      PassesOwn (model P w) (cxOf (L2.CX P w) P w K mg base N qual (defScope st) f cdv A outer s H E).A (cxOf (L2.CX P w) P w K mg base N qual (defScope st) f cdv A outer s H E).env (cxOf (L2.CX P w) P w K mg base N qual (defScope st) f cdv A outer s H E).xe →
      ∃ r, PSsp (cxOf (L2.CX P w) P w K mg base N qual (defScope st) f cdv A outer s H E) B rest r ∧ r ((List.replicate N.length .no).set i (.val .tape)) { nx := fun _ => False, rt := fun d => d = .bl true }) : ∀ base : Heap, FnG P w K mg base (L2.CX P w) (k + 1) f (spLawT K) := by
  refine fun base => zfnGC F S len1 hb fun cdv ecd A outer s H vs Q E hr h => ?_
  obtain ⟨_, rfl, sa, ns, rfl, hl, hS, hTb, kk⟩ := h
  have po := po_of (P := P) (w := w) (K := K) (mg := mg) (base := base) (N := N) (qual := qual) (scope := defScope st) (f := f) (cdv := cdv) (A := A) (outer := outer) (s := s) (H := H) (E := E)
  have key : ∀ (t : Addr) (F1 H1 : Hp), ∃ r, PSsp (cxOf (L2.CX P w) P w K mg base N qual (defScope st) f cdv A outer s H E) ⟨t :: tabA K, F1, H1, fun _ => False⟩ rest r ∧ (Same F1 H1 → r ((List.replicate N.length .no).set i (.val .tape)) { nx := fun _ => False, rt := fun d => d = .bl true }) := fun t F1 H1 => by
    by_cases hs : Same F1 H1
    · obtain ⟨r, h1, h2⟩ := hbody base cdv ecd A outer s H E ⟨t :: tabA K, F1, H1, fun _ => False⟩ hs (fun _ z => z) hr (px_of fun cls d H' ⟨F', x, g, t', xr, z⟩ => z.elim) po
      exact ⟨r, h1, fun _ => h2⟩
    · exact ⟨fun _ _ => False, pss_imp pss_never fun σ H Dd ⟨F, ρ, E, I, z, _⟩ => z, fun z => absurd z hs⟩
  rw [hs]
  refine ⟨_, pss_cons (t := tAsg (tFn (spTape K) E0 (tCons (tVar 0) tNil)) (gName i)) (u := fun Dd σ H' => ∃ (t : Addr) (F1 H1 : Hp) (r : RdS), PSsp (cxOf (L2.CX P w) P w K mg base N qual (defScope st) f cdv A outer s H E) ⟨t :: tabA K, F1, H1, fun _ => False⟩ rest r ∧ tS K ⟨t :: tabA K, F1, H1, fun _ => False⟩ r Dd σ H') ?_ ⟨fun pins s' σ H' D I ⟨t, F1, H1, r, hr, z⟩ => hr.run pins s' σ H' D I z⟩, ?_⟩
  · refine ps_set S.nd hi hloc (zcall (FT base) (hr.rm.mono hk) (hgl cdv s) mt kt passL (pa_cons (pe_var h0 hvis hpx hpc) pa_nil (hst cdv s)) (by decide) (hst cdv s) rfl) (hsw cdv s) (.inl rfl)
  · refine ⟨_, rfl, _, rfl, noTb K H, sa, ns, rfl, noTb_same, noTb_sq hTb hS, fun t F1 H1 g1 tp => ?_⟩
    have nt : t ∉ tabA K := noTb_tape hTb g1 tp
    obtain ⟨r, h1, h2⟩ := key t F1 H1
    refine ⟨t, F1, H1, r, h1, F1, _, _, ?_, h2 g1.fh, ?_, ?_, ?_, ?_⟩
    · have e : ∀ j : Nat, j ≠ i → ((List.replicate N.length Sl.no).set i (.val .tape))[j]? = if j < N.length then some .no else none := fun j hj => by
        rw [List.getElem?_set_ne (Ne.symm hj), List.getElem?_replicate]
      have hin : i < N.length := by
        rcases Nat.lt_or_ge i N.length with z | z
        · exact z
        · rw [List.getElem?_eq_none z] at hi; cases hi
      have hN1 : 1 ≤ N.length := by omega
      refine ⟨Go.refl g1.fh, ⟨g1.fh, fun y hy ny => ?_, fun p hp => ⟨List.mem_cons_of_mem _ (List.mem_map.mpr ⟨p, hp, rfl⟩), noTb_tab hTb g1 hp⟩⟩, ?_, fun j d hd => ?_, fun j m hm => ?_, fun j j' m n a hjj h1 h2 h3 => ?_⟩
      · rcases List.mem_cons.mp hy with e | e
        · rw [e]; exact tp
        · exact absurd e ny
      · simp [L2.start]; omega
      · by_cases hj : j = i
        · subst hj
          rw [List.getElem?_set_self (by simpa using hin)] at hd
          cases hd
          exact ⟨.ref t, List.getElem?_set_self (by simp [L2.start]; omega), .tape (by simp) nt⟩
        · rw [e j hj] at hd
          split at hd <;> cases hd
      · by_cases hj : j = i
        · subst hj
          rw [List.getElem?_set_self (by simpa using hin)] at hm
          cases hm
        · rw [e j hj] at hm
          split at hm <;> cases hm
      · exfalso
        by_cases hj : j = i
        · subst hj
          rw [List.getElem?_set_self (by simpa using hin)] at h1
          cases h1
        · rw [e j hj] at h1
          split at h1 <;> cases h1
    · intro _ _ _ _ _ _ z; exact z.elim
    · intro v d F' H' _ _ rr z
      have z' : d = .bl true := z
      subst z'
      cases rr
      exact kk H'
    · intro _ _ _ _ _ _ z; exact z
    · intro _ _ _ _ _ _ z; exact z
end
/-! ### texts -/
def strsOf : List D → Option (List Str)
  | [] => some []
  | .str b :: ds => (strsOf ds).map (b :: ·)
  | _ => none
theorem strsOf_map : ∀ {ds : List D} {bs : List Str}, strsOf ds = some bs → ds = bs.map D.str
  | [], _, h => by cases h; rfl
  | .str b :: ds, _, h => by
    unfold strsOf at h
    obtain ⟨r, h1, rfl⟩ := Option.map_eq_some_iff.mp h
    rw [strsOf_map h1]
    rfl
  | .non :: _, _, h => by simp [strsOf] at h
  | .int _ :: _, _, h => by simp [strsOf] at h
  | .bl _ :: _, _, h => by simp [strsOf] at h
  | .lst _ :: _, _, h => by simp [strsOf] at h
  | .tup _ :: _, _, h => by simp [strsOf] at h
  | .obj _ _ _ :: _, _, h => by simp [strsOf] at h
  | .ty _ :: _, _, h => by simp [strsOf] at h
  | .glob _ :: _, _, h => by simp [strsOf] at h
  | .tape :: _, _, h => by simp [strsOf] at h
  | .fn _ :: _, _, h => by simp [strsOf] at h
  | .dic _ _ :: _, _, h => by simp [strsOf] at h
def dJoin (x y : D) (Q : D → Prop) : Prop := match x, y with
  | .str a, .lst ds => (match strsOf ds with | some ys => (ys.map (·.length)).sum + ys.length * a.length ≤ 100000 ∧ Q (.str (Txt.join a ys)) | none => False)
  | _, _ => False
section
variable {X : Cx} {B : Bs} {K : Frg} {ms : List Addr} {a b c e o : Expr} {es : List Expr} {ra rb rc r ro : Rd} {rt ru : RdT} {rl : RdA} {pos p0 apos : Pos}
def isS (x : D) (k : Prop) : Prop := match x with
  | .str _ => k
  | _ => False
theorem isS_of {F : Hp} {v : V} {d : D} {k : Prop} (r : Rp K ms F v d) (h : isS d k) : (∃ a, v = .str a) ∧ k := by
  unfold isS at h
  split at h
  · cases r; exact ⟨⟨_, rfl⟩, h⟩
  · exact h.elim
theorem y_join (ho : PEp X B o ro) (he : PEp X B e r) (hs : starEach [e] X.env = [(false, eval e X.env)] := by rfl) (hbase : attributeBase o "join" X.env (eval o X.env) = eval o X.env := by rfl) (hline : (apos.endLine == pos.line) = true := by rfl) :
    PEp X B (.Call (.Attribute o "join" apos) [e] [] pos) (fun ρ Q => ro ρ fun x => isS x (r ρ fun y => dJoin x y Q)) := by
  refine pe_imp (pe_join ho he hs hbase hline) fun σ H Q ⟨F, ρ, Qd, I, z, k⟩ => ⟨F, ρ, _, I, z, fun v F1 H1 d g1 t1 r1 z1 => ?_⟩
  obtain ⟨⟨a, rfl⟩, z2⟩ := isS_of r1 z1
  cases r1
  refine ⟨⟨a, rfl⟩, F1, ρ, _, I.step g1 t1, z2, fun u F2 H2 d2 g2 t2 r2 z3 => ?_⟩
  unfold dJoin at z3
  split at z3
  · rename_i a' ds e1
    cases e1
    split at z3
    · rename_i ys e
      obtain rfl := strsOf_map e
      cases r2 with
      | lst h1 h2 =>
        have e2 := h2.strs
        subst e2
        exact ⟨_, _, ys, rfl, rfl, .inl (SqL.of (t2.1 _ _ h1)), Nat.le_trans z3.1 (by decide), k _ F2 H2 _ (g1.trans g2) t2 (.str _) z3.2⟩
    · exact z3.elim
  · exact z3.elim
end
theorem hu65 {k : Nat} {A : Around} (r : RoomG k A) : A.units + 65 < cLine := by have := r.rm.un; omega
theorem all0 {p : Str → Prop} : ∀ c ∈ ([] : List Str), p c := fun _ h => nomatch h
theorem all1 {p : Str → Prop} {C : Str} (h : p C) : ∀ c ∈ [C], p c := fun c hc => by
  have : c = C := by simpa using hc
  rw [this]; exact h
theorem all2 {p : Str → Prop} {C D : Str} (h : p C) (h' : p D) : ∀ c ∈ [C, D], p c := fun c hc => by
  rcases List.mem_cons.mp hc with rfl | hc
  · exact h
  · exact all1 h' c hc
theorem nf_self {K : Frg} {C : Addr} : PySem.W.notFirst K C (.ref C) = true := by simp [PySem.W.notFirst]
theorem ar0E {P} {ds : List D} {Q E} (h : ar0 P ds Q E) : ds = [] ∧ P Q E := by
  unfold ar0 at h; split at h
  · exact ⟨rfl, h⟩
  · exact h.elim
theorem ar1E {P} {ds : List D} {Q E} (h : ar1 P ds Q E) : ∃ a, ds = [a] ∧ P a Q E := by
  unfold ar1 at h; split at h
  · exact ⟨_, rfl, h⟩
  · exact h.elim
theorem ar2E {P} {ds : List D} {Q E} (h : ar2 P ds Q E) : ∃ a b, ds = [a, b] ∧ P a b Q E := by
  unfold ar2 at h; split at h
  · exact ⟨_, _, rfl, h⟩
  · exact h.elim
theorem ar3E {P} {ds : List D} {Q E} (h : ar3 P ds Q E) : ∃ a b c, ds = [a, b, c] ∧ P a b c Q E := by
  unfold ar3 at h; split at h
  · exact ⟨_, _, _, rfl, h⟩
  · exact h.elim
theorem ar4E {P} {ds : List D} {Q E} (h : ar4 P ds Q E) : ∃ a b c d, ds = [a, b, c, d] ∧ P a b c d Q E := by
  unfold ar4 at h; split at h
  · exact ⟨_, _, _, _, rfl, h⟩
  · exact h.elim
theorem ar5E {P} {ds : List D} {Q E} (h : ar5 P ds Q E) : ∃ a b c d e, ds = [a, b, c, d, e] ∧ P a b c d e Q E := by
  unfold ar5 at h; split at h
  · exact ⟨_, _, _, _, _, rfl, h⟩
  · exact h.elim
end Y
namespace Y
open PySem PySem.Spec PyProof.Rows L2 Z
/-! ### facts of the top for the pure layer -/
def bRd (x : Str) : Frg → Bool := fun K => PySem.W.readsIn K (He.ga K x) (.type "type") && He.eqO (PySem.W.specialIn K (.ref (He.ga K x)) "__getattribute__") (some (some (.builtin "type.__getattribute__")))
theorem rd_of {K : Frg} {x : Str} (h : bRd x K = true) : ClX.CRead K (He.ga K x) (.type "type") := by
  obtain ⟨h1, h2⟩ := He.ba h
  exact ⟨h1, He.eqO_ok h2⟩
def bSM (x m : Str) : Frg → Bool := fun K => bRd x K && (He5.wrapB K (He.ga K x) "staticmethod" "staticmethod.__get__" m && PySem.W.keepIn K (.ref (He5.wf K (He.ga K x) "staticmethod" m)))
theorem sm_of {K : Frg} {x m : Str} (h : bSM x m K = true) : SMet K (He.ga K x) m (He.ma K (He.ga K x) m) (He5.wf K (He.ga K x) "staticmethod" m) := by
  obtain ⟨h1, h⟩ := He.ba h
  obtain ⟨h2, h3⟩ := He.ba h
  obtain ⟨h4, h5⟩ := He5.wrapB_ok h2
  exact ⟨rd_of h1, h4, h5, h3⟩
def bCM (x m : Str) : Frg → Bool := fun K => He5.wrapB K (He.ga K x) "classmethod" "classmethod.__get__" m && PySem.W.fnIn K (He5.wf K (He.ga K x) "classmethod" m)
theorem cm_of {K : Frg} {x m : Str} (h : bCM x m K = true) : ClX.CMet K (He.ga K x) (.type "type") m (He.ma K (He.ga K x) m) (He5.wf K (He.ga K x) "classmethod" m) := by
  obtain ⟨h2, h3⟩ := He.ba h
  exact He5.cmet_of h2 h3
end Y
namespace Y
open PySem PySem.Spec PyProof.Rows L2 Z
section
variable {X : Cx} {B : Bs} {K : Frg} {ms : List Addr} {a b c e o : Expr} {es : List Expr} {ra rb rc r ro : Rd} {rt ru : RdT} {rl : RdA} {pos p0 apos : Pos} {s1 s2 : RdS}
theorem s_par3 {i j l : Nat} {x y z : Str} {px py pz pt : Pos} {kt k2 pt2} (hc : X.calm = true) (hN : X.N.Nodup) (hi : X.N[i]? = some x) (hj : X.N[j]? = some y) (hl : X.N[l]? = some z) (hij : i ≠ j) (hil : i ≠ l) (hjl : j ≠ l)
    (hx : X.env.scope.names.lookup x = some .local) (hy : X.env.scope.names.lookup y = some .local) (hz : X.env.scope.names.lookup z = some .local) (ha : PAp X B [a, b, c] rl)
    (hw : swappedStores [.Tuple [.Name x px, .Name y py, .Name z pz] kt pt] (.Tuple [a, b, c] k2 pt2) X.env = pure (some [x, y, z]))
    (hs : swapsWithSole [.Tuple [.Name x px, .Name y py, .Name z pz] kt pt] (.Tuple [a, b, c] k2 pt2) pos.line X.env = pure false := by rfl) :
    PSp X B (.Assign [.Tuple [.Name x px, .Name y py, .Name z pz] kt pt] (.Tuple [a, b, c] k2 pt2) pos) (fun ρ E => rl ρ fun ds => stN [i, j, l] ds ρ E.nx) :=
  ps_imp (ps_par3 hc hN hi hj hl hij hil hjl hx hy hz ha hw hs) fun σ H Dd ⟨F, ρ, E, I, z, kn, kr, kb, kc⟩ => ⟨F, ρ, _, I, z, fun vs F' H' ds g t r q => by
    have hl := stN_len q
    match ds, hl, r, q with
    | [d1, d2, d3], _, r, q =>
      cases r with
      | cons r1 r2 =>
        obtain ⟨v2, v3, rfl, r2, r3⟩ := rps2 r2
        exact ⟨_, v2, v3, rfl, kn _ _ F' H' g.ff ((((I.step g t).set i r1).set j r2).set l r3) q⟩⟩
/-- a statement and what follows, with a word between them -/
theorem s_cut {st : Stmt} {rest : List Stmt} (h1 : PSp X B st s1) (h2 : PSsp X B rest s2) : PSsp X B (st :: rest) (fun ρ E => ∃ Mid : Ev → Prop, s1 ρ { E with nx := Mid } ∧ ∀ ρ', Mid ρ' → s2 ρ' E) :=
  pss_imp (pss_cons h1 h2) fun σ H Dd ⟨F, ρ, E, I, ⟨Mid, z, zf⟩, kn, kr, kb, kc⟩ => ⟨F, ρ, _, I, z, fun σ' ρ' F' H' s I' z' => ⟨F', ρ', E, I', zf ρ' z', fun σ2 ρ2 F2 H2 s' I2 z2 => kn σ2 ρ2 F2 H2 (s.trans s') I2 z2, kr, fun σ2 ρ2 F2 H2 s' I2 z2 => kb σ2 ρ2 F2 H2 (s.trans s') I2 z2, fun σ2 ρ2 F2 H2 s' I2 z2 => kc σ2 ρ2 F2 H2 (s.trans s') I2 z2⟩, kr, kb, kc⟩
def dModZ (x y : D) (Q : D → Prop) : Prop := match x, y with
  | .int i, .int j => j ≠ 0 ∧ Q (.int (i.fmod j))
  | _, _ => False
theorem modZL : OpL K ms (rI (fun _ j => j ≠ 0) fun i j => .int (i.fmod j)) dModZ := by
  intro F H x y dx dy Qd Q hs rx ry h k
  unfold dModZ at h
  split at h
  · cases rx; cases ry
    exact ⟨_, _, rfl, rfl, h.1, k _ F H _ (Go.refl hs) (.int _) h.2⟩
  · exact h.elim
def dIsBl (neg : Bool) (x y : D) (Q : D → Prop) : Prop := match x, y with
  | .bl i, .bl j => Q (.bl (neg != decide (i = j)))
  | _, _ => False
theorem isBlL : OpL K ms rIsB (dIsBl false) := by
  intro F H x y dx dy Qd Q hs rx ry h k
  unfold dIsBl at h
  split at h
  · cases rx; cases ry
    exact ⟨_, _, rfl, rfl, k _ F H _ (Go.refl hs) (.bl _) (by simpa using h)⟩
  · exact h.elim
theorem notBlL : OpL K ms rNotB (dIsBl true) := by
  intro F H x y dx dy Qd Q hs rx ry h k
  unfold dIsBl at h
  split at h
  · cases rx; cases ry
    exact ⟨_, _, rfl, rfl, k _ F H _ (Go.refl hs) (.bl _) (by simpa using h)⟩
  · exact h.elim
def dInt1 (ds : List D) (Q : D → Prop) : Prop := match ds with
  | [.int i] => Q (.int i)
  | [.bl b] => Q (.int (if b then 1 else 0))
  | _ => False
theorem int1L : CalL K ms (fun xs H Q => (∃ i, xs = [.int i] ∧ Q (.int i) H) ∨ ∃ k, xs = [.bl k] ∧ Q (.int (if k then 1 else 0)) H) dInt1 := by
  intro F H xs ds Qd Q hs r h k
  unfold dInt1 at h
  split at h
  · obtain ⟨x, rfl, r1⟩ := rps1 r
    cases r1
    exact .inl ⟨_, rfl, k _ F H _ (Go.refl hs) (.int _) h⟩
  · obtain ⟨x, rfl, r1⟩ := rps1 r
    cases r1
    exact .inr ⟨_, rfl, k _ F H _ (Go.refl hs) (.int _) h⟩
  · exact h.elim
/-! ### texts and enumerate as what a loop walks -/
def chrs (s : Str) : List D := s.cps.toList.map fun c => .str ⟨#[c]⟩
theorem i_str {tg l : Expr} (hl : PEp X B l r) : PIp X B tg l (fun ρ Q => r ρ fun d => match d with | .str s => Q (chrs s) | _ => False) :=
  pi_imp (pi_str hl) fun σ H R ⟨F, ρ, Qd, I, z, k⟩ => ⟨F, ρ, _, I, z, fun v F1 H1 d g1 t1 r1 z1 => by
    split at z1
    · rename_i s
      cases r1
      refine ⟨s, rfl, k _ F1 H1 _ g1 t1 ⟨_, _, by rw [show (chrs s).length = s.cps.size by simp [chrs]]; exact walk_str (z := s), fun _ _ _ _ => trivial, ?_⟩ z1⟩
      rintro i F2 H2 x H2' d s1 s' ⟨rfl, cc, hx, rfl⟩ hd
      have : d = .str ⟨#[cc]⟩ := by
        unfold chrs at hd
        rw [List.getElem?_map, Array.getElem?_toList, hx] at hd
        exact (Option.some.inj hd).symm
      subst this
      exact ⟨F2, Go.refl s', .str _⟩
    · exact z1.elim⟩
def enumD (ds : List D) : List D := (List.range ds.length).map fun i => .tup [.int (i : Nat), (ds[i]?).getD .non]
theorem i_enum {p tpos : Pos} {elts : List Expr} {kk : Nat} (hg : Gl X "enumerate") (hm : X.mg "enumerate" = none) (ha : PAp X B [e] rl) (hs : starEach [e] X.env = [(false, eval e X.env)] := by rfl) :
    PIp X B (.Tuple elts kk tpos) (.Call (.Name "enumerate" p) [e] [] pos) (fun ρ Q => rl ρ fun ds => match ds with | [.lst xs] => Q (enumD xs) | _ => False) :=
  pi_imp (pi_enum hg hm ha hs) fun σ H R ⟨F, ρ, Qd, I, z, k⟩ => ⟨F, ρ, _, I, z, fun vs F1 H1 ds g1 t1 r1 z1 => by
    split at z1
    · rename_i xs
      obtain ⟨x, rfl, r2⟩ := rps1 r1
      cases r2 with
      | @lst a ws _ h1 h2 =>
        refine ⟨a, ws, rfl, SqL.of (t1.1 _ _ h1), k _ F1 H1 _ g1 t1 ⟨_, _, by rw [show (enumD xs).length = ws.length by simp [enumD, h2.len]]; exact walk_enum (K := X.K) (a := a) (xs := ws), fun F2 H2 s s' => SqL.of (s' _ _ (s _ _ h1)), ?_⟩ z1⟩
        rintro i F2 H2 y H2' d s s' ⟨T, u, v, rfl, hT, rfl, hu, hv⟩ hd
        cases hu
        obtain ⟨dd, q1, q2⟩ := h2.getV hv
        have hi := lt_of_get q1
        have : d = .tup [.int (i : Nat), dd] := by
          unfold enumD at hd
          rw [List.getElem?_map, List.getElem?_range hi] at hd
          have := (Option.some.inj hd).symm
          dsimp only at this
          rw [q1] at this
          exact this
        subst this
        obtain ⟨F3, g3, q3, _⟩ := newE s' hT rfl
        exact ⟨F3, g3, .tup (SqT.of q3) (.cons (.int _) (.cons ((q2.up s).up g3.ff) .nil))⟩
    · exact z1.elim⟩
/-- cls(..), cls a name that holds the class C -/
theorem y_makeL {C x : Str} {i k : Nat} {f : Addr} {R : RdF} (hv : PE X (.Name x p0) (tVar i)) (M : Mk X.K (He.ga X.K C) f) (F : FnG X.prog X.w X.K X.mg X.base (L2.CX X.prog X.w) k f (spI X.K C R)) (hr : RoomG (k + 1) X.A) (hx : Px X B) (ha : PAp X B (e :: es) rl)
    (he : starEach (e :: es) X.env = (false, eval e X.env) :: starEach es X.env := by rfl) (hpl : (backTo pos (starEach es X.env)).any (·.1) = false := by rfl) : PEp X B (.Call (.Name x p0) (e :: es) [] pos) (fun ρ Q => rVar i ρ fun d => d = .glob C ∧ rl ρ fun ds => R ds Q B.Ed) := by
  refine ⟨fun pins s σ H Q I h => ?_⟩
  obtain ⟨F0, ρ, Qd, J, z, kk⟩ := h
  refine wpAny_Call_Name_kw (thn ((y_var (B := B) hv).run pins s σ H (fun v H1 => ∃ F1 d, Go B.ms F0 H F1 H1 ∧ Tp X.K B.ms F1 H1 ∧ Rp X.K B.ms F1 v d ∧ d = .glob C ∧ rl ρ fun ds => R ds Qd B.Ed) I ⟨F0, ρ, _, J, z, fun v F1 H1 d g1 t1 r1 z1 => ⟨F1, d, g1, t1, r1, z1⟩⟩) fun u s1 ⟨v, H1, I1, rv, F1, d, g1, t1, r1, e1, z1⟩ => ?_)
  subst e1
  cases r1
  obtain rfl : u = Value.ref (He.ga X.K C) := rv
  refine PySem.W.callWith_K (h₀ := X.base) I.ok.mod.kin M.kp (thn (ha.run pos pins s1 σ H1 (fun vs H2 => ∃ F2 ds, Go B.ms F1 H1 F2 H2 ∧ Tp X.K B.ms F2 H2 ∧ Rps X.K B.ms F2 vs ds ∧ R ds Qd B.Ed) I1 ⟨F1, ρ, _, J.step g1 t1, z1, fun vs F2 H2 ds g2 t2 r2 z2 => ⟨F2, ds, g2, t2, r2, z2⟩⟩) fun us s2 ⟨vs, H2, I2, r, F2, ds, g2, t2, r2, z2⟩ => ⟨I2.kIn, ?_⟩) he hpl
  exact run_makeG M F hr hx I2 r (spI_of vs H2 Q (sp_call J kk (g1.trans g2) t2 r2 z2))
end
end Y
namespace Y
open PySem PySem.Spec PyProof.Rows L2 Z
/-! ### texts of data: repr -/
mutual
def toP : D → PyData
  | .non => .none
  | .bl b => .bool b
  | .int i => .int i
  | .str s => .str s
  | .lst ds => .list (toPs ds)
  | .tup ds => .tuple (toPs ds)
  | .obj _ _ _ => .none
  | .ty _ => .none
  | .glob _ => .none
  | .tape => .none
  | .fn _ => .none
  | .dic _ _ => .dict []
def toPs : List D → List PyData
  | [] => []
  | d :: ds => toP d :: toPs ds
end
mutual
/-- data that repr shows: with so many items and signs at most, so deep at most -/
def shP (n : Nat) : D → Prop
  | .non => True
  | .bl _ => True
  | .int i => Sz 1900 i
  | .str s => ∀ c ∈ s.cps.toList, c < 16 ^ 8
  | .lst ds => shPs n ds
  | .tup ds => shPs n ds
  | .obj _ _ _ => False
  | .ty _ => False
  | .glob _ => False
  | .tape => False
  | .fn _ => False
  | .dic _ _ => False
def shPs (n : Nat) : List D → Prop
  | [] => True
  | d :: ds => shP n d ∧ shPs n ds
end
def shD (d : D) : Str := (toP d).shown
theorem sz1900 {i : Int} (h : Sz 1900 i) : i.natAbs.log2 < 1920 := Nat.lt_of_lt_of_le (PySem.Flt.log2_lt_of (by decide) h) (by decide)
mutual
theorem sh_able {n : Nat} : ∀ d : D, shP n d → (toP d).showable = true
  | .non, _ => rfl
  | .bl _, _ => rfl
  | .int i, h => by
    show decide _ = true
    exact decide_eq_true (sz1900 h)
  | .str _, _ => rfl
  | .lst ds, h => sh_ables ds h
  | .tup ds, h => sh_ables ds h
  | .obj _ _ _, h => h.elim
  | .ty _, h => h.elim
  | .glob _, h => h.elim
  | .tape, h => h.elim
  | .fn _, h => h.elim
  | .dic _ _, h => h.elim
theorem sh_ables {n : Nat} : ∀ ds : List D, shPs n ds → PyData.showableAll (toPs ds) = true
  | [], _ => rfl
  | d :: ds, h => by
    show ((toP d).showable && PyData.showableAll (toPs ds)) = true
    rw [sh_able d h.1, sh_ables ds h.2]
    rfl
end
mutual
theorem sh_short {n : Nat} : ∀ d : D, shP n d → (toP d).leavesShort 1921 = true
  | .non, _ => rfl
  | .bl _, _ => rfl
  | .int i, h => by
    show decide ((PyData.shown (.int i)).length ≤ 1921) = true
    exact decide_eq_true (int_text_len_1921 (sz1900 h))
  | .str s, h => by
    show (s.cps.toList.all fun c => decide (c < 16 ^ 8)) = true
    exact List.all_eq_true.mpr fun c hc => decide_eq_true (h c hc)
  | .lst ds, h => sh_shorts ds h
  | .tup ds, h => sh_shorts ds h
  | .obj _ _ _, h => h.elim
  | .ty _, h => h.elim
  | .glob _, h => h.elim
  | .tape, h => h.elim
  | .fn _, h => h.elim
  | .dic _ _, h => h.elim
theorem sh_shorts {n : Nat} : ∀ ds : List D, shPs n ds → PyData.leavesShortAll 1921 (toPs ds) = true
  | [], _ => rfl
  | d :: ds, h => by
    show ((toP d).leavesShort 1921 && PyData.leavesShortAll 1921 (toPs ds)) = true
    rw [sh_short d h.1, sh_shorts ds h.2]
    rfl
end
mutual
theorem sh_nodict {n : Nat} : ∀ d : D, shP n d → (toP d).hasDict = false
  | .non, _ => rfl
  | .bl _, _ => rfl
  | .int _, _ => rfl
  | .str _, _ => rfl
  | .lst ds, h => sh_nodicts ds h
  | .tup ds, h => sh_nodicts ds h
  | .obj _ _ _, h => h.elim
  | .ty _, h => h.elim
  | .glob _, h => h.elim
  | .tape, h => h.elim
  | .fn _, h => h.elim
  | .dic _ _, h => h.elim
theorem sh_nodicts {n : Nat} : ∀ ds : List D, shPs n ds → PyData.hasDictAll (toPs ds) = false
  | [], _ => rfl
  | d :: ds, h => by
    show ((toP d).hasDict || PyData.hasDictAll (toPs ds)) = false
    rw [sh_nodict d h.1, sh_nodicts ds h.2]
    rfl
end
section
variable {X : Cx} {B : Bs} {pins : List (Addr × Obj)} {σ : L2.St} {H F : Hp} {s : Shared} {ms : List Addr}
mutual
theorem sh_reads {n : Nat} (I : L2.Inv X pins σ H s) (hs : Same F H) : ∀ (d : D) (v : V) (u : Value), shP n d → Rp X.K ms F v d → RelV v u → ∃ as, Reads s.heap u (toP d) as
  | .non, _, u, _, r, e => by
    cases r
    obtain rfl : u = Value.none := e
    exact ⟨_, .none⟩
  | .bl b, _, u, _, r, e => by
    cases r
    obtain rfl : u = Value.bool b := e
    exact ⟨_, .bool b⟩
  | .int i, _, u, _, r, e => by
    cases r
    obtain ⟨t, rfl⟩ := (show ∃ t, u = Value.int i t from e)
    exact ⟨_, .int i t⟩
  | .str x, _, u, _, r, e => by
    cases r
    obtain ⟨t, rfl⟩ := (show ∃ t, u = Value.str x t from e)
    exact ⟨_, .str x t⟩
  | .lst ds, _, u, h, r, e => by
    cases r with
    | @lst a vs _ h1 h2 =>
      obtain rfl : u = Value.ref a := e
      obtain ⟨_, its, n, rv, hg⟩ := I.hok a _ (hs _ _ h1)
      obtain ⟨as, q⟩ := sh_readss I hs ds vs its h h2 rv
      exact ⟨_, .list hg rfl rfl (by simpa using q)⟩
  | .tup ds, _, u, h, r, e => by
    cases r with
    | @tup a vs _ h1 h2 =>
      obtain rfl : u = Value.ref a := e
      obtain ⟨its, rv, ⟨o, hg, hc, n, hd⟩, _⟩ := I.tuple (sqT hs h1)
      obtain ⟨as, q⟩ := sh_readss I hs ds vs its h h2 rv
      exact ⟨_, .tuple hg hc hd (by simpa using q)⟩
  | .obj _ _ _, _, _, h, _, _ => h.elim
  | .ty _, _, _, h, _, _ => h.elim
  | .glob _, _, _, h, _, _ => h.elim
  | .tape, _, _, h, _, _ => h.elim
  | .fn _, _, _, h, _, _ => h.elim
  | .dic _ _, _, _, h, _, _ => h.elim
theorem sh_readss {n : Nat} (I : L2.Inv X pins σ H s) (hs : Same F H) : ∀ (ds : List D) (vs : List V) (us : List Value), shPs n ds → Rps X.K ms F vs ds → Vals vs us → ∃ as, ReadsAll s.heap us (toPs ds) as
  | [], _, _, _, r, e => by
    cases r
    cases e
    exact ⟨_, .nil⟩
  | d :: ds, _, _, h, r, e => by
    cases r with
    | cons r1 r2 =>
      cases e with
      | cons e1 e2 =>
        obtain ⟨as, q1⟩ := sh_reads I hs d _ _ h.1 r1 e1
        obtain ⟨bs, q2⟩ := sh_readss I hs ds _ _ h.2 r2 e2
        exact ⟨_, .cons q1 q2⟩
end
/-- .. or the empty dict -/
def shT (n : Nat) (d : D) : Prop := match d with
  | .dic ks ds => ks = [] ∧ ds = []
  | d => shP n d
theorem shT.of {n : Nat} {d : D} (h : shP n d) : shT n d := by cases d <;> first | exact h | exact h.elim
/-- repr of data -/
def rRepr (K : Frg) (xs : List V) (H : Hp) (Q : VK) : Prop := ∃ (ms : List Addr) (F : Hp) (v : V) (d : D) (n : Nat), xs = [v] ∧ Same F H ∧ Rp K ms F v d ∧ shT n d ∧ (toP d).bulk ≤ 8000 ∧ (toP d).depth ≤ 40 ∧ Q (.str (shD d)) H
theorem sh_len {n : Nat} {d : D} (h : shP n d) (hb : (toP d).bulk ≤ 8000) : (toP d).shown.length ≤ sizeLine := by
  have z := PyData.shown_le_bulk 1921 (by decide) (toP d) (sh_short d h)
  have : (2 : Nat) ^ 24 = 16777216 := by decide
  show _ ≤ 2 ^ 24
  omega
theorem call_reprD {k : Nat} (hr : RoomG k X.A) : CallR X (.builtin "repr") (rRepr X.K) := by
  intro pins s σ H xs us Q I r h
  obtain ⟨ms, F, v, d, n, rfl, hs, rd, hp, hb, hd, q⟩ := h
  obtain ⟨u, rfl, ru⟩ := vals1 r
  by_cases hdic : ∃ ks ds, d = .dic ks ds
  · obtain ⟨ks, ds, rfl⟩ := hdic
    obtain ⟨rfl, rfl⟩ := hp
    cases rd with
    | @dic a _ vs _ h1 h2 h3 =>
    cases h3
    obtain rfl : u = Value.ref a := ru
    obtain ⟨_, hz, vs', rel, o, es, ep, e1, e2, e3, e4, e5⟩ := dk_of I.hok (hs _ _ h1)
    cases rel
    have ee : es.toList.map (·.key) = [] ∧ es.toList.map (·.val) = [] := by
      have e6 := e5.1
      generalize es.toList = l at e6
      cases e6
      exact ⟨rfl, rfl⟩
    have rr : Reads s.heap (.ref a) (.dict []) (a :: [] ++ []) := .dict e1 e2.1 e3 (by rw [ee.1]; exact .nil) (by rw [ee.2]; exact .nil)
    have hu := hr.units
    exact repr_of_reads' rr rfl (fun _ m => by
      have : sysModules = a := by simpa using m
      rw [this] at hz
      simp at hz) hr.gd (by show _ + (1 + 1) < _; omega) (fun _ _ e => e) (fun h' u' tk hk => ⟨.str _, H, I.kept hk, ⟨_, rfl⟩, q⟩) (by show 2 ≤ sizeLine; decide)
  have hp : shP n d := by
    cases d <;> first | exact hp | exact (hdic ⟨_, _, rfl⟩).elim
  have hl := sh_len hp hb
  have hu := hr.units
  obtain ⟨as, rr⟩ := sh_reads I hs d v u hp rd ru
  have fin : ∀ h' u' tk, (∀ b o, s.heap.get? b = some o → h'.get? b = some o) → EP X pins σ Q (.str (toP d).shown u') { s with heap := h', toks := tk } := fun h' u' tk hk => ⟨.str _, H, I.kept hk, ⟨_, rfl⟩, q⟩
  cases rd with
  | non =>
    obtain rfl : u = Value.none := ru
    exact PySem.P.repr_of_none (fin _ _ _ fun _ _ e => e)
  | bl b =>
    obtain rfl : u = Value.bool b := ru
    exact PySem.P.repr_of_bool (fin _ _ _ fun _ _ e => e)
  | int i =>
    obtain ⟨t, rfl⟩ := (show ∃ t, u = Value.int i t from ru)
    exact PySem.P.repr_of_int (sz1900 hp) (fin _ _ _ fun _ _ e => e)
  | str x =>
    obtain ⟨t, rfl⟩ := (show ∃ t, u = Value.str x t from ru)
    exact PySem.P.repr_of_str (fin _ _ _ fun _ _ e => e) hl
  | ty _ => exact hp.elim
  | glob _ => exact hp.elim
  | tape _ => exact hp.elim
  | fn _ => exact hp.elim
  | dic _ _ _ => exact hp.elim
  | obj _ _ _ => exact hp.elim
  | lst h1 h2 =>
    obtain rfl : u = Value.ref _ := ru
    exact repr_of_reads' rr (sh_able _ hp) (PyData.noDict_hsm (sh_nodict _ hp)) hr.gd (by omega) (fun _ _ e => e) fin hl
  | tup h1 h2 =>
    obtain rfl : u = Value.ref _ := ru
    exact repr_of_reads' rr (sh_able _ hp) (PyData.noDict_hsm (sh_nodict _ hp)) hr.gd (by omega) (fun _ _ e => e) fin hl
def dRepr (ds : List D) (Q : D → Prop) : Prop := match ds with
  | [d] => (shT 0 d ∧ (toP d).bulk ≤ 8000 ∧ (toP d).depth ≤ 40) ∧ Q (.str (shD d))
  | _ => False
theorem reprL {K : Frg} : CalL K ms (rRepr K) dRepr := by
  intro F H xs ds Qd Q hs r h k
  unfold dRepr at h
  split at h
  · obtain ⟨x, rfl, r1⟩ := rps1 r
    exact ⟨ms, F, x, _, 0, rfl, hs, r1, h.1.1, h.1.2.1, h.1.2.2, k _ F H _ (Go.refl hs) (.str _) h.2⟩
  · exact h.elim
end
end Y
namespace Y
open PySem PySem.Spec PyProof.Rows L2 Z
section
variable {X : Cx} {B : Bs} {K : Frg} {ms : List Addr} {a b c e o : Expr} {es : List Expr} {ra rb rc r ro : Rd} {rt ru : RdT} {rl : RdA} {pos p0 apos : Pos} {s1 s2 : RdS}
/-- *e ahead of other items -/
theorem a_star {p : Pos} (he : PEp X B e r) (hr : PAp X B es rl) (hs : starEach (.Starred e p :: es) X.env = (true, eval e X.env) :: starEach es X.env := by rfl) : PAp X B (.Starred e p :: es) (fun ρ Q => r ρ fun d => starD d fun xs => rl ρ fun ys => Q (xs ++ ys)) :=
  pa_imp (StX.pa_star he hr hs) fun σ H Q ⟨F, ρ, Qd, I, z, k⟩ => ⟨F, ρ, _, I, z, fun v F1 H1 d g1 t1 r1 z1 => by
    unfold starD at z1
    split at z1
    · cases r1 with
      | @lst a ws _ h1 h2 => exact ⟨a, ws, rfl, .inr (SqL.of (t1.1 _ _ h1)), F1, ρ, _, I.step g1 t1, z1, fun vs F2 H2 ds g2 t2 r2 z2 => k _ F2 H2 _ (g1.trans g2) t2 ((h2.up g2.ff).app r2) z2⟩
    · cases r1 with
      | @tup a ws _ h1 h2 => exact ⟨a, ws, rfl, .inl (sqT t1.1 h1), F1, ρ, _, I.step g1 t1, z1, fun vs F2 H2 ds g2 t2 r2 z2 => k _ F2 H2 _ (g1.trans g2) t2 ((h2.up g2.ff).app r2) z2⟩
    · exact z1.elim⟩
/-- range with a step that is positive -/
def rngC (lo c : Int) (n : Nat) : List D := (List.range n).map fun i => .int (lo + (i : Nat) * c)
theorem rngC_sqs {K : Frg} {ms : List Addr} {F : Hp} {lo c : Int} {n : Nat} : Sqs K ms F (Itc lo c n) (rngC lo c n) := by
  have hl : (rngC lo c n).length = n := by simp [rngC]
  refine ⟨_, _, by rw [hl]; exact walk_rangeC, fun _ _ _ _ => trivial, ?_⟩
  rintro i F2 H2 x H2' d s s' ⟨rfl, rfl⟩ hd
  have hi : i < n := by
    rw [← hl]
    exact lt_of_get hd
  simp [rngC, hi] at hd
  subst hd
  exact ⟨F2, Go.refl s', .int _⟩
def rng3 (ds : List D) (Q : List D → Prop) : Prop := match ds with
  | [.int i, .int j, .int c] => ∃ n, RgC i j c n ∧ Q (rngC i c n)
  | _ => False
theorem i_rng3 {tg : Expr} {p : Pos} (hg : Gl X "range") (hm : X.mg "range" = none) (ha : PAp X B [a, b, c] rl) (hs : starEach [a, b, c] X.env = (false, eval a X.env) :: starEach [b, c] X.env := by rfl) (hpl : (backTo pos (starEach [b, c] X.env)).any (·.1) = false := by rfl) :
    PIp X B tg (.Call (.Name "range" p) [a, b, c] [] pos) (fun ρ Q => rl ρ fun ds => rng3 ds Q) :=
  pi_imp (pi_range3 hg hm ha hs hpl) fun σ H R ⟨F, ρ, Qd, I, z, k⟩ => ⟨F, ρ, _, I, z, fun vs F1 H1 ds g1 t1 r1 z1 => by
    unfold rng3 at z1
    split at z1
    · obtain ⟨n, h1, h2⟩ := z1
      cases r1 with
      | cons r1 r2 =>
        obtain ⟨y, z, rfl, r2, r3⟩ := rps2 r2
        cases r1
        cases r2
        cases r3
        exact ⟨_, _, _, n, rfl, h1, k _ F1 H1 _ g1 t1 rngC_sqs h2⟩
    · exact z1.elim⟩
end
end Y
namespace Y
open PySem PySem.Spec PyProof.Rows L2 Z
/-! ### data that stand in the written part -/
def allB2 {α β : Type} (f : α → β → Bool) : List α → List β → Bool
  | [], [] => true
  | a :: as, b :: bs => f a b && allB2 f as bs
  | _, _ => false
inductive All2 {α β : Type} (f : α → β → Prop) : List α → List β → Prop
  | nil : All2 f [] []
  | cons {a : α} {b : β} {as : List α} {bs : List β} : f a b → All2 f as bs → All2 f (a :: as) (b :: bs)
theorem all2_ok {α β : Type} {f : α → β → Bool} {p : α → β → Prop} (h : ∀ a b, f a b = true → p a b) : ∀ {as : List α} {bs : List β}, allB2 f as bs = true → All2 p as bs
  | [], [], _ => .nil
  | a :: as, b :: bs, z => by
    obtain ⟨h1, h2⟩ := He.ba (show (f a b && allB2 f as bs) = true from z)
    exact .cons (h a b h1) (all2_ok h h2)
  | [], _ :: _, z => by cases z
  | _ :: _, [], z => by cases z
theorem All2.len {α β : Type} {p : α → β → Prop} : ∀ {as : List α} {bs : List β}, All2 p as bs → as.length = bs.length
  | _, _, .nil => rfl
  | _, _, .cons _ t => by rw [List.length_cons, List.length_cons, t.len]
theorem All2.get {α β : Type} {p : α → β → Prop} : ∀ {as : List α} {bs : List β} {i : Nat} {a : α} {b : β}, All2 p as bs → as[i]? = some a → bs[i]? = some b → p a b
  | _, _, i, _, _, .nil, h, _ => by simp at h
  | _, _, 0, _, _, .cons h _, e1, e2 => by
    simp at e1 e2
    subst e1 e2
    exact h
  | _, _, i + 1, _, _, .cons _ t, e1, e2 => t.get (i := i) (by simpa using e1) (by simpa using e2)
def vOk (K : Frg) : Nat → D → Value → Bool
  | _, .non, .none => true
  | _, .bl b, .bool c => b == c
  | _, .int i, .int j _ => i == j
  | _, .str x, .str y _ => x == y
  | n + 1, .tup ds, .ref p => (match K.lookup p with
    | some ⟨.type c, _, .seq its _, _⟩ => decide (c = "tuple") && (Nat.ble its.size 1000 && allB2 (vOk K n) ds its.toList)
    | _ => false)
  | _, _, _ => false
/-- the value u of the written part bears d -/
def VD (K : Frg) (d : D) (u : Value) : Prop := ∃ v, RelV v u ∧ ∀ ms F, Rp K ms F v d
theorem vds {K : Frg} : ∀ {ds : List D} {us : List Value}, All2 (VD K) ds us → ∃ vs, Vals vs us ∧ ∀ ms F, Rps K ms F vs ds
  | _, _, .nil => ⟨[], .nil, fun _ _ => .nil⟩
  | _, _, .cons ⟨v, r, h⟩ t => by
    obtain ⟨vs, r2, h2⟩ := vds t
    exact ⟨v :: vs, .cons r r2, fun ms F => .cons (h ms F) (h2 ms F)⟩
theorem vOk_ok {K : Frg} : ∀ (n : Nat) (d : D) (u : Value), vOk K n d u = true → VD K d u := by
  intro n
  induction n with
  | zero =>
    intro d u h
    unfold vOk at h
    split at h
    · exact ⟨.non, rfl, fun _ _ => .non⟩
    · rename_i b c
      have e : b = c := by simpa using h
      subst e
      exact ⟨.bl b, rfl, fun _ _ => .bl b⟩
    · rename_i i j t
      have e : i = j := by simpa using h
      subst e
      exact ⟨.int i, ⟨t, rfl⟩, fun _ _ => .int i⟩
    · rename_i i j t
      have e : i = j := by simpa using h
      subst e
      exact ⟨.str i, ⟨t, rfl⟩, fun _ _ => .str i⟩
    · contradiction
    · cases h
  | succ n ih =>
    intro d u h
    unfold vOk at h
    split at h
    · exact ⟨.non, rfl, fun _ _ => .non⟩
    · rename_i b c
      have e : b = c := by simpa using h
      subst e
      exact ⟨.bl b, rfl, fun _ _ => .bl b⟩
    · rename_i i j t
      have e : i = j := by simpa using h
      subst e
      exact ⟨.int i, ⟨t, rfl⟩, fun _ _ => .int i⟩
    · rename_i i j t
      have e : i = j := by simpa using h
      subst e
      exact ⟨.str i, ⟨t, rfl⟩, fun _ _ => .str i⟩
    · rename_i m ds p e
      cases e
      split at h
      · rename_i c od its k sl e2
        obtain ⟨h1, h⟩ := He.ba h
        obtain ⟨h2, h3⟩ := He.ba h
        have e3 : c = "tuple" := of_decide_eq_true h1
        subst e3
        obtain ⟨vs, r, hr⟩ := vds (all2_ok ih h3)
        exact ⟨.ref p, rfl, fun ms F => .tup (.inr ⟨_, its, k, e2, rfl, rfl, Nat.le_trans (Nat.le_of_ble_eq_true h2) (by decide), r⟩) (hr ms F)⟩
      · cases h
    · cases h
/-! ### a dict of the module with text keys -/
def entB (K : Frg) (q : Str × D) (e : DictEntry) : Bool := (match e.key with | .str z _ => z == q.1 | _ => false) && vOk K 3 q.2 e.val
def EntD (K : Frg) (q : Str × D) (e : DictEntry) : Prop := (∃ t, e.key = .str q.1 t) ∧ VD K q.2 e.val
theorem entB_ok {K : Frg} (q : Str × D) (e : DictEntry) (h : entB K q e = true) : EntD K q e := by
  obtain ⟨h1, h2⟩ := He.ba h
  refine ⟨?_, vOk_ok _ _ _ h2⟩
  split at h1
  · rename_i z t e1
    have e : z = q.1 := by simpa using h1
    exact ⟨t, by rw [e1, e]⟩
  · cases h1
def bTab (x : Str) (tab : List (Str × D)) : Frg → Bool := fun K => match K.lookup (He.ga K x) with
  | some ⟨_, _, .dict es _, _⟩ => allB2 (entB K) tab es.toList
  | _ => false
def KTab (K : Frg) (w : World) (x : Str) (tab : List (Str × D)) : Prop := ∃ es n, KDict K w (He.ga K x) es n ∧ All2 (EntD K) tab es.toList
theorem tab_of {K : Frg} {w : World} {x : Str} {tab : List (Str × D)} (c : bTab x tab K = true) (d : ∃ es n, KDict K w (He.ga K x) es n) : KTab K w x tab := by
  obtain ⟨es, n, d⟩ := d
  unfold bTab at c
  rw [d.at_] at c
  exact ⟨es, n, d, all2_ok entB_ok c⟩
/-- what a key finds -/
theorem ents_find {K : Frg} {z : Str} : ∀ {tab : List (Str × D)} {es : List DictEntry}, All2 (EntD K) tab es →
    (∃ d e, tab.lookup z = some d ∧ es.find? (·.key.isStr z) = some e ∧ VD K d e.val) ∨ (tab.lookup z = none ∧ es.find? (·.key.isStr z) = none ∧ es.any (·.refKey) = false)
  | _, _, .nil => .inr ⟨rfl, rfl, rfl⟩
  | q :: tab, e :: es, .cons h t => by
    obtain ⟨⟨tk, hk⟩, hv⟩ := h
    have hs : e.key.isStr z = decide (q.1 = z) := by rw [hk]; rfl
    by_cases c : q.1 = z
    · refine .inl ⟨q.2, e, ?_, ?_, hv⟩
      · rw [show (q :: tab) = (q.1, q.2) :: tab from rfl, List.lookup_cons, ← c]
        simp
      · rw [List.find?_cons, hs, decide_eq_true c]
    · have l1 : (q :: tab).lookup z = tab.lookup z := by
        rw [show (q :: tab) = (q.1, q.2) :: tab from rfl, List.lookup_cons]
        have : (z == q.1) = false := by
          rw [beq_eq_false_iff_ne]
          exact fun e => c e.symm
        rw [this]
      have l2 : (e :: es).find? (·.key.isStr z) = es.find? (·.key.isStr z) := by rw [List.find?_cons, hs, decide_eq_false c]
      rcases ents_find (z := z) t with ⟨d, e', h1, h2, h3⟩ | ⟨h1, h2, h3⟩
      · exact .inl ⟨d, e', l1.trans h1, l2.trans h2, h3⟩
      · refine .inr ⟨l1.trans h1, l2.trans h2, ?_⟩
        rw [List.any_cons, h3, Bool.or_false]
        unfold DictEntry.refKey
        rw [hk]
theorem KTab.ns {K : Frg} {w : World} {x : Str} {tab : List (Str × D)} (kt : KTab K w x tab) (z : Str) :
    (∃ d u, tab.lookup z = some d ∧ PySem.W.nsIn K (He.ga K x) z = some (some u) ∧ VD K d u) ∨ (tab.lookup z = none ∧ PySem.W.nsIn K (He.ga K x) z = some none) := by
  obtain ⟨es, n, kd, h⟩ := kt
  have e : PySem.W.nsIn K (He.ga K x) z = (match es.toList.find? (·.key.isStr z) with
      | some e => some (some e.val)
      | none => if es.toList.any (·.refKey) then none else some none) := by
    unfold PySem.W.nsIn
    rw [kd.at_]
    rfl
  rcases ents_find (z := z) h with ⟨d, e', h1, h2, h3⟩ | ⟨h1, h2, h3⟩
  · exact .inl ⟨d, e'.val, h1, by rw [e, h2], h3⟩
  · exact .inr ⟨h1, by rw [e, h2, h3]; rfl⟩
section
variable {X : Cx} {B : Bs} {K : Frg} {ms : List Addr} {a b c e o : Expr} {es : List Expr} {ra rb rc r ro : Rd} {rl : RdA} {pos p0 apos : Pos}
def dIxT (x : Str) (tab : List (Str × D)) (dx dy : D) (Q : D → Prop) : Prop := match dx, dy with
  | .glob y, .str z => y = x ∧ (match tab.lookup z with | some d => Q d | none => False)
  | _, _ => False
theorem ixTL {w : World} {x : Str} {tab : List (Str × D)} (kt : KTab K w x tab) : OpL K ms (rIxD K w) (dIxT x tab) := by
  intro F H vx vy dx dy Qd Q hs rx ry h k
  unfold dIxT at h
  split at h
  · rename_i y z
    obtain ⟨rfl, h⟩ := h
    cases rx
    cases ry
    split at h
    · rename_i d e
      rcases kt.ns z with ⟨d', u, h1, h2, v, h3, h4⟩ | ⟨h1, _⟩
      · rw [e] at h1
        cases h1
        obtain ⟨es, n, kd, _⟩ := kt
        exact ⟨_, _, v, rfl, rfl, ⟨es, n, u, kd.at_, kd.lit, h2, h3⟩, k v F H d (Go.refl hs) (h4 ms F) h⟩
      · rw [e] at h1
        cases h1
    · exact h.elim
  · exact h.elim
theorem y_ixT {x : Str} {tab : List (Str × D)} (kt : KTab X.K X.w x tab) (ha : PEp X B a ra) (hb : PEp X B b rb) (hs : PlainIx b) : PEp X B (.Subscript a b pos) (fun ρ Q => ra ρ fun x' => rb ρ fun y => dIxT x tab x' y Q) := pe_imp (pe_ix ix_kdict ha hb hs) (tOp_of (ixTL kt))
/-- key in d -/
def dInT (neg : Bool) (x : Str) (tab : List (Str × D)) (dx dy : D) (Q : D → Prop) : Prop := match dx, dy with
  | .str z, .glob y => y = x ∧ Q (.bl (neg != (tab.lookup z).isSome))
  | _, _ => False
theorem inTL {w : World} {x : Str} {tab : List (Str × D)} (kt : KTab K w x tab) : OpL K ms (fun vx vy H Q => ∃ (z : Str) (r : Option Value), vx = .str z ∧ vy = .ref (He.ga K x) ∧ PySem.W.nsIn K (He.ga K x) z = some r ∧ Q (.bl r.isSome) H) (dInT false x tab) := by
  intro F H vx vy dx dy Qd Q hs rx ry h k
  unfold dInT at h
  split at h
  · rename_i z y
    obtain ⟨rfl, h⟩ := h
    cases rx
    cases ry
    rw [Bool.false_bne] at h
    rcases kt.ns z with ⟨d', u, h1, h2, _⟩ | ⟨h1, h2⟩
    · exact ⟨z, some u, rfl, rfl, h2, k _ F H _ (Go.refl hs) (.bl _) (by rw [h1] at h; exact h)⟩
    · exact ⟨z, none, rfl, rfl, h2, k _ F H _ (Go.refl hs) (.bl _) (by rw [h1] at h; exact h)⟩
  · exact h.elim
theorem ninTL {w : World} {x : Str} {tab : List (Str × D)} (kt : KTab K w x tab) : OpL K ms (fun vx vy H Q => ∃ (z : Str) (r : Option Value), vx = .str z ∧ vy = .ref (He.ga K x) ∧ PySem.W.nsIn K (He.ga K x) z = some r ∧ Q (.bl (!r.isSome)) H) (dInT true x tab) := by
  intro F H vx vy dx dy Qd Q hs rx ry h k
  unfold dInT at h
  split at h
  · rename_i z y
    obtain ⟨rfl, h⟩ := h
    cases rx
    cases ry
    rw [Bool.true_bne] at h
    rcases kt.ns z with ⟨d', u, h1, h2, _⟩ | ⟨h1, h2⟩
    · exact ⟨z, some u, rfl, rfl, h2, k _ F H _ (Go.refl hs) (.bl _) (by rw [h1] at h; exact h)⟩
    · exact ⟨z, none, rfl, rfl, h2, k _ F H _ (Go.refl hs) (.bl _) (by rw [h1] at h; exact h)⟩
  · exact h.elim
theorem op_inT {x : Str} {tab : List (Str × D)} (kt : KTab X.K X.w x tab) : OpR X (compareOp .In) (fun vx vy H Q => ∃ (z : Str) (r : Option Value), vx = .str z ∧ vy = .ref (He.ga X.K x) ∧ PySem.W.nsIn X.K (He.ga X.K x) z = some r ∧ Q (.bl r.isSome) H) := by
  obtain ⟨es, n, kd, _⟩ := kt
  exact op_in_kd kd
theorem op_ninT {x : Str} {tab : List (Str × D)} (kt : KTab X.K X.w x tab) : OpR X (compareOp .NotIn) (fun vx vy H Q => ∃ (z : Str) (r : Option Value), vx = .str z ∧ vy = .ref (He.ga X.K x) ∧ PySem.W.nsIn X.K (He.ga X.K x) z = some r ∧ Q (.bl (!r.isSome)) H) := by
  obtain ⟨es, n, kd, _⟩ := kt
  exact op_notIn_kd kd
/-! ### d.items() -/
def ItK (es : Array DictEntry) : It :=
  ⟨fun i _ => i < es.size, fun i H v H' => ∃ (T : Addr) (k x : V) (e : DictEntry), v = .ref T ∧ H T = none ∧ H' = upd H T (.tup [k, x]) ∧ es[i]? = some e ∧ RelV k e.key ∧ RelV x e.val, fun i _ => es.size ≤ i⟩
/-- every key and value has a reading -/
def Read (es : Array DictEntry) : Prop := ∀ (i : Nat) (e : DictEntry), es[i]? = some e → (∃ k, RelV k e.key) ∧ ∃ v, RelV v e.val
theorem turn_itemsK {P : Program} {w : World} {K : Frg} {d : Addr} {es : Array DictEntry} {ep : Nat} {elts : List Expr} {kk : Nat} {tpos : Pos} (it : Addr) (kd : KDict K w d es ep) (rd : Read es) :
    Turn P w K (.Tuple elts kk tpos) (ItK es) [it] it (fun i h => ∃ ok ov, IsItemIter h it d i es.size ep ok ov) where
  mem := by simp
  obj := fun i h st b hb => by
    have e : b = it := by simpa using hb
    subst e
    obtain ⟨ok, ov, e⟩ := st
    exact ⟨_, e, fun v z => nomatch z⟩
  keep := fun i h h' st k => let ⟨ok, ov, e⟩ := st; ⟨ok, ov, k it (by simp) _ e⟩
  item := by
    intro X hP hw hK hc i pins s σ H E I hf st hg
    subst hP hw hK
    have hi : i < es.size := hg
    have raw : s.heap.DictRaw d es ep := ⟨_, I.kIn _ _ kd.at_, ⟨rfl, rfl, rfl⟩, rfl⟩
    obtain ⟨ok, ov, he⟩ := st
    have hlt : it < s.heap.objs.size := Heap.lt_size he
    have hei : es[i]? = some es[i] := Array.getElem?_eq_getElem hi
    obtain ⟨⟨k, rk⟩, v, rv⟩ := rd i _ hei
    refine wpAny_pyNext_items_item_raw he raw hi fun h' ho hT hz hk => ?_
    refine ⟨_, rfl, wpAny_letOwnedTupleGo_items (s := { s with heap := h' }) ho fun h'' he' sb => ?_⟩
    have hT2 : h''.get? s.heap.objs.size = some { cls := .type "tuple", data := .seq #[es[i].key, es[i].val] } := (sb.2 _ (Nat.ne_of_gt hlt)).trans hT
    have new : ObjOk X.prog X.w (upd H s.heap.objs.size (.tup [k, v])) h'' s.heap.objs.size (.tup [k, v]) :=
      ⟨by show 2 ≤ sizeLine; decide, [es[i].key, es[i].val], .cons rk (.cons rv .nil), ⟨_, hT2, rfl, _, rfl⟩⟩
    have I1 : L2.Inv X pins σ (upd H s.heap.objs.size (.tup [k, v])) { s with heap := h'' } :=
      I.turnedNew (t' := s.toks) (ch := [it]) (fun b ob hb e => (sb.2 b (by simpa using hb)).trans (hk b ob (by simpa using hb) e)) hf (Nat.le_refl _) new
    refine ⟨.ref s.heap.objs.size, _, I1, rfl, ⟨_, k, v, _, rfl, I.hok.fresh (Nat.le_refl _), rfl, hei, rk, rv⟩, ⟨_, _, he'⟩, fun b hb => ?_⟩
    have e : b = it := by simpa using hb
    rw [e, upd_ne (Nat.ne_of_lt hlt)]
    exact (hf it (by simp)).1
  done := by
    intro X hP hw hK hc i pins s σ H E I hf st hg
    subst hP hw hK
    have raw : s.heap.DictRaw d es ep := ⟨_, I.kIn _ _ kd.at_, ⟨rfl, rfl, rfl⟩, rfl⟩
    obtain ⟨f0, f1, f2, f3, f4, f5⟩ := hf it (by simp)
    obtain ⟨ok, ov, he⟩ := st
    exact wpAny_pyNext_items_end_raw (I.ok.hd hc) he raw hg fun h' eb => ⟨rfl, I.turned (t' := s.toks) (fun b ob hb e => eb b ob hb e) f0 f1 f3 f4 f5⟩
  self := fun A i s Q E st h => let ⟨_, _, e⟩ := st; PySem.W.kcp_self e h
def itemsD (tab : List (Str × D)) : List D := tab.map fun q => .tup [.str q.1, q.2]
theorem i_itemsT {x : Str} {tab : List (Str × D)} {elts : List Expr} {kk : Nat} {tpos cpos : Pos} (kt : KTab X.K X.w x tab) (he : PEp X B e r) (hbase : attributeBase e "items" X.env (eval e X.env) = eval e X.env := by rfl) (hline : (apos.endLine == cpos.line) = true := by rfl) :
    PIp X B (.Tuple elts kk tpos) (.Call (.Attribute e "items" apos) [] [] cpos) (fun ρ Q => r ρ fun d => d = .glob x ∧ Q (itemsD tab)) := by
  refine ⟨fun pins s σ H R I h => ?_⟩
  obtain ⟨F0, ρ, Qd, J, z, kk0⟩ := h
  obtain ⟨es, n, kd, al⟩ := kt
  refine wpAny_Call_method (T := "dict") (id := "dict.items") hbase rfl hline F.plainAttrs_dict F.slot_dict_items F.type_dict_items (thn (he.run pins s σ H (fun v H1 => ∃ F1, Go B.ms F0 H F1 H1 ∧ Tp X.K B.ms F1 H1 ∧ v = .ref (He.ga X.K x) ∧ Qd (itemsD tab)) I ⟨F0, ρ, _, J, z, fun v F1 H1 d g1 t1 r1 z1 => by
    obtain ⟨rfl, z1⟩ := z1
    cases r1
    exact ⟨F1, g1, t1, rfl, z1⟩⟩) fun u s1 ⟨y, H1, I1, rx, F1, g1, t1, ey, q⟩ => ?_)
  subst ey
  obtain rfl : u = Value.ref (He.ga X.K x) := rx
  have raw : s1.heap.DictRaw (He.ga X.K x) es n := ⟨_, I1.kIn _ _ kd.at_, ⟨rfl, rfl, rfl⟩, rfl⟩
  have rd : Read es := fun i e he => by
    have hi : i < es.toList.length := by
      rcases Nat.lt_or_ge i es.size with y | y
      · simpa using y
      · rw [Array.getElem?_eq_none y] at he; cases he
    have hl := al.len
    have ht : tab[i]? = some tab[i] := List.getElem?_eq_getElem (by omega)
    obtain ⟨⟨t, h1⟩, v, h2, _⟩ := al.get ht (b := e) (by simpa using he)
    exact ⟨⟨.str (tab[i]).1, by rw [h1]; exact ⟨t, rfl⟩⟩, v, h2⟩
  refine ⟨raw.typeIs, (PySem.W.mapOf_K (prog := X.prog) (w := X.w) I1.kIn kd.at_ kd.lit).noDict, ?_⟩
  have I2 : L2.Inv X pins σ H1 { s1 with heap := s1.heap.push { cls := .type "dict_items", data := .fields #[.ref (He.ga X.K x)] } } := I1.kept (t' := s1.toks) fun b ob q => Heap.get?_push_of_some _ q
  have fin : wpAny (model X.prog X.w) X.A (pyIter (.ref s1.heap.objs.size)) (PIE X pins σ (.Tuple elts kk tpos) R) X.xe { s1 with heap := s1.heap.push { cls := .type "dict_items", data := .fields #[.ref (He.ga X.K x)] } } := by
    refine wpAny_pyIter_items_raw (d := He.ga X.K x) (es := es) (ep := n) ⟨_, Heap.get?_push_size _ rfl, rfl, rfl⟩ (raw.at fun o e => Heap.get?_push_of_some _ e) (pi_one (tk := s1.toks) I2 _ (turn_itemsK _ kd rd) ⟨.none, .none, Heap.get?_push_size _ rfl⟩ ?_)
    have hl := al.len
    refine kk0 _ F1 H1 (itemsD tab) g1 t1 ⟨fun _ => True, fun i H v H' => ∃ (T : Addr) (k x : V) (e : DictEntry), v = .ref T ∧ H T = none ∧ H' = upd H T (.tup [k, x]) ∧ es[i]? = some e ∧ RelV k e.key ∧ RelV x e.val, ⟨fun i H hi _ => ?_, fun H _ => ?_, fun _ _ _ _ _ _ y => y⟩, fun _ _ _ _ => trivial, ?_⟩ q
    · show i < es.size
      have hi' : i < tab.length := by simpa [itemsD] using hi
      have hl' : tab.length = es.size := by simpa using hl
      omega
    · show es.size ≤ (itemsD tab).length
      have hl' : tab.length = es.size := by simpa using hl
      simp [itemsD, hl']
    · rintro i F2 H2 y H2' d s0 s' ⟨T, k, v, e, rfl, hT, rfl, hie, rk, rv⟩ hd
      unfold itemsD at hd
      rw [List.getElem?_map] at hd
      obtain ⟨q0, q1, rfl⟩ := Option.map_eq_some_iff.mp hd
      obtain ⟨⟨t, h1⟩, v', h2, h3⟩ := al.get q1 (b := e) (by simpa using hie)
      have ev : v = v' := rv.inj h2
      subst ev
      have ek : k = .str q0.1 := by
        rw [h1] at rk
        exact rk.inj ⟨t, rfl⟩
      subst ek
      obtain ⟨F3, g3, q3, _⟩ := newE s' hT rfl
      exact ⟨F3, g3, .tup (SqT.of q3) (.cons (.str _) (.cons (h3 _ F3) .nil))⟩
  show wpAny _ _ (callWith cpos (.builtin "dict.items") [.ref (He.ga X.K x)] [] []) _ X.xe s1
  exact method_meetsIn F.slot_dict_items F.entry_dict_items rfl (PySem.evalArgs_none ⟨rfl, raw.typeIs, F.args_dict_items_1 _, _, meets_dict_items_raw (He.ga X.K x) kd.low, ⟨es, n, raw⟩, fin⟩)
/-- d.get(k, x) -/
def dGetT (tab : List (Str × D)) (y z : D) (Q : D → Prop) : Prop := match y with
  | .str k => Q ((tab.lookup k).getD z)
  | _ => False
theorem y_getT {x : Str} {tab : List (Str × D)} {f : Expr} {rf : Rd} {cpos : Pos} (kt : KTab X.K X.w x tab) (ho : PEp X B o ro) (he : PEp X B e r) (hf : PEp X B f rf) (m : M2 X o "get" apos e f cpos := by exact ⟨rfl, rfl, rfl, rfl⟩) :
    PEp X B (.Call (.Attribute o "get" apos) [e, f] [] cpos) (fun ρ Q => ro ρ fun d => d = .glob x ∧ r ρ fun y => rf ρ fun z => dGetT tab y z Q) := by
  refine ⟨fun pins s σ H Q I h => ?_⟩
  obtain ⟨F0, ρ, Qd, J, z, k0⟩ := h
  obtain ⟨es, n, kd, al⟩ := id kt
  refine wpAny_Call_method m.base m.few m.line PySem.F.plainAttrs_dict PySem.F.slot_dict_get PySem.F.type_dict_get (thn (ho.run pins s σ H (fun v H1 => ∃ F1, Go B.ms F0 H F1 H1 ∧ Tp X.K B.ms F1 H1 ∧ v = .ref (He.ga X.K x) ∧ r ρ fun y => rf ρ fun z => dGetT tab y z Qd) I ⟨F0, ρ, _, J, z, fun v F1 H1 d g1 t1 r1 z1 => by
    obtain ⟨rfl, z1⟩ := z1
    cases r1
    exact ⟨F1, g1, t1, rfl, z1⟩⟩) fun u s1 ⟨y, H1, I1, rx, F1, g1, t1, ey, q⟩ => ?_)
  subst ey
  obtain rfl : u = Value.ref (He.ga X.K x) := rx
  have mp := PySem.W.mapOf_K (prog := X.prog) (w := X.w) I1.kIn kd.at_ kd.lit
  refine ⟨mp.typeIs, mp.noDict, ?_⟩
  rw [m.trees]
  refine Calls.callWith_builtin rfl (Calls.evalArgs_plain (Calls.spliced_cons (thn (he.run pins s1 σ H1 (fun v H2 => ∃ F2 d, Go B.ms F1 H1 F2 H2 ∧ Tp X.K B.ms F2 H2 ∧ Rp X.K B.ms F2 v d ∧ rf ρ fun z => dGetT tab d z Qd) I1 ⟨F1, ρ, _, J.step g1 t1, q, fun v F2 H2 d g2 t2 r2 z2 => ⟨F2, d, g2, t2, r2, z2⟩⟩) fun iv s2 ⟨y, H2, I2, ry, F2, d2, g2, t2, r2, q2⟩ =>
    Calls.spliced_cons (thn (hf.run pins s2 σ H2 (fun v H3 => ∃ F3 d, Go B.ms F2 H2 F3 H3 ∧ Tp X.K B.ms F3 H3 ∧ Rp X.K B.ms F3 v d ∧ dGetT tab d2 d Qd) I2 ⟨F2, ρ, _, (J.step g1 t1).step g2 t2, q2, fun v F3 H3 d g3 t3 r3 z3 => ⟨F3, d, g3, t3, r3, z3⟩⟩) fun fv s3 ⟨z, H3, I3, rz, F3, d3, g3, t3, r3, q3⟩ => Calls.spliced_nil ?_))))
  cases d2 with
  | str k =>
    cases r2
    have q3 : Qd ((tab.lookup k).getD d3) := q3
    obtain ⟨t, rfl⟩ := (show ∃ t, iv = Value.str k t from ry)
    have mp3 := PySem.W.mapOf_K (prog := X.prog) (w := X.w) I3.kIn kd.at_ kd.lit
    refine call_meetsIn PySem.F.slot_dict_get mp3.typeIs PySem.F.entry_dict_get (PySem.F.args_dict_get_3 _ _ _) (meets_dict_get_default (strKind X.prog X.w) (He.ga X.K x) (strKind_is X.prog X.w k t) kd.low fv) ⟨_, mp3, ?_⟩
    have g13 := (g1.trans g2).trans g3
    rcases kt.ns k with ⟨d, u, h1, h2, v, h3, h4⟩ | ⟨h1, h2⟩
    · rw [PySem.W.find_K kd.at_ h2]
      rw [h1] at q3
      exact ⟨v, H3, I3.tok _, h3, k0 v F3 H3 _ g13 t3 (h4 _ _) q3⟩
    · rw [PySem.W.find_K kd.at_ h2]
      rw [h1] at q3
      exact ⟨z, H3, I3.tok _, rz, k0 z F3 H3 _ g13 t3 r3 q3⟩
  | _ => exact q3.elim
end
end Y
namespace Z
open PySem PySem.Spec PyProof.Rows L2
open PySem.W
section
variable {prog : Program} {w : World} {A : Around} {E : Value → Shared → Prop} {s : Shared} {K : Frg} {x C C' L f f' : Addr} {h₀ : Heap} {m : Str → Option Value} {ox : Obj} {od : Option Obj}
/-- a op b, b of another own class that has the operation, too -/
theorem binop_O {op : Operator} {b : Value} {rc rc' : Option Value} {Q : Value → Shared → Prop} (F : Fr h₀ L s.heap m) (X₀ : K.In h₀) (I : InstAt s.heap x ox C od) (hb : Looks (model prog w) s.heap (typeOf b) (.ref C')) (hc : selfFirst K C = true) (hc' : selfFirst K C' = true)
    (hs : findIn K (.ref C) (PySem.dunder op.info.2) = some (some (.ref f))) (hf : isFn K (.ref f) = true) (hr : findIn K (.ref C) (dunderR op.info.2) = some rc) (hp : rc = none ∨ ∃ g : Addr, rc = some (.ref g))
    (hs' : findIn K (.ref C') (PySem.dunder op.info.2) = some (some (.ref f'))) (hr' : findIn K (.ref C') (dunderR op.info.2) = some rc') (hp' : rc' = none ∨ ∃ g : Addr, rc' = some (.ref g)) (hsub : subIn K (.ref C') (.ref C) = some false) (hn : C ≠ C')
    (h : wpAny (model prog w) A (call (.ref f) [.ref x, b]) (PySem.W.CmpBack Q) E s) : wpAny (model prog w) A (binaryOp op (.ref x) b) Q E s := by
  have X := X₀.keeps F.keep
  obtain ⟨cd, rest, hcd, hm⟩ := ksp_first hc
  obtain ⟨cd', rest', hcd', hm'⟩ := ksp_first hc'
  rcases hi : op.info with ⟨sym, nm'⟩
  rw [hi] at hs hr hs' hr'
  dsimp only at hs hr hs' hr'
  have one := ksp_try X I hs hf h
  obtain ⟨hh, g, d, tt, os⟩ := s
  have L1 : Looks (model prog w) hh (typeOf (.ref x)) (.ref C) := I.type
  have L2 : Looks (model prog w) hh (typeOf b) (.ref C') := hb
  have L3 : Looks (model prog w) hh (fillsNumberSlot (.ref C) nm') true := fills_K X hcd hm hs
  have L4 : Looks (model prog w) hh (fillsNumberSlot (.ref C') nm') true := fills_K X hcd' hm' hs'
  have L5 : Looks (model prog w) hh (isSubtype (.ref C') (.ref C)) false := looks_subIn X hsub
  have L6 : Looks (model prog w) hh (numberSlotInPython (.ref C) nm') true := ksp_inPy X hs hr hp
  have L7 : Looks (model prog w) hh (numberSlotInPython (.ref C') nm') true := ksp_inPy X hs' hr' hp'
  have hne : (Value.ref C == Value.ref C') = false := Bool.eq_false_iff.mpr fun q => by
    have := beq_iff_eq.mp q
    cases this
    exact hn rfl
  simp only [binaryOp, hi]
  refine wpAny_holding (wpAny_bind ?_)
  unfold binaryOp1
  refine wpAny_bind (L1.at (wpAny_bind (L2.at (wpAny_bind (L3.at ?_)))))
  simp only [hne, Bool.false_eq_true, if_false]
  ksp_lk
  refine wpAny_mono one (fun r s' hr' => ?_) fun _ _ e => e
  obtain ⟨v, rfl, hq⟩ := hr'
  ksp_lk
  exact hq
end
section
variable {X : Cx} {CX : CXT} {k : Nat} {f C C' p g g' : Addr} {sp : Sp} {E : XK} {x m : Str} {p0 pos apos : Pos} {e o a b : Expr} {es : List Expr} {ta tb : TE} {t : TA} {pins : List (Addr × Obj)} {σ : L2.St} {H : Hp} {s : Shared}
/-- what a op b asks of two own classes -/
structure Bin2 (K : Frg) (nm : String) (C C' g g' : Addr) : Prop where
  hr : ∃ rc, PySem.W.findIn K (.ref C) (dunderR nm) = some rc ∧ (rc = none ∨ ∃ g : Addr, rc = some (.ref g))
  hr' : ∃ rc, PySem.W.findIn K (.ref C') (dunderR nm) = some rc ∧ (rc = none ∨ ∃ g : Addr, rc = some (.ref g))
  hs' : PySem.W.findIn K (.ref C') (PySem.dunder nm) = some (some (.ref g'))
  hc : selfFirst K C = true
  hc' : selfFirst K C' = true
  hsub : subIn K (.ref C') (.ref C) = some false
  hn : C ≠ C'
def rBin2 (C C' : Addr) (sp : Sp) (E : XK) : R2 := fun x y H Q => ∃ a dx fs b dy gs, x = .ref a ∧ y = .ref b ∧ H a = some (.ins C dx fs) ∧ H b = some (.ins C' dy gs) ∧ sp [x, y] H Q E
theorem gop_bin2 {op : Operator} (b2 : Bin2 X.K op.info.2 C C' g g') (hs : PySem.W.findIn X.K (.ref C) (PySem.dunder op.info.2) = some (some (.ref g))) (hf : PySem.W.isFn X.K (.ref g) = true) (F : FnA X.A X.prog X.w X.K X.mg X.base CX g sp) (hx : Passes CX X E) : OpR X (binaryOp op) (rBin2 C C' sp E) := by
  intro pins s σ H x y v u Q I rx ry h
  obtain ⟨a, dx, fs, b, dy, gs, rfl, rfl, ea, eb, q⟩ := h
  cases (show v = Value.ref a from rx)
  cases (show u = Value.ref b from ry)
  obtain ⟨mA, O, _, _, _, _⟩ := ins_get I.hok ea
  obtain ⟨od, J, _⟩ := O.look
  obtain ⟨mB, O', _, _, _, _⟩ := ins_get I.hok eb
  obtain ⟨od', J', _⟩ := O'.look
  obtain ⟨m, hF⟩ := I.fr
  obtain ⟨rc, r1, r2⟩ := b2.hr
  obtain ⟨rc', r3, r4⟩ := b2.hr'
  refine binop_O hF I.ok.mod.kin J J'.type b2.hc b2.hc' hs hf r1 r2 b2.hs' r3 r4 b2.hsub b2.hn ?_
  refine wpAny_mono (wpAny_call (run_fnA (us := [.ref a, .ref b]) (vs := [.ref a, .ref b]) F hx I (.cons rfl (.cons rfl .nil)) q)) (fun w s' z => ?_) fun _ _ x => x
  obtain ⟨z', H', I', rz, qz⟩ := z
  exact SlX.cmpback rz ⟨z', H', I', rz, qz⟩
/-- a op b, b of a built-in type -/
structure BinT (K : Frg) (nm : String) (C : Addr) (T : String) : Prop where
  hr : ∃ rc, PySem.W.findIn K (.ref C) (dunderR nm) = some rc ∧ (rc = none ∨ ∃ g : Addr, rc = some (.ref g))
  h1 : ∃ fo, PySem.W.findIn K (.type T) (PySem.dunder nm) = some fo
  h2 : ∃ ro, PySem.W.findIn K (.type T) (dunderR nm) = some ro
  hc : selfFirst K C = true
  hsub : subIn K (.type T) (.ref C) = some false
/-- ~a -/
def rUnO (C : Addr) (sp : Sp) (E : XK) : V → Hp → VK → Prop := fun x H Q => ∃ a dx fs, x = .ref a ∧ H a = some (.ins C dx fs) ∧ sp [x] H Q E
theorem gop_inv (hs : PySem.W.findIn X.K (.ref C) "__invert__" = some (some (.ref g))) (hf : PySem.W.isFn X.K (.ref g) = true) (F : FnA X.A X.prog X.w X.K X.mg X.base CX g sp) (hx : Passes CX X E) : UnR X (unaryOp .Invert) (rUnO C sp E) := by
  intro pins s σ H x v Q I rx h
  obtain ⟨a, dx, fs, rfl, ea, q⟩ := h
  cases (show v = Value.ref a from rx)
  obtain ⟨mA, O, _, _, _, _⟩ := ins_get I.hok ea
  obtain ⟨od, J, _⟩ := O.look
  obtain ⟨m, hF⟩ := I.fr
  refine PySem.W.ksp_inv hF I.ok.mod.kin J hs hf ?_
  exact wpAny_call (run_fnA (us := [.ref a]) (vs := [.ref a]) F hx I (.cons rfl .nil) q)
/-- o(e, ..) of an instance -/
theorem gcallO {tf : TE} {fe : Expr} (hf : PE X fe tf) (c : StX.CallO X.K C g) (F : FnA X.A X.prog X.w X.K X.mg X.base CX g sp) (hx : Passes CX X E) (ha : PA X (e :: es) t)
    (ht : eval (.Call fe (e :: es) [] pos) X.env = (do callWith pos (← eval fe X.env) [] (backTo pos (starEach (e :: es) X.env)) (backToKw pos (keywordEach [] X.env))) := by rfl)
    (he : starEach (e :: es) X.env = (false, eval e X.env) :: starEach es X.env := by rfl) (hpl : (backTo pos (starEach es X.env)).any (·.1) = false := by rfl) : PE X (.Call fe (e :: es) [] pos) (StX.tCallO X C sp E tf t) := by
  refine ⟨fun pins s σ H Q I h => ?_⟩
  refine Call_ (thn (hf.run pins s σ H _ I h) fun u s1 ⟨y, H1, I1, ry, a, ey, q⟩ => ?_) ht
  subst ey
  obtain rfl : u = Value.ref a := ry
  refine StX.callO_with (thn (ha.run pos pins s1 σ H1 _ I1 q) fun us s2 ⟨vs, H2, I2, r, hi, q2⟩ => ?_) he hpl
  obtain ⟨ox, od, J, hd⟩ := StX.insC_at I2 hi
  exact ⟨⟨C, ox, od, J, hd⟩, wpAny_call (PySem.W.kco_code I2.kIn J hd c.at_ c.fn c.fi (run_fnA (us := .ref a :: us) (vs := .ref a :: vs) F hx I2 (.cons rfl r) q2))⟩
end
/-! ### facts -/
def rcB (K : Frg) (C : Addr) (nm : String) : Bool := match PySem.W.findIn K (.ref C) (dunderR nm) with
  | some none => true
  | some (some (.ref _)) => true
  | _ => false
theorem rcB_ok {K : Frg} {C : Addr} {nm : String} (h : rcB K C nm = true) : ∃ rc, PySem.W.findIn K (.ref C) (dunderR nm) = some rc ∧ (rc = none ∨ ∃ g : Addr, rc = some (.ref g)) := by
  unfold rcB at h
  split at h
  · rename_i e; exact ⟨_, e, .inl rfl⟩
  · rename_i g e; exact ⟨_, e, .inr ⟨g, rfl⟩⟩
  · cases h
def bBin2 (x y : Str) (nm : String) (dn : Str) : Frg → Bool := fun K => rcB K (He.ga K x) nm && (rcB K (He.ga K y) nm && (He.eqO (PySem.W.findIn K (.ref (He.ga K y)) (PySem.dunder nm)) (some (some (.ref (He.ma K (He.ga K y) dn)))) && (selfFirst K (He.ga K x) && (selfFirst K (He.ga K y) && (decide (subIn K (.ref (He.ga K y)) (.ref (He.ga K x)) = some false) && decide (He.ga K x ≠ He.ga K y))))))
theorem bin2_of {K : Frg} {x y dn : Str} {nm : String} {g : Addr} (h : bBin2 x y nm dn K = true) : Bin2 K nm (He.ga K x) (He.ga K y) g (He.ma K (He.ga K y) dn) := by
  obtain ⟨h1, h⟩ := He.ba h
  obtain ⟨h2, h⟩ := He.ba h
  obtain ⟨h3, h⟩ := He.ba h
  obtain ⟨h4, h⟩ := He.ba h
  obtain ⟨h5, h⟩ := He.ba h
  obtain ⟨h6, h7⟩ := He.ba h
  exact ⟨rcB_ok h1, rcB_ok h2, He.eqO_ok h3, h4, h5, of_decide_eq_true h6, of_decide_eq_true h7⟩
def bCallO (x : Str) : Frg → Bool := fun K => He.eqO (PySem.W.findIn K (.ref (He.ga K x)) "__call__") (some (some (.ref (He.ma K (He.ga K x) "__call__")))) && (PySem.W.isFn K (.ref (He.ma K (He.ga K x) "__call__")) && PySem.W.fnIn K (He.ma K (He.ga K x) "__call__"))
theorem callO_of {K : Frg} {x : Str} (h : bCallO x K = true) : StX.CallO K (He.ga K x) (He.ma K (He.ga K x) "__call__") := by
  obtain ⟨h1, h⟩ := He.ba h
  obtain ⟨h2, h3⟩ := He.ba h
  exact ⟨He.eqO_ok h1, h2, h3⟩
end Z
namespace Y
open PySem PySem.Spec PyProof.Rows L2 Z
section
variable {X : Cx} {B : Bs} {K : Frg} {ms : List Addr} {a b c e o : Expr} {es : List Expr} {ra rb rc r ro : Rd} {rt ru : RdT} {rl : RdA} {pos p0 apos : Pos} {R : RdF} {k : Nat} {f g p : Addr} {x m : Str} {s1 s2 : RdS}
def dBin2 (B : Bs) (R : RdF) (C : Str) (ns : List Str) (C' : Str) (ns' : List Str) (x y : D) (Q : D → Prop) : Prop := asO [C] ns x (asO [C'] ns' y (R [x, y] Q B.Ed))
theorem bin2L {C C' : Str} {ns ns' : List Str} : OpI K B (rBin2 (He.ga K C) (He.ga K C') (spP K R) (EE K B)) (dBin2 B R C ns C' ns') := by
  intro F H x y dx dy Qd Q g0 t0 rx ry h k
  obtain ⟨a, d1, f1, c1, rfl, hc1, h1, hh⟩ := asO_of rx h
  obtain ⟨b, d2, f2, c2, rfl, hc2, h2, hhh⟩ := asO_of ry hh
  have e1 : c1 = C := by simpa using hc1
  have e2 : c2 = C' := by simpa using hc2
  subst e1
  subst e2
  exact ⟨a, d1, f1, b, d2, f2, rfl, rfl, t0.1 _ _ h1, t0.1 _ _ h2, sp_callG g0 t0 (.cons rx (.cons ry .nil)) k hhh⟩
/-- ~o -/
theorem y_inv {C : Str} {ns : List Str} (hs : PySem.W.findIn X.K (.ref (He.ga X.K C)) "__invert__" = some (some (.ref g))) (hf : PySem.W.isFn X.K (.ref g) = true) (F : FnA X.A X.prog X.w X.K X.mg X.base (L2.CX X.prog X.w) g (spP X.K R)) (hx : Px X B) (ha : PEp X B a ra) :
    PEp X B (.UnaryOp .Invert a pos) (fun ρ Q => ra ρ fun x => asO [C] ns x (R [x] Q B.Ed)) :=
  pe_imp (pe_un (gop_inv hs hf F hx) ha) fun σ H Q ⟨F0, ρ, Qd, I, z, kk⟩ => ⟨F0, ρ, _, I, z, fun v F1 H1 d g1 t1 r1 z1 => by
    obtain ⟨a, d1, f1, c1, rfl, hc1, h1, hh⟩ := asO_of r1 z1
    have e1 : c1 = C := by simpa using hc1
    subst e1
    exact ⟨a, d1, f1, rfl, t1.1 _ _ h1, sp_call I kk g1 t1 (.cons r1 .nil) hh⟩⟩
/-- o(e, ..) -/
theorem y_callO {C : Str} {ns : List Str} (ho : PEp X B o ro) (c : StX.CallO X.K (He.ga X.K C) g) (F : FnA X.A X.prog X.w X.K X.mg X.base (L2.CX X.prog X.w) g (spP X.K R)) (hx : Px X B) (ha : PAp X B (e :: es) rl)
    (ht : eval (.Call o (e :: es) [] pos) X.env = (do callWith pos (← eval o X.env) [] (backTo pos (starEach (e :: es) X.env)) (backToKw pos (keywordEach [] X.env))) := by rfl)
    (he : starEach (e :: es) X.env = (false, eval e X.env) :: starEach es X.env := by rfl) (hpl : (backTo pos (starEach es X.env)).any (·.1) = false := by rfl) :
    PEp X B (.Call o (e :: es) [] pos) (fun ρ Q => ro ρ fun x => asO [C] ns x (rl ρ fun ds => R (x :: ds) Q B.Ed)) :=
  pe_imp (gcallO ho c F hx ha ht he hpl) fun σ H Q ⟨F0, ρ, Qd, I, z, kk⟩ => ⟨F0, ρ, _, I, z, fun v F1 H1 d g1 t1 r1 z1 => by
    obtain ⟨a, d1, f1, c1, rfl, hc1, h1, hh⟩ := asO_of r1 z1
    have e1 : c1 = C := by simpa using hc1
    subst e1
    exact ⟨a, rfl, F1, ρ, _, I.step g1 t1, hh, fun vs F2 H2 ds g2 t2 r2 z2 => ⟨.inr ⟨d1, f1, t2.1 _ _ (g2.ff _ _ h1)⟩, sp_call I kk (g1.trans g2) t2 (.cons (r1.up g2.ff) r2) z2⟩⟩⟩
/-- a tuple of the module -/
def bVD (x : Str) (d : D) : Frg → Bool := fun K => vOk K 4 d (.ref (He.ga K x))
theorem vd_of {x : Str} {d : D} (h : bVD x d K = true) : VD K d (.ref (He.ga K x)) := vOk_ok _ _ _ h
theorem y_globD {x : Str} {d : D} (hg : Gl X x) (h : X.mg x = some (.ref (He.ga X.K x))) (hv : VD X.K d (.ref (He.ga X.K x))) (hd : (x == ("__debug__" : Str)) = false := by decide) : PEp X B (.Name x pos) (rC d) :=
  pe_imp (pe_glob (v := .ref (He.ga X.K x)) hg h rfl hd) fun σ H Q ⟨F, ρ, Qd, I, z, k⟩ => by
    obtain ⟨v, r1, r2⟩ := hv
    have e : v = .ref (He.ga X.K x) := r1.inj rfl
    subst e
    exact k _ F H _ (Go.refl I.same) I.tp (r2 _ _) z
def bDfl (f : Str × Option Str) (d : D) : Frg → Bool := fun K => vOk K 4 d (.ref (He.dflAt f 0 K))
theorem defD_of {x qual : Str} {st : Stmt} {f p : Addr} {d : D} (h : ∃ fd, L2.FunD K x qual (defArgs st) (defBody st) (defScope st) [.ref p] [] f fd) (c : vOk K 4 d (.ref p) = true) : DefAtD K x qual st f d := by
  obtain ⟨fd, h⟩ := h
  obtain ⟨v, r1, r2⟩ := vOk_ok _ _ _ c
  have e : v = .ref p := r1.inj rfl
  subst e
  exact ⟨fd, _, h, r2⟩
end
end Y
namespace Y
open PySem PySem.Spec PyProof.Rows L2 Z
section
variable {X : Cx} {B : Bs} {K : Frg} {ms : List Addr} {a b c e o : Expr} {es : List Expr} {ra rb rc r ro : Rd} {rt ru : RdT} {rl : RdA} {pos p0 apos : Pos} {R : RdF} {k : Nat} {f g p : Addr} {x m : Str}
/-! ### f-strings -/
/-- {e!r} of data -/
theorem y_fmtR (hr : RoomG k X.A) (he : PEp X B e r) : PEp X B (.FormattedValue e 114 none pos) (fun ρ Q => r ρ fun d => (shP 0 d ∧ (toP d).bulk ≤ 8000 ∧ (toP d).depth ≤ 40) ∧ Q (.str (shD d))) := by
  refine ⟨fun pins s σ H Q I h => ?_⟩
  obtain ⟨F0, ρ, Qd, J, z, kk⟩ := h
  refine wpAny_FormattedValue_repr (thn (he.run pins s σ H (fun v H1 => ∃ F1 d, Go B.ms F0 H F1 H1 ∧ Tp X.K B.ms F1 H1 ∧ Rp X.K B.ms F1 v d ∧ (shP 0 d ∧ (toP d).bulk ≤ 8000 ∧ (toP d).depth ≤ 40) ∧ Qd (.str (shD d))) I ⟨F0, ρ, _, J, z, fun v F1 H1 d g1 t1 r1 z1 => ⟨F1, d, g1, t1, r1, z1⟩⟩) fun u s1 ⟨v, H1, I1, ru, F1, d, g1, t1, rd, ⟨hp, hb, hd⟩, q⟩ => ?_)
  have hl := sh_len hp hb
  have hu := hr.units
  obtain ⟨as, rr⟩ := sh_reads I1 t1.1 d v u hp rd ru
  have end_ : ∀ s2 (y : Str) (t : Tok), L2.Inv X pins σ H1 s2 → y = (toP d).shown → wpAny (model X.prog X.w) X.A (formatField (.str y t) Str.empty) (EP X pins σ Q) X.xe s2 := fun s2 y t I2 e => by
    subst e
    exact wpAny_formatField_str ⟨.str _, H1, I2, ⟨t, rfl⟩, kk _ F1 H1 _ g1 t1 (.str _) q⟩ ⟨.str _, H1, I2.tok _, ⟨_, rfl⟩, kk _ F1 H1 _ g1 t1 (.str _) q⟩ hl
  cases rd with
  | non =>
    obtain rfl : u = Value.none := ru
    exact pyReprObj_none (end_ _ _ _ (I1.tok _) rfl)
  | bl b =>
    obtain rfl : u = Value.bool b := ru
    exact pyReprObj_bool (end_ _ _ _ (I1.tok _) (by cases b <;> rfl))
  | int i =>
    obtain ⟨t, rfl⟩ := (show ∃ t, u = Value.int i t from ru)
    exact pyReprObj_int (sz1900 hp) (end_ _ _ _ (I1.tok _) rfl)
  | str x =>
    obtain ⟨t, rfl⟩ := (show ∃ t, u = Value.str x t from ru)
    exact pyReprObj_str (end_ _ _ _ (I1.tok _) rfl) hl
  | ty _ => exact hp.elim
  | glob _ => exact hp.elim
  | tape _ => exact hp.elim
  | fn _ => exact hp.elim
  | dic _ _ _ => exact hp.elim
  | obj _ _ _ => exact hp.elim
  | lst h1 h2 =>
    obtain rfl : u = Value.ref _ := ru
    exact pyReprObj_of_reads rr (sh_able _ hp) (PyData.noDict_hsm (sh_nodict _ hp)) hr.gd (by omega) (fun _ _ e => e) (fun h' u' tk hk => end_ _ _ _ (I1.kept hk) rfl) hl
  | tup h1 h2 =>
    obtain rfl : u = Value.ref _ := ru
    exact pyReprObj_of_reads rr (sh_able _ hp) (PyData.noDict_hsm (sh_nodict _ hp)) hr.gd (by omega) (fun _ _ e => e) (fun h' u' tk hk => end_ _ _ _ (I1.kept hk) rfl) hl
/-- {e} of a text or an int -/
def dFmt (d : D) (Q : D → Prop) : Prop := match d with
  | .int i => Sz 1900 i ∧ Q (.str (shD (.int i)))
  | .str y => y.length ≤ 100000 ∧ Q (.str y)
  | _ => False
theorem y_fmt (he : PEp X B e r) : PEp X B (.FormattedValue e (-1) none pos) (fun ρ Q => r ρ fun d => dFmt d Q) :=
  pe_imp (pe_fmt he) fun σ H Q ⟨F, ρ, Qd, I, z, kk⟩ => ⟨F, ρ, _, I, z, fun v F1 H1 d g1 t1 r1 z1 => by
    unfold dFmt at z1
    split at z1
    · cases r1
      exact .inr ⟨_, rfl, sz1900 z1.1, kk _ F1 H1 _ g1 t1 (.str _) z1.2⟩
    · cases r1
      exact .inl ⟨_, rfl, Nat.le_trans z1.1 line_ge, kk _ F1 H1 _ g1 t1 (.str _) z1.2⟩
    · exact z1.elim⟩
/-- the parts -/
def jR : List Rd → Str → Ev → (Str → Prop) → Prop
  | [], acc, _, Q => Q acc
  | r :: rs, acc, ρ, Q => r ρ fun d => match d with
    | .str y => (acc ++ y).length ≤ 100000 ∧ jR rs (acc ++ y) ρ Q
    | _ => False
inductive PJp (X : Cx) (B : Bs) : List Expr → List Rd → Prop
  | nil : PJp X B [] []
  | cons {e : Expr} {r : Rd} {es : List Expr} {rs : List Rd} : PEp X B e r → PJp X B es rs → PJp X B (e :: es) (r :: rs)
theorem PJp.pj {es : List Expr} {rs : List Rd} (h : PJp X B es rs) : PJ X es (rs.map (tE X.K B)) := by
  induction h with
  | nil => exact .nil
  | cons h _ ih => exact .cons h ih
theorem jR_run {ρ : Ev} {F0 : Hp} {H0 : Hp} {Qd : Str → Prop} {σ : L2.St} : ∀ (rs : List Rd) (acc : Str) (F H : Hp) (Q : Str → Hp → Prop), Iv X.K B F H σ ρ → Go B.ms F0 H0 F H → jR rs acc ρ Qd → (∀ out F1 H1, Go B.ms F0 H0 F1 H1 → Tp X.K B.ms F1 H1 → Qd out → Q out H1) → tJs (rs.map (tE X.K B)) acc σ H Q
  | [], acc, F, H, Q, I, g, z, kk => kk acc F H g I.tp z
  | r :: rs, acc, F, H, Q, I, g, z, kk => ⟨F, ρ, _, I, z, fun v F1 H1 d g1 t1 r1 z1 => by
    split at z1
    · cases r1
      exact ⟨_, rfl, Nat.le_trans z1.1 line_ge, jR_run rs _ F1 H1 Q (I.step g1 t1) (g.trans g1) z1.2 kk⟩
    · exact z1.elim⟩
theorem y_joined {v1 v2 : Expr} {rest : List Expr} {rs : List Rd} (h : PJp X B (v1 :: v2 :: rest) rs) : PEp X B (.JoinedStr (v1 :: v2 :: rest) pos) (fun ρ Q => jR rs Str.empty ρ fun out => Q (.str out)) :=
  pe_imp (pe_joined h.pj) fun σ H Q ⟨F, ρ, Qd, I, z, kk⟩ => jR_run rs Str.empty F H _ I (Go.refl I.same) z fun out F1 H1 g t q => kk _ F1 H1 _ g t (.str _) q
/-! ### repr of an own instance -/
def rReprO (C : Addr) (sp : Sp) (E : XK) (xs : List V) (H : Hp) (Q : VK) : Prop := ∃ a dx fs, xs = [.ref a] ∧ H a = some (.ins C dx fs) ∧ sp [.ref a] H (fun v H' => ∃ y, v = .str y ∧ Q v H') E
theorem call_reprO {C : Addr} {sp : Sp} {E : XK} {CX : CXT} (hu : X.A.units + 64 < cLine) (hs : PySem.W.findIn X.K (.ref C) "__repr__" = some (some (.ref g))) (hf : PySem.W.isFn X.K (.ref g) = true) (F : FnA X.A.in1 X.prog X.w X.K X.mg X.base CX g sp) (hx : Passes CX X E) : CallR X (.builtin "repr") (rReprO C sp E) := by
  intro pins s σ H xs us Q I r h
  obtain ⟨a, dx, fs, rfl, ea, q⟩ := h
  obtain ⟨u, rfl, ru⟩ := vals1 r
  obtain rfl : u = Value.ref a := ru
  obtain ⟨mA, O, _, _, _, _⟩ := ins_get I.hok ea
  obtain ⟨od, J, _⟩ := O.look
  obtain ⟨m, hF⟩ := I.fr
  have hu' : X.A.in1.units < cLine := by
    have : X.A.in1.units = X.A.units + 1 := by first | rfl | simp [Around.in1]
    omega
  refine PySem.W.repr_K hu' hF I.ok.mod.kin J hs hf ?_
  refine wpAny_mono (wpAny_call (run_A (us := [.ref a]) (vs := [.ref a]) F I.env0.in1 hx I (.cons rfl .nil) q)) (fun w s' z => ?_) fun _ _ x => x
  obtain ⟨z', H', I', rz, y, rfl, qz⟩ := z
  obtain ⟨t, rfl⟩ := (show ∃ t, w = Value.str y t from rz)
  exact ⟨.str y, H', I', ⟨t, rfl⟩, qz⟩
def sOf (d : D) (k : Prop) : Prop := match d with
  | .str _ => k
  | _ => False
theorem y_reprO {C : Str} {ns : List Str} (hr : RoomG (k + 1) X.A) (hs : PySem.W.findIn X.K (.ref (He.ga X.K C)) "__repr__" = some (some (.ref g))) (hf : PySem.W.isFn X.K (.ref g) = true) (F : FnG X.prog X.w X.K X.mg X.base (L2.CX X.prog X.w) k g (spP X.K R)) (hx : Px X B) (hg : Gl X "repr") (hm : X.mg "repr" = none) (ha : PEp X B a ra)
    (h1 : starEach [a] X.env = [(false, eval a X.env)] := by rfl) :
    PEp X B (.Call (.Name "repr" p0) [a] [] pos) (fun ρ Q => ra ρ fun d => asO [C] ns d (R [d] (fun y => sOf y (Q y)) B.Ed)) :=
  pe_imp (pe_callB (call_reprO hr.units hs hf (F.at hr.in1) hx) hg hm (by decide +kernel) (pa_cons ha pa_nil h1) (by decide) (by decide) h1 rfl) fun σ H Q ⟨F0, ρ, Qd, I, z, kk⟩ => ⟨F0, ρ, _, I, z, fun v F1 H1 d g1 t1 r1 z1 => by
    obtain ⟨a, d1, f1, c1, rfl, hc1, h1, hh⟩ := asO_of r1 z1
    have e1 : c1 = C := by simpa using hc1
    subst e1
    refine ⟨a, d1, f1, rfl, t1.1 _ _ h1, sp_call I (fun v F2 H2 d2 g2 t2 r2 q2 => ?_) g1 t1 (.cons r1 .nil) hh⟩
    unfold sOf at q2
    split at q2
    · cases r2
      exact ⟨_, rfl, kk _ F2 H2 _ g2 t2 (.str _) q2⟩
    · exact q2.elim⟩
/-! ### a constant of a class, by the class -/
def CV (K : Frg) (C f : Str) (d : D) : Prop := ∃ v u, ClX.CVal K (He.ga K C) (.type "type") f v u ∧ ∀ ms F, Rp K ms F v d
theorem y_cval {C fl : Str} {d : D} (hg : Gl X C) (hm : X.mg C = some (.ref (He.ga X.K C))) (rd : ClX.CRead X.K (He.ga X.K C) (.type "type")) (cv : CV X.K C fl d) (hdb : (C == ("__debug__" : Str)) = false := by decide) (hb : attributeBase (.Name C p0) fl X.env (eval (.Name C p0) X.env) = eval (.Name C p0) X.env := by rfl) :
    PEp X B (.Attribute (.Name C p0) fl pos) (rC d) :=
  pe_imp (ClX.pe_cval (pe_glob (v := .ref (He.ga X.K C)) hg hm rfl hdb) hb) fun σ H Q ⟨F, ρ, Qd, I, z, kk⟩ => by
    obtain ⟨v, u, c, h⟩ := cv
    exact ⟨_, _, v, u, rfl, rd, c, kk _ F H _ (Go.refl I.same) I.tp (h _ _) z⟩
end
def bCV (C f : Str) (d : D) : Frg → Bool := fun K => match PySem.W.findCls K (.ref (He.ga K C)) (.type "type") f with
  | some (.val u) => vOk K 4 d u && PySem.W.handedIn u
  | _ => false
theorem cv_of {K : Frg} {C f : Str} {d : D} (h : bCV C f d K = true) : CV K C f d := by
  unfold bCV at h
  split at h
  · rename_i u e
    obtain ⟨h1, h2⟩ := He.ba h
    obtain ⟨v, r, hv⟩ := vOk_ok _ _ _ h1
    exact ⟨v, u, ⟨e, r⟩, hv⟩
  · cases h
end Y
namespace Y
open PySem PySem.Spec PyProof.Rows L2 Z
/-! ### a comprehension of two clauses, where no slot holds a thing of its own -/
def noMu (ρ : Ev) : Prop := (ρ.all fun s => match s with | .mu _ => false | _ => true) = true
theorem noMu_get {ρ : Ev} (h : noMu ρ) (i : Nat) (m : Mo) : ρ[i]? ≠ some (.mu m) := fun e => by
  have := List.all_eq_true.mp h _ (List.mem_of_getElem? e)
  cases this
theorem Iv.again {K : Frg} {B : Bs} {F H F' H' : Hp} {σ : L2.St} {ρ : Ev} (I : Iv K B F H σ ρ) (n : noMu ρ) (s : Same F F') (g : Go B.ms B.F0 B.H0 F' H') (t : Tp K B.ms F' H') : Iv K B F' H' σ ρ :=
  ⟨g, t, I.len, fun i d e => let ⟨v, h1, h2⟩ := I.val i d e; ⟨v, h1, h2.up s⟩, fun i m e => absurd e (noMu_get n i m), fun i j m _ a _ e _ => absurd e (noMu_get n i m)⟩
def mapI2 (t t1 : Tg) (rt : RdT) (rl1 : RdA) (rt1 : RdT) (re : Rd) (vs1 : List Nat) (ρ : Ev) (ds : List D) (Q : List D → Prop) : Prop := ∃ J : Nat → List D → Prop, J 0 [] ∧
  (∀ (i : Nat) (d : D) (acc : List D), ds[i]? = some d → J i acc → tgD t d ρ fun ρ2 => noMu ρ2 ∧ rt ρ2 fun k => ifB k (rl1 ρ2 fun es => ∃ L : Nat → List D → Prop, L 0 acc ∧
    (∀ (j : Nat) (e : D) (ac : List D), es[j]? = some e → L j ac → tgD t1 e (wipeR ρ2 vs1) fun ρ3 => rt1 ρ3 fun k1 => ifB k1 (re ρ3 fun y => ac.length < 100000 ∧ L (j + 1) (ac ++ [y])) (L (j + 1) ac)) ∧ ∀ ac, L es.length ac → J (i + 1) ac) (J (i + 1) acc)) ∧ ∀ out, J ds.length out → Q out
section
variable {X : Cx} {B : Bs} {rl : RdA} {pos : Pos}
theorem wipe_wipe (σ : L2.St) (vs : List Nat) : L2.wipe (L2.wipe σ vs) vs = L2.wipe σ vs := by
  apply List.ext_getElem?
  intro j
  rw [wipe_get, L2.wipe_length, wipe_get]
  by_cases hj : j ∈ vs
  · rw [if_pos hj, if_pos hj]
  · rw [if_neg hj]
theorem lc2_of {K : Frg} {t t1 : Tg} {vs vs1 : List Nat} {rt rt1 : RdT} {rl1 : RdA} {re : Rd} (hw : ∀ i ∈ t.slots, i ∈ vs) (hw1 : ∀ i ∈ t1.slots, i ∈ vs1) (σ : L2.St) (H : Hp) (Q : VK)
    (h : tE K B (fun ρ Q => rl ρ fun ds => mapI2 t t1 rt rl1 rt1 re vs1 (wipeR ρ vs) ds fun ys => Q (.lst ys)) σ H Q) :
    tLc2 (tI K B rl) (tgV K t) (tT K B.nox rt) (tI K B.nox rl1) (tgV K t1) (tT K B.nox rt1) (tE K B.nox re) vs vs1 σ H Q := by
  obtain ⟨F, ρ, Qd, I, z, k⟩ := h
  refine ⟨F, ρ, _, I, z, fun J F1 H1 ds g1 t1' ⟨G, Yd, w, hG, hY⟩ ⟨Jw, z1, zs, zf⟩ D hD => ?_⟩
  have I1 := (I.step g1 t1').nox.wipes vs
  have dm : D ∉ B.ms := fun m => t1'.ne m hD
  have st : ∀ {F2 H2 : Hp}, Go B.ms F1 H1 F2 H2 → Tp K B.ms F2 H2 → F2 D = none → ∀ o, Go B.ms F1 H1 F2 (upd H2 D o) ∧ Tp K B.ms F2 (upd H2 D o) := fun {F2 H2} gg m fd o => by
    have p : Go [D] F2 H2 F2 (upd H2 D o) := Go.put gg.fh fd
    have p2 : Go (D :: B.ms) F2 H2 F2 (upd H2 D o) := p.sub fun a ha => by
      rcases List.mem_cons.mp ha with e | e
      · rw [e]; exact List.mem_cons_self
      · cases e
    have g2 : Go (D :: B.ms) F1 H1 F2 H2 := gg.sub fun a ha => List.mem_cons_of_mem _ ha
    exact ⟨(g2.trans p2).drop hD, t1'.put hD m p⟩
  have fd1 := same_none t1'.1 hD
  refine ⟨fun i m H' => m = ds.length - i ∧ i ≤ ds.length ∧ ∃ F' acc ys, Go B.ms F1 H1 F' H' ∧ Tp K B.ms F' H' ∧ F' D = none ∧ H' D = some (.lst acc) ∧ Rps K B.ms F' acc ys ∧ Jw i ys, ⟨_, rfl, Nat.zero_le _, F1, [], [], (st (Go.refl t1'.1) t1' fd1 _).1, (st (Go.refl t1'.1) t1' fd1 _).2, fd1, upd_same, .nil, z1⟩, ?_⟩
  rintro i m H2 ⟨rfl, hi, F2, acc, ys, g2, t2, fd, hd, hr, hj⟩
  have hg := hG F2 H2 g2.ff g2.fh
  by_cases hlt : i < ds.length
  · refine .inr ⟨w.goes i H2 hlt hg, fun H' => ∃ F' acc ys, Go B.ms F1 H1 F' H' ∧ Tp K B.ms F' H' ∧ F' D = none ∧ H' D = some (.lst acc) ∧ Rps K B.ms F' acc ys ∧ Jw (i + 1) ys, fun H' p => ⟨_, by omega, rfl, hlt, p⟩, fun x H2' y => ?_⟩
    have hd1 := List.getElem?_eq_getElem hlt
    have zz := zs i ds[i] ys hd1 hj
    obtain ⟨F3, g3, r3⟩ := hY i F2 H2 x H2' ds[i] g2.ff g2.fh (w.yields i H2 x H2' hlt hg y) hd1
    have I2 := (I1.step g2 t2).step0 g3
    have t3 := t2.go0 g3
    obtain ⟨fd3, hd3⟩ := g3.mu D _ (fun z => nomatch z) fd hd
    have q := tg_wipe (K := K) (v := x) (σ := L2.wipe σ vs) (H := H2') (Q := fun σ2 H2 => tT K B.nox rt σ2 H2 fun b H3 => if b = true then tI K B.nox rl1 σ2 H3 fun J1 H4 => ∃ W1 : Nat → Nat → Hp → Prop, (∃ m, W1 0 m H4) ∧ ∀ j k H, W1 j k H →
      (J1.stop j H ∧ ∃ F' acc ys, Go B.ms F1 H1 F' H ∧ Tp K B.ms F' H ∧ F' D = none ∧ H D = some (.lst acc) ∧ Rps K B.ms F' acc ys ∧ Jw (i + 1) ys) ∨ (J1.go j H ∧ ∃ Nx1 : Hp → Prop, (∀ H', Nx1 H' → ∃ k', k' < k ∧ W1 (j + 1) k' H') ∧ ∀ x H', J1.yld j H x H' → tgV K t1 x (L2.wipe σ2 vs1) H' fun σ3 H5 => L2.wipe σ3 vs1 = L2.wipe σ2 vs1 ∧ tT K B.nox rt1 σ3 H5 fun b H6 =>
        if b = true then tE K B.nox re σ3 H6 fun y H7 => ∃ acc, H7 D = some (.lst acc) ∧ acc.length < sizeLine ∧ Nx1 (upd H7 D (.lst (acc ++ [y]))) else Nx1 H6)
      else ∃ F' acc ys, Go B.ms F1 H1 F' H3 ∧ Tp K B.ms F' H3 ∧ F' D = none ∧ H3 D = some (.lst acc) ∧ Rps K B.ms F' acc ys ∧ Jw (i + 1) ys) hw (tg_run I2 r3 zz fun σ4 ρ4 I4 ⟨nm, z4⟩ => by
      refine ⟨F3, ρ4, _, I4, z4, fun b F5 H5 g5 t5 z5 => ?_⟩
      obtain ⟨fd5, hd5⟩ := g5.mu D _ dm fd3 hd3
      have g25 : Go B.ms F1 H1 F5 H5 := (g2.trans g3.nil).trans g5
      cases b with
      | false => exact ⟨F5, acc, ys, g25, t5, fd5, hd5, (hr.up g3.ff).up g5.ff, ifB_f z5⟩
      | true =>
        refine ⟨F5, ρ4, _, I4.step g5 t5, ifB_t z5, fun J1 F6 H6 es g6 t6 ⟨G1, Y1, w1, hG1, hY1⟩ ⟨L, l0, ls, lf⟩ => ?_⟩
        obtain ⟨fd6, hd6⟩ := g6.mu D _ dm fd5 hd5
        have g26 : Go B.ms F1 H1 F6 H6 := g25.trans g6
        have I6 := (I4.step g5 t5).step g6 t6
        refine ⟨fun j k H' => k = es.length - j ∧ j ≤ es.length ∧ ∃ F' ac zs, Same F6 F' ∧ Go B.ms F1 H1 F' H' ∧ Tp K B.ms F' H' ∧ F' D = none ∧ H' D = some (.lst ac) ∧ Rps K B.ms F' ac zs ∧ L j zs, ⟨_, rfl, Nat.zero_le _, F6, acc, ys, Same.refl _, g26, t6, fd6, hd6, ((hr.up g3.ff).up g5.ff).up g6.ff, l0⟩, ?_⟩
        rintro j k H7 ⟨rfl, hjl, F7, ac, zs7, s7, g7, t7, fd7, hd7, hr7, hl7⟩
        have hg7 := hG1 F7 H7 s7 g7.fh
        by_cases hlt1 : j < es.length
        · refine .inr ⟨w1.goes j H7 hlt1 hg7, fun H' => ∃ F' ac zs, Same F6 F' ∧ Go B.ms F1 H1 F' H' ∧ Tp K B.ms F' H' ∧ F' D = none ∧ H' D = some (.lst ac) ∧ Rps K B.ms F' ac zs ∧ L (j + 1) zs, fun H' p => ⟨_, by omega, rfl, hlt1, p⟩, fun x7 H7' y7 => ?_⟩
          have he1 := List.getElem?_eq_getElem hlt1
          have zz7 := ls j es[j] zs7 he1 hl7
          obtain ⟨F8, g8, r8⟩ := hY1 j F7 H7 x7 H7' es[j] s7 g7.fh (w1.yields j H7 x7 H7' hlt1 hg7 y7) he1
          obtain ⟨fd8, hd8⟩ := g8.mu D _ (fun z => nomatch z) fd7 hd7
          have t8 := t7.go0 g8
          have g18 : Go B.ms F1 H1 F8 H7' := g7.trans g8.nil
          have I8 : Iv K B.nox F8 H7' (L2.wipe σ4 vs1) (wipeR ρ4 vs1) := (I6.again nm (s7.trans g8.ff) (((I.go.trans g1).trans g7).trans g8.nil) t8).wipes vs1
          have q2 := tg_wipe (K := K) (v := x7) (σ := L2.wipe σ4 vs1) (H := H7') (Q := fun σ3 H5 => tT K B.nox rt1 σ3 H5 fun b H6 => if b = true then tE K B.nox re σ3 H6 fun y H7 => ∃ acc, H7 D = some (.lst acc) ∧ acc.length < sizeLine ∧ (∃ F' ac zs, Same F6 F' ∧ Go B.ms F1 H1 F' (upd H7 D (.lst (acc ++ [y]))) ∧ Tp K B.ms F' (upd H7 D (.lst (acc ++ [y]))) ∧ F' D = none ∧ (upd H7 D (.lst (acc ++ [y]))) D = some (.lst ac) ∧ Rps K B.ms F' ac zs ∧ L (j + 1) zs)
            else ∃ F' ac zs, Same F6 F' ∧ Go B.ms F1 H1 F' H6 ∧ Tp K B.ms F' H6 ∧ F' D = none ∧ H6 D = some (.lst ac) ∧ Rps K B.ms F' ac zs ∧ L (j + 1) zs) hw1 (tg_run I8 r8 zz7 fun σ9 ρ9 I9 z9 => by
            refine ⟨F8, ρ9, _, I9, z9, fun b F10 H10 g10 t10 z10 => ?_⟩
            obtain ⟨fd10, hd10⟩ := g10.mu D _ dm fd8 hd8
            cases b with
            | false => exact ⟨F10, ac, zs7, (s7.trans g8.ff).trans g10.ff, g18.trans g10, t10, fd10, hd10, (hr7.up g8.ff).up g10.ff, ifB_f z10⟩
            | true =>
              refine ⟨F10, ρ9, _, I9.step g10 t10, ifB_t z10, fun v F11 H11 d g11 t11 r11 z11 => ?_⟩
              obtain ⟨fd11, hd11⟩ := g11.mu D _ dm fd10 hd10
              have hr11 := ((hr7.up g8.ff).up g10.ff).up g11.ff
              obtain ⟨a1, a2⟩ := st ((g18.trans g10).trans g11) t11 fd11 (.lst (ac ++ [v]))
              exact ⟨ac, hd11, by rw [hr11.len]; exact Nat.lt_of_lt_of_le z11.1 line_ge, F11, ac ++ [v], zs7 ++ [d], ((s7.trans g8.ff).trans g10.ff).trans g11.ff, a1, a2, fd11, upd_same, hr11.app (.one r11), z11.2⟩)
          rw [wipe_wipe] at q2
          exact q2
        · have e : j = es.length := by omega
          subst e
          exact .inl ⟨w1.stops H7 hg7, F7, ac, zs7, g7, t7, fd7, hd7, hr7, lf _ hl7⟩)
    rw [wipe_wipe] at q
    exact q
  · have e : i = ds.length := by omega
    subst e
    refine .inl ⟨w.stops H2 hg, ?_⟩
    have p : Go [D] F2 H2 (upd F2 D (.lst acc)) H2 := Go.freeze g2.fh fd hd
    have p2 : Go (D :: B.ms) F2 H2 (upd F2 D (.lst acc)) H2 := p.sub fun a ha => by
      rcases List.mem_cons.mp ha with e | e
      · rw [e]; exact List.mem_cons_self
      · cases e
    have g12 : Go B.ms F1 H1 (upd F2 D (.lst acc)) H2 := ((g2.sub (ms' := D :: B.ms) fun a ha => List.mem_cons_of_mem _ ha).trans p2).drop hD
    exact k _ _ H2 _ (g1.trans g12) (t1'.put hD t2 p) (.lst upd_same (hr.up p.ff)) (zf _ hj)
theorem y_lc2 {elt tg iter tg1 iter1 : Expr} {ifs ifs1 : List Expr} {scope : Scope} {own : List (Str × Nat)} {vs1 : List Nat} {t t1 : Tg} {rt rt1 : RdT} {rl1 : RdA} {re : Rd} (hc : X.calm = true) (hN : X.N.Nodup) (hi : PIp X B tg iter rl) (ok : BlkOk X.N X.env.scope scope own) (hv : ∀ i ∈ vs1, i ∈ own.map (·.2))
    (hg : ∀ (s : Shared) (H : Hp) (C : Addr) (cl : List (Str × Addr)) (fp : List Addr), PG (X.blk s H scope (compEnvC scope cl C X.env) fp) tg (tgV X.K t)) (ht : ∀ (s : Shared) (H : Hp) (C : Addr) (cl : List (Str × Addr)) (fp : List Addr), PTs (X.blk s H scope (compEnvC scope cl C X.env) fp) ifs (tT X.K B.nox rt))
    (hi1 : ∀ (s : Shared) (H : Hp) (C : Addr) (cl : List (Str × Addr)) (fp : List Addr), PIp (X.blk s H scope (compEnvC scope cl C X.env) fp) B.nox tg1 iter1 rl1)
    (hg1 : ∀ (s : Shared) (H : Hp) (C : Addr) (cl : List (Str × Addr)) (fp : List Addr), PG (X.blk s H scope (compEnvC scope cl C X.env) fp) tg1 (tgV X.K t1)) (ht1 : ∀ (s : Shared) (H : Hp) (C : Addr) (cl : List (Str × Addr)) (fp : List Addr), PTs (X.blk s H scope (compEnvC scope cl C X.env) fp) ifs1 (tT X.K B.nox rt1))
    (he : ∀ (s : Shared) (H : Hp) (C : Addr) (cl : List (Str × Addr)) (fp : List Addr), PEp (X.blk s H scope (compEnvC scope cl C X.env) fp) B.nox elt re) (hw : ∀ i ∈ t.slots, i ∈ own.map (·.2) := by decide) (hw1 : ∀ i ∈ t1.slots, i ∈ vs1 := by decide) (hs : ∀ x, foldedSetIterable iter X.env x = pure x := by intro _; rfl) (hs1 : ∀ env x, foldedSetIterable iter1 env x = pure x := by intro _ _; rfl) :
    PEp X B (.ListComp elt [⟨tg, iter, ifs, 0⟩, ⟨tg1, iter1, ifs1, 0⟩] scope pos) (fun ρ Q => rl ρ fun ds => mapI2 t t1 rt rl1 rt1 re vs1 (wipeR ρ (own.map (·.2))) ds fun ys => Q (.lst ys)) :=
  pe_imp (pe_lc2 (wi1 := tI X.K B.nox rl1) (te := tE X.K B.nox re) hc hN hi ok hv hg ht hi1 hg1 ht1 he hs hs1) (lc2_of hw hw1)
end
end Y
/-! ### enumerate of a tuple -/
namespace PySem
theorem meets_enumerate_newB1 {v : Value} {o : Obj} {H : Heap → Prop} (B : Begins v o H) :
    Meets (Builtin.«enumerate.__new__» ⟨[.type "enumerate", v], []⟩) (fun _ R s => H s.heap ∧
      R (.ok (.ret (.ref (s.heap.push o).objs.size))) { s with heap := (s.heap.push o).push { cls := .type "enumerate", data := .fields #[.none, .bool false, .ref s.heap.objs.size, rawInt 0, .none, .none] } }) :=
  .of_wp fun prog w A R s h => by
    obtain ⟨hp, g, d, tk, os⟩ := s; obtain ⟨h1, h⟩ := h
    have hsub := sub_enumerate
    have q1 : ∀ {A' : Around} {E : Value → Shared → Prop} {Q : Value → Shared → Prop}, Q (.ref hp.objs.size) ⟨hp.push o, g, d, tk, os⟩ → wpAny (model prog w) A' (pyIter v) Q E ⟨hp, g, d, tk, os⟩ :=
      fun q => B.iter prog w _ _ ⟨hp, g, d, tk, os⟩ _ h1 q
    wp_walk using q1
    refine wpAny_stack_any fun st => wpAny_pure ?_
    split
    · rename_i c _ _ _ _ _
      cases (c == Value.type "enumerate")
      · wp_walk using q1
        exact ⟨_, rfl, h⟩
      · wp_walk using q1
        exact ⟨_, rfl, h⟩
    · wp_walk using q1
      exact ⟨_, rfl, h⟩
section
variable {prog : Program} {w : World} {A : Around} {E : Value → Shared → Prop} {s : Shared}
theorem enum_begins1 {v : Value} {o : Obj} {H : Heap → Prop} {Q : Value → Shared → Prop} (B : Begins v o H) (h1 : H s.heap)
    (h : ∀ h', IsEnum h' (s.heap.objs.size + 1) s.heap.objs.size 0 .none → h'.get? s.heap.objs.size = some o → h'.objs.size = s.heap.objs.size + 2 →
      (∀ b o, s.heap.get? b = some o → h'.get? b = some o) → Q (.ref (s.heap.objs.size + 1)) { s with heap := h' }) :
    wpAny (model prog w) A (call (.type "enumerate") [v]) Q E s := by
  refine callType_new F.called_enumerate (by decide) (F.typeCall_enumerate_1 _) (F.newCall_enumerate_1 _) (fun obj => F.args_object_init_2 obj _) F.entry_enumerate_new
    (meets_enumerate_newB1 B) ⟨h1, ?_⟩
  have hz : (s.heap.push o).objs.size = s.heap.objs.size + 1 := Heap.size_push ..
  show _ ∧ _
  rw [hz]
  have he : IsEnum ((s.heap.push o).push { cls := .type "enumerate", data := .fields #[.none, .bool false, .ref s.heap.objs.size, rawInt 0, .none, .none] }) (s.heap.objs.size + 1) s.heap.objs.size 0 .none := by
    have := Heap.get?_push_size (s.heap.push o) (o := { cls := .type "enumerate", data := .fields #[.none, .bool false, .ref s.heap.objs.size, rawInt 0, .none, .none] }) rfl
    rw [hz] at this; exact this
  refine ⟨⟨_, he, rfl⟩, h _ he (Heap.get?_push_of_some _ (Heap.get?_push_size _ B.free)) (by rw [Heap.size_push, hz]) fun b o x => Heap.get?_push_of_some _ (Heap.get?_push_of_some _ x)⟩
end
end PySem
namespace Y
open PySem PySem.Spec PyProof.Rows L2 Z
def IteT (K : PySem.W.Frag) (a : Addr) : It :=
  ⟨fun i H => ∃ (xs : List V) (x : V), SqT K H a xs ∧ xs[i]? = some x, fun i H v H' => ∃ T x, v = .ref T ∧ H T = none ∧ H' = upd H T (.tup [.int (i : Nat), x]) ∧ ∀ xs, SqT K H a xs → xs[i]? = some x, fun i H => ∃ xs : List V, SqT K H a xs ∧ xs.length = i⟩
theorem turn_enumT {P : Program} {w : World} {K : PySem.W.Frag} {elts : List Expr} {kk : Nat} {tpos : Pos} (a e it : Addr) (hai : a ≠ it) (hea : e ≠ a) :
    Turn P w K (.Tuple elts kk tpos) (IteT K a) [e, it] e (fun i h => (∃ old, IsEnum h e it ((i : Nat) : Int) old) ∧ h.IsTupleIter it a i ∧ e ≠ it) where
  mem := by simp
  obj := fun i h st b hb => by
    obtain ⟨⟨old, he⟩, ⟨o, ho, hc, hd⟩, _⟩ := st
    have e' : b = e ∨ b = it := by simpa using hb
    rcases e' with z | z
    · rw [z]; exact ⟨_, he, fun v q => nomatch q⟩
    · rw [z]; exact ⟨o, ho, fun v q => by rw [hd] at q; cases q⟩
  keep := fun i h h' st k => let ⟨⟨old, he⟩, hi, hne⟩ := st; ⟨⟨old, k e (by simp) _ he⟩, hi.at fun o q => k it (by simp) o q, hne⟩
  item := by
    intro X hP hw hK hc i pins s σ H E I hf st hg
    subst hP hw hK
    obtain ⟨⟨old, he⟩, hit, hne⟩ := st
    obtain ⟨xs, x, hq, hx⟩ := hg
    obtain ⟨its, rv, p, hz⟩ := I.tuple hq
    obtain ⟨u, hu, ru⟩ := rv.get hx
    have hel : e < s.heap.objs.size := Heap.lt_size he
    have hil : it < s.heap.objs.size := by obtain ⟨_, q, _⟩ := hit; exact Heap.lt_size q
    have hT : s.heap.IsTuple a its.toArray := p
    have hil2 : i < its.toArray.size := by
      have hi := lt_of_get hu
      simpa using hi
    have D := Draws.tuple (prog := X.prog) (w := X.w) (A := X.A.in1) (I.ok.hd hc) it a hai its.toArray
    refine wpAny_pyNext_enum_itemD D he ⟨hit, hT⟩ hil2 hne (by simp [hne, hea]) fun x' h' tk hx' ho hst hTu hsz hk => ?_
    have hxe : x' = u := by
      have : its.toArray[i]? = some u := by simpa using hu
      exact Option.some.inj (hx'.symm.trans this)
    subst hxe
    refine ⟨_, rfl, wpAny_letOwnedTupleGo_enum (s := { s with heap := h', toks := tk + 1 }) ho fun h'' he' sb => ?_⟩
    have hT2 : h''.get? s.heap.objs.size = some { cls := .type "tuple", data := .seq #[.int i tk, x'] } := (sb.2 _ (Nat.ne_of_gt hel)).trans hTu
    have new : ObjOk X.prog X.w (upd H s.heap.objs.size (.tup [.int (i : Nat), x])) h'' s.heap.objs.size (.tup [.int (i : Nat), x]) :=
      ⟨by show 2 ≤ sizeLine; decide, [.int i tk, x'], .cons ⟨_, rfl⟩ (.cons ru .nil), ⟨_, hT2, rfl, _, rfl⟩⟩
    have I1 : L2.Inv X pins σ (upd H s.heap.objs.size (.tup [.int (i : Nat), x])) { s with heap := h'', toks := tk + 1 } :=
      I.turnedNew (ch := [e, it]) (fun b ob hb q => (sb.2 b (fun z => hb (by simp [z]))).trans (hk b ob (fun z => hb (by simp [z])) (fun z => hb (by simp [z])) q)) hf (Nat.le_refl _) new
    refine ⟨.ref s.heap.objs.size, _, I1, rfl, ⟨_, x, rfl, I.hok.fresh (Nat.le_refl _), rfl, fun ys hy => by rw [I.tuple_inj hy hq]; exact hx⟩, ⟨⟨x', ?_⟩, hst.1.at fun o q => (sb.2 it (Ne.symm hne)).trans q, hne⟩, fun b hb => ?_⟩
    · have e1 : ((i + 1 : Nat) : Int) = (i : Int) + 1 := by omega
      rw [e1]; exact he'
    · have hb' : b < s.heap.objs.size := by
        have e' : b = e ∨ b = it := by simpa using hb
        rcases e' with z | z
        · rw [z]; exact hel
        · rw [z]; exact hil
      rw [upd_ne (Nat.ne_of_lt hb')]
      exact (hf b hb).1
  done := by
    intro X hP hw hK hc i pins s σ H E I hf st hg
    subst hP hw hK
    obtain ⟨⟨old, he⟩, hit, hne⟩ := st
    obtain ⟨xs, hq, hx⟩ := hg
    obtain ⟨its, rv, p, hz⟩ := I.tuple hq
    obtain ⟨f0, f1, f2, f3, f4, f5⟩ := hf it (by simp)
    have hl := rv.length
    have hT : s.heap.IsTuple a its.toArray := p
    have hin : its.toArray.size = i := by simp; omega
    have D := Draws.tuple (prog := X.prog) (w := X.w) (A := X.A.in1) (I.ok.hd hc) it a hai its.toArray
    exact wpAny_pyNext_enum_endD D he (by rw [hin]; exact ⟨hit, hT⟩) fun h' eb => ⟨rfl, I.turned (t' := s.toks) (fun b o hb q => eb b o hb q) f0 f1 f3 f4 f5⟩
  self := fun A i s Q E st h => let ⟨⟨_, he⟩, _⟩ := st; wpAny_pyIter_enum he h
section
variable {X : Cx} {B : Bs} {K : Frg} {ms : List Addr} {a b c e o : Expr} {es : List Expr} {ra rb rc r ro : Rd} {rt ru : RdT} {rl : RdA} {pos p0 apos : Pos} {R : RdF} {k : Nat} {f g p : Addr} {x m : Str}
def iEnumZ (K : Frg) (ta : TA) : L2.TI := fun σ H R => ta σ H fun vs H1 => ∃ a xs, vs = [.ref a] ∧ ((SqL K H1 a xs ∧ R (Ite K a) H1) ∨ (SqT K H1 a xs ∧ H1 a ≠ none ∧ R (IteT K a) H1) ∨ (SqT K H1 a xs ∧ R (IteT K a) H1))
theorem pi_enumZ {ta : TA} {p pos tpos : Pos} {elts : List Expr} {kk : Nat} (hg : Gl X "enumerate") (hm : X.mg "enumerate" = none) (ha : PA X [e] ta) (hs : starEach [e] X.env = [(false, eval e X.env)] := by rfl) :
    PI X (.Tuple elts kk tpos) (.Call (.Name "enumerate" p) [e] [] pos) (fun σ H R => ta σ H fun vs H1 => ∃ a xs, vs = [.ref a] ∧ ((SqL X.K H1 a xs ∧ R (Ite X.K a) H1) ∨ (SqT X.K H1 a xs ∧ R (IteT X.K a) H1))) := by
  refine ⟨fun pins s σ H R I h => ?_⟩
  refine Call_ (ld_blt I hg hm boot_enumerate (PyProof.Rows.callWith_type1 (thn (ha.run pos pins s σ H _ I h) fun us s1 ⟨vs, H1, I1, r1, q1⟩ => ?_) hs rfl))
  obtain ⟨a, xs, ex, q⟩ := q1
  subst ex
  cases r1 with
  | cons r rr =>
    cases rr
    cases r
    rcases q with ⟨hq, q⟩ | ⟨hq, q⟩
    · obtain ⟨its, rv, p', hz⟩ := I1.list hq
      refine call_enumerate_list p'.isList fun h' he hit hsz hk => wpAny_pyIter_enum he ?_
      have I2 : L2.Inv X pins σ H1 { s1 with heap := h' } := I1.kept (t' := s1.toks) hk
      refine ⟨s1.heap.objs.size + 1, [s1.heap.objs.size + 1, s1.heap.objs.size], _, _, H1, rfl, I2, turn_enum a (s1.heap.objs.size + 1) s1.heap.objs.size, ⟨⟨.none, he⟩, hit, Nat.succ_ne_self _⟩, fun b hb => ?_, q⟩
      have e' : b = s1.heap.objs.size + 1 ∨ b = s1.heap.objs.size := by simpa using hb
      have hle : s1.heap.objs.size ≤ b := by
        rcases e' with z | z
        · rw [z]; exact Nat.le_add_right _ _
        · rw [z]; exact Nat.le_refl _
      exact I1.fpOk hle (I1.hok.fresh hle)
    · obtain ⟨its, rv, p', hz⟩ := I1.tuple hq
      have hT : s1.heap.IsTuple a its.toArray := p'
      have hal : a < s1.heap.objs.size := by obtain ⟨o, ho, _⟩ := hT; exact Heap.lt_size ho
      refine enum_begins1 (begins_tuple a its.toArray) hT fun h' he hit hsz hk => wpAny_pyIter_enum he ?_
      have I2 : L2.Inv X pins σ H1 { s1 with heap := h' } := I1.kept (t' := s1.toks) hk
      refine ⟨s1.heap.objs.size + 1, [s1.heap.objs.size + 1, s1.heap.objs.size], _, _, H1, rfl, I2, turn_enumT a (s1.heap.objs.size + 1) s1.heap.objs.size (Nat.ne_of_lt hal) (Nat.ne_of_gt (Nat.lt_succ_of_lt hal)), ⟨⟨.none, he⟩, ⟨_, hit, rfl, rfl⟩, Nat.succ_ne_self _⟩, fun b hb => ?_, q⟩
      have e' : b = s1.heap.objs.size + 1 ∨ b = s1.heap.objs.size := by simpa using hb
      have hle : s1.heap.objs.size ≤ b := by
        rcases e' with z | z
        · rw [z]; exact Nat.le_add_right _ _
        · rw [z]; exact Nat.le_refl _
      exact I1.fpOk hle (I1.hok.fresh hle)
def seqD (d : D) (Q : List D → Prop) : Prop := match d with
  | .lst xs => Q xs
  | .tup xs => Q xs
  | _ => False
/-- enumerate of a list or a tuple -/
theorem i_enumZ {p tpos : Pos} {elts : List Expr} {kk : Nat} (hg : Gl X "enumerate") (hm : X.mg "enumerate" = none) (he : PEp X B e r) (hs : starEach [e] X.env = [(false, eval e X.env)] := by rfl) :
    PIp X B (.Tuple elts kk tpos) (.Call (.Name "enumerate" p) [e] [] pos) (fun ρ Q => r ρ fun d => seqD d fun xs => Q (enumD xs)) :=
  pi_imp (pi_enumZ hg hm (pa_cons he pa_nil hs) hs) fun σ H R ⟨F, ρ, Qd, I, z, kk0⟩ => ⟨F, ρ, _, I, z, fun v F1 H1 d g1 t1 r1 z1 => by
    unfold seqD at z1
    have key : ∀ (ws : List V) (xs : List D) (F2 : Hp) (i : Nat) (H2 : Hp) (H2' : Hp) (y : V) (dd : D), Rps X.K B.ms F1 ws xs → Same F1 F2 → Same F2 H2 → (enumD xs)[i]? = some dd → (∃ T x, y = .ref T ∧ H2 T = none ∧ H2' = upd H2 T (.tup [.int (i : Nat), x]) ∧ ws[i]? = some x) → ∃ F3, Go [] F2 H2 F3 H2' ∧ Rp X.K B.ms F3 y dd := by
      rintro ws xs F2 i H2 H2' y dd h2 s s' hd ⟨T, v, rfl, hT, rfl, hv⟩
      obtain ⟨de, q1, q2⟩ := h2.getV hv
      have hi := lt_of_get q1
      have : dd = .tup [.int (i : Nat), de] := by
        unfold enumD at hd
        rw [List.getElem?_map, List.getElem?_range hi] at hd
        have := (Option.some.inj hd).symm
        dsimp only at this
        rw [q1] at this
        exact this
      subst this
      obtain ⟨F3, g3, q3, _⟩ := newE s' hT rfl
      exact ⟨F3, g3, .tup (SqT.of q3) (.cons (.int _) (.cons ((q2.up s).up g3.ff) .nil))⟩
    split at z1
    · rename_i xs
      cases r1 with
      | @lst a ws _ h1 h2 =>
        refine ⟨a, ws, rfl, .inl ⟨SqL.of (t1.1 _ _ h1), kk0 _ F1 H1 _ g1 t1 ⟨fun H => SqL X.K H a ws, fun i H2 y H2' => ∃ T x, y = .ref T ∧ H2 T = none ∧ H2' = upd H2 T (.tup [.int (i : Nat), x]) ∧ ws[i]? = some x, ⟨fun i H2 hi q => ⟨ws, ws[i]'(by simpa [enumD, h2.len] using hi), q, by simp⟩, fun H2 q => ⟨ws, q, by simp [enumD, h2.len]⟩, fun i H2 y H2' _ q ⟨T, x, e1, e2, e3, e4⟩ => ⟨T, x, e1, e2, e3, e4 ws q⟩⟩, fun F2 H2 s s' => SqL.of (s' _ _ (s _ _ h1)), fun i F2 H2 y H2' dd s s' hy hd => key ws xs F2 i H2 H2' y dd h2 s s' hd hy⟩ z1⟩⟩
    · rename_i xs
      cases r1 with
      | @tup a ws _ h1 h2 =>
        refine ⟨a, ws, rfl, .inr ⟨sqT t1.1 h1, kk0 _ F1 H1 _ g1 t1 ⟨fun H => SqT X.K H a ws, fun i H2 y H2' => ∃ T x, y = .ref T ∧ H2 T = none ∧ H2' = upd H2 T (.tup [.int (i : Nat), x]) ∧ ws[i]? = some x, ⟨fun i H2 hi q => ⟨ws, ws[i]'(by simpa [enumD, h2.len] using hi), q, by simp⟩, fun H2 q => ⟨ws, q, by simp [enumD, h2.len]⟩, fun i H2 y H2' _ q ⟨T, x, e1, e2, e3, e4⟩ => ⟨T, x, e1, e2, e3, e4 ws q⟩⟩, fun F2 H2 s s' => sqT s' (sqT s h1), fun i F2 H2 y H2' dd s s' hy hd => key ws xs F2 i H2 H2' y dd h2 s s' hd hy⟩ z1⟩⟩
    · exact z1.elim⟩
end
end Y
namespace Z
open PySem PySem.Spec PyProof.Rows L2
/-! ### one keyword -/
/-- a def called with one keyword behind the values -/
def FnK (P : Program) (w : World) (K : Frg) (mg : Str → Option Value) (base : Heap) (CX : CXT) (k : Nat) (f : Addr) (kn : Str) (sp : Sp) : Prop :=
  ∀ (A : Around) (outer : List Env) (s : Shared) (H : Hp) (us : List Value) (u : Value) (vs : List V) (z : V) (Q : VK) (E : XK), RoomG k A → Env0 P w K mg base A outer s H → Vals vs us → RelV z u → sp (vs ++ [z]) H Q E → codeAny (model P w) A (.call (.ref f) ⟨us, [(kn, u)]⟩) (CR CX outer P w H s Q E) s
section
variable {P : Program} {w : World} {K : Frg} {mg : Str → Option Value} {base : Heap}
theorem zfnK {x qual kn : Str} {st : Stmt} {f : Addr} {N ps : List Str} {k : Nat} {sp : Sp} {v : V} (F : ∃ fd, L2.FunD K x qual (defArgs st) (defBody st) (defScope st) [] [(kn, v)] f fd) (S : FnScope N ps (defScope st)) (len : ∀ vs H Q E, sp vs H Q E → vs.length = ps.length)
    (hb0 : ∀ (D : Addr) (doc pm : Value) (an : Option Addr) (cdv ct : Value) (us : List Value) (u : Value), us.length + 1 = ps.length → KwChain D [(kn, u)] (bindArgs (PySem.W.fnOf x qual (defArgs st) (defBody st) (defScope st) .none (.ref D) doc pm an cdv ct) ⟨us, []⟩) (ps.zip (us ++ [u])))
    (hb1 : ∀ (D : Addr) (doc pm : Value) (an : Option Addr) (cdv ct : Value) (us : List Value) (u : Value), us.length + 1 = ps.length → bindArgs (PySem.W.fnOf x qual (defArgs st) (defBody st) (defScope st) .none (.ref D) doc pm an cdv ct) ⟨us, [(kn, u)]⟩ = pure (ps.zip (us ++ [u])))
    (hbody : ∀ (cdv : Value) (A : Around) (outer : List Env) (s : Shared) (H : Hp) (vs : List V) (Q : VK) (E : XK), RoomG k (A.deeper (envOfC qual (defScope st) s.heap.objs.size f cdv)) → sp vs H Q E →
      ∃ t, PSs (cxOf (L2.CX P w) P w K mg base N qual (defScope st) f cdv A outer s H E) (defBody st) t ∧ t { nx := fun _ H' => Q .non H', rt := Q } (start N vs) H) :
    FnG P w K mg base (L2.CX P w) (k + 1) f (fun vs H Q E => sp (vs ++ [v]) H Q E) ∧ FnK P w K mg base (L2.CX P w) (k + 1) f kn sp := by
  obtain ⟨fd, F⟩ := F
  obtain ⟨oc, od, dV, kV, doc, pm, an, cdv, ct, osl, rfl, lk, hcd, hD, hK⟩ := F.ex
  have hD' : dV = .none := by
    rcases hD with ⟨_, z⟩ | ⟨z, _⟩
    · exact z
    · exact absurd rfl z
  subst hD'
  rcases hK with e | ⟨D, rfl, hq⟩
  · cases e
  obtain ⟨u0, hu0, ru0⟩ := hq (kn, v) List.mem_cons_self
  refine ⟨fun A outer s H us vs Q E hr e0 r hs => ?_, fun A outer s H us u vs z Q E hr e0 r rz hs => ?_⟩
  · have KX : K.In s.heap := e0.mod.kin.keeps fun b o e => (e0.bs b o e).1
    have hl := len _ _ _ _ hs
    have hu : us.length + 1 = ps.length := by
      have := r.length
      rw [List.length_append] at hl
      simp only [List.length_cons, List.length_nil] at hl
      omega
    refine StX.run_bnd lk hcd S hr.rm e0 (G := fun xs H2 => xs = vs ++ [v] ∧ H2 = H) (fun A' Ex Q' h => ?_) fun s2 H2 xs g hr' => ?_
    · refine (KwChain.looks KX (fun q hq' => ?_) (hb0 D doc pm an cdv ct us u0 hu)).here (h s H _ _ e0 .refl rfl (fun _ _ z => z) (r.append (.cons ru0 .nil)) hl ⟨rfl, rfl⟩)
      have : q = (kn, u0) := by simpa using hq'
      rw [this]
      exact hu0
    · obtain ⟨rfl, rfl⟩ := g
      exact hbody cdv A outer s2 H2 _ Q E ⟨hr', hr.gd⟩ hs
  · have hl := len _ _ _ _ hs
    have hu : us.length + 1 = ps.length := by
      have := r.length
      rw [List.length_append] at hl
      simp only [List.length_cons, List.length_nil] at hl
      omega
    refine StX.run_bnd lk hcd S hr.rm e0 (G := fun xs H2 => xs = vs ++ [z] ∧ H2 = H) (fun A' Ex Q' h => ?_) fun s2 H2 xs g hr' => ?_
    · rw [hb1 D doc pm an cdv ct us u hu]
      exact wpAny_pure (h s H _ _ e0 .refl rfl (fun _ _ z => z) (r.append (.cons rz .nil)) hl ⟨rfl, rfl⟩)
    · obtain ⟨rfl, rfl⟩ := g
      exact hbody cdv A outer s2 H2 _ Q E ⟨hr', hr.gd⟩ hs
end
theorem guards_makeK {A : Around} {C : Addr} {us : List Value} {kw : List (Str × Value)} : (A.under (.builtin "type.__call__" ⟨.ref C :: us, kw⟩)).guards = A.guards := by
  show pushGuards (Code.guards (.builtin "type.__call__" ⟨.ref C :: us, kw⟩)) A.guards = A.guards
  have e : Code.guards (.builtin "type.__call__" ⟨.ref C :: us, kw⟩) = [] := by
    unfold Code.guards
    first | rfl | decide +kernel | simp
  rw [e]
  cases A.guards <;> rfl
section
variable {X : Cx} {CX : CXT} {k : Nat} {f C : Addr} {sp : Sp} {E : XK} {kn : Str} {pins : List (Addr × Obj)} {σ : L2.St} {H : Hp} {s : Shared}
theorem run_makeK {Q : VK} {us : List Value} {u : Value} {vs : List V} {z : V} (M : Mk X.K C f) (F : FnK X.prog X.w X.K X.mg X.base CX k f kn sp) (hr : RoomG (k + 1) X.A) (hx : Passes CX X E) (I : L2.Inv X pins σ H s) (r : Vals vs us) (rz : RelV z u)
    (h : ∀ x dx, H x = none → H dx = none → dx ≠ x → sp (V.ref x :: (vs ++ [z])) (upd (upd H dx (.own x)) x (.ins C dx [])) (fun v H2 => v = .non ∧ Q (.ref x) H2) E) :
    wpAny (model X.prog X.w) X.A (call (.ref C) us [(kn, u)]) (EP X pins σ Q) X.xe s := by
  have J := Inv.made (C := C) I
  have hq := h (s.heap.objs.size + 1) s.heap.objs.size (I.hok.fresh (Nat.le_succ _)) (I.hok.fresh (Nat.le_refl _)) (Nat.ne_of_lt (Nat.lt_succ_self _))
  have run := F _ X.stack _ _ (.ref (s.heap.objs.size + 1) :: us) u (.ref (s.heap.objs.size + 1) :: vs) z _ E ⟨hr.rm.make C us [(kn, u)], by rw [guards_makeK]; exact hr.gd⟩ (J.env0.make C us [(kn, u)]) (.cons rfl r) rz hq
  exact wpAny_call (make_map (f := f) I.kIn M.makes M.init (beq_iff_eq.mp M.fn) (codeAny_mono run fun q s' z => match q, z with
    | .error er, z => hx pins σ _ _ er s' J z
    | .ok (.ret _), z => by
      obtain ⟨v, H', J3, rv, ev, q3⟩ := J.after z
      subst ev
      exact ⟨rv, V.ref (s.heap.objs.size + 1), H', J3, rfl, q3⟩
    | .ok .next, z => False.elim z
    | .ok .brk, z => False.elim z
    | .ok .cont, z => False.elim z))
end
end Z
namespace Y
open PySem PySem.Spec PyProof.Rows L2 Z
def DefAtK (K : Frg) (x qual : Str) (st : Stmt) (f : Addr) (kn : Str) (d : D) : Prop := ∃ fd v, L2.FunD K x qual (defArgs st) (defBody st) (defScope st) [] [(kn, v)] f fd ∧ ∀ ms F, Rp K ms F v d
/-- R with the last value d -/
def lastR (R : RdF) (d : D) : RdF := fun ds Q E => R (ds ++ [d]) Q E
section
variable {P : Program} {w : World} {K : Frg} {mg : Str → Option Value} {base : Heap}
theorem y_initK {C x qual kn : Str} {st : Stmt} {f : Addr} {N ps : List Str} {k : Nat} {R : RdF} {d : D} (F : DefAtK K x qual st f kn d) (S : FnScope N ps (defScope st)) (len : ∀ ds Q E, R ds Q E → ds.length + 1 = ps.length)
    (hb0 : ∀ (D : Addr) (doc pm : Value) (an : Option Addr) (cdv ct : Value) (us : List Value) (u : Value), us.length + 1 = ps.length → KwChain D [(kn, u)] (bindArgs (PySem.W.fnOf x qual (defArgs st) (defBody st) (defScope st) .none (.ref D) doc pm an cdv ct) ⟨us, []⟩) (ps.zip (us ++ [u])))
    (hb1 : ∀ (D : Addr) (doc pm : Value) (an : Option Addr) (cdv ct : Value) (us : List Value) (u : Value), us.length + 1 = ps.length → bindArgs (PySem.W.fnOf x qual (defArgs st) (defBody st) (defScope st) .none (.ref D) doc pm an cdv ct) ⟨us, [(kn, u)]⟩ = pure (ps.zip (us ++ [u])))
    (hbody : ∀ (cdv : Value) (A : Around) (outer : List Env) (s : Shared) (H : Hp) (E : XK) (B : Bs), Same B.F0 B.H0 → RoomG k (A.deeper (envOfC qual (defScope st) s.heap.objs.size f cdv)) → Px (cxOf (L2.CX P w) P w K mg base N qual (defScope st) f cdv A outer s H E) B →
      PassesOwn (model P w) (cxOf (L2.CX P w) P w K mg base N qual (defScope st) f cdv A outer s H E).A (cxOf (L2.CX P w) P w K mg base N qual (defScope st) f cdv A outer s H E).env (cxOf (L2.CX P w) P w K mg base N qual (defScope st) f cdv A outer s H E).xe →
      ∃ r, PSsp (cxOf (L2.CX P w) P w K mg base N qual (defScope st) f cdv A outer s H E) B (defBody st) r ∧ ∀ x ds Q, R ds Q B.Ed → r (.mu (.ins x C [] []) :: startE (N.length - 1) ds) { nx := finI x C Q, rt := fun _ => False }) :
    FnG P w K mg base (L2.CX P w) (k + 1) f (spI K C (lastR R d)) ∧ FnK P w K mg base (L2.CX P w) (k + 1) f kn (spI K C R) := by
  obtain ⟨fd, v, F, hv⟩ := F
  obtain ⟨h1, h2⟩ := zfnK ⟨fd, F⟩ S (fun vs H Q E ⟨ms, F, Hb, x, args, ds, Qd, Ed, e, _, _, _, _, _, r, h, _⟩ => by rw [e, List.length_cons, r.len]; exact len _ _ _ h) hb0 hb1 (y_initB S len hbody)
  refine ⟨FnG.imp h1 ?_, h2⟩
  rintro vs H Q E ⟨ms, F, Hb, x, args, ds, Qd, Ed, rfl, a1, a2, a3, a4, a5, a6, a7, a8⟩
  exact ⟨ms, F, Hb, x, args ++ [v], ds ++ [d], Qd, Ed, rfl, a1, a2, a3, a4, a5, a6.app (.one (hv ms F)), a7, a8⟩
end
section
variable {X : Cx} {B : Bs} {K : Frg} {ms : List Addr} {a b c e o e2 : Expr} {es : List Expr} {ra rb rc r ro r2 : Rd} {rt ru : RdT} {rl : RdA} {pos p0 apos kpos : Pos} {R : RdF} {k : Nat} {f g p : Addr} {x m : Str}
/-- C(e, kn = e2) -/
theorem y_makeK {C kn : Str} (M : Mk X.K (He.ga X.K C) f) (F : FnK X.prog X.w X.K X.mg X.base (L2.CX X.prog X.w) k f kn (spI X.K C R)) (hr : RoomG (k + 1) X.A) (hg : Gl X C) (hm : X.mg C = some (.ref (He.ga X.K C))) (hx : Px X B) (ha : PEp X B a ra) (h2 : PEp X B e2 r2)
    (hall : (backToKw pos (keywordEach [⟨some kn, e2, kpos⟩] X.env)).all (·.1.isSome) = true := by rfl) (hks : (backToKw pos (keywordEach [⟨some kn, e2, kpos⟩] X.env)).filterMap (·.1) = [kn] := by rfl) (hdb : (C == ("__debug__" : Str)) = false := by decide)
    (he : starEach [a] X.env = [(false, eval a X.env)] := by rfl) (hpl : ((backTo pos (starEach [a] X.env)).any (·.1) || (backToKw pos (keywordEach [⟨some kn, e2, kpos⟩] X.env)).any (·.1.isNone)) = false := by rfl) :
    PEp X B (.Call (.Name C p0) [a] [⟨some kn, e2, kpos⟩] pos) (fun ρ Q => ra ρ fun d => r2 ρ fun d2 => R [d, d2] Q B.Ed) := by
  refine ⟨fun pins s σ H Q I h => ?_⟩
  obtain ⟨F0, ρ, Qd, J, z, kk⟩ := h
  refine wpAny_Call_Name_kw (ld_glob I hg hm ?_ hdb)
  refine PySem.W.callWith_KW (h₀ := X.base) I.ok.mod.kin M.kp hall (thn ((pa_cons ha pa_nil he).run pos pins s σ H (fun vs H1 => ∃ F1 v d, vs = [v] ∧ Go B.ms F0 H F1 H1 ∧ Tp X.K B.ms F1 H1 ∧ Rp X.K B.ms F1 v d ∧ r2 ρ fun d2 => R [d, d2] Qd B.Ed) I ⟨F0, ρ, _, J, z, fun v F1 H1 d g1 t1 r1 z1 => ⟨F1, v, d, rfl, g1, t1, r1, z1⟩⟩) fun us s1 ⟨vs, H1, I1, rv, F1, v, d, ev, g1, t1, r1, q⟩ => ?_) hpl he
  subst ev
  refine thn ((pk_cons (kpos := kpos) (nm := some kn) h2 pk_nil).run pos pins s1 σ H1 (fun vs H2 => ∃ F2 v2 d2, vs = [v2] ∧ Go B.ms F1 H1 F2 H2 ∧ Tp X.K B.ms F2 H2 ∧ Rp X.K B.ms F2 v2 d2 ∧ R [d, d2] Qd B.Ed) I1 ⟨F1, ρ, _, J.step g1 t1, q, fun v2 F2 H2 d2 g2 t2 r2 z2 => ⟨F2, v2, d2, rfl, g2, t2, r2, z2⟩⟩) fun ws s2 ⟨zs, H2, I2, rz, F2, v2, d2, ez, g2, t2, r2', q2⟩ => ⟨I2.kIn, ?_⟩
  subst ez
  rw [hks]
  obtain ⟨u2, rfl, ru2⟩ := vals1 rz
  show wpAny _ _ (call (.ref (He.ga X.K C)) us [(kn, u2)]) _ _ _
  exact run_makeK M F hr hx I2 rv ru2 fun x dx n1 n2 n3 => spI_of [v, v2] H2 Q (sp_call J kk (g1.trans g2) t2 (.cons (r1.up g2.ff) (.one r2')) q2) x dx n1 n2 n3
/-! ### o[i], len(o) of own instances -/
def rIxO (C : Addr) (sp : Sp) (E : XK) : R2 := fun x y H Q => ∃ a dx fs, x = .ref a ∧ H a = some (.ins C dx fs) ∧ sp [x, y] H Q E
theorem gix_own {C : Addr} {sp : Sp} {E : XK} {CX : CXT} (hs : PySem.W.findIn X.K (.ref C) "__getitem__" = some (some (.ref g))) (hf : PySem.W.isFn X.K (.ref g) = true) (hfi : PySem.W.fnIn X.K g = true) (F : FnA X.A.in1 X.prog X.w X.K X.mg X.base CX g sp) (hx : Passes CX X E) {value slice : Expr}
    (hsl : ∀ a u, subscripted slice true (.ref a) u = runValue (.builtin "lifetime.subscript" ⟨[.ref a, u], []⟩)) {pins : List (Addr × Obj)} {s : Shared} {σ : L2.St} {H : Hp} {x y : V} {v u : Value} {Q : VK} (I : L2.Inv X pins σ H s) (rx : RelV x v) (ry : RelV y u) (h : rIxO C sp E x y H Q) :
    wpAny (model X.prog X.w) X.A (subscriptTail value slice v u) (EP X pins σ Q) X.xe s := by
  obtain ⟨a, dx, fs, rfl, ea, q⟩ := h
  obtain rfl : v = Value.ref a := rx
  obtain ⟨mA, O, _, _, _, _⟩ := ins_get I.hok ea
  obtain ⟨od, J, _⟩ := O.look
  obtain ⟨m, hF⟩ := I.fr
  exact PySem.W.sub_K hF I.ok.mod.kin J hs hfi hf (wpAny_call (run_A (us := [.ref a, u]) (vs := [.ref a, y]) F I.env0.in1 hx I (.cons rfl (.cons ry .nil)) q)) (hsl a u)
theorem y_ixO {C : Str} {ns : List Str} (hs : PySem.W.findIn X.K (.ref (He.ga X.K C)) "__getitem__" = some (some (.ref g))) (hf : PySem.W.isFn X.K (.ref g) = true) (hfi : PySem.W.fnIn X.K g = true) (hr : RoomG (k + 1) X.A) (F : FnG X.prog X.w X.K X.mg X.base (L2.CX X.prog X.w) k g (spP X.K R)) (hx : Px X B) (ha : PEp X B a ra) (hb : PEp X B b rb)
    (hsl : ∀ a u, subscripted b true (.ref a) u = runValue (.builtin "lifetime.subscript" ⟨[.ref a, u], []⟩) := by intro _ _; with_unfolding_all rfl) :
    PEp X B (.Subscript a b pos) (fun ρ Q => ra ρ fun x => rb ρ fun y => asO [C] ns x (R [x, y] Q B.Ed)) := by
  refine ⟨fun pins s σ H Q I h => ?_⟩
  obtain ⟨F0, ρ, Qd, J, z, kk⟩ := h
  refine Subscript_ (binT ha hb I (R := fun x y H2 => rIxO (He.ga X.K C) (spP X.K R) (EE X.K B) x y H2 Q) ⟨F0, ρ, _, J, z, fun v F1 H1 d g1 t1 r1 z1 => ⟨F1, ρ, _, J.step g1 t1, z1, fun v2 F2 H2 d2 g2 t2 r2 z2 => ?_⟩⟩ fun v u s2 x y H2 I2 rx ry q => gix_own hs hf hfi (F.at hr.in1) hx hsl I2 rx ry q)
  obtain ⟨a, d1, f1, c1, rfl, hc1, h1, hh⟩ := asO_of (r1.up g2.ff) z2
  have e1 : c1 = C := by simpa using hc1
  subst e1
  exact ⟨a, d1, f1, rfl, t2.1 _ _ h1, sp_call J kk (g1.trans g2) t2 (.cons (r1.up g2.ff) (.one r2)) hh⟩
def iOf (d : D) (k : Prop) : Prop := match d with
  | .int i => (0 ≤ i ∧ i < 2 ^ 63) ∧ k
  | _ => False
theorem y_lenO {C : Str} {ns : List Str} (hs : PySem.W.findIn X.K (.ref (He.ga X.K C)) "__len__" = some (some (.ref g))) (hf : PySem.W.isFn X.K (.ref g) = true) (hr : RoomG (k + 1) X.A) (F : FnG X.prog X.w X.K X.mg X.base (L2.CX X.prog X.w) k g (spP X.K R)) (hx : Px X B) (hg : Gl X "len") (hm : X.mg "len" = none) (ha : PEp X B a ra)
    (h1 : starEach [a] X.env = [(false, eval a X.env)] := by rfl) : PEp X B (.Call (.Name "len" p0) [a] [] pos) (fun ρ Q => ra ρ fun d => asO [C] ns d (R [d] (fun y => iOf y (Q y)) B.Ed)) := by
  have hc : CallR X (.builtin "len") (fun xs H Q => ∃ a dx fs, xs = [.ref a] ∧ H a = some (.ins (He.ga X.K C) dx fs) ∧ spP X.K R [.ref a] H (fun v H' => ∃ i : Int, v = .int i ∧ (0 ≤ i ∧ i < 2 ^ 63) ∧ Q v H') (EE X.K B)) := by
    intro pins s σ H xs us Q I r h
    obtain ⟨a, dx, fs, rfl, ea, q⟩ := h
    obtain ⟨u, rfl, ru⟩ := vals1 r
    obtain rfl : u = Value.ref a := ru
    obtain ⟨mA, O, _, _, _, _⟩ := ins_get I.hok ea
    obtain ⟨od, J, _⟩ := O.look
    obtain ⟨m, hF⟩ := I.fr
    refine PySem.W.len_K hF I.ok.mod.kin J hs hf ?_
    refine wpAny_mono (wpAny_call (run_A (us := [.ref a]) (vs := [.ref a]) (F.at hr.in1) I.env0.in1 hx I (.cons rfl .nil) q)) (fun w s' z => ?_) fun _ _ x => x
    obtain ⟨z', H', I', rz, i, rfl, hi, qz⟩ := z
    obtain ⟨t, rfl⟩ := (show ∃ t, w = Value.int i t from rz)
    exact ⟨hi, .int i, H', I'.tok _, ⟨_, rfl⟩, qz⟩
  exact pe_imp (pe_callB hc hg hm (by decide +kernel) (pa_cons ha pa_nil h1) (by decide) (by decide) h1 rfl) fun σ H Q ⟨F0, ρ, Qd, I, z, kk⟩ => ⟨F0, ρ, _, I, z, fun v F1 H1 d g1 t1 r1 z1 => by
    obtain ⟨a, d1, f1, c1, rfl, hc1, h1, hh⟩ := asO_of r1 z1
    have e1 : c1 = C := by simpa using hc1
    subst e1
    refine ⟨a, d1, f1, rfl, t1.1 _ _ h1, sp_call I (fun v F2 H2 d2 g2 t2 r2 q2 => ?_) g1 t1 (.cons r1 .nil) hh⟩
    unfold iOf at q2
    split at q2
    · cases r2
      exact ⟨_, rfl, q2.1, kk _ F2 H2 _ g2 t2 (.int _) q2.2⟩
    · exact q2.elim⟩
/-! ### isinstance(x, (T1, T2)) -/
def dIsT2 (T1 T2 : String) (d : D) (Q : D → Prop) : Prop := match d with
  | .lst _ => (T1 = "list" ∧ T2 = "tuple") ∧ Q (.bl true)
  | .tup _ => (T1 = "list" ∧ T2 = "tuple") ∧ Q (.bl true)
  | _ => False
theorem y_isi2 {T1 T2 : String} {e1 e2 : Expr} {x1 : Nat} {tp : Pos} (ha : PEp X B a ra) (h1 : PE X e1 (tC (.ty T1))) (h2 : PE X e2 (tC (.ty T2))) (hg : Gl X "isinstance") (hm : X.mg "isinstance" = none)
    (hs1 : starEach [e1, e2] X.env = (false, eval e1 X.env) :: starEach [e2] X.env := by rfl) (hs2 : starEach [e2] X.env = (false, eval e2 X.env) :: starEach [] X.env := by rfl)
    (hs : starEach [a, .Tuple [e1, e2] x1 tp] X.env = (false, eval a X.env) :: starEach [.Tuple [e1, e2] x1 tp] X.env := by rfl) (hs3 : starEach [.Tuple [e1, e2] x1 tp] X.env = (false, eval (.Tuple [e1, e2] x1 tp) X.env) :: starEach [] X.env := by rfl) (hpl : (backTo pos (starEach [.Tuple [e1, e2] x1 tp] X.env)).any (·.1) = false := by rfl) :
    PEp X B (.Call (.Name "isinstance" p0) [a, .Tuple [e1, e2] x1 tp] [] pos) (fun ρ Q => ra ρ fun d => dIsT2 T1 T2 d Q) :=
  pe_imp (pe_callB call_isiT hg hm (by decide +kernel) (pa_cons ha (pa_cons (pe_tupZ (pa_cons h1 (pa_cons h2 pa_nil hs2) hs1)) pa_nil hs3) hs) (by decide) (by decide) hs hpl) fun σ H Q ⟨F0, ρ, Qd, I, z, kk⟩ => ⟨F0, ρ, _, I, z, fun v F1 H1 d g1 t1 r1 z1 => by
    refine ⟨by show 2 ≤ sizeLine; decide, fun p H2 hp e2' => ?_⟩
    obtain ⟨F2, g2, q2, _⟩ := newE g1.fh hp e2'
    unfold dIsT2 at z1
    have tl : kitB "list" "list" = some true := by decide +kernel
    have tt1 : kitB "tuple" "list" = some false := by decide +kernel
    have tt2 : kitB "tuple" "tuple" = some true := by decide +kernel
    split at z1
    · obtain ⟨⟨rfl, rfl⟩, z1⟩ := z1
      refine ⟨v, p, [.ty "list", .ty "tuple"], .type "list", [.type "list", .type "tuple"], true, rfl, g2.fh _ _ q2, .cons (.ty _) (.cons (.ty _) .nil), tyX_of (r1.up g2.ff) g2.fh rfl (fun _ _ _ z => nomatch z), kitAny_cons (kit_ty tl) (fun z => nomatch z) (fun _ => rfl), ?_⟩
      exact kk _ F2 H2 _ (g1.trans g2.nil) (t1.go0 g2) (.bl true) z1
    · obtain ⟨⟨rfl, rfl⟩, z1⟩ := z1
      refine ⟨v, p, [.ty "list", .ty "tuple"], .type "tuple", [.type "list", .type "tuple"], true, rfl, g2.fh _ _ q2, .cons (.ty _) (.cons (.ty _) .nil), tyX_of (r1.up g2.ff) g2.fh rfl (fun _ _ _ z => nomatch z), kitAny_cons (kit_ty tt1) (fun _ => kitAny_cons (kit_ty tt2) (fun z => nomatch z) (fun _ => rfl)) (fun z => nomatch z), ?_⟩
      exact kk _ F2 H2 _ (g1.trans g2.nil) (t1.go0 g2) (.bl true) z1
    · exact z1.elim⟩
end
end Y
namespace Y
open PySem PySem.Spec PyProof.Rows L2 Z
/-! ### data without tapes -/
mutual
def noT : D → Bool
  | .lst ds => noTs ds
  | .tup ds => noTs ds
  | .obj _ _ ds => noTs ds
  | .dic _ ds => noTs ds
  | .tape => false
  | _ => true
def noTs : List D → Bool
  | [] => true
  | d :: ds => noT d && noTs ds
end
section
variable {K : Frg} {ms ms' : List Addr} {F : Hp}
mutual
theorem Rp.noT : ∀ (d : D) (v : V), noT d = true → Rp K ms F v d → Rp K ms' F v d
  | .non, _, _, h => by cases h; exact .non
  | .bl b, _, _, h => by cases h; exact .bl b
  | .int i, _, _, h => by cases h; exact .int i
  | .str x, _, _, h => by cases h; exact .str x
  | .ty x, _, _, h => by cases h; exact .ty x
  | .glob x, _, _, h => by cases h; exact .glob x
  | .tape, _, n, _ => by cases n
  | .fn a, _, _, h => by cases h; exact .fn a
  | .lst ds, _, n, h => by cases h with | lst h1 h2 => exact .lst h1 (Rps.noT ds _ n h2)
  | .tup ds, _, n, h => by cases h with | tup h1 h2 => exact .tup h1 (Rps.noT ds _ n h2)
  | .obj c ns ds, _, n, h => by cases h with | obj h1 h2 h3 => exact .obj h1 h2 (Rps.noT ds _ n h3)
  | .dic ks ds, _, n, h => by cases h with | dic h1 h2 h3 => exact .dic h1 h2 (Rps.noT ds _ n h3)
theorem Rps.noT : ∀ (ds : List D) (vs : List V), noTs ds = true → Rps K ms F vs ds → Rps K ms' F vs ds
  | [], _, _, h => by cases h; exact .nil
  | d :: ds, _, n, h => by
    obtain ⟨n1, n2⟩ := He.ba (show (Y.noT d && noTs ds) = true from n)
    cases h with | cons h1 h2 => exact .cons (Rp.noT d _ n1 h1) (Rps.noT ds _ n2 h2)
end
end
/-! ### a def that gives a new list -/
def spF (K : Frg) (R : RdF) : Sp := fun vs H Q E => ∃ ms F ds Qd, Tp K ms F H ∧ Rps K ms F vs ds ∧ R ds Qd (fun _ => False) ∧ (∀ a F' H' ds', H a = none → Go ms F H F' H' → Tp K ms F' H' → Rp K ms F' (.ref a) (.lst ds') → Qd (.lst ds') → Q (.ref a) H')
def tEF (K : Frg) (B : Bs) (r : Rd) : TE := fun σ H Q => ∃ F ρ Qd, Iv K B F H σ ρ ∧ r ρ Qd ∧ ∀ a F' H' ds, H a = none → Go B.ms F H F' H' → Tp K B.ms F' H' → Rp K B.ms F' (.ref a) (.lst ds) → Qd (.lst ds) → Q (.ref a) H'
theorem lcR_fresh {J : It} {g : TG} {tt : TT} {te : TE} {vs : List Nat} {σ : L2.St} {H : Hp} {Q : VK} (h : LcR J g tt te vs σ H fun v H' => (∃ D, v = .ref D ∧ H D = none) → Q v H') : LcR J g tt te vs σ H Q := by
  intro D hD
  obtain ⟨W, w0, ws⟩ := h D hD
  refine ⟨W, w0, fun i m H' hw => ?_⟩
  rcases ws i m H' hw with ⟨a, b⟩ | z
  · exact .inl ⟨a, b ⟨D, rfl, hD⟩⟩
  · exact .inr z
section
variable {X : Cx} {B : Bs} {a b c e o : Expr} {es : List Expr} {ra rb rc r ro : Rd} {rt ru : RdT} {rl : RdA} {pos p0 apos : Pos} {R : RdF} {k : Nat} {f C g p : Addr} {x m : Str}
theorem lc_ofF {K : Frg} {t : Tg} {wi : L2.TI} {vs : List Nat} {re : Rd} (hw : ∀ i ∈ t.slots, i ∈ vs) (h0 : ∀ σ H R, tI K B rl σ H R → wi σ H R) (σ : L2.St) (H : Hp) (Q : VK) (h : tEF K B (fun ρ Q => rl ρ fun ds => ds.length ≤ 100000 ∧ mapI t rt re (wipeR ρ vs) ds fun ys => Q (.lst ys)) σ H Q) :
    tLcZ wi (tgV K t) (tT K B.nox rt) (tE K B.nox re) vs σ H Q := by
  obtain ⟨F, ρ, Qd, I, z, k⟩ := h
  refine h0 _ _ _ ⟨F, ρ, _, I, z, fun J F1 H1 ds g1 t1 ⟨G, Yd, w, hG, hY⟩ ⟨hn, Jw, z1, zs, zf⟩ => lcR_fresh ?_⟩
  have I1 := (I.step g1 t1).nox.wipes vs
  refine lc_go w t1.1 (ms := B.ms) (fun t m => t1.ne m) (fun F H => Tp K B.ms F H) t1 (fun D F1 H1 F2 H2 hD h g => t1.put hD h g) (fun F2 H2 g _ => hG F2 H2 g.ff g.fh)
    (fun i acc F2 => ∃ ys, Rps K B.ms F2 acc ys ∧ Jw i ys) ⟨[], .nil, z1⟩ (fun i acc F2 F3 s ⟨ys, h1, h2⟩ => ⟨ys, h1.up s, h2⟩) hn ?_ ?_
  · rintro i x acc F2 H2 H2' hi hl ⟨ys, hys, zz⟩ g2 t2 hy Kp Sk kp sk
    have zz := zs i ds[i] ys (List.getElem?_eq_getElem hi) zz
    obtain ⟨F3, g3, r3⟩ := hY i F2 H2 x H2' ds[i] g2.ff g2.fh hy (List.getElem?_eq_getElem hi)
    have I2 := (I1.step g2 t2).step0 g3
    have t3 := t2.go0 g3
    have q := tg_wipe (K := K) (v := x) (σ := L2.wipe σ vs) (H := H2') (Q := fun σ2 H2 => tT K B.nox rt σ2 H2 fun b H3 => if b = true then tE K B.nox re σ2 H3 Kp else Sk H3) hw (tg_run I2 r3 zz fun σ4 ρ4 I4 z4 => by
      refine ⟨F3, ρ4, _, I4, z4, fun b F5 H5 g5 t5 z5 => ?_⟩
      cases b with
      | false => exact sk F5 H5 (g3.nil.trans g5) t5 ⟨ys, (hys.up g3.ff).up g5.ff, ifB_f z5⟩
      | true => exact ⟨F5, ρ4, _, I4.step g5 t5, ifB_t z5, fun v F6 H6 d g6 t6 r6 z6 => kp v F6 H6 (g3.nil.trans (g5.trans g6)) t6 ⟨ys ++ [d], (((hys.up g3.ff).up g5.ff).up g6.ff).app (.one r6), z6⟩⟩)
    rw [wipe_wipe] at q
    exact q
  · rintro D ys F2 H2 g2 t2 hD _ ⟨zs', hz, zz⟩ ⟨D', eD, nD⟩
    cases eD
    exact k _ F2 H2 _ (go_none g1 I.same nD (t1.nms nD)) (g1.trans g2) t2 (.lst hD hz) (zf _ zz)
theorem y_lcF {elt tg iter : Expr} {ifs : List Expr} {scope : Scope} {own : List (Str × Nat)} {t : Tg} {re : Rd} (hc : X.calm = true) (hN : X.N.Nodup) (hi : PIp X B tg iter rl) (ok : BlkOk X.N X.env.scope scope own)
    (hg : ∀ (s : Shared) (H : Hp) (C : Addr) (cl : List (Str × Addr)) (fp : List Addr), PG (X.blk s H scope (compEnvC scope cl C X.env) fp) tg (tgV X.K t)) (ht : ∀ (s : Shared) (H : Hp) (C : Addr) (cl : List (Str × Addr)) (fp : List Addr), PTs (X.blk s H scope (compEnvC scope cl C X.env) fp) ifs (tT X.K B.nox rt))
    (he : ∀ (s : Shared) (H : Hp) (C : Addr) (cl : List (Str × Addr)) (fp : List Addr), PEp (X.blk s H scope (compEnvC scope cl C X.env) fp) B.nox elt re) (hw : ∀ i ∈ t.slots, i ∈ own.map (·.2) := by decide) (hs : ∀ x, foldedSetIterable iter X.env x = pure x := by intro _; rfl) :
    PE X (.ListComp elt [⟨tg, iter, ifs, 0⟩] scope pos) (tEF X.K B fun ρ Q => rl ρ fun ds => ds.length ≤ 100000 ∧ mapI t rt re (wipeR ρ (own.map (·.2))) ds fun ys => Q (.lst ys)) :=
  pe_imp (pe_lcZ (pe_lc (te := tE X.K B.nox re) hc hN hi ok hg ht he hs)) (lc_ofF hw fun _ _ _ z => z)
end
section
variable {P : Program} {w : World} {K : Frg} {mg : Str → Option Value} {base : Heap}
/-- statements, then return of a new list -/
theorem y_fnF {x qual : Str} {st s1 s2 : Stmt} {ep : Expr} {rp : Pos} {f : Addr} {N ps : List Str} {k : Nat} {R : RdF} (F : DefAt K x qual st f) (S : FnScope N ps (defScope st)) (len : ∀ ds Q E, R ds Q E → ds.length = ps.length) (hbd : defBody st = [s1, s2, .Return (some ep) rp])
    (hb : ∀ (kV doc pm : Value) (an : Option Addr) (cdv ct : Value) (us : List Value), us.length = ps.length → bindArgs (PySem.W.fnOf x qual (defArgs st) (defBody st) (defScope st) .none kV doc pm an cdv ct) ⟨us, []⟩ = pure (ps.zip us))
    (hbody : ∀ (cdv : Value) (A : Around) (outer : List Env) (s : Shared) (H : Hp) (E : XK) (B : Bs), Same B.F0 B.H0 → RoomG k (A.deeper (envOfC qual (defScope st) s.heap.objs.size f cdv)) →
      ∃ r1 r2 r3, PSp (cxOf (L2.CX P w) P w K mg base N qual (defScope st) f cdv A outer s H E) B s1 r1 ∧ PSp (cxOf (L2.CX P w) P w K mg base N qual (defScope st) f cdv A outer s H E) B s2 r2 ∧ PE (cxOf (L2.CX P w) P w K mg base N qual (defScope st) f cdv A outer s H E) ep (tEF K B r3) ∧
        ∀ ds Q, R ds Q (fun _ => False) → r1 (startE N.length ds) { nx := fun ρ1 => r2 ρ1 { nx := fun ρ2 => r3 ρ2 Q, rt := fun _ => False }, rt := fun _ => False }) : FnG P w K mg base (L2.CX P w) (k + 1) f (spF K R) := by
  refine zfnG F S (fun vs H Q E ⟨ms, F, ds, Qd, _, r, h, _⟩ => by rw [r.len]; exact len _ _ _ h) hb fun cdv A outer s H vs Q E hr h => ?_
  obtain ⟨ms, F, ds, Qd, t, r, h, kq⟩ := h
  obtain ⟨r1, r2, r3, h1, h2, h3, hh⟩ := hbody cdv A outer s H E ⟨ms, F, H, fun _ => False⟩ t.1 hr
  rw [hbd]
  refine ⟨_, pss_cons h1 (pss_cons h2 (pss_one (ps_ret h3))), F, _, _, iv_start (B := ⟨ms, F, H, fun _ => False⟩) t r, hh ds Qd h, ?_, ?_, ?_, ?_⟩
  · intro σ1 ρ1 F1 H1 _ I1 z1
    refine ⟨F1, ρ1, _, I1, z1, ?_, ?_, ?_, ?_⟩
    · intro σ2 ρ2 F2 H2 _ I2 z2
      exact ⟨F2, ρ2, Qd, I2, z2, fun a F3 H3 ds3 na g3 t3 r3 q3 => kq a F3 H3 ds3 (go_none I2.go t.1 na (I2.tp.nms na)) (I2.go.trans g3) t3 r3 q3⟩
    · intro _ _ _ _ _ _ _ z; exact z.elim
    · intro _ _ _ _ _ _ z; exact z.elim
    · intro _ _ _ _ _ _ z; exact z.elim
  · intro _ _ _ _ _ _ _ z; exact z.elim
  · intro _ _ _ _ _ _ z; exact z.elim
  · intro _ _ _ _ _ _ z; exact z.elim
end
end Y
namespace Y
open PySem PySem.Spec PyProof.Rows L2 Z
/-! ### o.m.append(c), where o.m is a new list -/
def delF (F : Hp) (a : Addr) : Hp := fun b => if b = a then none else F b
theorem delF_same {F : Hp} {a : Addr} : delF F a a = none := if_pos rfl
theorem delF_ne {F : Hp} {a b : Addr} (h : b ≠ a) : delF F a b = F b := if_neg h
/-- a new thing that was frozen is loose again, and changed -/
theorem go_new1 {ms : List Addr} {F H F' H' : Hp} {a : Addr} {o : HO} (hs : Same F H) (ha : H a = none) (hm : a ∉ ms) (g : Go ms F H F' H') : Go ms F H (delF F' a) (upd H' a o) := by
  have fa : ∀ b u, F b = some u → b ≠ a := fun b u e => ne_of_none (hs b u e) ha
  refine ⟨fun b u e => by rw [delF_ne (fa b u e)]; exact g.ff b u e, fun b u e => ?_, fun b u m e1 e2 => ?_⟩
  · by_cases hb : b = a
    · subst hb; rw [delF_same] at e; cases e
    · rw [delF_ne hb] at e
      rw [upd_ne hb]
      exact g.fh b u e
  · have hb := ne_of_none e2 ha
    obtain ⟨q1, q2⟩ := g.mu b u m e1 e2
    exact ⟨by rw [delF_ne hb]; exact q1, by rw [upd_ne hb]; exact q2⟩
theorem tabs_sub {K : Frg} {ms : List Addr} {F H : Hp} (t : Tp K ms F H) : ∀ a ∈ tabA K, a ∈ ms := fun a m => by
  obtain ⟨p, hp, rfl⟩ := List.mem_map.mp m
  exact (t.tabs p hp).1
theorem Tp.onlyT {K : Frg} {ms : List Addr} {F H : Hp} (t : Tp K ms F H) : Tp K (tabA K) F H := ⟨t.1, fun _ m n => absurd m n, fun p hp => ⟨List.mem_map.mpr ⟨p, hp, rfl⟩, (t.tabs p hp).2⟩⟩
theorem tp_new1 {K : Frg} {ms : List Addr} {F H F' H' : Hp} {a : Addr} {o : HO} {xs : List V} (t0 : Tp K ms F H) (t : Tp K (tabA K) F' H') (ha : H a = none) (e : F' a = some (.lst xs)) (g : Go (tabA K) F H (delF F' a) (upd H' a o)) : Tp K ms (delF F' a) (upd H' a o) := by
  refine ⟨g.fh, fun y m n => (t0.tape y m n).go g n, fun p hp => ?_⟩
  obtain ⟨m, h1, ps, h2, h3, h4⟩ := t.tabs p hp
  have na : p.1 ≠ a := fun z => t0.ne (t0.tabs p hp).1 (by rw [z]; exact ha)
  refine ⟨(t0.tabs p hp).1, by rw [delF_ne na]; exact h1, ps, by rw [upd_ne na]; exact h2, h3, fun pos cv hc => ?_⟩
  obtain ⟨c, e1, e2⟩ := h4 pos cv hc
  refine ⟨c, e1, ?_⟩
  rw [delF_ne (fun z => by rw [z, e] at e2; cases e2)]
  exact e2
def lstQ (d : D) (k : Prop) : Prop := match d with
  | .lst ds => ds.length < 100000 ∧ k
  | _ => False
section
variable {X : Cx} {B : Bs} {a b c e o : Expr} {r ro : Rd} {pos p0 apos cpos xpos : Pos} {R : RdF} {k : Nat} {f C g p : Addr} {x m : Str}
theorem s_appF {cs ns : List Str} {cv : V} (he : PEp X B e r) (hc : ∀ c ∈ cs, Cls X.K (He.ga X.K c) ∧ ∃ p, PropOf X.K (He.ga X.K c) m p g) (F : FnG X.prog X.w X.K X.mg X.base (L2.CX X.prog X.w) k g (spF X.K R)) (hr : RoomG (k + 1) X.A) (hcv : PE X c (tC cv))
    (hab : attributeBase e m X.env (eval e X.env) = eval e X.env := by rfl) (h1 : starEach [c] X.env = (false, eval c X.env) :: starEach [] X.env := by rfl)
    (hba : attributeBase (.Attribute e m pos) "append" X.env (eval (.Attribute e m pos) X.env) = eval (.Attribute e m pos) X.env := by rfl) (hline : (apos.endLine == cpos.line) = true := by rfl)
    (hfew : ((backTo cpos (starEach [c] X.env)).all (fun x => !x.1) && (backToKw cpos (keywordEach [] X.env)).all (fun x => x.1.isSome) && decide (([c] : List Expr).length + ([] : List Keyword).length + (if ([] : List Keyword).isEmpty then 0 else 1) < 30)) = true := by rfl)
    (hs : swapsWith (.Call (.Attribute (.Attribute e m pos) "append" apos) [c] [] cpos) none xpos.line X.env = pure false := by rfl) :
    PSp X B (.Expr (.Call (.Attribute (.Attribute e m pos) "append" apos) [c] [] cpos) xpos) (fun ρ E => r ρ fun o => asO cs ns o (noT o = true ∧ R [o] (fun d => lstQ d (E.nx ρ)) fun _ => False)) := by
  have hto : PE X (.Attribute e m pos) (fun σ H Q => ∃ F0 ρ Qd, Iv X.K B F0 H σ ρ ∧ r ρ (fun o => asO cs ns o (noT o = true ∧ R [o] (fun d => lstQ d Qd) fun _ => False)) ∧ ∀ a vs H1, (∀ o, ∃ F2, Go B.ms F0 H F2 (upd H1 a o) ∧ Tp X.K B.ms F2 (upd H1 a o)) → H1 a = some (.lst vs) → vs.length < 100000 → Qd → Q (.ref a) H1) := by
    refine ⟨fun pins s σ H Q I h => ?_⟩
    obtain ⟨F0, ρ, Qd, J, z, kk⟩ := h
    refine attr_of hab (thn (he.run pins s σ H (fun v H1 => ∃ F1 d, Go B.ms F0 H F1 H1 ∧ Tp X.K B.ms F1 H1 ∧ Rp X.K B.ms F1 v d ∧ asO cs ns d (noT d = true ∧ R [d] (fun d => lstQ d Qd) fun _ => False)) I ⟨F0, ρ, _, J, z, fun v F1 H1 d g1 t1 r1 z1 => ⟨F1, d, g1, t1, r1, z1⟩⟩) fun u s1 ⟨v, H1, I1, rx, F1, d, g1, t1, r1, z1⟩ => ?_)
    unfold asO at z1
    split at z1
    · obtain ⟨hcs, rfl, nt, z2⟩ := z1
      have r1' := Rp.noT (ms' := tabA X.K) _ _ nt r1
      cases r1 with
      | @obj a dx _ _ vs ds h1 h2 h3 =>
        obtain rfl : u = Value.ref a := rx
        obtain ⟨c1, p, hp⟩ := hc _ hcs
        have ea := t1.1 _ _ h1
        obtain ⟨mA, O, _, _, _, _⟩ := ins_get I1.hok ea
        obtain ⟨od, J1, _⟩ := O.look
        obtain ⟨rest, hrec⟩ := hp.rec_
        have I2 := I1.tok (s1.toks + 1)
        have hcl := cls_some c1
        refine PySem.W.get_bind I1.kIn J1 (PySem.W.plainGet_of (c1.get m)).1 (PySem.W.findObj_data hcl hp.at_ hp.get hp.tak) (PySem.W.plainGet_of (c1.get m)).2 (wpAny_call (PySem.W.prop_get (s := { s1 with toks := s1.toks + 1 }) I1.kIn hrec ?_))
        have q : spF X.K R [.ref a] H1 Q (EE X.K B.nox) := by
          refine ⟨tabA X.K, F1, _, _, t1.onlyT, .cons r1' .nil, z2, fun a' F' H' ds' na g' t' r' q' => ?_⟩
          obtain ⟨hl, qd⟩ := q'
          cases r' with
          | @lst _ vs' _ e1 e2 =>
            have hm := g'.fh _ _ e1
            have nT : a' ∉ tabA X.K := fun m => t1.onlyT.ne m na
            exact kk a' vs' H' (fun o => ⟨delF F' a', g1.trans ((go_new1 (o := o) t1.1 na nT g').sub (tabs_sub t1)), tp_new1 t1 t' na e1 (go_new1 t1.1 na nT g')⟩) hm (by rw [e2.len]; exact hl) qd
        refine codeAny_mono (F X.A.in1 X.stack { s1 with toks := s1.toks + 1 } H1 [.ref a] [.ref a] Q _ hr.in1 I2.env0.in1 (.cons rfl .nil) q) fun r s' hq => ?_
        cases r with
        | error er => exact False.elim (px_nox (X := X.nox) (B := B) pins σ H1 { s1 with toks := s1.toks + 1 } er s' (I2.wish _) hq)
        | ok fl =>
          cases fl with
          | ret u =>
            obtain ⟨v, H', I3, rv, q3⟩ := I2.after hq
            show wpAny _ _ (handedOut u) _ _ _
            rw [PySem.W.handedOut_of (handed_of rv)]
            exact wpAny_pure ⟨v, H', I3, rv, q3⟩
          | next => exact False.elim hq
          | brk => exact False.elim hq
          | cont => exact False.elim hq
    · exact z1.elim
  refine ps_imp (ps_expr (pe_bm PySem.F.plainAttrs_list PySem.F.slot_list_append PySem.F.type_list_append mt_appZ hto (pa_cons hcv pa_nil h1) hba hfew hline h1 rfl) hs) fun σ H Dd ⟨F0, ρ, E, I, z, kn, kr, kb, kc⟩ => ?_
  refine ⟨F0, ρ, _, I, z, fun a vs H1 gu ha hl qd => ?_⟩
  refine ⟨.inl ⟨rfl, _, SqL.of ha⟩, a, vs, cv, rfl, rfl, ha, Nat.lt_of_lt_of_le hl line_ge, fun H2 e2 => ?_⟩
  subst e2
  obtain ⟨F2, g2, t2⟩ := gu (.lst (vs ++ [cv]))
  exact kn σ ρ F2 _ g2.ff (I.step g2 t2) qd
/-! ### join of lists and tuples -/
def dJoinZ (x y : D) (Q : D → Prop) : Prop := match x with
  | .str a => seqD y fun ds => (match strsOf ds with | some ys => (ys.map (·.length)).sum + ys.length * a.length ≤ 100000 ∧ Q (.str (Txt.join a ys)) | none => False)
  | _ => False
theorem y_joinZ (ho : PEp X B o ro) (he : PEp X B e r) (hs : starEach [e] X.env = [(false, eval e X.env)] := by rfl) (hbase : attributeBase o "join" X.env (eval o X.env) = eval o X.env := by rfl) (hline : (apos.endLine == pos.line) = true := by rfl) :
    PEp X B (.Call (.Attribute o "join" apos) [e] [] pos) (fun ρ Q => ro ρ fun x => isS x (r ρ fun y => dJoinZ x y Q)) := by
  refine pe_imp (pe_join ho he hs hbase hline) fun σ H Q ⟨F, ρ, Qd, I, z, k⟩ => ⟨F, ρ, _, I, z, fun v F1 H1 d g1 t1 r1 z1 => ?_⟩
  obtain ⟨⟨a, rfl⟩, z2⟩ := isS_of r1 z1
  cases r1
  refine ⟨⟨a, rfl⟩, F1, ρ, _, I.step g1 t1, z2, fun u F2 H2 d2 g2 t2 r2 z3 => ?_⟩
  change seqD d2 _ at z3
  unfold seqD at z3
  split at z3
  · split at z3
    · rename_i ys e
      obtain rfl := strsOf_map e
      cases r2 with
      | lst h1 h2 =>
        have e2 := h2.strs
        subst e2
        exact ⟨_, _, ys, rfl, rfl, .inl (SqL.of (t2.1 _ _ h1)), Nat.le_trans z3.1 (by decide), k _ F2 H2 _ (g1.trans g2) t2 (.str _) z3.2⟩
    · exact z3.elim
  · split at z3
    · rename_i ys e
      obtain rfl := strsOf_map e
      cases r2 with
      | tup h1 h2 =>
        have e2 := h2.strs
        subst e2
        exact ⟨_, _, ys, rfl, rfl, .inr (sqT t2.1 h1), Nat.le_trans z3.1 (by decide), k _ F2 H2 _ (g1.trans g2) t2 (.str _) z3.2⟩
    · exact z3.elim
  · exact z3.elim
end
section
variable {P : Program} {w : World} {K : Frg} {mg : Str → Option Value} {base : Heap}
/-- a statement, then return of a new list -/
theorem y_fnF1 {x qual : Str} {st s1 : Stmt} {ep : Expr} {rp : Pos} {f : Addr} {N ps : List Str} {k : Nat} {R : RdF} (F : DefAt K x qual st f) (S : FnScope N ps (defScope st)) (len : ∀ ds Q E, R ds Q E → ds.length = ps.length) (hbd : defBody st = [s1, .Return (some ep) rp])
    (hb : ∀ (kV doc pm : Value) (an : Option Addr) (cdv ct : Value) (us : List Value), us.length = ps.length → bindArgs (PySem.W.fnOf x qual (defArgs st) (defBody st) (defScope st) .none kV doc pm an cdv ct) ⟨us, []⟩ = pure (ps.zip us))
    (hbody : ∀ (cdv : Value) (A : Around) (outer : List Env) (s : Shared) (H : Hp) (E : XK) (B : Bs), Same B.F0 B.H0 → RoomG k (A.deeper (envOfC qual (defScope st) s.heap.objs.size f cdv)) →
      ∃ r1 r3, PSp (cxOf (L2.CX P w) P w K mg base N qual (defScope st) f cdv A outer s H E) B s1 r1 ∧ PE (cxOf (L2.CX P w) P w K mg base N qual (defScope st) f cdv A outer s H E) ep (tEF K B r3) ∧
        ∀ ds Q, R ds Q (fun _ => False) → r1 (startE N.length ds) { nx := fun ρ2 => r3 ρ2 Q, rt := fun _ => False }) : FnG P w K mg base (L2.CX P w) (k + 1) f (spF K R) := by
  refine zfnG F S (fun vs H Q E ⟨ms, F, ds, Qd, _, r, h, _⟩ => by rw [r.len]; exact len _ _ _ h) hb fun cdv A outer s H vs Q E hr h => ?_
  obtain ⟨ms, F, ds, Qd, t, r, h, kq⟩ := h
  obtain ⟨r1, r3, h1, h3, hh⟩ := hbody cdv A outer s H E ⟨ms, F, H, fun _ => False⟩ t.1 hr
  rw [hbd]
  refine ⟨_, pss_cons h1 (pss_one (ps_ret h3)), F, _, _, iv_start (B := ⟨ms, F, H, fun _ => False⟩) t r, hh ds Qd h, ?_, ?_, ?_, ?_⟩
  · intro σ2 ρ2 F2 H2 _ I2 z2
    exact ⟨F2, ρ2, Qd, I2, z2, fun a F3 H3 ds3 na g3 t3 r3 q3 => kq a F3 H3 ds3 (go_none I2.go t.1 na (I2.tp.nms na)) (I2.go.trans g3) t3 r3 q3⟩
  · intro _ _ _ _ _ _ _ z; exact z.elim
  · intro _ _ _ _ _ _ z; exact z.elim
  · intro _ _ _ _ _ _ z; exact z.elim
end
/-! ### str of an int -/
def dStrI (ds : List D) (Q : D → Prop) : Prop := match ds with
  | [.int i] => Sz 1900 i ∧ Q (.str (shD (.int i)))
  | _ => False
theorem strIL {K : Frg} {ms : List Addr} : CalL K ms (fun xs H Q => ∃ i : Int, xs = [.int i] ∧ i.natAbs.log2 < 1920 ∧ Q (.str (toString i)) H) dStrI := by
  intro F H xs ds Qd Q hs r h k
  unfold dStrI at h
  split at h
  · obtain ⟨x, rfl, r1⟩ := rps1 r
    cases r1
    exact ⟨_, rfl, sz1900 h.1, k _ F H _ (Go.refl hs) (.str _) h.2⟩
  · exact h.elim
/-! ### facts -/
def bFi (x f : Str) : Frg → Bool := fun K => PySem.W.fnIn K (He.ma K (He.ga K x) f)
theorem fi_of {K : Frg} {x f : Str} (h : bFi x f K = true) : PySem.W.fnIn K (He.ma K (He.ga K x) f) = true := h
theorem defK_of {K : Frg} {x qual kn : Str} {st : Stmt} {f : Addr} {v : V} {d : D} (h : ∃ fd, L2.FunD K x qual (defArgs st) (defBody st) (defScope st) [] [(kn, v)] f fd) (c : ∀ ms F, Rp K ms F v d) : DefAtK K x qual st f kn d := let ⟨fd, h⟩ := h; ⟨fd, v, h, c⟩
end Y
namespace Y
open PySem PySem.Spec PyProof.Rows L2 Z
/-! ### own dicts whose keys are tuples of ints -/
def lookI (kvs : List (List Int × D)) (k : List Int) : Option D := (kvs.find? fun kv => decide (kv.1 = k)).map (·.2)
def putI (kvs : List (List Int × D)) (k : List Int) (d : D) : List (List Int × D) := if (lookI kvs k).isSome then kvs.map (fun kv => if kv.1 = k then (kv.1, d) else kv) else kvs ++ [(k, d)]
def liftK (x : List Int × Addr × Value) : List Key × Addr × Value := (x.1.map Sum.inl, x.2)
theorem inl_inj {k k' : List Int} : (k.map (Sum.inl : Int → Key) = k'.map Sum.inl) ↔ k = k' := by
  constructor
  · intro h
    exact (List.map_inj_right (fun a b e => by cases e; rfl)).mp h
  · intro h; rw [h]
theorem inl_dec {k k' : List Int} : decide (k.map (Sum.inl : Int → Key) = k'.map Sum.inl) = decide (k = k') := decide_eq_decide.mpr inl_inj
theorem ent_lift (P : Program) (w : World) (x : List Int × Addr × Value) : entryOfKey (tupleKind (mixKind P w)) (liftK x) = entI x := by
  show DictEntry.mk (reduceHash (Builtin.Tuple.tupleHashOf ((x.1.map Sum.inl).map (keyH w)))) _ _ = DictEntry.mk (reduceHash (Builtin.Tuple.tupleHashOf (x.1.map hashInt))) _ _
  rw [List.map_map]
  rfl
def putX (xs : List (List Int × Addr × Value)) (k : List Int) (b : Addr) (u : Value) : List (List Int × Addr × Value) := if (xs.any fun x => decide (x.1 = k)) then xs.map (fun x => if x.1 = k then (x.1, x.2.1, u) else x) else xs ++ [(k, b, u)]
theorem at_lift (xs : List (List Int × Addr × Value)) (k : List Int) : atKey (xs.map liftK) (k.map Sum.inl) = (xs.find? fun x => decide (x.1 = k)).map (·.2) := by
  unfold atKey
  rw [List.find?_map]
  have : ((fun x : List Key × Addr × Value => decide (x.1 = k.map Sum.inl)) ∘ liftK) = fun x => decide (x.1 = k) := funext fun x => inl_dec
  rw [this]
  cases (xs.find? fun x => decide (x.1 = k)) <;> rfl
theorem any_find (xs : List (List Int × Addr × Value)) (k : List Int) : ((xs.find? fun x => decide (x.1 = k)).map (·.2)).isSome = xs.any fun x => decide (x.1 = k) := by
  rw [Option.isSome_map]
  induction xs with
  | nil => rfl
  | cons x xs ih =>
    rw [List.any_cons]
    by_cases e : x.1 = k
    · rw [List.find?_cons_of_pos (by exact decide_eq_true e), decide_eq_true e]; rfl
    · rw [List.find?_cons_of_neg (by simpa using e), decide_eq_false e, ih]; rfl
theorem nodup_lift {xs : List (List Int × Addr × Value)} : ((xs.map liftK).map (·.1)).Nodup ↔ (xs.map (·.1)).Nodup := by
  rw [List.map_map]
  have e : ((fun x : List Key × Addr × Value => x.1) ∘ liftK) = (List.map Sum.inl) ∘ (fun x : List Int × Addr × Value => x.1) := rfl
  rw [e, ← List.map_map]
  unfold List.Nodup
  rw [List.pairwise_map]
  constructor
  · exact fun h => h.imp fun hn z => hn (by rw [z])
  · exact fun h => h.imp fun hn z => hn (inl_inj.mp z)
theorem stored_lift (xs : List (List Int × Addr × Value)) (k : List Int) (b : Addr) (u : Value) : storedH (xs.map liftK) (k.map Sum.inl) b u = (putX xs k b u).map liftK := by
  unfold storedH putX
  rw [at_lift, any_find]
  split
  · rw [List.map_map, List.map_map]
    refine List.map_congr_left fun x _ => ?_
    show putAt (k.map Sum.inl) u (liftK x) = liftK (if x.1 = k then (x.1, x.2.1, u) else x)
    unfold putAt
    by_cases h : x.1 = k
    · rw [if_pos h, if_pos (show (liftK x).1 = _ from inl_inj.mpr h)]
      rfl
    · rw [if_neg h, if_neg (show ¬ (liftK x).1 = _ from fun z => h (inl_inj.mp z))]
  · rw [List.map_append]
    rfl
section
variable {K : Frg} {ms : List Addr} {F : Hp}
theorem DRl.len {kvs : List (List Int × D)} {xs : List (List Int × Addr × Value)} (h : DRl K ms F kvs xs) : kvs.length = xs.length := by
  induction h with
  | nil => rfl
  | cons _ _ _ _ ih => rw [List.length_cons, List.length_cons, ih]
theorem DRl.look {kvs : List (List Int × D)} {xs : List (List Int × Addr × Value)} (h : DRl K ms F kvs xs) (k : List Int) : (lookI kvs k = none ∧ xs.find? (fun x => decide (x.1 = k)) = none) ∨ ∃ d x v, lookI kvs k = some d ∧ xs.find? (fun x => decide (x.1 = k)) = some x ∧ RelV v x.2.2 ∧ Rp K ms F v d := by
  induction h with
  | nil => exact .inl ⟨rfl, rfl⟩
  | @cons k' b u v d kvs xs h1 h2 h3 _ ih =>
    by_cases e : k' = k
    · refine .inr ⟨d, (k', b, u), v, ?_, ?_, h2, h3⟩
      · unfold lookI; rw [List.find?_cons_of_pos (by exact decide_eq_true e)]; rfl
      · rw [List.find?_cons_of_pos (by exact decide_eq_true e)]
    · have e1 : lookI ((k', d) :: kvs) k = lookI kvs k := by unfold lookI; rw [List.find?_cons_of_neg (by simpa using e)]
      have e2 : ((k', b, u) :: xs).find? (fun x => decide (x.1 = k)) = xs.find? (fun x => decide (x.1 = k)) := by rw [List.find?_cons_of_neg (by simpa using e)]
      rw [e1, e2]
      exact ih
theorem DRl.some {kvs : List (List Int × D)} {xs : List (List Int × Addr × Value)} (h : DRl K ms F kvs xs) (k : List Int) : (lookI kvs k).isSome = xs.any fun x => decide (x.1 = k) := by
  rw [← any_find, Option.isSome_map]
  rcases h.look k with ⟨e1, e2⟩ | ⟨d, x, v, e1, e2, _⟩
  · rw [e1, e2]; rfl
  · rw [e1, e2]; rfl
theorem DRl.app {kvs kvs' : List (List Int × D)} {xs xs' : List (List Int × Addr × Value)} (h : DRl K ms F kvs xs) (h' : DRl K ms F kvs' xs') : DRl K ms F (kvs ++ kvs') (xs ++ xs') := by
  induction h with
  | nil => exact h'
  | cons a b c _ ih => exact .cons a b c ih
theorem DRl.mapPut {kvs : List (List Int × D)} {xs : List (List Int × Addr × Value)} {k : List Int} {u : Value} {v : V} {d : D} (h : DRl K ms F kvs xs) (hu : RelV v u) (hd : Rp K ms F v d) : DRl K ms F (kvs.map fun kv => if kv.1 = k then (kv.1, d) else kv) (xs.map fun x => if x.1 = k then (x.1, x.2.1, u) else x) := by
  induction h with
  | nil => exact .nil
  | @cons k' b' u' v' d' kvs xs h1 h2 h3 _ ih =>
    rw [List.map_cons, List.map_cons]
    by_cases e : k' = k
    · rw [if_pos e, if_pos e]
      exact .cons h1 hu hd ih
    · rw [if_neg e, if_neg e]
      exact .cons h1 h2 h3 ih
theorem DRl.put {kvs : List (List Int × D)} {xs : List (List Int × Addr × Value)} (h : DRl K ms F kvs xs) {k : List Int} {b : Addr} {u : Value} {v : V} {d : D} (hb : SqT K F b (k.map V.int)) (hu : RelV v u) (hd : Rp K ms F v d) : DRl K ms F (putI kvs k d) (putX xs k b u) := by
  unfold putI putX
  rw [h.some k]
  split
  · exact h.mapPut hu hd
  · exact h.app (.cons hb hu hd .nil)
end
def intsOf : List D → Option (List Int)
  | [] => some []
  | .int i :: ds => (intsOf ds).map (i :: ·)
  | _ => none
theorem intsOf_map : ∀ {ds : List D} {k : List Int}, intsOf ds = some k → ds = k.map D.int
  | [], _, h => by cases h; rfl
  | .int b :: ds, _, h => by
    unfold intsOf at h
    obtain ⟨r, h1, rfl⟩ := Option.map_eq_some_iff.mp h
    rw [intsOf_map h1]
    rfl
  | .non :: _, _, h => by simp [intsOf] at h
  | .str _ :: _, _, h => by simp [intsOf] at h
  | .bl _ :: _, _, h => by simp [intsOf] at h
  | .lst _ :: _, _, h => by simp [intsOf] at h
  | .tup _ :: _, _, h => by simp [intsOf] at h
  | .obj _ _ _ :: _, _, h => by simp [intsOf] at h
  | .ty _ :: _, _, h => by simp [intsOf] at h
  | .glob _ :: _, _, h => by simp [intsOf] at h
  | .tape :: _, _, h => by simp [intsOf] at h
  | .fn _ :: _, _, h => by simp [intsOf] at h
  | .dic _ _ :: _, _, h => by simp [intsOf] at h
def keyI (d : D) : Option (List Int) := match d with
  | .tup ds => intsOf ds
  | _ => none
theorem keyI_rp {K : Frg} {ms : List Addr} {F : Hp} {v : V} {d : D} {k : List Int} (h : keyI d = some k) (r : Rp K ms F v d) : ∃ b, v = .ref b ∧ SqT K F b (k.map V.int) := by
  unfold keyI at h
  split at h
  · have e := intsOf_map h
    subst e
    cases r with
    | tup h1 h2 => rw [h2.ints] at h1; exact ⟨_, rfl, h1⟩
  · cases h
section
variable {X : Cx} {B : Bs} {pins : List (Addr × Obj)} {σ : L2.St} {H F : Hp} {s : Shared}
theorem key_sq {b : Addr} {k : List Int} (I : L2.Inv X pins σ H s) (h : SqT X.K H b (k.map V.int)) : (tupleKind (mixKind X.prog X.w)).is s.heap (k.map Sum.inl) b := by
  obtain ⟨its, r, ⟨o, h1, h2, n, h3⟩, _⟩ := I.tuple h
  have e : k.map V.int = (k.map (Sum.inl : Int → Key)).map kV := by rw [List.map_map]; rfl
  rw [e] at r
  exact ⟨o, its.toArray, n, h1, h2, h3, by simpa using items_are r⟩
theorem dict_at {a : Addr} {es : Array DictEntry} {ep : Nat} {ms : List Addr} {kvs : List (List Int × D)} {xs : List (List Int × Addr × Value)} (I : L2.Inv X pins σ H s) (hs : Same F H) (ha : H a = some (dxO a es ep)) (r : DRl X.K ms F kvs xs) (he : es.toList = xs.map entI) (hn : (xs.map (·.1)).Nodup) : s.heap.DictOfH (tupleKind (mixKind X.prog X.w)) a (xs.map liftK) := by
  obtain ⟨⟨o, h1, h2, h3⟩, _⟩ := I.hok a _ ha
  refine ⟨o, es, ep, h1, h2, h3, ?_, fun x hx => ?_, ?_⟩
  · rw [he, List.map_map]
    exact List.map_congr_left fun x _ => (ent_lift X.prog X.w x).symm
  · obtain ⟨y, hy, rfl⟩ := List.mem_map.mp hx
    have key : ∀ {kvs : List (List Int × D)} {xs : List (List Int × Addr × Value)}, DRl X.K ms F kvs xs → ∀ y ∈ xs, SqT X.K F y.2.1 (y.1.map V.int) := by
      intro kvs xs h
      induction h with
      | nil => intro y hy; cases hy
      | cons h1 _ _ _ ih =>
        intro y hy
        rcases List.mem_cons.mp hy with e | hy
        · subst e; exact h1
        · exact ih y hy
    exact key_sq I (sqT hs (key r y hy))
  · exact nodup_lift.mpr hn
end
/-! ### the rules -/
def isD (i : Nat) (ρ : Ev) : Prop := ∃ kvs, ρ[i]? = some (.mu (.dct kvs))
def dgetM (i : Nat) (ρ : Ev) (kd : D) (Q : Option D → Prop) : Prop := match ρ[i]?, keyI kd with
  | some (.mu (.dct kvs)), some k => Q (lookI kvs k)
  | _, _ => False
theorem dgetM_of {i : Nat} {ρ : Ev} {kd : D} {Q : Option D → Prop} (h : dgetM i ρ kd Q) : ∃ kvs k, ρ[i]? = some (.mu (.dct kvs)) ∧ keyI kd = some k ∧ Q (lookI kvs k) := by
  unfold dgetM at h
  split at h
  · rename_i kvs k e1 e2
    exact ⟨kvs, k, e1, e2, h⟩
  · exact h.elim
def isSm (o : Option D) (Q : D → Prop) : Prop := match o with
  | some d => Q d
  | none => False
section
variable {X : Cx} {B : Bs} {e ev : Expr} {r rv : Rd} {pos p0 pv pos' tpos : Pos} {x : Str} {i k : Nat}
theorem up1 (hr : RoomG k X.A) : X.A.units + 1 < cLine := by have := hr.units; omega
theorem y_dget (hr : RoomG k X.A) (hv : PE X (.Name x pv) (tVar i)) (he : PEp X B e r) (hs : NoSl e) : PEp X B (.Subscript (.Name x pv) e pos) (fun ρ Q => isD i ρ ∧ r ρ fun kd => dgetM i ρ kd fun o => isSm o Q) := by
  refine ⟨fun pins s σ H Q I h => ?_⟩
  obtain ⟨F0, ρ, Qd, J, ⟨⟨kvs0, hk0⟩, z⟩, kk⟩ := h
  obtain ⟨a, o0, b1, b2, b3, b4, b5, _⟩ := J.own i _ hk0
  refine subD_of PySem.F.slot_dict_getitem.lookup hs (thn (hv.run pins s σ H (fun v H1 => v = .ref a ∧ H1 = H) I ⟨_, b1, rfl, rfl⟩) fun u s1 ⟨x1, H1, I1, rx, e1, e2⟩ => ?_)
  subst e1 e2
  refine thn (he.run pins s1 σ H1 (fun v H2 => ∃ F2 kd, Go B.ms F0 H1 F2 H2 ∧ Tp X.K B.ms F2 H2 ∧ Rp X.K B.ms F2 v kd ∧ dgetM i ρ kd fun o => isSm o Qd) I1 ⟨F0, ρ, _, J, z, fun v F2 H2 d g2 t2 r2 z2 => ⟨F2, d, g2, t2, r2, z2⟩⟩) fun iv s2 ⟨y, H2, I2, ry, F2, kd, g2, t2, r2, z2⟩ => ?_
  obtain rfl : u = Value.ref a := rx
  obtain ⟨kvs, k, c1, c2, z3⟩ := dgetM_of z2
  have J2 := J.step g2 t2
  obtain ⟨a', o', d1, d2, d3, d4, d5, es, ep, xs, rfl, d6, d7, d8, d9, d10⟩ := J2.own i _ c1
  rw [b1] at d1
  cases d1
  obtain ⟨b, rfl, hb⟩ := keyI_rp c2 r2
  obtain rfl : iv = Value.ref b := ry
  have dd := dict_at I2 t2.1 d5 d8 d9 d10
  refine ⟨dd.typeIs, ?_⟩
  rcases d8.look k with ⟨l1, _⟩ | ⟨d, xx, v, l1, l2, l3, l4⟩
  · rw [l1] at z3; exact z3.elim
  · rw [l1] at z3
    have hp : atKey (xs.map liftK) (k.map Sum.inl) = some xx.2 := by rw [at_lift, l2]; rfl
    exact wpAny_getItem_heap (tupleKind_room_in1 (up1 hr)) (key_sq I2 (sqT t2.1 hb)) dd hp ⟨v, H2, I2.tok _, l3, kk v F2 H2 d g2 t2 l4 z3⟩
theorem pc_dinM (hr : RoomG k X.A) (hv : PE X (.Name x pv) (tVar i)) (he : PEp X B e r) : PC X .In e (.Name x pv) (tE X.K B fun ρ Q => isD i ρ ∧ r ρ fun kd => dgetM i ρ kd fun o => Q (.bl o.isSome)) := by
  refine ⟨fun pins s σ H Q I h => ?_⟩
  obtain ⟨F0, ρ, Qd, J, ⟨⟨kvs0, hk0⟩, z⟩, kk⟩ := h
  refine thn (he.run pins s σ H (fun v H2 => ∃ F2 kd, Go B.ms F0 H F2 H2 ∧ Tp X.K B.ms F2 H2 ∧ Rp X.K B.ms F2 v kd ∧ dgetM i ρ kd fun o => Qd (.bl o.isSome)) I ⟨F0, ρ, _, J, z, fun v F2 H2 d g2 t2 r2 z2 => ⟨F2, d, g2, t2, r2, z2⟩⟩) fun iv s1 ⟨y, H1, I1, ry, F1, kd, g1, t1, r1, z1⟩ => ?_
  obtain ⟨kvs, k, c1, c2, z3⟩ := dgetM_of z1
  have J2 := J.step g1 t1
  obtain ⟨a, o', d1, d2, d3, d4, d5, es, ep, xs, rfl, d6, d7, d8, d9, d10⟩ := J2.own i _ c1
  refine thn (hv.run pins s1 σ H1 (fun v H2 => v = .ref a ∧ H2 = H1) I1 ⟨_, d1, rfl, rfl⟩) fun u s2 ⟨x2, H2, I2, rx, e1, e2⟩ => ?_
  subst e1 e2
  obtain rfl : u = Value.ref a := rx
  obtain ⟨b, rfl, hb⟩ := keyI_rp c2 r1
  obtain rfl : iv = Value.ref b := ry
  have dd := dict_at I2 t1.1 d5 d8 d9 d10
  refine wpAny_in_heap (tupleKind_room_in1 (up1 hr)) (key_sq I2 (sqT t1.1 hb)) d6 dd ?_
  rw [at_lift, any_find, ← d8.some k]
  exact ⟨.bl _, H2, I2.tok _, rfl, kk _ F1 H2 _ g1 t1 (.bl _) z3⟩
theorem pc_dninM (hr : RoomG k X.A) (hv : PE X (.Name x pv) (tVar i)) (he : PEp X B e r) : PC X .NotIn e (.Name x pv) (tE X.K B fun ρ Q => isD i ρ ∧ r ρ fun kd => dgetM i ρ kd fun o => Q (.bl (!o.isSome))) := by
  refine ⟨fun pins s σ H Q I h => ?_⟩
  obtain ⟨F0, ρ, Qd, J, ⟨⟨kvs0, hk0⟩, z⟩, kk⟩ := h
  refine thn (he.run pins s σ H (fun v H2 => ∃ F2 kd, Go B.ms F0 H F2 H2 ∧ Tp X.K B.ms F2 H2 ∧ Rp X.K B.ms F2 v kd ∧ dgetM i ρ kd fun o => Qd (.bl (!o.isSome))) I ⟨F0, ρ, _, J, z, fun v F2 H2 d g2 t2 r2 z2 => ⟨F2, d, g2, t2, r2, z2⟩⟩) fun iv s1 ⟨y, H1, I1, ry, F1, kd, g1, t1, r1, z1⟩ => ?_
  obtain ⟨kvs, k, c1, c2, z3⟩ := dgetM_of z1
  have J2 := J.step g1 t1
  obtain ⟨a, o', d1, d2, d3, d4, d5, es, ep, xs, rfl, d6, d7, d8, d9, d10⟩ := J2.own i _ c1
  refine thn (hv.run pins s1 σ H1 (fun v H2 => v = .ref a ∧ H2 = H1) I1 ⟨_, d1, rfl, rfl⟩) fun u s2 ⟨x2, H2, I2, rx, e1, e2⟩ => ?_
  subst e1 e2
  obtain rfl : u = Value.ref a := rx
  obtain ⟨b, rfl, hb⟩ := keyI_rp c2 r1
  obtain rfl : iv = Value.ref b := ry
  have dd := dict_at I2 t1.1 d5 d8 d9 d10
  refine wpAny_notIn_heap (tupleKind_room_in1 (up1 hr)) (key_sq I2 (sqT t1.1 hb)) d6 dd ?_
  rw [at_lift, any_find, ← d8.some k]
  exact ⟨.bl _, H2, I2.tok _, rfl, kk _ F1 H2 _ g1 t1 (.bl _) z3⟩
theorem z_dnin (hr : RoomG k X.A) (hv : PE X (.Name x pv) (tVar i)) (he : PEp X B e r) : PTp X B (.Compare e [.NotIn] [.Name x pv] pos) (fun ρ Q => isD i ρ ∧ r ρ fun kd => dgetM i ρ kd fun o => Q (!o.isSome)) :=
  pt_imp (pt_cmp (pc_dninM hr hv he) rfl) fun σ H Q ⟨F, ρ, Qd, I, ⟨hd, z⟩, kk⟩ => ⟨F, ρ, fun d => match d with | .bl b => Qd b | _ => False, I, ⟨hd, z⟩, fun v F1 H1 d g1 t1 r1 z1 => by
    cases d with
    | bl b => cases r1; exact ⟨b, rfl, kk b F1 H1 g1 t1 z1⟩
    | _ => exact z1.elim⟩
theorem z_din (hr : RoomG k X.A) (hv : PE X (.Name x pv) (tVar i)) (he : PEp X B e r) : PTp X B (.Compare e [.In] [.Name x pv] pos) (fun ρ Q => isD i ρ ∧ r ρ fun kd => dgetM i ρ kd fun o => Q o.isSome) :=
  pt_imp (pt_cmp (pc_dinM hr hv he) rfl) fun σ H Q ⟨F, ρ, Qd, I, ⟨hd, z⟩, kk⟩ => ⟨F, ρ, fun d => match d with | .bl b => Qd b | _ => False, I, ⟨hd, z⟩, fun v F1 H1 d g1 t1 r1 z1 => by
    cases d with
    | bl b => cases r1; exact ⟨b, rfl, kk b F1 H1 g1 t1 z1⟩
    | _ => exact z1.elim⟩
/-- x = {} -/
theorem s_dnew (h0 : Same B.F0 B.H0) {x : Str} (hN : X.N.Nodup) (hi : X.N[i]? = some x) (hx : Loc X.env.scope x) (hs : swapsWith (.Dict [] [] p0) (some (.Name x pos')) pos.line X.env = pure false := by rfl) (hf : X.fn x = true ∨ X.env.scope.names.lookup x = some .local := by first | exact .inl rfl | exact .inr rfl | assumption) :
    PSp X B (.Assign [.Name x pos'] (.Dict [] [] p0) pos) (fun ρ E => E.nx (ρ.set i (.mu (.dct [])))) := by
  have hnew : PE X (.Dict [] [] p0) (fun _ H Q => ∀ p H2, H p = none → (p == sysModules) = false → H2 = upd H p (dxO p #[] 0) → Q (.ref p) H2) := ⟨fun pins s σ H Q I h => by
    refine wpAny_Dict_empty ⟨.ref s.heap.objs.size, _, I.laid (a := s.heap.objs.size) (o := dxO s.heap.objs.size #[] 0) (t' := s.toks) (fun _ _ q => Heap.get?_push_of_some _ q) (Nat.le_refl _) ?_, rfl, h _ _ (I.hok.fresh (Nat.le_refl _)) (beq_eq_false_iff_ne.mpr (Ne.symm (Nat.ne_of_lt I.big))) rfl⟩
    refine ⟨⟨_, Heap.get?_push_size _ rfl, ⟨rfl, rfl, rfl⟩, rfl⟩, ⟨_, Heap.get?_push_size _ rfl⟩, ?_⟩
    rintro h1 h2 ⟨o, e1, e2⟩ kk
    exact ⟨o, kk o e1, e2⟩⟩
  exact ps_imp (ps_set hN hi hx hnew hs hf) fun σ H Dd ⟨F, ρ, E, I, z, kn, kr, kb, kc⟩ => fun p H2 hp hm e2 => kn _ _ F H2 (fun _ _ e => e) (I.newM (m := .dct []) h0 i hp e2 ⟨#[], 0, [], rfl, hm, Nat.zero_le _, .nil, rfl, List.nodup_nil⟩) z
def dputM (i : Nat) (ρ : Ev) (kd d : D) (Q : Ev → Prop) : Prop := match ρ[i]?, keyI kd with
  | some (.mu (.dct kvs)), some k => kvs.length < 100000 ∧ Q (ρ.set i (.mu (.dct (putI kvs k d))))
  | _, _ => False
theorem putI_len (kvs : List (List Int × D)) (k : List Int) (d : D) : (putI kvs k d).length ≤ kvs.length + 1 := by
  unfold putI
  split
  · rw [List.length_map]; omega
  · rw [List.length_append]; exact Nat.le_refl _
/-- x[e] = ev -/
theorem s_dput (hr : RoomG k X.A) (hv : PE X (.Name x pv) (tVar i)) (he : PEp X B e r) (hev : PEp X B ev rv) (hs : swapsWith ev (some (.Subscript (.Name x pv) e pos')) pos.line X.env = pure false := by rfl) :
    PSp X B (.Assign [.Subscript (.Name x pv) e pos'] ev pos) (fun ρ E => isD i ρ ∧ rv ρ fun d => r ρ fun kd => dputM i ρ kd d E.nx) := by
  refine ⟨fun pins s σ H Dd I h => ?_⟩
  obtain ⟨F0, ρ, E, J, ⟨⟨kvs0, hk0⟩, z⟩, kn, kr, kb, kc⟩ := h
  refine wpAny_Assign_Subscript (thn (hev.run pins s σ H (fun v H2 => ∃ F2 d, Go B.ms F0 H F2 H2 ∧ Tp X.K B.ms F2 H2 ∧ Rp X.K B.ms F2 v d ∧ r ρ fun kd => dputM i ρ kd d E.nx) I ⟨F0, ρ, _, J, z, fun v F2 H2 d g2 t2 r2 z2 => ⟨F2, d, g2, t2, r2, z2⟩⟩) fun r0 s1 ⟨v, H1, I1, rv1, F1, d, g1, t1, r1, z1⟩ => ?_) hs
  have J1 := J.step g1 t1
  obtain ⟨a, o0, b1, b2, b3, b4, b5, _⟩ := J1.own i _ hk0
  refine thn (hv.run pins s1 σ H1 (fun v H2 => v = .ref a ∧ H2 = H1) I1 ⟨_, b1, rfl, rfl⟩) fun u s2 ⟨x2, H2, I2, rx, e1, e2⟩ => ?_
  subst e1 e2
  obtain rfl : u = Value.ref a := rx
  refine thn (he.run pins s2 σ H2 (fun v H3 => ∃ F3 kd, Go B.ms F1 H2 F3 H3 ∧ Tp X.K B.ms F3 H3 ∧ Rp X.K B.ms F3 v kd ∧ dputM i ρ kd d E.nx) I2 ⟨F1, ρ, _, J1, z1, fun v F2 H2 d g2 t2 r2 z2 => ⟨F2, d, g2, t2, r2, z2⟩⟩) fun iv s3 ⟨y, H3, I3, ry, F3, kd, g3, t3, r3, z3⟩ => ?_
  unfold dputM at z3
  split at z3
  · rename_i kvs k c1 c2
    have J3 := J1.step g3 t3
    obtain ⟨a', o', d1, d2, d3, d4, d5, es, ep, xs, rfl, d6, d7, d8, d9, d10⟩ := J3.own i _ c1
    rw [b1] at d1
    cases d1
    obtain ⟨b, rfl, hb⟩ := keyI_rp c2 r3
    obtain rfl : iv = Value.ref b := ry
    have dd := dict_at I3 t3.1 d5 d8 d9 d10
    have hz : (xs.map liftK).length ≤ sizeLine := by rw [List.length_map, ← d8.len]; exact Nat.le_trans d7 line_ge
    refine wpAny_setItem_heap (hsz := hz) (tupleKind_room_in1 (up1 hr)) (key_sq I3 (sqT t3.1 hb)) dd fun h' dd' hs' => ?_
    obtain ⟨q, es', ep', hq, h2, h3, h4, _, h5⟩ := dd'
    rw [stored_lift] at h4 h5
    have e4 : es'.toList = (putX xs k b r0).map entI := by
      rw [h4, List.map_map]
      exact List.map_congr_left fun x _ => ent_lift X.prog X.w x
    have n5 : ((putX xs k b r0).map (·.1)).Nodup := nodup_lift.mp h5
    have I4 : L2.Inv X pins σ (upd H3 a (dxO a es' ep')) { s3 with heap := h', toks := s3.toks + (tupleKind (mixKind X.prog X.w)).draws (k.map Sum.inl) } := by
      refine d_write I3 (by rw [d5]; exact True.intro) hs' ⟨q, hq⟩ ⟨⟨q, hq, h2, h3⟩, ⟨q, hq⟩, ?_⟩
      rintro h1 h2 ⟨o, e1, e2⟩ kk
      exact ⟨o, kk o e1, e2⟩
    have J4 := J3.put (m' := .dct (putI kvs k d)) i c1 b1 rfl (⟨es', ep', putX xs k b r0, rfl, d6, Nat.le_trans (putI_len kvs k d) z3.1, d8.put hb rv1 (r1.up g3.ff), e4, n5⟩ : MoR X.K B.ms F3 a (.dct (putI kvs k d)) (dxO a es' ep'))
    exact ⟨σ, _, I4, kn σ _ F3 _ (fun b u e => g3.ff b u (g1.ff b u e)) J4 z3.2⟩
  · exact z3.elim
end
end Y
namespace Y
open PySem PySem.Spec PyProof.Rows L2 Z
/-! ### own lists: pop, + , != [] -/
theorem go_unf {F H F2 H2 : Hp} {a : Addr} {o : HO} (fa : F a = none) (ha : H a = some o) (g : Go [] (upd F a o) H F2 H2) : ∃ F3, Go [] F H F3 H2 := by
  refine ⟨fun b => if b = a then none else F2 b, fun b u e => ?_, fun b u e => ?_, fun b u _ e1 e2 => ?_⟩
  · have hb : b ≠ a := fun z => by rw [z, fa] at e; cases e
    show (if b = a then none else F2 b) = some u
    rw [if_neg hb]
    exact g.ff b u (by rw [upd_ne hb]; exact e)
  · have e' : (if b = a then none else F2 b) = some u := e
    by_cases hb : b = a
    · rw [if_pos hb] at e'; cases e'
    · rw [if_neg hb] at e'; exact g.fh b u e'
  · show (if b = a then none else F2 b) = none ∧ _
    by_cases hb : b = a
    · subst hb
      rw [if_pos rfl]
      rw [ha] at e2
      cases e2
      exact ⟨rfl, g.fh b _ (g.ff b _ upd_same)⟩
    · rw [if_neg hb]
      exact g.mu b u (fun z => nomatch z) (by rw [upd_ne hb]; exact e1) e2
def isL (i : Nat) (ρ : Ev) : Prop := ∃ ds, ρ[i]? = some (.mu (.lst ds))
def catM (i : Nat) (ρ : Ev) (d : D) (Q : Ev → Prop) : Prop := match ρ[i]?, d with
  | some (.mu (.lst ds)), .lst es => ds.length + es.length ≤ 100000 ∧ Q (ρ.set i (.mu (.lst (ds ++ es))))
  | _, _ => False
def popM (i j : Nat) (ρ : Ev) (Q : Ev → Prop) : Prop := match ρ[i]? with
  | some (.mu (.lst ds)) => (match ds[ds.length - 1]? with
    | some d => Q ((ρ.set i (.mu (.lst ds.dropLast))).set j (.val d))
    | none => False)
  | _ => False
def neE (i : Nat) (ρ : Ev) (Q : D → Prop) : Prop := match ρ[i]? with
  | some (.mu (.lst ds)) => okD 8 (.lst ds) = true ∧ Q (.bl (!ds.isEmpty))
  | _ => False
theorem Rps.last {K : Frg} {ms : List Addr} {F : Hp} : ∀ {vs : List V} {ds : List D}, Rps K ms F vs ds → Rps K ms F vs.dropLast ds.dropLast
  | _, _, .nil => .nil
  | _, _, .cons h .nil => .nil
  | _, _, .cons h (.cons h1 h2) => .cons h (Rps.last (.cons h1 h2))
def isLs (l : D) (k : Prop) : Prop := match l with
  | .lst _ => k
  | _ => False
def dIndex (l d : D) (Q : D → Prop) : Prop := match l with
  | .lst ds => ∃ (j : Nat) (z : D), (okD 8 (.lst ds) = true ∧ okD 8 d = true) ∧ ds[j]? = some z ∧ eqD z d = true ∧ (∀ (m : Nat) (z' : D), m < j → ds[m]? = some z' → eqD z' d = false) ∧ Q (.int (j : Nat))
  | _ => False
theorem pds_get : ∀ {ds : List D} {es : List PyData}, pds ds = some es → ∀ (j : Nat), (∀ z, ds[j]? = some z → ∃ e, pd z = some e ∧ es[j]? = some e) ∧ (∀ e, es[j]? = some e → ∃ z, ds[j]? = some z ∧ pd z = some e)
  | [], _, h, j => by
    cases h
    exact ⟨fun z h => by simp at h, fun e h => by simp at h⟩
  | d :: ds, _, h, j => by
    obtain ⟨a, r, h1, h2, rfl⟩ := pds_cons h
    cases j with
    | zero => exact ⟨fun z hz => by simp at hz; subst hz; exact ⟨a, h1, rfl⟩, fun e he => by simp at he; subst he; exact ⟨d, rfl, h1⟩⟩
    | succ j =>
      obtain ⟨p, q⟩ := pds_get h2 j
      exact ⟨fun z hz => by simp at hz; simpa using p z hz, fun e he => by simp at he; simpa using q e he⟩
section
variable {X : Cx} {B : Bs} {a b c e o : Expr} {ra rb r ro : Rd} {pos p0 apos cpos pv pos' lp : Pos} {x y : Str} {i j k : Nat}
/-- x = x + e -/
theorem s_cat (h0 : Same B.F0 B.H0) (hv : PE X (.Name x pv) (tVar i)) (hN : X.N.Nodup) (hi : X.N[i]? = some x) (hx : Loc X.env.scope x) (he : PEp X B e r) (hs : swapsWith (.BinOp (.Name x pv) .Add e p0) (some (.Name x pos')) pos.line X.env = pure false := by rfl) (hf : X.fn x = true ∨ X.env.scope.names.lookup x = some .local := by first | exact .inl rfl | exact .inr rfl | assumption) :
    PSp X B (.Assign [.Name x pos'] (.BinOp (.Name x pv) .Add e p0) pos) (fun ρ E => isL i ρ ∧ r ρ fun d => catM i ρ d E.nx) :=
  ps_imp (ps_set hN hi hx (pe_op op_catZ hv he) hs hf) fun σ H Dd ⟨F, ρ, E, I, ⟨⟨ds0, hd0⟩, z⟩, kn, kr, kb, kc⟩ => by
    obtain ⟨a, oo, ha, fa, nm, h00, h5, _⟩ := I.own i _ hd0
    refine ⟨.ref a, ha, F, ρ, _, I, z, fun v F1 H1 d g1 t1 r1 z1 => ?_⟩
    have I1 := I.step g1 t1
    unfold catM at z1
    split at z1
    · rename_i ds es e1
      obtain ⟨a', o', b1, b2, b3, b4, b5, vs, rfl, b6⟩ := I1.own i _ e1
      rw [ha] at b1
      cases b1
      cases r1 with
      | @lst l ws _ h1 h2 =>
        refine ⟨a, l, vs, ws, rfl, rfl, b5, t1.1 _ _ h1, Nat.le_trans (by rw [b6.len, h2.len]; exact z1.1) line_ge, fun p H2 hp e2 => ?_⟩
        exact kn _ _ F1 H2 g1.ff (I1.newM (m := .lst (ds ++ es)) h0 i hp e2 ⟨_, rfl, b6.app h2⟩) z1.2
    · exact z1.elim
/-- y = x.pop() -/
theorem s_pop (hv : PE X (.Name x pv) (tVar i)) (hN : X.N.Nodup) (hj : X.N[j]? = some y) (hy : Loc X.env.scope y) (hbase : attributeBase (.Name x pv) "pop" X.env (eval (.Name x pv) X.env) = eval (.Name x pv) X.env := by rfl) (hline : (apos.endLine == cpos.line) = true := by rfl)
    (hs : swapsWith (.Call (.Attribute (.Name x pv) "pop" apos) [] [] cpos) (some (.Name y pos')) pos.line X.env = pure false := by rfl) (hf : X.fn y = true ∨ X.env.scope.names.lookup y = some .local := by first | exact .inl rfl | exact .inr rfl | assumption) :
    PSp X B (.Assign [.Name y pos'] (.Call (.Attribute (.Name x pv) "pop" apos) [] [] cpos) pos) (fun ρ E => popM i j ρ E.nx) :=
  ps_imp (ps_set hN hj hy (pe_bm0 PySem.F.plainAttrs_list PySem.F.slot_list_pop PySem.F.type_list_pop mt_pop hv hbase hline) hs hf) fun σ H Dd ⟨F, ρ, E, I, z, kn, kr, kb, kc⟩ => by
    change popM i j ρ E.nx at z
    unfold popM at z
    split at z
    · rename_i ds e1
      split at z
      · rename_i d e2
        obtain ⟨a, oo, ha, fa, nm, h00, h5, vs, rfl, b6⟩ := I.own i _ e1
        obtain ⟨v, v1, v2⟩ := b6.get e2
        rw [← b6.len] at v1
        refine ⟨.ref a, ha, .inl ⟨rfl, _, SqL.of h5⟩, a, vs, v, rfl, rfl, h5, v1, ?_⟩
        have I2 := I.put (m' := .lst ds.dropLast) i e1 ha (rfl : upd H a (.lst vs.dropLast) = _) ⟨_, rfl, Rps.last b6⟩
        exact kn _ _ F _ (fun _ _ e => e) (I2.set j v2) z
      · exact z.elim
    · exact z.elim
/-- x != [] -/
theorem z_neE (hr : RoomG k X.A) (hv : PE X (.Name x pv) (tVar i)) (hm : behindInMarks .NotEq (.List [] lp) = false := by rfl) : PTp X B (.Compare (.Name x pv) [.NotEq] [.List [] lp] pos) (fun ρ Q => neE i ρ fun d => tst d Q) := by
  refine pt_imp (pt_cmpR (op_neY hr.units) hv (pe_lstZ pa_nil) hm) (tTest_of (r := fun ρ Q => neE i ρ Q) fun σ H Q h => ?_)
  obtain ⟨F, ρ, Qd, I, z, kk⟩ := h
  have z' : neE i ρ Qd := z
  clear z
  unfold neE at z'
  split at z'
  · rename_i ds e1
    obtain ⟨a, oo, ha, fa, nm, h00, h5, vs, rfl, b6⟩ := I.own i _ e1
    refine ⟨.ref a, ha, Nat.zero_le _, fun p H2 hp e2 => ?_⟩
    obtain ⟨F2, g2, q2, _⟩ := newE I.same hp e2
    obtain ⟨f2, h2⟩ := g2.mu a _ (fun z => nomatch z) fa h5
    have s3 : Same (upd F2 a (.lst vs)) H2 := fun b u e => by
      by_cases hb : b = a
      · subst hb
        rw [upd_same] at e
        cases e
        exact h2
      · rw [upd_ne hb] at e
        exact g2.fh b u e
    have s2 : Same F2 (upd F2 a (.lst vs)) := fun b u e => by
      have hb : b ≠ a := fun z => by rw [z, f2] at e; cases e
      rw [upd_ne hb]
      exact e
    have hpa : p ≠ a := fun z => by rw [z, h5] at hp; cases hp
    have ra : Rp X.K B.ms (upd F2 a (.lst vs)) (.ref a) (.lst ds) := .lst upd_same ((b6.up g2.ff).up s2)
    have rp : Rp X.K B.ms (upd F2 a (.lst vs)) (.ref p) (.lst []) := .lst (by rw [upd_ne hpa]; exact q2) .nil
    refine neL (upd F2 a (.lst vs)) H2 _ _ _ _ (fun d => ∃ b, d = .bl b ∧ Qd d) Q s3 ra rp ?_ fun v F' H' d g' r' q' => ?_
    · refine ⟨⟨z'.1, rfl⟩, ?_⟩
      have : eqD (.lst ds) (.lst []) = ds.isEmpty := by cases ds <;> simp [eqD, eqDs]
      rw [this]
      exact ⟨_, rfl, z'.2⟩
    · obtain ⟨b, rfl, qb⟩ := q'
      cases r'
      obtain ⟨F3, g3⟩ := go_unf f2 h2 g'
      exact kk _ F3 H' _ (g2.trans g3).nil (I.tp.go0 (g2.trans g3)) (.bl b) qb
  · exact z'.elim
/-- l.index(e) -/
theorem y_index (hr : RoomG k X.A) (ho : PEp X B o ro) (he : PEp X B e r) (h1 : starEach [e] X.env = (false, eval e X.env) :: starEach [] X.env := by rfl)
    (hba : attributeBase o "index" X.env (eval o X.env) = eval o X.env := by rfl) (hline : (apos.endLine == cpos.line) = true := by rfl)
    (hfew : ((backTo cpos (starEach [e] X.env)).all (fun x => !x.1) && (backToKw cpos (keywordEach [] X.env)).all (fun x => x.1.isSome) && decide (([e] : List Expr).length + ([] : List Keyword).length + (if ([] : List Keyword).isEmpty then 0 else 1) < 30)) = true := by rfl) :
    PEp X B (.Call (.Attribute o "index" apos) [e] [] cpos) (fun ρ Q => ro ρ fun l => isLs l (r ρ fun d => dIndex l d Q)) :=
  pe_imp (pe_bm PySem.F.plainAttrs_list PySem.F.slot_list_index PySem.F.type_list_index (mt_indexD (hu65 hr)) ho (pa_cons he pa_nil h1) hba hfew hline h1 rfl) fun σ H Q ⟨F, ρ, Qd, I, z, kk⟩ => ⟨F, ρ, _, I, z, fun v F1 H1 l g1 t1 r1 z1 => by
    unfold isLs at z1
    split at z1
    · rename_i ds
      have r1' := r1
      cases r1 with
      | @lst p ws _ q1 q2 =>
        refine ⟨.inl ⟨rfl, _, SqL.of (t1.1 _ _ q1)⟩, F1, ρ, _, I.step g1 t1, z1, fun v2 F2 H2 d g2 t2 r2 z2 => ?_⟩
        obtain ⟨j, z, ⟨o1, o2⟩, hz, hq, hno, q⟩ := z2
        obtain ⟨e1, a1, a2, a3⟩ := okD_pd 8 _ o2
        obtain ⟨e2, b1, b2, b3⟩ := okD_pd 8 _ o1
        simp [pd] at b1
        obtain ⟨es, b1, rfl⟩ := b1
        obtain ⟨ez, z1, z2⟩ := (pds_get b1 j).1 z hz
        refine ⟨p, v2, e1, es, j, ez, rfl, rfl, dp_mono t2.1 _ _ (dp_of (K := X.K) (ms := B.ms) _ _ _ (by simp [pd, b1]) (r1'.up g2.ff)), dp_mono t2.1 _ _ (dp_of _ _ _ a1 r2), shaped_of b2 b3 (by decide), shaped_of a2 a3 (by decide), z2, ?_, fun m e' hm hme => ?_, kk _ F2 H2 _ (g1.trans g2) t2 (.int _) q⟩
        · rw [← eqD_pd _ _ _ _ z1 a1]; exact hq
        · obtain ⟨z', w1, w2⟩ := (pds_get b1 m).2 e' hme
          rw [← eqD_pd _ _ _ _ w2 a1]
          exact hno m z' hm w1
    · exact z1.elim⟩
end
end Y
namespace Y
open PySem PySem.Spec PyProof.Rows L2 Z
/-! ### a class and a subclass of it, with one == -/
structure Two (K : Frg) (C C' g : Addr) : Prop where
  s1 : PySem.W.findIn K (.ref C) "__eq__" = some (some (.ref g))
  s2 : PySem.W.findIn K (.ref C') "__eq__" = some (some (.ref g))
  fn : PySem.W.isFn K (.ref g) = true
  n1 : PySem.W.findIn K (.ref C) "__ne__" = some (some (.builtin "object.__ne__"))
  n2 : PySem.W.findIn K (.ref C') "__ne__" = some (some (.builtin "object.__ne__"))
  o1 : PySem.W.mroIn K C (.type "object") = some true
  o2 : PySem.W.mroIn K C' (.type "object") = some true
  su : PySem.W.subIn K (.ref C') (.ref C) = some true
  nf : PySem.W.notFirst K C' (.ref C) = true
  ne : C ≠ C'
def bTwo (x y : Str) : Frg → Bool := fun K => He.eqO (PySem.W.findIn K (.ref (He.ga K x)) "__eq__") (some (some (.ref (He.ma K (He.ga K x) "__eq__")))) && (He.eqO (PySem.W.findIn K (.ref (He.ga K y)) "__eq__") (some (some (.ref (He.ma K (He.ga K x) "__eq__")))) &&
  (PySem.W.isFn K (.ref (He.ma K (He.ga K x) "__eq__")) && (He.eqO (PySem.W.findIn K (.ref (He.ga K x)) "__ne__") (some (some (.builtin "object.__ne__"))) && (He.eqO (PySem.W.findIn K (.ref (He.ga K y)) "__ne__") (some (some (.builtin "object.__ne__"))) &&
  (decide (PySem.W.mroIn K (He.ga K x) (.type "object") = some true) && (decide (PySem.W.mroIn K (He.ga K y) (.type "object") = some true) && (decide (PySem.W.subIn K (.ref (He.ga K y)) (.ref (He.ga K x)) = some true) && (PySem.W.notFirst K (He.ga K y) (.ref (He.ga K x)) && decide (He.ga K x ≠ He.ga K y)))))))))
theorem two_of {K : Frg} {x y : Str} (h : bTwo x y K = true) : Two K (He.ga K x) (He.ga K y) (He.ma K (He.ga K x) "__eq__") := by
  obtain ⟨h1, h⟩ := He.ba h
  obtain ⟨h2, h⟩ := He.ba h
  obtain ⟨h3, h⟩ := He.ba h
  obtain ⟨h4, h⟩ := He.ba h
  obtain ⟨h5, h⟩ := He.ba h
  obtain ⟨h6, h⟩ := He.ba h
  obtain ⟨h7, h⟩ := He.ba h
  obtain ⟨h8, h⟩ := He.ba h
  obtain ⟨h9, h10⟩ := He.ba h
  exact ⟨He.eqO_ok h1, He.eqO_ok h2, h3, He.eqO_ok h4, He.eqO_ok h5, of_decide_eq_true h6, of_decide_eq_true h7, of_decide_eq_true h8, h9, of_decide_eq_true h10⟩
def bMeth2 (x y m : Str) : Frg → Bool := fun K => bMeth x m K && decide (He.ma K (He.ga K x) m = He.ma K (He.ga K y) m)
theorem meth2_of {K : Frg} {x y m : Str} (h : bMeth2 x y m K = true) : Meth K (He.ga K x) m (He.ma K (He.ga K y) m) := by
  obtain ⟨h1, h2⟩ := He.ba h
  rw [← of_decide_eq_true h2]
  exact meth_of h1
def bProp2 (x y f : Str) : Frg → Bool := fun K => bProp x f K && (decide (He.ma K (He.ga K x) f = He.ma K (He.ga K y) f) && decide (He5.wf K (He.ga K x) "property" f = He5.wf K (He.ga K y) "property" f))
theorem prop2_of {K : Frg} {x y f : Str} (h : bProp2 x y f K = true) : PropOf K (He.ga K x) f (He.ma K (He.ga K y) f) (He5.wf K (He.ga K y) "property" f) := by
  obtain ⟨h1, h⟩ := He.ba h
  obtain ⟨h2, h3⟩ := He.ba h
  rw [← of_decide_eq_true h2, ← of_decide_eq_true h3]
  exact prop_of h1
def bKt (x y : Str) (b : Bool) : Frg → Bool := fun K => decide (PySem.W.kitOne K (.ref (He.ga K x)) (.ref (He.ga K y)) = some b)
theorem kt_of {K : Frg} {x y : Str} {b : Bool} (h : bKt x y b K = true) : PySem.W.kitOne K (.ref (He.ga K x)) (.ref (He.ga K y)) = some b := of_decide_eq_true h
def bNf (x y : Str) : Frg → Bool := fun K => PySem.W.notFirst K (He.ga K x) (.ref (He.ga K y))
theorem nf_of {K : Frg} {x y : Str} (h : bNf x y K = true) : PySem.W.notFirst K (He.ga K x) (.ref (He.ga K y)) = true := h
def rEqT (neg : Bool) (K : PySem.W.Frag) (C C' : Addr) (sp : Sp) (E : XK) : R2 := fun x y H Q => ∃ a dx fs c, x = .ref a ∧ H a = some (.ins c dx fs) ∧ (c = C ∨ c = C') ∧
  ((∃ t, TyX K H y t ∧ PySem.W.notFirst K c t = true ∧ sp [.ref a, y] H (fun v H' => ∃ b, v = .bl b ∧ Q (.bl (if neg then !b else b)) H') E) ∨
   (c = C ∧ ∃ b dy gs, y = .ref b ∧ H b = some (.ins C' dy gs) ∧ sp [.ref b, .ref a] H (fun v H' => ∃ b, v = .bl b ∧ Q (.bl (if neg then !b else b)) H') E))
section
variable {X : Cx} {CX : CXT} {k : Nat} {g C C' : Addr} {sp : Sp} {E : XK}
theorem gop_eqT (W : Two X.K C C' g) (F : FnA X.A X.prog X.w X.K X.mg X.base CX g sp) (hu : X.A.units + 64 < cLine) (hx : Passes CX X E) : OpR X (compareOp .Eq) (rEqT false X.K C C' sp E) := by
  intro pins s σ H x y v u Q I rx ry h
  obtain ⟨a, dx, fs, c, rfl, ea, hc, h⟩ := h
  rcases h with ⟨t, ty, hn, q⟩ | ⟨rfl, b, dy, gs, rfl, eb, q⟩
  · rcases hc with rfl | rfl
    · exact gop_eq W.s1 W.fn F hu hx pins s σ H _ y v u Q I rx ry ⟨a, dx, fs, t, rfl, ea, ty, hn, q⟩
    · exact gop_eq W.s2 W.fn F hu hx pins s σ H _ y v u Q I rx ry ⟨a, dx, fs, t, rfl, ea, ty, hn, q⟩
  · cases (show v = Value.ref a from rx)
    cases (show u = Value.ref b from ry)
    obtain ⟨mA, O, _, _, _, _⟩ := ins_get I.hok ea
    obtain ⟨od, J, _⟩ := O.look
    obtain ⟨mB, O', _, _, _, _⟩ := ins_get I.hok eb
    obtain ⟨od', J', _⟩ := O'.look
    have one : wpAny (model X.prog X.w) X.A (tryCompare (.ref b) "__eq__" (.ref a)) (fun r s' => ∃ b, r = some b ∧ EP X pins σ Q b s') X.xe s := by
      unfold tryCompare
      refine wpAny_bind (PySem.W.ifBound_K I.kIn J' W.s2 W.fn ?_)
      refine wpAny_mono (wpAny_call (run_fnA (us := [.ref b, .ref a]) (vs := [.ref b, .ref a]) F hx I (.cons rfl (.cons rfl .nil)) q)) (fun w s' z => ?_) fun _ _ x => x
      obtain ⟨z', H', I', rz, b, rfl, qz⟩ := z
      cases (show w = Value.bool b from rz)
      exact wpAny_pure ⟨_, rfl, .bl b, H', I', rfl, qz⟩
    show wpAny (model X.prog X.w) X.A (richCompare .Eq (.ref a) (.ref b)) (EP X pins σ Q) X.xe s
    unfold richCompare
    simp only [oneThing_ref]
    refine wpAny_holding (wpAny_bind (wpAny_cRoomFor (by omega) ?_))
    refine wpAny_bind (J.type.here (wpAny_bind (J'.type.here ?_)))
    split
    · refine wpAny_bind ((PySem.W.looks_subIn I.kIn W.su).here ?_)
      simp only [if_true]
      refine wpAny_bind (wpAny_mono one (fun r s' z => ?_) fun _ _ e => e)
      obtain ⟨v, rfl, hq⟩ := z
      exact wpAny_bind (wpAny_rule (wpAny_pure hq))
    · rename_i q
      exact absurd (by simpa using q) W.ne
theorem gop_neT (W : Two X.K C C' g) (F : FnA X.A.in1 X.prog X.w X.K X.mg X.base CX g sp) (hu : X.A.units + 64 < cLine) (hx : Passes CX X E) : OpR X (compareOp .NotEq) (rEqT true X.K C C' sp E) := by
  intro pins s σ H x y v u Q I rx ry h
  obtain ⟨a, dx, fs, c, rfl, ea, hc, h⟩ := h
  rcases h with ⟨t, ty, hn, q⟩ | ⟨rfl, b, dy, gs, rfl, eb, q⟩
  · rcases hc with rfl | rfl
    · exact gop_ne W.n1 W.o1 W.s1 W.fn F hu hx pins s σ H _ y v u Q I rx ry ⟨a, dx, fs, t, rfl, ea, ty, hn, q⟩
    · exact gop_ne W.n2 W.o2 W.s2 W.fn F hu hx pins s σ H _ y v u Q I rx ry ⟨a, dx, fs, t, rfl, ea, ty, hn, q⟩
  · cases (show v = Value.ref a from rx)
    cases (show u = Value.ref b from ry)
    obtain ⟨mA, O, _, _, _, _⟩ := ins_get I.hok ea
    obtain ⟨od, J, _⟩ := O.look
    obtain ⟨mB, O', _, _, _, _⟩ := ins_get I.hok eb
    obtain ⟨od', J', _⟩ := O'.look
    have one : wpAny (model X.prog X.w) X.A (tryCompare (.ref b) "__ne__" (.ref a)) (fun r s' => ∃ b, r = some b ∧ EP X pins σ Q b s') X.xe s := by
      refine ne_try (by omega) I.kIn J' W.n2 W.o2 W.s2 W.fn ?_
      refine codeAny_mono (run_A (us := [.ref b, .ref a]) (vs := [.ref b, .ref a]) F I.env0.in1 hx I (.cons rfl (.cons rfl .nil)) q) fun r s' z => ?_
      cases r with
      | error e => exact z
      | ok fl =>
        cases fl with
        | ret w =>
          obtain ⟨z', H', I', rz, b, rfl, qz⟩ := z
          cases (show w = Value.bool b from rz)
          exact ⟨b, rfl, _, rfl, .bl (!b), H', I', rfl, qz⟩
        | next => exact z
        | brk => exact z
        | cont => exact z
    show wpAny (model X.prog X.w) X.A (richCompare .NotEq (.ref a) (.ref b)) (EP X pins σ Q) X.xe s
    unfold richCompare
    simp only [oneThing_ref]
    refine wpAny_holding (wpAny_bind (wpAny_cRoomFor (by omega) ?_))
    refine wpAny_bind (J.type.here (wpAny_bind (J'.type.here ?_)))
    split
    · refine wpAny_bind ((PySem.W.looks_subIn I.kIn W.su).here ?_)
      simp only [if_true]
      refine wpAny_bind (wpAny_mono one (fun r s' z => ?_) fun _ _ e => e)
      obtain ⟨v, rfl, hq⟩ := z
      exact wpAny_bind (wpAny_rule (wpAny_pure hq))
    · rename_i q
      exact absurd (by simpa using q) W.ne
end
section
variable {K : Frg} {B : Bs} {R : RdF}
/-- == and != of a class or its subclass: the right one any value with a type that is known -/
def dEqT (B : Bs) (R : RdF) (neg : Bool) (C C' : Str) (ns cs : List Str) (x y : D) (Q : D → Prop) : Prop := asO [C, C'] ns x ((match y with | .obj c _ _ => c ∈ C :: C' :: cs | .ty _ | .glob _ | .tape | .fn _ => False | _ => True) ∧ R [x, y] (fun d => tst d fun b => Q (.bl (neg != b))) B.Ed)
theorem eqTL {C C' : Str} {ns cs : List Str} {neg : Bool} {g : Addr} (W : Two K (He.ga K C) (He.ga K C') g) (hC : OwnC K C) (hC' : OwnC K C') (hc : ∀ c ∈ cs, OwnC K c ∧ PySem.W.notFirst K (He.ga K C) (.ref (He.ga K c)) = true ∧ PySem.W.notFirst K (He.ga K C') (.ref (He.ga K c)) = true)
    (hs : ∀ x y Q E, R [x, y] Q E → ∀ ns ds, y = .obj C' ns ds → R [y, x] Q E) : OpI K B (rEqT neg K (He.ga K C) (He.ga K C') (spP K R) (EE K B)) (dEqT B R neg C C' ns cs) := by
  intro F H x y dx dy Qd Q g0 t0 rx ry h k
  obtain ⟨a, d1, f1, c1, rfl, hc1, h1, ht, hh⟩ := asO_of rx h
  have fin : ∀ v F' H' d, Go B.ms F H F' H' → Tp K B.ms F' H' → Rp K B.ms F' v d → (tst d fun b => Qd (.bl (neg != b))) → ∃ b, v = .bl b ∧ Q (.bl (if neg then !b else b)) H' := fun v F' H' d g t r q => by
    unfold tst at q
    split at q
    · cases r
      refine ⟨_, rfl, k _ F' H' _ g t (.bl _) ?_⟩
      cases neg <;> simpa using q
    · exact q.elim
  have c2 : He.ga K c1 = He.ga K C ∨ He.ga K c1 = He.ga K C' := by
    rcases List.mem_cons.mp hc1 with z | z
    · exact .inl (by rw [z])
    rcases List.mem_cons.mp z with z | z
    · exact .inr (by rw [z])
    cases z
  have main : ∀ t, TyX K H y t → PySem.W.notFirst K (He.ga K c1) t = true → rEqT neg K (He.ga K C) (He.ga K C') (spP K R) (EE K B) (.ref a) y H Q := fun t ty nf =>
    ⟨a, d1, f1, _, rfl, t0.1 _ _ h1, c2, .inl ⟨t, ty, nf, sp_callG g0 t0 (.cons rx (.cons ry .nil)) fin hh⟩⟩
  have bt : ∀ n ∈ ["NoneType", "bool", "int", "str", "list", "tuple", "dict"], PySem.W.notFirst K (He.ga K c1) (.type n) = true := fun n hn => by
    rcases List.mem_cons.mp hc1 with rfl | hc1
    · exact hC.2.nf n hn
    rcases List.mem_cons.mp hc1 with rfl | hc1
    · exact hC'.2.nf n hn
    cases hc1
  cases dy with
  | obj c ns' ds' =>
    have ht' : c ∈ C :: C' :: cs := ht
    clear ht
    rcases List.mem_cons.mp ht' with rfl | ht
    · refine main _ (tyX_of ry t0.1 rfl (fun _ _ _ z => by cases z; exact hC)) ?_
      rcases List.mem_cons.mp hc1 with rfl | hc1
      · exact nf_self
      rcases List.mem_cons.mp hc1 with rfl | hc1
      · exact W.nf
      cases hc1
    clear ht'
    rcases List.mem_cons.mp ht with rfl | ht'
    · rcases List.mem_cons.mp hc1 with rfl | hc1
      · cases ry with
        | @obj b dy _ _ vs _ p1 p2 p3 =>
          refine ⟨a, d1, f1, _, rfl, t0.1 _ _ h1, .inl rfl, .inr ⟨rfl, b, dy, _, rfl, t0.1 _ _ p1, sp_callG g0 t0 (.cons (.obj p1 p2 p3) (.cons rx .nil)) fin (hs _ _ _ _ hh _ _ rfl)⟩⟩
      rcases List.mem_cons.mp hc1 with rfl | hc1
      · exact main _ (tyX_of ry t0.1 rfl (fun _ _ _ z => by cases z; exact hC')) nf_self
      cases hc1
    · refine main _ (tyX_of ry t0.1 rfl (fun _ _ _ z => by cases z; exact (hc _ ht').1)) ?_
      rcases List.mem_cons.mp hc1 with rfl | hc1
      · exact (hc _ ht').2.1
      rcases List.mem_cons.mp hc1 with rfl | hc1
      · exact (hc _ ht').2.2
      cases hc1
  | non => exact main _ (tyX_of ry t0.1 rfl (fun _ _ _ z => nomatch z)) (bt _ (by decide))
  | bl _ => exact main _ (tyX_of ry t0.1 rfl (fun _ _ _ z => nomatch z)) (bt _ (by decide))
  | int _ => exact main _ (tyX_of ry t0.1 rfl (fun _ _ _ z => nomatch z)) (bt _ (by decide))
  | str _ => exact main _ (tyX_of ry t0.1 rfl (fun _ _ _ z => nomatch z)) (bt _ (by decide))
  | lst _ => exact main _ (tyX_of ry t0.1 rfl (fun _ _ _ z => nomatch z)) (bt _ (by decide))
  | tup _ => exact main _ (tyX_of ry t0.1 rfl (fun _ _ _ z => nomatch z)) (bt _ (by decide))
  | dic _ _ => exact main _ (tyX_of ry t0.1 rfl (fun _ _ _ z => nomatch z)) (bt _ (by decide))
  | ty _ => exact ht.elim
  | glob _ => exact ht.elim
  | tape => exact ht.elim
  | fn _ => exact ht.elim
end
section
variable {X : Cx} {B : Bs} {K : Frg} {ms : List Addr} {a b c e o e2 : Expr} {es : List Expr} {ra rb rc r ro r2 : Rd} {rt ru : RdT} {rl : RdA} {pos p0 apos kpos : Pos} {R : RdF} {k : Nat} {f g p : Addr} {x m : Str}
/-! ### o[i], len(o), repr(o) of instances of some classes with one method -/
theorem y_ixOs {cs ns : List Str} (hs : ∀ C ∈ cs, PySem.W.findIn X.K (.ref (He.ga X.K C)) "__getitem__" = some (some (.ref g))) (hf : PySem.W.isFn X.K (.ref g) = true) (hfi : PySem.W.fnIn X.K g = true) (hr : RoomG (k + 1) X.A) (F : FnG X.prog X.w X.K X.mg X.base (L2.CX X.prog X.w) k g (spP X.K R)) (hx : Px X B) (ha : PEp X B a ra) (hb : PEp X B b rb)
    (hsl : ∀ a u, subscripted b true (.ref a) u = runValue (.builtin "lifetime.subscript" ⟨[.ref a, u], []⟩) := by intro _ _; with_unfolding_all rfl) :
    PEp X B (.Subscript a b pos) (fun ρ Q => ra ρ fun x => rb ρ fun y => asO cs ns x (R [x, y] Q B.Ed)) := by
  refine ⟨fun pins s σ H Q I h => ?_⟩
  obtain ⟨F0, ρ, Qd, J, z, kk⟩ := h
  refine Subscript_ (binT ha hb I (R := fun x y H2 => ∃ C ∈ cs, rIxO (He.ga X.K C) (spP X.K R) (EE X.K B) x y H2 Q) ⟨F0, ρ, _, J, z, fun v F1 H1 d g1 t1 r1 z1 => ⟨F1, ρ, _, J.step g1 t1, z1, fun v2 F2 H2 d2 g2 t2 r2 z2 => ?_⟩⟩ fun v u s2 x y H2 I2 rx ry ⟨C, hC, q⟩ => gix_own (hs C hC) hf hfi (F.at hr.in1) hx hsl I2 rx ry q)
  obtain ⟨a, d1, f1, c1, rfl, hc1, h1, hh⟩ := asO_of (r1.up g2.ff) z2
  exact ⟨c1, hc1, a, d1, f1, rfl, t2.1 _ _ h1, sp_call J kk (g1.trans g2) t2 (.cons (r1.up g2.ff) (.one r2)) hh⟩
theorem y_lenOs {cs ns : List Str} (hs : ∀ C ∈ cs, PySem.W.findIn X.K (.ref (He.ga X.K C)) "__len__" = some (some (.ref g))) (hf : PySem.W.isFn X.K (.ref g) = true) (hr : RoomG (k + 1) X.A) (F : FnG X.prog X.w X.K X.mg X.base (L2.CX X.prog X.w) k g (spP X.K R)) (hx : Px X B) (hg : Gl X "len") (hm : X.mg "len" = none) (ha : PEp X B a ra)
    (h1 : starEach [a] X.env = [(false, eval a X.env)] := by rfl) : PEp X B (.Call (.Name "len" p0) [a] [] pos) (fun ρ Q => ra ρ fun d => asO cs ns d (R [d] (fun y => iOf y (Q y)) B.Ed)) := by
  have hc : CallR X (.builtin "len") (fun xs H Q => ∃ C ∈ cs, ∃ a dx fs, xs = [.ref a] ∧ H a = some (.ins (He.ga X.K C) dx fs) ∧ spP X.K R [.ref a] H (fun v H' => ∃ i : Int, v = .int i ∧ (0 ≤ i ∧ i < 2 ^ 63) ∧ Q v H') (EE X.K B)) := by
    intro pins s σ H xs us Q I r h
    obtain ⟨C, hC, a, dx, fs, rfl, ea, q⟩ := h
    obtain ⟨u, rfl, ru⟩ := vals1 r
    obtain rfl : u = Value.ref a := ru
    obtain ⟨mA, O, _, _, _, _⟩ := ins_get I.hok ea
    obtain ⟨od, J, _⟩ := O.look
    obtain ⟨m, hF⟩ := I.fr
    refine PySem.W.len_K hF I.ok.mod.kin J (hs C hC) hf ?_
    refine wpAny_mono (wpAny_call (run_A (us := [.ref a]) (vs := [.ref a]) (F.at hr.in1) I.env0.in1 hx I (.cons rfl .nil) q)) (fun w s' z => ?_) fun _ _ x => x
    obtain ⟨z', H', I', rz, i, rfl, hi, qz⟩ := z
    obtain ⟨t, rfl⟩ := (show ∃ t, w = Value.int i t from rz)
    exact ⟨hi, .int i, H', I'.tok _, ⟨_, rfl⟩, qz⟩
  exact pe_imp (pe_callB hc hg hm (by decide +kernel) (pa_cons ha pa_nil h1) (by decide) (by decide) h1 rfl) fun σ H Q ⟨F0, ρ, Qd, I, z, kk⟩ => ⟨F0, ρ, _, I, z, fun v F1 H1 d g1 t1 r1 z1 => by
    obtain ⟨a, d1, f1, c1, rfl, hc1, h1, hh⟩ := asO_of r1 z1
    refine ⟨c1, hc1, a, d1, f1, rfl, t1.1 _ _ h1, sp_call I (fun v F2 H2 d2 g2 t2 r2 q2 => ?_) g1 t1 (.cons r1 .nil) hh⟩
    unfold iOf at q2
    split at q2
    · cases r2
      exact ⟨_, rfl, q2.1, kk _ F2 H2 _ g2 t2 (.int _) q2.2⟩
    · exact q2.elim⟩
theorem y_reprOs {cs ns : List Str} (hr : RoomG (k + 1) X.A) (hs : ∀ C ∈ cs, PySem.W.findIn X.K (.ref (He.ga X.K C)) "__repr__" = some (some (.ref g))) (hf : PySem.W.isFn X.K (.ref g) = true) (F : FnG X.prog X.w X.K X.mg X.base (L2.CX X.prog X.w) k g (spP X.K R)) (hx : Px X B) (hg : Gl X "repr") (hm : X.mg "repr" = none) (ha : PEp X B a ra)
    (h1 : starEach [a] X.env = [(false, eval a X.env)] := by rfl) :
    PEp X B (.Call (.Name "repr" p0) [a] [] pos) (fun ρ Q => ra ρ fun d => asO cs ns d (R [d] (fun y => sOf y (Q y)) B.Ed)) := by
  have hc : CallR X (.builtin "repr") (fun xs H Q => ∃ C ∈ cs, rReprO (He.ga X.K C) (spP X.K R) (EE X.K B) xs H Q) := by
    intro pins s σ H xs us Q I r h
    obtain ⟨C, hC, h⟩ := h
    exact call_reprO hr.units (hs C hC) hf (F.at hr.in1) hx pins s σ H xs us Q I r h
  exact pe_imp (pe_callB hc hg hm (by decide +kernel) (pa_cons ha pa_nil h1) (by decide) (by decide) h1 rfl) fun σ H Q ⟨F0, ρ, Qd, I, z, kk⟩ => ⟨F0, ρ, _, I, z, fun v F1 H1 d g1 t1 r1 z1 => by
    obtain ⟨a, d1, f1, c1, rfl, hc1, h1, hh⟩ := asO_of r1 z1
    refine ⟨c1, hc1, a, d1, f1, rfl, t1.1 _ _ h1, sp_call I (fun v F2 H2 d2 g2 t2 r2 q2 => ?_) g1 t1 (.cons r1 .nil) hh⟩
    unfold sOf at q2
    split at q2
    · cases r2
      exact ⟨_, rfl, kk _ F2 H2 _ g2 t2 (.str _) q2⟩
    · exact q2.elim⟩
end
end Y
namespace Z
open PySem PySem.Spec PyProof.Rows L2
open PySem.W
section
variable {prog : Program} {w : World} {A : Around} {E : Value → Shared → Prop} {s : Shared} {K : Frg} {x C C' L f f' : Addr} {h₀ : Heap} {m : Str → Option Value} {ox : Obj} {od : Option Obj} {T : String}
/-- a op b, b of a built-in type, however it is told -/
theorem binop_T {op : Operator} {b : Value} {fo ro rc : Option Value} {Q : Value → Shared → Prop} (F : Fr h₀ L s.heap m) (X₀ : K.In h₀) (I : InstAt s.heap x ox C od) (hb : Looks (model prog w) s.heap (typeOf b) (.type T)) (hc : selfFirst K C = true)
    (hs : findIn K (.ref C) (PySem.dunder op.info.2) = some (some (.ref f))) (hf : isFn K (.ref f) = true) (hr : findIn K (.ref C) (dunderR op.info.2) = some rc) (hp : rc = none ∨ ∃ g : Addr, rc = some (.ref g))
    (h1 : findIn K (.type T) (PySem.dunder op.info.2) = some fo) (h2 : findIn K (.type T) (dunderR op.info.2) = some ro) (hsub : subIn K (.type T) (.ref C) = some false)
    (h : wpAny (model prog w) A (call (.ref f) [.ref x, b]) (PySem.W.CmpBack Q) E s) : wpAny (model prog w) A (binaryOp op (.ref x) b) Q E s := by
  have X := X₀.keeps F.keep
  obtain ⟨cd, rest, hcd, hm⟩ := ksp_first hc
  rcases hi : op.info with ⟨sym, nm'⟩
  rw [hi] at hs hr h1 h2
  dsimp only at hs hr h1 h2
  have one := ksp_try X I hs hf h
  obtain ⟨hh, g, d, tt, os⟩ := s
  have L1 : Looks (model prog w) hh (typeOf (.ref x)) (.ref C) := I.type
  have L2 : Looks (model prog w) hh (typeOf b) (.type T) := hb
  have L3 : Looks (model prog w) hh (fillsNumberSlot (.ref C) nm') true := fills_K X hcd hm hs
  have L4 : Looks (model prog w) hh (fillsNumberSlot (.type T) nm') ((fo.isSome && !isSeqSlot fo) || (ro.isSome && !isSeqSlot ro)) := ksp_fillsT X h1 h2
  have L5 : Looks (model prog w) hh (isSubtype (.type T) (.ref C)) false := looks_subIn X hsub
  have L6 : Looks (model prog w) hh (numberSlotInPython (.ref C) nm') true := ksp_inPy X hs hr hp
  have L7 : Looks (model prog w) hh (numberSlotInPython (.type T) nm') false := Looks.of_pure rfl
  have L8 : Looks (model prog w) hh (typeLookup (.type T) (dunderR nm')) ro := looks_findIn X h2
  generalize ((fo.isSome && !isSeqSlot fo) || (ro.isSome && !isSeqSlot ro)) = right at L4
  have hne : (Value.ref C == Value.type T) = false := Bool.eq_false_iff.mpr fun q => by cases beq_iff_eq.mp q
  simp only [binaryOp, hi]
  refine wpAny_holding (wpAny_bind ?_)
  unfold binaryOp1
  refine wpAny_bind (L1.at (wpAny_bind (L2.at (wpAny_bind (L3.at ?_)))))
  simp only [hne, Bool.false_eq_true, if_false]
  cases right with
  | false =>
    ksp_lk
    refine wpAny_mono one (fun r s' hr' => ?_) fun _ _ e => e
    obtain ⟨v, rfl, hq⟩ := hr'
    ksp_lk
    exact hq
  | true =>
    ksp_lk
    refine wpAny_mono one (fun r s' hr' => ?_) fun _ _ e => e
    obtain ⟨v, rfl, hq⟩ := hr'
    ksp_lk
    exact hq
end
section
variable {X : Cx} {CX : CXT} {k : Nat} {f C C' p g g' : Addr} {sp : Sp} {E : XK} {T : String}
def rBinT (K : Frg) (C : Addr) (T : String) (sp : Sp) (E : XK) : R2 := fun x y H Q => ∃ a dx fs, x = .ref a ∧ H a = some (.ins C dx fs) ∧ TyX K H y (.type T) ∧ sp [x, y] H Q E
theorem gop_binT {op : Operator} (b2 : BinT X.K op.info.2 C T) (hs : PySem.W.findIn X.K (.ref C) (PySem.dunder op.info.2) = some (some (.ref g))) (hf : PySem.W.isFn X.K (.ref g) = true) (F : FnA X.A X.prog X.w X.K X.mg X.base CX g sp) (hx : Passes CX X E) : OpR X (binaryOp op) (rBinT X.K C T sp E) := by
  intro pins s σ H x y v u Q I rx ry h
  obtain ⟨a, dx, fs, rfl, ea, ty, q⟩ := h
  cases (show v = Value.ref a from rx)
  obtain ⟨mA, O, _, _, _, _⟩ := ins_get I.hok ea
  obtain ⟨od, J, _⟩ := O.look
  obtain ⟨m, hF⟩ := I.fr
  obtain ⟨rc, r1, r2⟩ := b2.hr
  obtain ⟨fo, h1⟩ := b2.h1
  obtain ⟨ro, h2⟩ := b2.h2
  obtain ⟨P, kx, hP, _⟩ := kit_of I ry ty
  refine binop_T hF I.ok.mod.kin J (kx.ty _ _ I.kIn hP) b2.hc hs hf r1 r2 h1 h2 b2.hsub ?_
  refine wpAny_mono (wpAny_call (run_fnA (us := [.ref a, u]) (vs := [.ref a, y]) F hx I (.cons rfl (.cons ry .nil)) q)) (fun w s' z => ?_) fun _ _ x => x
  obtain ⟨z', H', I', rz, qz⟩ := z
  exact SlX.cmpback rz ⟨z', H', I', rz, qz⟩
end
def bBinT (x : Str) (T : String) (nm : String) : Frg → Bool := fun K => rcB K (He.ga K x) nm && ((PySem.W.findIn K (.type T) (PySem.dunder nm)).isSome && ((PySem.W.findIn K (.type T) (dunderR nm)).isSome && (selfFirst K (He.ga K x) && decide (subIn K (.type T) (.ref (He.ga K x)) = some false))))
theorem binT_of {K : Frg} {x : Str} {T nm : String} (h : bBinT x T nm K = true) : BinT K nm (He.ga K x) T := by
  obtain ⟨h1, h⟩ := He.ba h
  obtain ⟨h2, h⟩ := He.ba h
  obtain ⟨h3, h⟩ := He.ba h
  obtain ⟨h4, h5⟩ := He.ba h
  exact ⟨rcB_ok h1, Option.isSome_iff_exists.mp h2, Option.isSome_iff_exists.mp h3, h4, of_decide_eq_true h5⟩
end Z
namespace Y
open PySem PySem.Spec PyProof.Rows L2 Z
section
variable {X : Cx} {B : Bs} {K : Frg} {R : RdF}
/-- a class or its subclass, op another own class -/
def dBin2s (B : Bs) (R : RdF) (cs : List Str) (ns : List Str) (C' : Str) (ns' : List Str) (x y : D) (Q : D → Prop) : Prop := asO cs ns x (asO [C'] ns' y (R [x, y] Q B.Ed))
theorem bin2sL {C D' C' : Str} {ns ns' : List Str} : OpI K B (fun x y H Q => rBin2 (He.ga K C) (He.ga K C') (spP K R) (EE K B) x y H Q ∨ rBin2 (He.ga K D') (He.ga K C') (spP K R) (EE K B) x y H Q) (dBin2s B R [C, D'] ns C' ns') := by
  intro F H x y dx dy Qd Q g0 t0 rx ry h k
  obtain ⟨a, d1, f1, c1, rfl, hc1, h1, hh⟩ := asO_of rx h
  obtain ⟨b, d2, f2, c2, rfl, hc2, h2, hhh⟩ := asO_of ry hh
  have e2 : c2 = C' := by simpa using hc2
  subst e2
  rcases List.mem_cons.mp hc1 with e1 | hc1
  · subst e1
    exact .inl ⟨a, d1, f1, b, d2, f2, rfl, rfl, t0.1 _ _ h1, t0.1 _ _ h2, sp_callG g0 t0 (.cons rx (.cons ry .nil)) k hhh⟩
  · have e1 : c1 = D' := by simpa using hc1
    subst e1
    exact .inr ⟨a, d1, f1, b, d2, f2, rfl, rfl, t0.1 _ _ h1, t0.1 _ _ h2, sp_callG g0 t0 (.cons rx (.cons ry .nil)) k hhh⟩
/-- a class or its subclass, op a tuple -/
def isTp (d : D) (k : Prop) : Prop := match d with
  | .tup _ => k
  | _ => False
def dBinTs (B : Bs) (R : RdF) (cs : List Str) (ns : List Str) (x y : D) (Q : D → Prop) : Prop := asO cs ns x (isTp y (R [x, y] Q B.Ed))
theorem binTsL {C D' : Str} {ns : List Str} : OpI K B (fun x y H Q => rBinT K (He.ga K C) "tuple" (spP K R) (EE K B) x y H Q ∨ rBinT K (He.ga K D') "tuple" (spP K R) (EE K B) x y H Q) (dBinTs B R [C, D'] ns) := by
  intro F H x y dx dy Qd Q g0 t0 rx ry h k
  obtain ⟨a, d1, f1, c1, rfl, hc1, h1, hh⟩ := asO_of rx h
  unfold isTp at hh
  split at hh
  · rename_i ds
    cases ry with
    | @tup b vs _ h2 h3 =>
      have ty := tyT (sqT t0.1 h2)
      rcases List.mem_cons.mp hc1 with e1 | hc1
      · subst e1
        exact .inl ⟨a, d1, f1, rfl, t0.1 _ _ h1, ty, sp_callG g0 t0 (.cons rx (.cons (.tup h2 h3) .nil)) k hh⟩
      · have e1 : c1 = D' := by simpa using hc1
        subst e1
        exact .inr ⟨a, d1, f1, rfl, t0.1 _ _ h1, ty, sp_callG g0 t0 (.cons rx (.cons (.tup h2 h3) .nil)) k hh⟩
  · exact hh.elim
end
end Y
namespace GX
open PySem
/-! ### a run that never wakes a generator leaves it as it was -/
theorem no_run {M : Model} {w : String} {Γ : Ctx} {p : Pos} {fs : List Frame} {s s' : Shared} {e : End} (h : Runs M Γ p (.unsupported w) fs s e s') : False := by
  generalize ht : (Sem.unsupported w : Sem Fin) = t at h
  induction h with
  | segRet _ _ ih _ => exact ih ht
  | segGen _ _ ih _ => exact ih ht
  | segSuspOut _ _ ih => exact ih ht
  | segSuspGen _ _ _ _ ih _ => exact ih ht
  | _ => cases ht
theorem split_ret {k : Result → Sem Fin} {h : Option Value} {g : Bool} {l : List Value} {c : Code} {p : Pos} {kp : List Value} {fs : List Frame} (q : splitAtGen (.ret k h g l c p kp :: fs) = none) : splitAtGen fs = none := by
  unfold splitAtGen at q
  simpa using q
theorem split_app : ∀ {fs gs : List Frame}, splitAtGen fs = none → splitAtGen gs = none → splitAtGen (fs ++ gs) = none
  | [], _, _, h => h
  | .ret k hh g l c p kp :: fs, gs, q, h => by
    have := split_app (split_ret q) h
    show splitAtGen (.ret k hh g l c p kp :: (fs ++ gs)) = none
    unfold splitAtGen
    simpa using this
  | .gen .. :: fs, gs, q, _ => by unfold splitAtGen at q; cases q
def GOk : GenState → Prop
  | .suspended _ _ _ _ fs _ => splitAtGen fs = none
  | _ => True
def EOk : End → Prop
  | .susp _ _ _ _ _ _ fs => splitAtGen fs = none
  | _ => True
theorem EOk.gen {e : End} (h : EOk e) : GOk e.genState := by
  cases e with
  | ret _ => trivial
  | susp => exact h
def IsDead (d : GenState) : Prop := ∃ l c p fs cl, d = .suspended (fun _ => .unsupported "dead") l c p fs cl
/-- what a run sees, and what truly stands there -/
inductive Pr : GenState → GenState → Prop
  | same (x : GenState) : GOk x → Pr x x
  | dead {l l' : List Value} {c : Code} {p : Pos} {fs fs' : List Frame} {cl : Bool} {k : Resume → Sem Fin} : splitAtGen fs = none → fs.map Frame.where_ = fs'.map Frame.where_ → Pr (.suspended (fun _ => .unsupported "dead") l c p fs cl) (.suspended k l' c p fs' cl)
theorem Pr.seen {x y : GenState} (h : Pr x y) : x.seen = y.seen := by
  cases h with
  | same => rfl
  | dead _ e => show (GenStatus.suspended, some (_ :: _)) = (GenStatus.suspended, some (_ :: _)); rw [e]
structure Rl (D L : Array GenState) : Prop where
  sz : D.size = L.size
  pr : ∀ (i : Nat) (d y : GenState), D[i]? = some d → L[i]? = some y → Pr d y
def Kept (D L D' L' : Array GenState) : Prop := ∀ (i : Nat) (d y : GenState), D[i]? = some d → L[i]? = some y → IsDead d → D'[i]? = some d ∧ L'[i]? = some y
theorem Kept.refl (D L : Array GenState) : Kept D L D L := fun _ _ _ h1 h2 _ => ⟨h1, h2⟩
theorem Kept.trans {D L D1 L1 D2 L2 : Array GenState} (a : Kept D L D1 L1) (b : Kept D1 L1 D2 L2) : Kept D L D2 L2 := fun i d y h1 h2 h3 => let ⟨x1, x2⟩ := a i d y h1 h2 h3; b i d y x1 x2 h3
theorem Rl.get {D L : Array GenState} (h : Rl D L) {i : Nat} {d : GenState} (e : D[i]? = some d) : ∃ y, L[i]? = some y ∧ Pr d y := by
  have hi : i < D.size := by
    rcases Nat.lt_or_ge i D.size with z | z
    · exact z
    · rw [Array.getElem?_eq_none z] at e; cases e
  have hl : i < L.size := by rw [← h.sz]; exact hi
  exact ⟨L[i], Array.getElem?_eq_getElem hl, h.pr i d _ e (Array.getElem?_eq_getElem hl)⟩
theorem Rl.set {D L : Array GenState} (h : Rl D L) (g : Nat) {x : GenState} (hx : GOk x) : Rl (D.setIfInBounds g x) (L.setIfInBounds g x) := by
  refine ⟨by simp [h.sz], fun i d y e1 e2 => ?_⟩
  rw [Array.getElem?_setIfInBounds] at e1 e2
  by_cases hg : g = i
  · subst hg
    rw [if_pos rfl] at e1 e2
    split at e1
    · split at e2
      · cases e1; cases e2; exact .same _ hx
      · cases e2
    · cases e1
  · rw [if_neg hg] at e1 e2
    exact h.pr i d y e1 e2
theorem Kept.set {D L : Array GenState} {g : Nat} {d0 x x' : GenState} (e : D[g]? = some d0) (hd : ¬ IsDead d0) : Kept D L (D.setIfInBounds g x) (L.setIfInBounds g x') := fun i d y h1 h2 h3 => by
  have hg : g ≠ i := fun z => by subst z; rw [e] at h1; cases h1; exact hd h3
  rw [Array.getElem?_setIfInBounds, Array.getElem?_setIfInBounds, if_neg hg, if_neg hg]
  exact ⟨h1, h2⟩
/-- the same, in two steps: what was not dead at first may be set again -/
theorem Kept.set2 {D L D1 L1 : Array GenState} {g : Nat} {d0 x x' : GenState} (k : Kept D L D1 L1) (e : D[g]? = some d0) (hd : ¬ IsDead d0) : Kept D L (D1.setIfInBounds g x) (L1.setIfInBounds g x') := fun i d y h1 h2 h3 => by
  have hg : g ≠ i := fun z => by subst z; rw [e] at h1; cases h1; exact hd h3
  rw [Array.getElem?_setIfInBounds, Array.getElem?_setIfInBounds, if_neg hg, if_neg hg]
  exact k i d y h1 h2 h3
theorem Rl.push {D L : Array GenState} (h : Rl D L) (c : Code) : Rl (D.push (.fresh c)) (L.push (.fresh c)) := by
  refine ⟨by simp [h.sz], fun i d y e1 e2 => ?_⟩
  rw [Array.getElem?_push] at e1 e2
  rw [← h.sz] at e2
  split at e1
  · rename_i hi
    rw [if_pos hi] at e2
    cases e1; cases e2
    exact .same _ trivial
  · rename_i hi
    rw [if_neg hi] at e2
    exact h.pr i d y e1 e2
theorem Kept.push {D L : Array GenState} {x y : GenState} : Kept D L (D.push x) (L.push y) := fun i d z h1 h2 _ => by
  have a : i < D.size := by
    rcases Nat.lt_or_ge i D.size with q | q
    · exact q
    · rw [Array.getElem?_eq_none q] at h1; cases h1
  have b : i < L.size := by
    rcases Nat.lt_or_ge i L.size with q | q
    · exact q
    · rw [Array.getElem?_eq_none q] at h2; cases h2
  rw [Array.getElem?_push, if_neg (by omega), Array.getElem?_push, if_neg (by omega)]
  exact ⟨h1, h2⟩
theorem Pr.fresh {c : Code} {y : GenState} (h : Pr (.fresh c) y) : y = .fresh c := by cases h; rfl
theorem Pr.running {y : GenState} (h : Pr .running y) : y = .running := by cases h; rfl
theorem Pr.finished {y : GenState} (h : Pr .finished y) : y = .finished := by cases h; rfl
theorem nd_fresh {c : Code} : ¬ IsDead (.fresh c) := fun ⟨_, _, _, _, _, h⟩ => by cases h
theorem runs_lift {M : Model} {Γ : Ctx} {p : Pos} {t : Sem Fin} {fs : List Frame} {s s' : Shared} {e : End} (h : Runs M Γ p t fs s e s') (hf : splitAtGen fs = none) :
    ∀ L, Rl s.gens L → ∃ L', Rl s'.gens L' ∧ Kept s.gens L s'.gens L' ∧ EOk e ∧ Runs M Γ p t fs { s with gens := L } e { s' with gens := L' } := by
  induction h with
  | done => exact fun L h => ⟨L, h, .refl _ _, trivial, .done⟩
  | raise => exact fun L h => ⟨L, h, .refl _ _, trivial, .raise⟩
  | again q _ ih => intro L h; obtain ⟨L', a, b, c, d⟩ := ih rfl L h; exact ⟨L', a, b, c, .again q d⟩
  | rule _ ih => intro L h; obtain ⟨L', a, b, c, d⟩ := ih rfl L h; exact ⟨L', a, b, c, .rule d⟩
  | «at» _ ih => intro L h; obtain ⟨L', a, b, c, d⟩ := ih rfl L h; exact ⟨L', a, b, c, .at d⟩
  | load q _ ih => intro L h; obtain ⟨L', a, b, c, d⟩ := ih rfl L h; exact ⟨L', a, b, c, .load q d⟩
  | update q _ ih => intro L h; obtain ⟨L', a, b, c, d⟩ := ih rfl L h; exact ⟨L', a, b, c, .update q d⟩
  | loadIfAlive _ ih => intro L h; obtain ⟨L', a, b, c, d⟩ := ih rfl L h; exact ⟨L', a, b, c, .loadIfAlive d⟩
  | point _ ih => intro L h; obtain ⟨L', a, b, c, d⟩ := ih rfl L h; exact ⟨L', a, b, c, .point d⟩
  | alloc _ ih => intro L h; obtain ⟨L', a, b, c, d⟩ := ih rfl L h; exact ⟨L', a, b, c, .alloc d⟩
  | fresh _ ih => intro L h; obtain ⟨L', a, b, c, d⟩ := ih rfl L h; exact ⟨L', a, b, c, .fresh d⟩
  | ask _ ih => intro L h; obtain ⟨L', a, b, c, d⟩ := ih rfl L h; exact ⟨L', a, b, c, .ask d⟩
  | choose n _ ih => intro L h; obtain ⟨L', a, b, c, d⟩ := ih rfl L h; exact ⟨L', a, b, c, .choose n d⟩
  | os _ ih => intro L h; obtain ⟨L', a, b, c, d⟩ := ih rfl L h; exact ⟨L', a, b, c, .os d⟩
  | handled _ ih => intro L h; obtain ⟨L', a, b, c, d⟩ := ih rfl L h; exact ⟨L', a, b, c, .handled d⟩
  | genState hs _ ih =>
    intro L h
    obtain ⟨L', a, b, c, d⟩ := ih rfl L h
    obtain ⟨y, hy, py⟩ := h.get hs
    rw [py.seen] at d
    exact ⟨L', a, b, c, .genState hy d⟩
  | stack _ ih => intro L h; obtain ⟨L', a, b, c, d⟩ := ih rfl L h; exact ⟨L', a, b, c, .stack d⟩
  | thread _ ih => intro L h; obtain ⟨L', a, b, c, d⟩ := ih rfl L h; exact ⟨L', a, b, c, .thread d⟩
  | newGen _ ih =>
    intro L h
    obtain ⟨L', a, b, c, d⟩ := ih rfl _ (h.push _)
    exact ⟨L', a, Kept.push.trans b, c, .newGen (h.sz ▸ d)⟩
  | call _ _ ih1 ih2 =>
    intro L h
    obtain ⟨L1, a, b, c, d⟩ := ih1 rfl L h
    obtain ⟨L2, a2, b2, c2, d2⟩ := ih2 rfl L1 a
    exact ⟨L2, a2, b.trans b2, c2, .call d d2⟩
  | callSusp _ ih => intro L h; obtain ⟨L', a, b, c, d⟩ := ih rfl L h; exact ⟨L', a, b, split_app c (by unfold splitAtGen splitAtGen; rfl), .callSusp d⟩
  | yield => exact fun L h => ⟨L, h, .refl _ _, rfl, .yield⟩
  | resumeFresh hs _ hq _ ih1 ih2 =>
    intro L h
    obtain ⟨y, hy, py⟩ := h.get hs
    cases py.fresh
    obtain ⟨L1, a, b, c, d⟩ := ih1 rfl _ (h.set _ (x := .running) trivial)
    obtain ⟨L2, a2, b2, c2, d2⟩ := ih2 rfl _ (a.set _ c.gen)
    exact ⟨L2, a2, (Kept.set2 ((Kept.set hs nd_fresh).trans b) hs nd_fresh).trans b2, c2, .resumeFresh hy d hq d2⟩
  | @resumeSuspended Γ p g r l k s k₀ l₀ c₀ p₀ fs cl e₁ s₁ e s' hs hr hq _ ih1 ih2 =>
    intro L h
    obtain ⟨y, hy, py⟩ := h.get hs
    have nd : ¬ IsDead (.suspended k₀ l₀ c₀ p₀ fs cl) := fun ⟨_, _, _, _, _, z⟩ => by
      have z2 : k₀ = fun _ => .unsupported "dead" := by injection z
      rw [z2] at hr
      exact no_run hr
    cases py with
    | dead _ _ => exact (no_run hr).elim
    | same _ gk =>
      obtain ⟨L1, a, b, c, d⟩ := ih1 gk _ (h.set _ (x := .running) trivial)
      obtain ⟨L2, a2, b2, c2, d2⟩ := ih2 rfl _ (a.set _ c.gen)
      exact ⟨L2, a2, (Kept.set2 ((Kept.set hs nd).trans b) hs nd).trans b2, c2, .resumeSuspended hy d hq d2⟩
  | resumeJustStarted hs hv _ ih =>
    intro L h
    obtain ⟨y, hy, py⟩ := h.get hs
    cases py.fresh
    obtain ⟨L', a, b, c, d⟩ := ih rfl L h
    exact ⟨L', a, b, c, .resumeJustStarted hy hv d⟩
  | resumeThrowFresh hs _ ih =>
    intro L h
    obtain ⟨y, hy, py⟩ := h.get hs
    cases py.fresh
    obtain ⟨L', a, b, c, d⟩ := ih rfl _ (h.set _ (x := .finished) trivial)
    exact ⟨L', a, (Kept.set hs nd_fresh).trans b, c, .resumeThrowFresh hy d⟩
  | resumeRunning hs _ ih =>
    intro L h
    obtain ⟨y, hy, py⟩ := h.get hs
    cases py.running
    obtain ⟨L', a, b, c, d⟩ := ih rfl L h
    exact ⟨L', a, b, c, .resumeRunning hy d⟩
  | resumeFinished hs _ ih =>
    intro L h
    obtain ⟨y, hy, py⟩ := h.get hs
    cases py.finished
    obtain ⟨L', a, b, c, d⟩ := ih rfl L h
    exact ⟨L', a, b, c, .resumeFinished hy d⟩
  | segRet _ _ ih1 ih2 =>
    intro L h
    obtain ⟨L1, a, b, c, d⟩ := ih1 rfl L h
    obtain ⟨L2, a2, b2, c2, d2⟩ := ih2 (split_ret hf) L1 a
    exact ⟨L2, a2, b.trans b2, c2, .segRet d d2⟩
  | segGen _ _ _ _ => unfold splitAtGen at hf; cases hf
  | segSuspOut q _ ih => intro L h; obtain ⟨L', a, b, c, d⟩ := ih rfl L h; exact ⟨L', a, b, split_app c q, .segSuspOut q d⟩
  | segSuspGen q _ _ _ _ _ => rw [q] at hf; cases hf
end GX
namespace GX
open PySem
open Sem (wp)
open PyProof.Rows (AllBare)
theorem wakes_lift {M : Model} {Γ : Ctx} {p : Pos} {g : Nat} {r : Resume} {s s' : Shared} {res : GenResult} (h : Wakes M Γ p g r s res s') {L : Array GenState} (hL : Rl s.gens L) :
    ∃ L', Rl s'.gens L' ∧ Kept s.gens L s'.gens L' ∧ Wakes M Γ p g r { s with gens := L } res { s' with gens := L' } := by
  unfold Wakes at h
  split at h
  · exact h.elim
  · rename_i c hs
    obtain ⟨y, hy, py⟩ := hL.get hs
    cases py.fresh
    split at h
    · obtain ⟨e₁, s₁, h1, h2, rfl, rfl⟩ := h
      obtain ⟨L1, a, b, c1, d⟩ := runs_lift h1 rfl _ (hL.set _ (x := .running) trivial)
      refine ⟨_, a.set g c1.gen, Kept.set2 ((Kept.set hs nd_fresh).trans b) hs nd_fresh, ?_⟩
      unfold Wakes
      dsimp only
      rw [hy]
      exact ⟨e₁, { s₁ with gens := L1 }, d, h2, rfl, rfl⟩
    · rename_i v hv
      obtain ⟨rfl, rfl⟩ := h
      refine ⟨L, hL, .refl _ _, ?_⟩
      unfold Wakes
      dsimp only
      rw [hy]
      cases v with
      | none => exact (hv rfl).elim
      | _ => exact ⟨rfl, rfl⟩
    · obtain ⟨rfl, rfl⟩ := h
      refine ⟨_, hL.set g (x := .finished) trivial, Kept.set hs nd_fresh, ?_⟩
      unfold Wakes
      dsimp only
      rw [hy]
      exact ⟨rfl, rfl⟩
  · rename_i k₀ l₀ c₀ p₀ fs cl hs
    obtain ⟨y, hy, py⟩ := hL.get hs
    obtain ⟨e₁, s₁, h1, h2, rfl, rfl⟩ := h
    have nd : ¬ IsDead (.suspended k₀ l₀ c₀ p₀ fs cl) := fun ⟨_, _, _, _, _, z⟩ => by
      have z2 : k₀ = fun _ => .unsupported "dead" := by injection z
      rw [z2] at h1
      exact no_run h1
    cases py with
    | dead _ _ => exact (no_run h1).elim
    | same _ gk =>
      obtain ⟨L1, a, b, c1, d⟩ := runs_lift h1 gk _ (hL.set _ (x := .running) trivial)
      refine ⟨_, a.set g c1.gen, Kept.set2 ((Kept.set hs nd).trans b) hs nd, ?_⟩
      unfold Wakes
      dsimp only
      rw [hy]
      exact ⟨e₁, { s₁ with gens := L1 }, d, h2, rfl, rfl⟩
  · rename_i hs
    obtain ⟨y, hy, py⟩ := hL.get hs
    cases py.running
    obtain ⟨rfl, rfl⟩ := h
    refine ⟨L, hL, .refl _ _, ?_⟩
    unfold Wakes
    dsimp only
    rw [hy]
    exact ⟨rfl, rfl⟩
  · rename_i hs
    obtain ⟨y, hy, py⟩ := hL.get hs
    cases py.finished
    obtain ⟨rfl, rfl⟩ := h
    refine ⟨L, hL, .refl _ _, ?_⟩
    unfold Wakes
    dsimp only
    rw [hy]
    exact ⟨rfl, rfl⟩
def Post (D L : Array GenState) (Q : Shared → Prop) (s' : Shared) : Prop := ∃ D', Rl D' s'.gens ∧ Kept D L D' s'.gens ∧ Q { s' with gens := D' }
theorem Post.up {D L D1 L1 : Array GenState} (k : Kept D L D1 L1) {Q : Shared → Prop} {s' : Shared} (h : Post D1 L1 Q s') : Post D L Q s' := let ⟨D', a, b, c⟩ := h; ⟨D', a, k.trans b, c⟩
theorem wp_lift {α : Type} (M : Model) (Γ : Ctx) (t : Sem α) : ∀ (Q : α → Pos → Shared → Prop) (E : Value → Pos → Shared → Prop) (p : Pos) (s : Shared) (L : Array GenState), Rl s.gens L → wp M Γ t Q E p s →
    wp M Γ t (fun a p' s' => Post s.gens L (Q a p') s') (fun e p' s' => Post s.gens L (E e p') s') p { s with gens := L } := by
  induction t with
  | pure a => intro Q E p s L hL h; exact ⟨s.gens, hL, .refl _ _, h⟩
  | raise e => intro Q E p s L hL h; exact ⟨s.gens, hL, .refl _ _, h⟩
  | unsupported _ => intro Q E p s L _ h; exact h
  | finish _ => intro Q E p s L _ h; exact h
  | rule _ k ih => intro Q E p s L hL h; exact ih () Q E p s L hL h
  | «at» p' k ih => intro Q E p s L hL h; exact ih () Q E p' s L hL h
  | load a _ k ih => intro Q E p s L hL h; obtain ⟨o, ho, h⟩ := h; exact ⟨o, ho, ih o Q E p s L hL h⟩
  | update a _ f k ih => intro Q E p s L hL h; exact ⟨h.1, ih () Q E p { s with heap := s.heap.update a f } L hL h.2⟩
  | loadIfAlive a k ih => intro Q E p s L hL h; exact ih _ Q E p s L hL h
  | point _ k ih => intro Q E p s L hL h; exact ih () Q E p s L hL h
  | register _ _ => intro Q E p s L _ h; exact h
  | alloc o k ih => intro Q E p s L hL h; exact ih _ Q E p { s with heap := s.heap.push o } L hL h
  | fresh k ih => intro Q E p s L hL h; exact ih _ Q E p { s with toks := s.toks + 1 } L hL h
  | ask k ih => intro Q E p s L hL h; exact ih _ Q E p s L hL h
  | choose src m k ih => intro Q E p s L hL h; exact ⟨h.1, ih _ Q E p { s with drawn := s.drawn.bump src } L hL h.2⟩
  | os q _ k ih => intro Q E p s L hL h; exact ih _ Q E p { s with os := (Os.step s.os q).1 } L hL h
  | call c hd _ _ k ih =>
    intro Q E p s L hL h
    obtain ⟨r, s', hr, h⟩ := h
    obtain ⟨L', a, b, _, d⟩ := runs_lift hr rfl L hL
    refine ⟨r, { s' with gens := L' }, d, ?_⟩
    exact Sem.wp_mono M Γ _ (fun _ _ _ z => Post.up b z) (fun _ _ _ z => Post.up b z) _ _ (ih r Q E p s' L' a h)
  | handled own k ih => intro Q E p s L hL h; exact ih _ Q E p s L hL h
  | genState g k ih =>
    intro Q E p s L hL h
    obtain ⟨st, hs, h⟩ := h
    obtain ⟨y, hy, py⟩ := hL.get hs
    refine ⟨y, hy, ?_⟩
    rw [← py.seen]
    exact ih _ Q E p s L hL h
  | newGen c k ih =>
    intro Q E p s L hL h
    have := ih _ Q E p { s with gens := s.gens.push (.fresh c) } (L.push (.fresh c)) (hL.push c) h
    have h2 := Sem.wp_mono M Γ _ (fun _ _ _ z => Post.up Kept.push z) (fun _ _ _ z => Post.up Kept.push z) _ _ this
    show wp M Γ (k L.size) _ _ p _
    rw [← hL.sz]
    exact h2
  | resume g r _ k ih =>
    intro Q E p s L hL h
    obtain ⟨res, s', hw, h⟩ := h
    obtain ⟨L', a, b, d⟩ := wakes_lift hw hL
    refine ⟨res, { s' with gens := L' }, d, ?_⟩
    exact Sem.wp_mono M Γ _ (fun _ _ _ z => Post.up b z) (fun _ _ _ z => Post.up b z) _ _ (ih res Q E p s' L' a h)
  | yield _ _ _ _ => intro Q E p s L _ h; exact h
  | stack k ih => intro Q E p s L hL h; exact ih _ Q E p s L hL h
  | fork _ _ => intro Q E p s L _ h; exact h
  | thread k ih => intro Q E p s L hL h; exact ih _ Q E p s L hL h
  | await _ _ _ _ _ => intro Q E p s L _ h; exact h
/-! ### all that sleeps made dead -/
def clean (f : Frame) : Frame := .ret (fun _ => .unsupported "dead") none false [] f.where_.1 f.where_.2 []
def poison : GenState → GenState
  | .suspended _ l c p fs cl => .suspended (fun _ => .unsupported "dead") l c p (fs.map clean) cl
  | x => x
theorem clean_split : ∀ fs : List Frame, splitAtGen (fs.map clean) = none
  | [] => rfl
  | f :: fs => by
    show splitAtGen (.ret _ _ _ _ _ _ _ :: fs.map clean) = none
    unfold splitAtGen
    simp [clean_split fs]
theorem poison_pr (x : GenState) : Pr (poison x) x := by
  cases x with
  | suspended k l c p fs cl =>
    refine .dead (clean_split fs) ?_
    rw [List.map_map]
    exact List.map_congr_left fun f _ => by cases f <;> rfl
  | fresh c => exact .same _ trivial
  | running => exact .same _ trivial
  | finished => exact .same _ trivial
theorem Pr.bare {x y : GenState} (h : Pr x y) : x.bare = y.bare := by cases h <;> rfl
theorem poison_rl (G : Array GenState) : Rl (G.map poison) G := by
  refine ⟨by simp, fun i d y e1 e2 => ?_⟩
  rw [Array.getElem?_map, e2] at e1
  cases e1
  exact poison_pr y
theorem Rl.allBare {D L : Array GenState} (h : Rl D L) (b : AllBare D) : AllBare L := fun y hy => by
  obtain ⟨i, hi, e⟩ := Array.mem_iff_getElem.mp hy
  have hd : i < D.size := by rw [h.sz]; exact hi
  have := h.pr i D[i] y (Array.getElem?_eq_getElem hd) (by rw [Array.getElem?_eq_getElem hi, e])
  rw [← this.bare]
  exact b _ (Array.getElem_mem hd)
theorem poison_bare {G : Array GenState} (b : AllBare G) : AllBare (G.map poison) := fun y hy => by
  obtain ⟨x, hx, rfl⟩ := Array.mem_map.mp hy
  rw [(poison_pr x).bare]
  exact b x hx
def susp : GenState → Bool
  | .suspended .. => true
  | _ => false
/-- what slept sleeps on -/
def Still (G G' : Array GenState) : Prop := ∀ (i : Nat) (y : GenState), G[i]? = some y → susp y = true → G'[i]? = some y
def Lifted (G : Array GenState) (Q : Shared → Prop) (s' : Shared) : Prop := ∃ D', Rl D' s'.gens ∧ Q { s' with gens := D' } ∧ Still G s'.gens
theorem wpAny_lift {M : Model} {A : Around} {α : Type} {t : Sem α} {Q : α → Shared → Prop} {E : Value → Shared → Prop} {s : Shared} (h : wpAny M A t Q E { s with gens := s.gens.map poison }) :
    wpAny M A t (fun a s' => Lifted s.gens (Q a) s') (fun e s' => Lifted s.gens (E e) s') s := by
  have fin : ∀ (P : Shared → Prop) (s' : Shared), Post (s.gens.map poison) s.gens P s' → Lifted s.gens P s' := fun P s' ⟨D', a, b, c⟩ => by
    refine ⟨D', a, c, fun i y hy hs => ?_⟩
    cases y with
    | suspended k l c p fs cl => exact (b i (poison (.suspended k l c p fs cl)) _ (by rw [Array.getElem?_map, hy]; rfl) hy ⟨_, _, _, _, _, rfl⟩).2
    | _ => cases hs
  intro Γ p hΓ
  exact Sem.wp_mono M Γ _ (fun _ _ s' z => fin _ s' z) (fun _ _ s' z => fin _ s' z) _ _ (wp_lift M Γ t _ _ p { s with gens := s.gens.map poison } s.gens (poison_rl s.gens) (h Γ p hΓ))
/-- the same of a state whose sleepers are told otherwise -/
theorem wpAny_regen {M : Model} {A : Around} {α : Type} {t : Sem α} {Q : α → Shared → Prop} {E : Value → Shared → Prop} {s : Shared} {D : Array GenState} (hD : Rl D s.gens) (h : wpAny M A t Q E { s with gens := D })
    (hQ : ∀ a (s' : Shared) D', Rl D' s'.gens → Q a { s' with gens := D' } → Q a s') (hE : ∀ e (s' : Shared) D', Rl D' s'.gens → E e { s' with gens := D' } → E e s') : wpAny M A t Q E s := fun Γ p hΓ =>
  Sem.wp_mono M Γ _ (fun a _ s' ⟨D', r, _, q⟩ => hQ a s' D' r q) (fun e _ s' ⟨D', r, _, q⟩ => hE e s' D' r q) _ _ (wp_lift M Γ t _ _ p { s with gens := D } s.gens hD (h Γ p hΓ))
end GX
namespace GX
open PySem PySem.Spec PyProof.Rows L2 Z
section
variable {X : Cx} {pins : List (Addr × Obj)} {σ : L2.St} {H : Hp} {s : Shared} {D : Array GenState}
theorem inv_regen (I : L2.Inv X pins σ H s) (b : AllBare D) : L2.Inv X pins σ H { s with gens := D } := ⟨I.ok, I.os, b, I.base, I.loc, I.cell, I.free, I.freeC, I.pin, I.hok, I.len⟩
theorem inv_back (I : L2.Inv X pins σ H { s with gens := D }) (r : Rl D s.gens) : L2.Inv X pins σ H s := ⟨I.ok, I.os, r.allBare I.bare, I.base, I.loc, I.cell, I.free, I.freeC, I.pin, I.hok, I.len⟩
theorem inv_poison (I : L2.Inv X pins σ H s) : L2.Inv X pins σ H { s with gens := s.gens.map poison } := inv_regen I (poison_bare I.bare)
end
/-- what is wanted of an exception hangs on no sleeper -/
def GFree (X : Cx) : Prop := ∀ (e : Value) (s' : Shared) (D : Array GenState), Rl D s'.gens → X.xe e { s' with gens := D } → X.xe e s'
theorem gf_never {X : Cx} (h : ∀ e s, ¬ X.xe e s) : GFree X := fun e _ _ _ z => (h e _ z).elim
theorem cx_back {P : Program} {w : World} {outer : List Env} {H : Hp} {s s' : Shared} {E : XK} {u : Value} {D : Array GenState} (r : Rl D s'.gens) (h : L2.CX P w outer H s E u { s' with gens := D }) : L2.CX P w outer H s E u s' := by
  obtain ⟨a, B, H', cls, d, e1, e2, e3, e4, e5, e6, e7, e8⟩ := h
  exact ⟨a, B, H', cls, d, e1, e2, e3, e4, e5, e6, r.allBare e7, e8⟩
theorem gf_cx {P : Program} {w : World} {K : Frg} {mg : Str → Option Value} {base : Heap} {N : List Str} {qual : Str} {scope : Scope} {f : Addr} {cd : Value} {A : Around} {outer : List Env} {s : Shared} {H : Hp} {E : XK} : GFree (cxOf (L2.CX P w) P w K mg base N qual scope f cd A outer s H E) := fun e s' D r h =>
  wpAny_regen r h (fun _ _ _ r' q => cx_back r' q) (fun _ _ _ r' q => cx_back r' q)
/-- a generator that is walked: its objects (fp: those it has now), and how it sleeps -/
structure TurnG (P : Program) (w : World) (K : Frg) (mg : Str → Option Value) (A : Around) (tg : Expr) (J : It) (it : Addr) (g : Nat) (tn : Nat → List Addr → Heap → GenState → Prop) : Prop where
  obj : ∀ i fp h y, tn i fp h y → ∀ b ∈ fp, ∃ o, h.get? b = some o ∧ ∀ v, o.data ≠ .cell v
  keep : ∀ i fp h h' y, tn i fp h y → (∀ b ∈ fp, ∀ o, h.get? b = some o → h'.get? b = some o) → tn i fp h' y
  item : ∀ (X : Cx), X.prog = P → X.w = w → X.K = K → X.mg = mg → X.A = A → X.calm = true → ∀ (i : Nat) (pins : List (Addr × Obj)) (s : Shared) (σ : L2.St) (H : Hp) (E : Value → Shared → Prop) (y : GenState) (fp : List Addr), L2.Inv X pins σ H s → (∀ b ∈ fp, FpOk X pins H b) → s.gens[g]? = some y → tn i fp s.heap y → J.go i H →
    wpAny (model P w) X.A (pyNext (.ref it)) (fun r s1 => ∃ u, r = some u ∧
      wpAny (model P w) X.A (letOwnedTupleGo tg (.ref it) u) (fun _ s2 => ∃ x H' y' fp', L2.Inv X pins σ H' s2 ∧ RelV x u ∧ J.yld i H x H' ∧ s2.gens[g]? = some y' ∧ susp y' = true ∧ tn (i + 1) fp' s2.heap y' ∧ ∀ b ∈ fp', FpOk X pins H' b) E s1) E s
  done : ∀ (X : Cx), X.prog = P → X.w = w → X.K = K → X.mg = mg → X.A = A → X.calm = true → ∀ (i : Nat) (pins : List (Addr × Obj)) (s : Shared) (σ : L2.St) (H : Hp) (E : Value → Shared → Prop) (y : GenState) (fp : List Addr), L2.Inv X pins σ H s → (∀ b ∈ fp, FpOk X pins H b) → s.gens[g]? = some y → tn i fp s.heap y → J.stop i H →
    wpAny (model P w) X.A (pyNext (.ref it)) (fun r s1 => r = none ∧ L2.Inv X pins σ H s1) E s
  self : ∀ (A : Around) (i : Nat) (s : Shared) (y : GenState) (fp : List Addr) (Q : Value → Shared → Prop) (E : Value → Shared → Prop), tn i fp s.heap y → Q (.ref it) s → wpAny (model P w) A (pyIter (.ref it)) Q E s
def PGE (X : Cx) (pins : List (Addr × Obj)) (σ : L2.St) (tg : Expr) (R : It → Hp → Prop) (itv : Value) (s2 : Shared) : Prop :=
  ∃ (it : Addr) (fp : List Addr) (g : Nat) (tn : Nat → List Addr → Heap → GenState → Prop) (J : It) (H' : Hp) (y : GenState), itv = .ref it ∧ L2.Inv X pins σ H' s2 ∧ TurnG X.prog X.w X.K X.mg X.A tg J it g tn ∧ s2.gens[g]? = some y ∧ tn 0 fp s2.heap y ∧ (∀ b ∈ fp, FpOk X pins H' b) ∧ R J H'
/-- an expression that makes a generator -/
structure PIG (X : Cx) (tg iter : Expr) (wi : L2.TI) : Prop where
  run : ∀ (pins : List (Addr × Obj)) (s : Shared) (σ : L2.St) (H : Hp) (R : It → Hp → Prop), L2.Inv X pins σ H s → wi σ H R →
    wpAny (model X.prog X.w) X.A (eval iter X.env) (fun v s1 => wpAny (model X.prog X.w) X.A (pyIter v) (PGE X pins σ tg R) X.xe s1) X.xe s
/-- a step that knows nothing of the sleeper -/
theorem over {X : Cx} {α : Type} {t : Sem α} {Q : α → Shared → Prop} {R : α → Shared → Prop} {s : Shared} (hX : GFree X) (h : wpAny (model X.prog X.w) X.A t Q X.xe { s with gens := s.gens.map poison })
    (k : ∀ a (s' : Shared) D, Rl D s'.gens → Q a { s' with gens := D } → Still s.gens s'.gens → R a s') : wpAny (model X.prog X.w) X.A t R X.xe s :=
  wpAny_mono (wpAny_lift h) (fun a s' ⟨D, r, q, st⟩ => k a s' D r q st) fun e s' ⟨D, r, q, _⟩ => hX e s' D r q
section
variable {X : Cx} {tg : Expr}
theorem ps_forG {iter : Expr} {body : List Stmt} {wi : L2.TI} {g : TG} {tb : TS} {pos : Pos} (hX : GFree X) (hp : PassesOwn (model X.prog X.w) X.A X.env X.xe) (hc : X.calm = true) (hi : PIG X tg iter wi) (hg : PG X tg g) (hb : PSs X body tb)
    (hs : ∀ x, foldedSetIterable iter X.env x = pure x := by intro _; rfl) : PS X (.For tg iter body [] pos) (tFor wi g tb) := by
  refine ⟨fun pins s σ H D I h => ?_⟩
  refine wpAny_For (thn (hi.run pins s σ H _ I h) fun v s1 h1 => thn h1 fun itv s2 h2 => ?_) hs
  obtain ⟨it, fp, gn, tn, J, H2, y2, e, I2, T, gy2, st2, f2, W, ⟨m0, w0⟩, turn⟩ := h2
  subst e
  refine codeAny_forLoop_any (fun n s' => ∃ i σ' H' y fq, L2.Inv X pins σ' H' s' ∧ s'.gens[gn]? = some y ∧ tn i fq s'.heap y ∧ (∀ b ∈ fq, FpOk X pins H' b) ∧ W i n σ' H') ?_ m0 ⟨0, σ, H2, y2, fp, I2, gy2, st2, f2, w0⟩
  rintro n s3 ⟨i, σ3, H3, y3, fq, I3, gy3, st3, fr3, w3⟩
  rcases turn i n σ3 H3 w3 with ⟨stop, qn⟩ | ⟨go, Nn, hN, step⟩
  · refine wpAny_passesOwn hp (thn (T.done X rfl rfl rfl rfl rfl hc i pins s3 σ3 H3 X.xe y3 fq I3 fr3 gy3 st3 stop) fun r s4 ⟨hr, I4⟩ => ?_)
    subst hr
    exact wpAny_execs_nil ⟨σ3, H3, I4, qn⟩
  · refine wpAny_passesOwn hp (thn (T.item X rfl rfl rfl rfl rfl hc i pins s3 σ3 H3 X.xe y3 fq I3 fr3 gy3 st3 go) fun r s4 ⟨u, hr, h4⟩ => ?_)
    subst hr
    refine wpAny_passesOwn hp (thn h4 fun _ s5 ⟨x, H5, y5, fr, I5, r5, yl5, gy5, su5, st5, fr5⟩ => ?_)
    have J5 := I5.pinned fr5 (T.obj _ _ _ _ st5)
    refine wpAny_passesOwn hp (over hX (hg.run _ _ σ3 H5 x u _ (inv_poison J5) r5 (step x H5 yl5)) fun _ s6 D6 rl6 ⟨σ6, H6, I6, q6⟩ still6 => ?_)
    have J6 := inv_back I6 rl6
    have gy6 := still6 gn y5 gy5 su5
    refine wpAny_passesOwn hp (over hX (hb.run _ _ σ6 H6 _ (inv_poison J6) q6) fun f s7 D7 rl7 q7 still7 => ?_)
    have gy7 := still7 gn y5 gy6 su5
    have again : ∀ {σ7 : L2.St} {H7 : Hp}, L2.Inv X (pins ++ pinsAt fr s5.heap) σ7 H7 s7 → Nn σ7 H7 → ∃ m, m < n ∧ ∃ i σ' H' y fq, L2.Inv X pins σ' H' s7 ∧ s7.gens[gn]? = some y ∧ tn i fq s7.heap y ∧ (∀ b ∈ fq, FpOk X pins H' b) ∧ W i m σ' H' := fun {σ7 H7} I7 n7 => by
      obtain ⟨m', hm, w7⟩ := hN σ7 H7 n7
      refine ⟨m', hm, i + 1, σ7, H7, y5, fr, I7.unpinned, gy7, T.keep _ _ _ _ _ st5 fun b hb o e => (I7.pin (b, o) (List.mem_append_right _ (List.mem_append_right _ (mem_pinsAt hb e)))).1, fun b hb => ⟨?_, (fr5 b hb).2⟩, w7⟩
      obtain ⟨o, e, d⟩ := T.obj _ _ _ _ st5 b hb
      exact (I7.pin (b, o) (List.mem_append_right _ (List.mem_append_right _ (mem_pinsAt hb e)))).2.1
    cases f with
    | next => obtain ⟨σ7, H7, I7, n7⟩ := q7; exact again (inv_back I7 rl7) n7
    | cont => obtain ⟨σ7, H7, I7, n7⟩ := q7; exact again (inv_back I7 rl7) n7
    | brk => obtain ⟨σ7, H7, I7, q7⟩ := q7; exact ⟨σ7, H7, (inv_back I7 rl7).unpinned, q7⟩
    | ret v => obtain ⟨x7, σ7, H7, I7, r7, q7⟩ := q7; exact ⟨x7, σ7, H7, (inv_back I7 rl7).unpinned, r7, q7⟩
end
end GX
namespace GX
open PySem PySem.Spec PyProof.Rows L2 Z
section
variable {X : Cx} {tg : Expr}
/-- the same where nothing may be raised -/
theorem overF {P : Program} {w : World} {A : Around} {α : Type} {t : Sem α} {Q : α → Shared → Prop} {R : α → Shared → Prop} {s : Shared} {E : Value → Shared → Prop} (h : wpAny (model P w) A t Q (fun _ _ => False) { s with gens := s.gens.map poison })
    (k : ∀ a (s' : Shared) D, Rl D s'.gens → Q a { s' with gens := D } → Still s.gens s'.gens → R a s') : wpAny (model P w) A t R E s :=
  wpAny_mono (wpAny_lift h) (fun a s' ⟨D, r, q, st⟩ => k a s' D r q st) fun e s' ⟨D, r, q, _⟩ => q.elim
theorem lcG_core {pins : List (Addr × Obj)} {s : Shared} {σ : L2.St} {H : Hp} {Q : VK} {elt tg iter : Expr} {ifs : List Expr} {scope : Scope} {own : List (Str × Nat)} {pos pos' : Pos} {wi : L2.TI} {g : TG} {tt : TT} {te : TE} {use : Option (Value → Sem Unit)} {Qf : Value → Shared → Prop}
    (hc : X.calm = true) (hN : X.N.Nodup) (I : L2.Inv X pins σ H s) (hi : PIG X tg iter wi) (ok : BlkOk X.N X.env.scope scope own)
    (hg : ∀ (s : Shared) (H : Hp) (C : Addr) (cl : List (Str × Addr)) (fp : List Addr), PG (X.blk s H scope (compEnvC scope cl C X.env) fp) tg g) (ht : ∀ (s : Shared) (H : Hp) (C : Addr) (cl : List (Str × Addr)) (fp : List Addr), PTs (X.blk s H scope (compEnvC scope cl C X.env) fp) ifs tt)
    (he : ∀ (s : Shared) (H : Hp) (C : Addr) (cl : List (Str × Addr)) (fp : List Addr), PE (X.blk s H scope (compEnvC scope cl C X.env) fp) elt te) (hs : ∀ x, foldedSetIterable iter X.env x = pure x)
    (h : tLc wi g tt te (own.map (·.2)) σ H Q)
    (hRR : ∀ D C s' m H', L2.Inv X pins σ H' s' → Q (.ref D) H' → s'.heap.Ns C m → FpOk X pins H' C → compPost (model X.prog X.w) X.A X.xe use Qf (.ref D) C (.ok .next) s') :
    wpAny (model X.prog X.w) X.A (comprehension (.ListComp elt [⟨tg, iter, ifs, 0⟩] scope pos) scope X.env pos' (newList []) false (eval iter X.env) use) Qf X.xe s := by
  have hfree : ∀ y ∈ scope.names, y.2 = .free → ∃ c, X.env.cells.lookup y.1 = some c := fun y hy e => by
    rcases ok.free y hy e with k | k
    · exact I.ok.has _ (.inl k)
    · exact I.ok.has _ (.inr k)
  refine wpAny_comprehension_free (use := use) rfl hs (closure_ok hfree) ok.kind (fun y hy e => by rw [ok.uniq y hy, e])
    (thn (hi.run pins s σ H _ I h) fun xv s1 hx => thn hx fun itv s2 h2 => ?_)
  obtain ⟨it, fp, gn, tn, J, H2, y2, e, I2, T, gy2, st2, f2, q⟩ := h2
  subst e
  refine wpAny_newObj_type (newEnv_comp ?_) (by show 0 ≤ sizeLine; decide)
  generalize hD : s2.heap.objs.size = D
  have hDn : H2 D = none := I2.hok.fresh (Nat.le_of_eq hD)
  obtain ⟨W, ⟨m0, w0⟩, turn⟩ := q D hDn
  generalize hs3 : ({ s2 with heap := s2.heap.push { cls := .type "list", data := .seq ([] : List Value).toArray } } : Shared) = s3
  have I3 : L2.Inv X pins σ (upd H2 D (.lst [])) s3 := by
    rw [← hs3]
    refine I2.laid (t' := s2.toks) (fun b o e => Heap.get?_push_of_some _ e) (Nat.le_of_eq hD) ⟨Nat.zero_le _, [], 0, .nil, ?_⟩
    rw [← hD]
    exact Heap.get?_push_size _ rfl
  have h3 : s3.heap = s2.heap.push { cls := .type "list", data := .seq ([] : List Value).toArray } := by rw [← hs3]
  have g3 : s3.gens = s2.gens := by rw [← hs3]
  have sz : ∀ b ∈ fp, b < s2.heap.objs.size := fun b hb => by
    obtain ⟨o, e, _⟩ := T.obj _ _ _ _ st2 b hb
    exact Heap.lt_size e
  have f3 : ∀ b ∈ fp, FpOk X pins (upd H2 D (.lst [])) b ∧ b < s3.heap.objs.size := fun b hb => by
    have hlt := sz b hb
    refine ⟨⟨?_, (f2 b hb).2⟩, by rw [h3, Heap.size_push]; exact Nat.lt_succ_of_lt hlt⟩
    rw [upd_ne (by rw [← hD]; exact Nat.ne_of_lt hlt)]
    exact (f2 b hb).1
  have st3 : tn 0 fp s3.heap y2 := T.keep _ _ _ _ _ st2 fun b _ o e => by rw [h3]; exact Heap.get?_push_of_some _ e
  have I4 := block_start I3 ok hN f3
  have pg := hg s3 (upd H2 D (.lst [])) s3.heap.objs.size (cellsFrom (s3.heap.objs.size + 1) scope.names (cloFrom X.env.cells scope.names [])) fp
  have pt := ht s3 (upd H2 D (.lst [])) s3.heap.objs.size (cellsFrom (s3.heap.objs.size + 1) scope.names (cloFrom X.env.cells scope.names [])) fp
  have pe := he s3 (upd H2 D (.lst [])) s3.heap.objs.size (cellsFrom (s3.heap.objs.size + 1) scope.names (cloFrom X.env.cells scope.names [])) fp
  show codeAny _ _ (.compStart (.ListComp elt [⟨tg, iter, ifs, 0⟩] scope pos) 0 (.ref it) (.ref D) (compEnvC scope (cellsFrom (s3.heap.objs.size + 1) scope.names (cloFrom X.env.cells scope.names [])) s3.heap.objs.size X.env)) (compPost (model X.prog X.w) X.A X.xe use Qf (.ref D) s3.heap.objs.size) { s3 with heap := pushCells (s3.heap.push { cls := .type "dict", data := .dict #[] }) scope.names }
  have nfp : ∀ b ∈ fp, (upd H2 D (.lst [])) b = none := fun b hb => (f3 b hb).1.1
  generalize hce : compEnvC scope (cellsFrom (s3.heap.objs.size + 1) scope.names (cloFrom X.env.cells scope.names [])) s3.heap.objs.size X.env = ce at I4 pg pt pe ⊢
  have cL : ce.locals = s3.heap.objs.size := by subst hce; rfl
  generalize hH3 : upd H2 D (.lst []) = H3 at I3 I4 pg pt pe w0 nfp f3
  generalize hs4 : ({ s3 with heap := pushCells (s3.heap.push { cls := .type "dict", data := .dict #[] }) scope.names } : Shared) = s4 at I4 ⊢
  have st4 : tn 0 fp s4.heap y2 := T.keep _ _ _ _ _ st3 fun b _ o e => by rw [← hs4]; exact pushCells_keeps _ _ _ _ (Heap.get?_push_of_some _ e)
  have gy4 : s4.gens[gn]? = some y2 := by rw [← hs4]; show s3.gens[gn]? = _; rw [g3]; exact gy2
  have stat : ∀ {σ' : L2.St} {H' : Hp} {s' : Shared}, L2.Inv (X.blk s3 H3 scope ce fp) [] σ' H' s' → (∀ b ∈ fp, H' b = none) → ∀ b ∈ fp, FpOk (X.blk s3 H3 scope ce fp) [] H' b := fun {σ' H' s'} I' hn b hb =>
    ⟨hn b hb, (I'.ok.exf b hb).1, I'.ok.exfs b hb, .inl hb, fun x c e => (I'.ok.exf b hb).2 x c e, fun p hp => absurd (show p ∈ ([] : List (Addr × Obj)) ++ [] from hp) (by simp)⟩
  have loop : codeAny (model X.prog X.w) X.A (.compLoop (.ListComp elt [⟨tg, iter, ifs, 0⟩] scope pos) 0 (.ref it) (.ref D) ce) (compPost (model X.prog X.w) X.A X.xe use Qf (.ref D) s3.heap.objs.size) s4 := by
    refine compLoop_any (fun n s' => ∃ i H' y fq, L2.Inv (X.blk s3 H3 scope ce fp) [] (wipe σ (own.map (·.2))) H' s' ∧ s'.gens[gn]? = some y ∧ tn i fq s'.heap y ∧ (∀ b ∈ fq, FpOk (X.blk s3 H3 scope ce fp) [] H' b) ∧ W i n H') ?_ m0 ⟨0, H3, y2, fp, I4, gy4, st4, stat I4 nfp, w0⟩
    rintro n s5 ⟨i, H5, y5, fq, I5, gy5, st5, n5, w5⟩
    rcases turn i n H5 w5 with ⟨stop, qq⟩ | ⟨go, Nx, hNx, step⟩
    · have td := T.done (X.blk s3 H3 scope ce fp) rfl rfl rfl rfl rfl hc i [] s5 _ H5 (fun _ _ => False) y5 fq I5 n5 gy5 st5 stop
      refine thnF td fun r s6 ⟨hr, I6⟩ => ?_
      subst hr
      have I7 : L2.Inv X pins σ H5 s6 := I3.call' (ch := fp) I6.os I6.base I6.hok I6.bare fun b hb => ⟨(f3 b hb).1.2.2.2.1, (f3 b hb).1.2.1, (f3 b hb).1.2.2.2.2.1, (f3 b hb).1.2.2.2.2.2⟩
      have nC : H5 s3.heap.objs.size = none := by
        have z : H5 ce.locals = none := I6.free
        rw [cL] at z
        exact z
      obtain ⟨m, hn, _⟩ := I6.loc
      have hn : s6.heap.Ns ce.locals m := hn
      rw [cL] at hn
      exact hRR D s3.heap.objs.size s6 m H5 I7 qq hn (I3.fpOk (Nat.le_refl _) nC)
    · have ti := T.item (X.blk s3 H3 scope ce fp) rfl rfl rfl rfl rfl hc i [] s5 _ H5 (fun _ _ => False) y5 fq I5 n5 gy5 st5 go
      refine thnF ti fun r s6 ⟨u, hr, h6⟩ => ?_
      subst hr
      refine thnF h6 fun _ s7 ⟨x, H7, y7, fr, I7, r7, yl7, gy7, su7, st7, n7⟩ => ?_
      have I7' := I7.pinned n7 (T.obj _ _ _ _ st7)
      refine overF (pg.run _ _ _ H7 x u _ (inv_poison I7') r7 (step x H7 yl7)) fun _ s8 D8 rl8 ⟨σ8, H8, I8, hw8, q8⟩ still8 => ?_
      have gy8 := still8 gn y7 gy7 su7
      refine overF (pt.run _ _ σ8 H8 _ (inv_poison (inv_back I8 rl8)) q8) fun b s9 D9 rl9 ⟨H9, I9, q9⟩ still9 => ?_
      have gy9 := still9 gn y7 gy8 su7
      have fin : ∀ {s' : Shared} {H' : Hp}, L2.Inv (X.blk s3 H3 scope ce fp) ([] ++ pinsAt fr s7.heap) σ8 H' s' → s'.gens[gn]? = some y7 → Nx H' → ∃ m, m < n ∧ ∃ i H' y fq, L2.Inv (X.blk s3 H3 scope ce fp) [] (wipe σ (own.map (·.2))) H' s' ∧ s'.gens[gn]? = some y ∧ tn i fq s'.heap y ∧ (∀ b ∈ fq, FpOk (X.blk s3 H3 scope ce fp) [] H' b) ∧ W i m H' := fun {s' H'} I' gy' nx => by
        obtain ⟨m', hm, w'⟩ := hNx H' nx
        have pin' : ∀ b ∈ fr, ∀ o, s7.heap.get? b = some o → s'.heap.get? b = some o ∧ H' b = none := fun b hb o e =>
          let z := I'.pin (b, o) (List.mem_append_right _ (List.mem_append_right _ (mem_pinsAt hb e)))
          ⟨z.1, z.2.1⟩
        have hl : (wipe σ (own.map (·.2))).length = σ8.length := by rw [← hw8, L2.wipe_length]
        refine ⟨m', hm, i + 1, H', y7, fr, (I'.unpinned (pins := [])).weak hl (fun j v e => ?_), gy', T.keep _ _ _ _ _ st7 fun b hb o e => (pin' b hb o e).1, fun b hb => ⟨?_, (n7 b hb).2⟩, w'⟩
        · rw [← hw8] at e
          exact (wipe_some e).1
        · obtain ⟨o, e, _⟩ := T.obj _ _ _ _ st7 b hb
          exact (pin' b hb o e).2
      cases b with
      | false =>
        simp only [Bool.false_eq_true, if_false] at q9 ⊢
        exact fin (inv_back I9 rl9) gy9 q9
      | true =>
        simp only [if_true] at q9 ⊢
        refine overF (pe.run _ _ σ8 H9 _ (inv_poison (inv_back I9 rl9)) q9) fun z s10 D10 rl10 ⟨yv, H10, I10, r10, acc, hD10, hz10, nx⟩ still10 => ?_
        have gy10 := still10 gn y7 gy9 su7
        have J10 := inv_back I10 rl10
        refine overF (app_ok (X := X.blk s3 H3 scope ce fp) (E := fun _ _ => False) (inv_poison J10) hD10 hz10 r10 (Q := fun _ s' => L2.Inv (X.blk s3 H3 scope ce fp) ([] ++ pinsAt fr s7.heap) σ8 (upd H10 D (.lst (acc ++ [yv]))) s') fun s11 I11 => I11) fun _ s11 D11 rl11 I11 still11 => ?_
        exact fin (inv_back I11 rl11) (still11 gn y7 gy10 su7) nx
  exact codeAny_compStart_list loop (T.self X.A 0 _ _ _ _ _ st4 loop)
/-- [.. for tg in a generator] -/
theorem pe_lcG {elt tg iter : Expr} {ifs : List Expr} {scope : Scope} {own : List (Str × Nat)} {pos : Pos} {wi : L2.TI} {g : TG} {tt : TT} {te : TE} (hc : X.calm = true) (hN : X.N.Nodup) (hi : PIG X tg iter wi) (ok : BlkOk X.N X.env.scope scope own)
    (hg : ∀ (s : Shared) (H : Hp) (C : Addr) (cl : List (Str × Addr)) (fp : List Addr), PG (X.blk s H scope (compEnvC scope cl C X.env) fp) tg g) (ht : ∀ (s : Shared) (H : Hp) (C : Addr) (cl : List (Str × Addr)) (fp : List Addr), PTs (X.blk s H scope (compEnvC scope cl C X.env) fp) ifs tt)
    (he : ∀ (s : Shared) (H : Hp) (C : Addr) (cl : List (Str × Addr)) (fp : List Addr), PE (X.blk s H scope (compEnvC scope cl C X.env) fp) elt te) (hs : ∀ x, foldedSetIterable iter X.env x = pure x := by intro _; rfl) :
    PE X (.ListComp elt [⟨tg, iter, ifs, 0⟩] scope pos) (tLc wi g tt te (own.map (·.2))) := by
  refine ⟨fun pins s σ H Q I h => ?_⟩
  rw [eval_ListComp]
  refine lcG_core hc hN I hi ok hg ht he hs h fun D C s' m H' I' q hn f => ⟨m, hn, fun h'' sb => ?_⟩
  obtain ⟨f0, f1, f2, f3, f4, f5⟩ := f
  exact ⟨.ref D, H', I'.turned (t' := s'.toks) (fun b o hb e => (sb.2 b hb).trans e) f0 f1 f3 f4 f5, rfl, q⟩
end
end GX
namespace GX
open PySem PySem.Spec PyProof.Rows L2 GenW
/-! ### one turn of a generator: runs to an end of which Φ holds -/
def Sg (M : Model) (A : Around) (Φ : End → Shared → Prop) (c : Code) (t : Sem PySem.Fin) (fs : List Frame) (s : Shared) : Prop :=
  ∀ Γ p, Γ.code = c → Γ.Woken A → ∃ e s', Runs M Γ p t fs s e s' ∧ Φ e s'
section
variable {M : Model} {A : Around} {Φ Ψ : End → Shared → Prop} {c : Code} {fs : List Frame} {s : Shared}
theorem Sg.mono {t : Sem PySem.Fin} (h : Sg M A Φ c t fs s) (k : ∀ e s', Φ e s' → Ψ e s') : Sg M A Ψ c t fs s := fun Γ p hc hΓ => let ⟨e, s', r, q⟩ := h Γ p hc hΓ; ⟨e, s', r, k e s' q⟩
theorem sg_wrap {α : Type} {m : Sem α} {K : α → Sem PySem.Fin} {H : Value → Sem PySem.Fin} {gd lv}
    (h : wpAny M (A.over c fs) m (fun a s' => Sg M A Φ c (K a) fs s') (fun x s' => Sg M A Φ c (H x) fs s') s) : Sg M A Φ c (m.wrap K H gd lv) fs s := by
  rintro Γ p rfl hΓ
  exact runs_wrap_of_wp K H gd lv m (h (Γ.over fs) p (hΓ.over fs)) (fun a p' s' h' => h' Γ p' rfl hΓ) (fun x p' s' h' => h' Γ p' rfl hΓ)
theorem sg_bw {α β : Type} {m : Sem α} {K : α → Sem β} {K' : β → Sem PySem.Fin} {H' : Value → Sem PySem.Fin} {gd lv}
    (h : wpAny M (A.over c fs) m (fun a s' => Sg M A Φ c ((K a).wrap K' H' gd lv) fs s') (fun x s' => Sg M A Φ c (H' x) fs s') s) : Sg M A Φ c ((m >>= K).wrap K' H' gd lv) fs s := by
  rw [Sem.bind_eq_wrap', Sem.wrap_wrap]; exact sg_wrap h
theorem sg_at {p' : Pos} {k : Unit → Sem PySem.Fin} (h : Sg M A Φ c (k ()) fs s) : Sg M A Φ c (.at p' k) fs s :=
  sg_wrap (m := standAt p') (K := k) (H := .raise) (gd := id) (lv := id) (wpAny_standAt h)
theorem sg_point {l : List Value} {k : Unit → Sem PySem.Fin} (h : Sg M A Φ c (k ()) fs s) : Sg M A Φ c (.point l k) fs s :=
  sg_wrap (m := point) (K := k) (H := .raise) (gd := id) (lv := fun _ => l) (wpAny_point h)
theorem sg_call {c' : Code} {h g l} {k : Result → Sem PySem.Fin} (hc : ∀ p, Sg M A Φ c' (M.den c') (.ret k h g l c p [] :: fs) s) : Sg M A Φ c (.call c' h g l k) fs s := by
  rintro Γ p rfl hΓ
  obtain ⟨e, s', hr, he⟩ := hc p (Γ.goto c') p rfl (hΓ.goto c')
  exact ⟨e, s', runs_call_seg hr, he⟩
theorem sg_leaf {k h g l c₁ p₁ kp} (r : Result) (hk : Sg M A Φ c₁ (k r) fs s) : Sg M A Φ c (leafOf r) (.ret k h g l c₁ p₁ kp :: fs) s := by
  rintro Γ p rfl hΓ
  obtain ⟨e, s', hr, he⟩ := hk (Γ.goto c₁) p₁ rfl (hΓ.goto c₁)
  exact ⟨e, s', Runs.pop r hr, he⟩
theorem sg_again {c' : Code} (hq : c'.quiet = true) (hc : Sg M A Φ c' (M.den c') fs s) : Sg M A Φ c (.pure (.again c')) fs s := by
  rintro Γ p rfl hΓ
  obtain ⟨e, s', hr, he⟩ := hc (Γ.goto c') p rfl (hΓ.goto c')
  exact ⟨e, s', Runs.head (c₁ := c') (fun _ _ x => .again hq x) hr, he⟩
theorem sg_end (r : Result) (h : Φ (.ret r) s) : Sg M A Φ c (leafOf r) [] s := by
  rintro Γ p rfl _
  exact ⟨.ret r, s, Runs.leaf r, h⟩
theorem sg_yield {v g l} {k : Resume → Sem PySem.Fin} (hfs : splitAtGen fs = none) (h : ∀ p, Φ (.susp v g l k c p fs) s) : Sg M A Φ c (.yield v g l k) fs s := by
  rintro Γ p rfl _
  exact ⟨_, s, Runs.yield' fs hfs, h p⟩
/-- a sleeper that is woken -/
def Wk (M : Model) (A : Around) (y : GenState) (s : Shared) (Φ : End → Shared → Prop) : Prop := match y with
  | .fresh c => Sg M A Φ c (M.den c) [] s
  | .suspended k _ c _ fs _ => Sg M A Φ c (k (.send .none)) fs s
  | _ => False
theorem wpAny_resumeF {E : Value → Shared → Prop} {g : Nat} {y : GenState} {l : List Value} {α : Type} {k : GenResult → Sem α} {Q : α → Shared → Prop} (hg : s.gens[g]? = some y)
    (h : Wk M A y (s.setGen g .running) Φ) (hq : ∀ e s', Φ e s' → e.quiet = true) (hR : ∀ e s1, Φ e s1 → wpAny M A (k e.result) Q E (s1.setGen g e.genState)) : wpAny M A (.resume g (.send .none) l k) Q E s := by
  intro Γ p hΓ
  rw [Sem.wp_resume]
  have hB : ∀ c, (Γ.wake c p).Woken A := fun c => hΓ.wake c p
  cases y with
  | fresh c =>
    obtain ⟨e₁, s₁, hr, he⟩ := h (Γ.wake c p) p rfl (hB c)
    exact ⟨_, _, by unfold Wakes; rw [hg]; exact ⟨e₁, s₁, hr, hq e₁ s₁ he, rfl, rfl⟩, hR e₁ s₁ he Γ p hΓ⟩
  | suspended k₀ l₀ c₀ p₀ fs₀ cl =>
    obtain ⟨e₁, s₁, hr, he⟩ := h (Γ.wake c₀ p) p₀ rfl (hB c₀)
    exact ⟨_, _, by unfold Wakes; rw [hg]; exact ⟨e₁, s₁, hr, hq e₁ s₁ he, rfl, rfl⟩, hR e₁ s₁ he Γ p hΓ⟩
  | running => exact h.elim
  | finished => exact h.elim
end
section
variable {P : Program} {w : World} {A : Around} {E : Value → Shared → Prop} {s : Shared} {Φ : End → Shared → Prop}
theorem pyNext_genF {a : Addr} {g : Nat} {y : GenState} {Q : Option Value → Shared → Prop} (hh : A.handled = none) (hl : s.heap.NoLimit) (hroom : A.depth < recursionLimit) (hg : s.heap.IsGen a g) (hgs : s.gens[g]? = some y)
    (h : Wk (model P w) A.in1 y (s.setGen g .running) Φ) (hq : ∀ e s', Φ e s' → e.quiet = true)
    (hR : ∀ e s1, Φ e s1 → match e with
      | .ret (.ok f) => (f = .ret .none ∨ f = .next) ∧ ∀ h', (∀ b o, s1.heap.get? b = some o → h'.get? b = some o) → Q none { s1.setGen g .finished with heap := h' }
      | .ret (.error _) => False
      | .susp v g0 l k c p fs => Q (some v) (s1.setGen g (End.susp v g0 l k c p fs).genState)) :
    wpAny (model P w) A (pyNext (.ref a)) Q E s := by
  unfold pyNext
  refine wpAny_bind (wpAny_attempt (wpAny_callSpecial?_slot (name := Str.ofString "__next__") hg.typeIs slot_gen_next
    (wpAny_call_entry slot_gen_next hg.typeIs entry_gen_next ?_ (args_gen_next _))))
  show wpAny _ A.in1 (Builtin.Generator.genWake (.ref a) (.send .none)) _ _ s
  unfold Builtin.Generator.genWake
  refine wpAny_bind (wpAny_holding (wpAny_genNumber hg (wpAny_bind (wpAny_genState hgs ?_))))
  cases y with
  | running => exact h.elim
  | finished => exact h.elim
  | _ =>
    refine wpAny_bind (wpAny_roomToWake hl hroom ?_)
    show wpAny _ A.in1 (.resume g (.send .none) [] _) _ _ s
    refine wpAny_resumeF hgs h hq fun e s₁ he => ?_
    have he := hR e s₁ he
    cases e with
    | ret r =>
      cases r with
      | error x => exact he.elim
      | ok f =>
        obtain ⟨hr, hp⟩ := he
        have hres : End.result (.ret (.ok f)) = .returned .none := by rcases hr with hr | hr <;> rw [hr] <;> rfl
        rw [hres]
        show wpAny _ A.in1 (newExc (.type "StopIteration") [] >>= _) _ _ _
        refine wpAny_bind ?_
        simp only [newExc, newTuple]
        refine wpAny_bind (wpAny_newObj_type ?_ (by size_fits))
        refine wpAny_bind (m := firstArgMember _ _) (wpAny_of_eq (a := Value.none) (by first | rfl | (simp only [firstArgMember]; rfl)) ?_)
        refine wpAny_newObj_type ?_ (by size_fits)
        simp only [raiseNew]
        refine wpAny_bind (wpAny_bind (wpAny_handled ?_))
        rw [show A.in1.handled = none from hh]
        refine wpAny_throw ?_
        refine wpAny_bind (wpAny_isInstance (T := "StopIteration") (b := true) ⟨_, Heap.get?_push_size _ rfl, rfl⟩ isSubtype_stop ?_)
        exact wpAny_pure (hp _ fun b o hb => Heap.get?_push_of_some _ (Heap.get?_push_of_some _ hb))
    | susp v g0 l k c p fs => exact wpAny_pure ⟨v, rfl, wpAny_pure he⟩
end
/-! ### for, in a generator -/
section
variable {M : Model} {A : Around} {Φ : End → Shared → Prop} {c : Code} {fs : List Frame} {s : Shared} {env : Env} {K : Flow → Sem PySem.Fin} {H : Value → Sem PySem.Fin} {gd : Bool → Bool} {lv : List Value → List Value}
theorem sg_cons {st : Stmt} {rest : List Stmt} (h : Sg M A Φ c ((exec st env).wrap (fun f => match f with | .next => (execs rest env).wrap K H gd lv | f => K f) H gd lv) fs s) :
    Sg M A Φ c ((execs (st :: rest) env).wrap K H gd lv) fs s := by rw [execs_cons_wrap]; exact h
theorem sg_nil (h : Sg M A Φ c (K .next) fs s) : Sg M A Φ c ((execs [] env).wrap K H gd lv) fs s := h
/-- what a loop's call does with what comes back -/
def backK (env : Env) (K : Flow → Sem PySem.Fin) (H : Value → Sem PySem.Fin) (gd : Bool → Bool) (lv : List Value → List Value) (r : Result) : Sem PySem.Fin :=
  ((match r with | .ok f => (.pure f : Sem Flow) | .error e => .raise e).onRaise fun (x : Value) => do
    if (← field x 1) == Value.none then unsupported "frame.own-activation:exception-without-traceback"
    setFlight x env.frame).wrap K H gd lv
theorem sg_For {tg iter : Expr} {body : List Stmt} {pos : Pos}
    (h : wpAny M (A.over c fs) (eval iter env) (fun x s1 => wpAny M (A.over c fs) (pyIter x) (fun it s2 => ∀ p, Sg M A Φ (.forLoop tg it body [] env) (M.den (.forLoop tg it body [] env)) (.ret (backK env K H gd lv) none (gd false) (lv []) c p [] :: fs) s2) (fun _ _ => False) s1) (fun _ _ => False) s)
    (hs : ∀ x, foldedSetIterable iter env x = pure x := by intro _; rfl) : Sg M A Φ c ((exec (.For tg iter body [] pos) env).wrap K H gd lv) fs s := by
  rw [exec_For]
  refine sg_bw (wpAny_standAt ?_)
  refine sg_bw (wpAny_mono h (fun x s1 h1 => ?_) fun _ _ e => e.elim)
  refine sg_bw (wpAny_of_eq (hs x) ?_)
  refine sg_bw (wpAny_standAt ?_)
  refine sg_bw (wpAny_holding (wpAny_mono h1 (fun it s2 h2 => ?_) fun _ _ e => e.elim))
  exact sg_call h2
/-- what is done with what leaves a loop's code as an exception -/
def loopH (env : Env) (e : Value) : Sem PySem.Fin := (do noteFrame e env; theTreesLotGoes e : Sem Unit).bind fun _ => .raise e
def loopK (c : Code) (f : Flow) : Sem PySem.Fin := match f with
  | .next | .cont => .pure (.again c)
  | .brk => .pure (.done .next)
  | .ret v => .pure (.done (.ret v))
end
section
variable {P : Program} {w : World} {A : Around} {Φ : End → Shared → Prop} {fs : List Frame} {s : Shared} {env : Env}
theorem sg_forLoop {tg : Expr} {it : Value} {body : List Stmt}
    (h : wpAny (model P w) (A.over (.forLoop tg it body [] env) fs) (pyNext it) (fun r s1 => match r with
      | none => Sg (model P w) A Φ (.block [] env) (leafOf (.ok .next)) fs s1
      | some v => wpAny (model P w) (A.over (.forLoop tg it body [] env) fs) (letOwnedTupleGo tg it v) (fun _ s2 => wpAny (model P w) (A.over (.forLoop tg it body [] env) fs) (assign tg env v)
          (fun _ s3 => Sg (model P w) A Φ (.forLoop tg it body [] env) ((execs body env).wrap (loopK (.forLoop tg it body [] env)) (loopH env) id id) fs s3) (fun _ _ => False) s2) (fun _ _ => False) s1) (fun _ _ => False) s) :
    Sg (model P w) A Φ (.forLoop tg it body [] env) ((model P w).den (.forLoop tg it body [] env)) fs s := by
  show Sg _ A Φ _ ((forTurn tg it body [] env).onRaise (fun x => do noteFrame x env; theTreesLotGoes x)) fs s
  unfold forTurn
  rw [Sem.onRaise_eq_wrap]
  refine sg_bw (wpAny_standAt ?_)
  refine sg_bw (wpAny_onRaise (wpAny_mono h (fun r s1 h1 => ?_) fun _ _ e => e.elim))
  cases r with
  | none => exact sg_again rfl h1
  | some v =>
    refine sg_bw (wpAny_mono h1 (fun _ s2 h2 => ?_) fun _ _ e => e.elim)
    refine sg_bw (wpAny_mono h2 (fun _ s3 h3 => ?_) fun _ _ e => e.elim)
    rw [Sem.bind_eq_wrap', Sem.wrap_wrap]
    refine Eq.mpr (congrArg (fun t => Sg (model P w) A Φ (.forLoop tg it body [] env) t fs s3) (Sem.wrap_congr (execs body env) (K' := loopK (.forLoop tg it body [] env)) (H' := loopH env) _ _ (fun f => ?_) fun e => ?_)) h3
    · cases f <;> rfl
    · rfl
end
end GX
namespace GX
open PySem PySem.Spec PyProof.Rows L2 GenW
/-! ### nothing that runs makes the heap smaller -/
theorem runs_hsz {M : Model} {Γ : PySem.Ctx} {p : Pos} {t : Sem PySem.Fin} {fs : List Frame} {s s' : Shared} {e : End} (h : Runs M Γ p t fs s e s') : s.heap.objs.size ≤ s'.heap.objs.size := by
  induction h <;> (try simp only [Shared.setGen, Heap.size_push, Heap.size_update] at *) <;> omega
theorem wakes_hsz {M : Model} {Γ : PySem.Ctx} {p : Pos} {g : Nat} {r : Resume} {s s' : Shared} {res : GenResult} (h : Wakes M Γ p g r s res s') : s.heap.objs.size ≤ s'.heap.objs.size := by
  unfold Wakes at h
  split at h
  · exact h.elim
  · split at h
    · obtain ⟨e₁, s₁, hr, _, _, rfl⟩ := h
      exact (runs_hsz hr : (s.setGen g .running).heap.objs.size ≤ s₁.heap.objs.size)
    · rw [h.2]; exact Nat.le_refl _
    · rw [h.2]; exact Nat.le_refl _
  · obtain ⟨e₁, s₁, hr, _, _, rfl⟩ := h
    exact (runs_hsz hr : (s.setGen g .running).heap.objs.size ≤ s₁.heap.objs.size)
  · rw [h.2]; exact Nat.le_refl _
  · rw [h.2]; exact Nat.le_refl _
theorem wp_hsz {α : Type} (M : Model) (Γ : PySem.Ctx) (n : Nat) (t : Sem α) : ∀ (Q : α → Pos → Shared → Prop) (E : Value → Pos → Shared → Prop) (p : Pos) (s : Shared), n ≤ s.heap.objs.size → Sem.wp M Γ t Q E p s →
    Sem.wp M Γ t (fun a p' s' => n ≤ s'.heap.objs.size ∧ Q a p' s') (fun e p' s' => n ≤ s'.heap.objs.size ∧ E e p' s') p s := by
  induction t with
  | pure a => intro Q E p s hn h; exact ⟨hn, h⟩
  | raise e => intro Q E p s hn h; exact ⟨hn, h⟩
  | unsupported _ => intro Q E p s _ h; exact h
  | finish _ => intro Q E p s _ h; exact h
  | rule _ k ih => intro Q E p s hn h; exact ih () Q E p s hn h
  | «at» p' k ih => intro Q E p s hn h; exact ih () Q E p' s hn h
  | load a _ k ih => intro Q E p s hn h; obtain ⟨o, ho, h⟩ := h; exact ⟨o, ho, ih o Q E p s hn h⟩
  | update a _ f k ih => intro Q E p s hn h; exact ⟨h.1, ih () Q E p _ (by show n ≤ (s.heap.update a f).objs.size; rw [Heap.size_update]; exact hn) h.2⟩
  | loadIfAlive a k ih => intro Q E p s hn h; exact ih _ Q E p s hn h
  | point _ k ih => intro Q E p s hn h; exact ih () Q E p s hn h
  | register _ _ => intro Q E p s _ h; exact h
  | alloc o k ih => intro Q E p s hn h; exact ih _ Q E p _ (by show n ≤ (s.heap.push o).objs.size; rw [Heap.size_push]; omega) h
  | fresh k ih => intro Q E p s hn h; exact ih _ Q E p _ hn h
  | ask k ih => intro Q E p s hn h; exact ih _ Q E p s hn h
  | choose src m k ih => intro Q E p s hn h; exact ⟨h.1, ih _ Q E p _ hn h.2⟩
  | os q _ k ih => intro Q E p s hn h; exact ih _ Q E p _ hn h
  | call c hd _ _ k ih => intro Q E p s hn h; obtain ⟨r, s', hr, h⟩ := h; exact ⟨r, s', hr, ih r Q E p s' (Nat.le_trans hn (runs_hsz hr)) h⟩
  | handled own k ih => intro Q E p s hn h; exact ih _ Q E p s hn h
  | genState g k ih => intro Q E p s hn h; obtain ⟨st, hs, h⟩ := h; exact ⟨st, hs, ih _ Q E p s hn h⟩
  | newGen c k ih => intro Q E p s hn h; exact ih _ Q E p _ hn h
  | resume g r _ k ih => intro Q E p s hn h; obtain ⟨res, s', hw, h⟩ := h; exact ⟨res, s', hw, ih res Q E p s' (Nat.le_trans hn (wakes_hsz hw)) h⟩
  | yield _ _ _ _ => intro Q E p s _ h; exact h
  | stack k ih => intro Q E p s hn h; exact ih _ Q E p s hn h
  | fork _ _ => intro Q E p s _ h; exact h
  | thread k ih => intro Q E p s hn h; exact ih _ Q E p s hn h
  | await _ _ _ _ _ => intro Q E p s _ h; exact h
theorem wpAny_hsz {α : Type} {M : Model} {A : Around} {s : Shared} {t : Sem α} {Q : α → Shared → Prop} {E : Value → Shared → Prop}
    (h : wpAny M A t (fun a s' => s.heap.objs.size ≤ s'.heap.objs.size → Q a s') E s) : wpAny M A t Q E s :=
  wpAny_mono (fun Γ p hΓ => wp_hsz M Γ _ t _ _ p s (Nat.le_refl _) (h Γ p hΓ) : wpAny M A t (fun a s' => s.heap.objs.size ≤ s'.heap.objs.size ∧ (s.heap.objs.size ≤ s'.heap.objs.size → Q a s')) (fun e s' => s.heap.objs.size ≤ s'.heap.objs.size ∧ E e s') s)
    (fun _ _ x => x.2 x.1) fun _ _ x => x.2
/-! ### yield -/
theorem sg_Expr_Yield {M : Model} {A : Around} {Φ : End → Shared → Prop} {c : Code} {fs : List Frame} {s : Shared} {env : Env} {K : Flow → Sem PySem.Fin} {H : Value → Sem PySem.Fin} {gd : Bool → Bool} {lv : List Value → List Value} {e : Expr} {ypos pos : Pos}
    (hfs : splitAtGen fs = none) (hgd : gd false = false)
    (h : wpAny M (A.over c fs) (eval e env) (fun v s' => ∀ g l k p, g = false → (∀ Ψ s'', Sg M A Ψ c (K .next) fs s'' → Sg M A Ψ c (k (.send .none)) fs s'') → Φ (.susp v g l k c p fs) s') (fun _ _ => False) s)
    (hco : env.scope.isCoroutine = false) (hi : interactive env = false) : Sg M A Φ c ((exec (.Expr (.Yield (some e) ypos) pos) env).wrap K H gd lv) fs s := by
  rw [exec_Expr env _ pos hi rfl]
  show Sg M A Φ c (.at pos fun _ => ((eval e env >>= fun v => (standAt ypos >>= fun _ => yieldOut env v)) >>= fun x => dropValue (.Yield (some e) ypos) pos x).wrap K H gd lv) fs s
  have hy : ∀ v, yieldOut env v = yieldValue v := fun v => by simp only [yieldOut, hco, Bool.false_eq_true, if_false]
  simp only [hy]
  refine sg_at ?_
  rw [Sem.bind_eq_wrap', Sem.bind_eq_wrap', Sem.wrap_wrap, Sem.wrap_wrap]
  refine sg_wrap (wpAny_mono h (fun v s' h' => ?_) fun _ _ x => x.elim)
  refine sg_at ?_
  refine sg_yield hfs fun p => ?_
  refine h' _ _ _ p hgd fun Ψ s'' hx => ?_
  exact hx
end GX
namespace GX
open PySem PySem.Spec PyProof.Rows L2 GenW
/-! ### for y in range(c): for x in range(a): yield (x, y) -/
/-- the names that the def's code asks the module for -/
def Good (s : Shared) : Prop := (∃ m, s.heap.Ns mainGlobals m ∧ m "range" = none) ∧ ∃ m, s.heap.Ns builtinsNs m ∧ m "range" = some (.type "range")
def Kp (fp : List Addr) (h h' : Heap) : Prop := ∀ b o, b ∉ fp → h.get? b = some o → h'.get? b = some o
theorem Kp.refl {fp : List Addr} {h : Heap} : Kp fp h h := fun _ _ _ e => e
theorem Kp.trans {fp : List Addr} {h h1 h2 : Heap} (a : Kp fp h h1) (b : Kp fp h1 h2) : Kp fp h h2 := fun c o n e => b c o n (a c o n e)
theorem Kp.of {fp : List Addr} {h h' : Heap} (a : ∀ b o, h.get? b = some o → h'.get? b = some o) : Kp fp h h' := fun b o _ e => a b o e
theorem Kp.one {fp : List Addr} {h h' : Heap} {x : Addr} (m : x ∈ fp) (a : Heap.ExtBut x h h') : Kp fp h h' := fun b o n e => a b o (fun z => n (z ▸ m)) e
/-- what is wanted of the def's environment -/
structure EnvOk (env : Env) : Prop where
  kind : env.scope.kind = .function
  glob : env.globals = mainGlobals
  blt : env.builtins = builtinsNs
  rng : env.kindOf "range" = some .globalImplicit
  ka : env.kindOf "a" = some .local
  kb : env.kindOf "b" = some .local
  kc : env.kindOf "c" = some .local
  kx : env.kindOf "x" = some .local
  ky : env.kindOf "y" = some .local
  ks : env.kindOf "self" = some .local
  co : env.scope.isCoroutine = false
  hi : interactive env = false
theorem EnvOk.hp {env : Env} (e : EnvOk env) : (env.scope.kind == .class || (env.scope.kind == .module && env.locals != env.globals)) = false := by rw [e.kind]; rfl
def FrA (h : Heap) (L : Addr) (a : Int) : Prop := ∃ m t, h.Ns L m ∧ m "a" = some (.int a t)
def FrY (h : Heap) (L : Addr) (a y : Int) : Prop := ∃ m t u, h.Ns L m ∧ m "a" = some (.int a t) ∧ m "y" = some (.int y u)
def tupO (v u : Value) : Obj := { cls := .type "tuple", data := .seq #[v, u] }
def Base (gobj : Addr) (gno : Nat) (fp : List Addr) (h : Heap) (y : GenState) : Prop := y.bare = true ∧ susp y = true ∧ gobj ∈ fp ∧ h.IsGen gobj gno ∧ (∀ b ∈ fp, b < h.objs.size) ∧ ∀ b ∈ fp, ∃ o, h.get? b = some o ∧ ∀ v, o.data ≠ .cell v
def DoneG (fp : List Addr) (s : Shared) (e : End) (s' : Shared) : Prop := (∃ f, e = .ret (.ok f) ∧ (f = .ret .none ∨ f = .next)) ∧ Kp fp s.heap s'.heap ∧ s.heap.objs.size ≤ s'.heap.objs.size ∧ s'.os = s.os ∧ s'.gens = s.gens
def ItemG (fp : List Addr) (s : Shared) (xy : Int × Int) (S : List Addr → Heap → GenState → Prop) (e : End) (s' : Shared) : Prop :=
  ∃ h1 tx ty l k c p fs fp', e = .susp (.ref h1.objs.size) false l k c p fs ∧ fs.any Frame.guarded = false ∧ s'.heap = h1.push (tupO (.int xy.1 tx) (.int xy.2 ty)) ∧ Kp fp s.heap h1 ∧ s.heap.objs.size ≤ h1.objs.size ∧ (∀ b ∈ fp', b ∈ fp ∨ s.heap.objs.size ≤ b) ∧ (∀ b ∈ fp', b < h1.objs.size) ∧
    S fp' s'.heap e.genState ∧ s'.os = s.os ∧ s'.gens = s.gens
section
variable (P : Program) (w : World) (A : Around) (gobj : Addr) (gno : Nat) (itm : Nat → Int × Int)
/-- asleep, with so many items to come -/
def Slp : Nat → List Addr → Heap → GenState → Prop
  | 0 => fun fp h y => Base gobj gno fp h y ∧ ∀ s, Good s → (∀ b ∈ fp, ∀ o, h.get? b = some o → s.heap.get? b = some o) → Wk (model P w) A y s (DoneG fp s)
  | r + 1 => fun fp h y => Base gobj gno fp h y ∧ ∀ s, Good s → (∀ b ∈ fp, ∀ o, h.get? b = some o → s.heap.get? b = some o) → Wk (model P w) A y s (ItemG fp s (itm r) (Slp r))
def TurnE (r : Nat) (fp : List Addr) (s : Shared) : End → Shared → Prop := match r with
  | 0 => DoneG fp s
  | r + 1 => ItemG fp s (itm r) (Slp P w A gobj gno itm r)
end
theorem slp_base {P : Program} {w : World} {A : Around} {gobj : Addr} {gno : Nat} {itm : Nat → Int × Int} {r : Nat} {fp : List Addr} {h : Heap} {y : GenState} (x : Slp P w A gobj gno itm r fp h y) : Base gobj gno fp h y := by
  cases r with
  | zero => exact x.1
  | succ r => exact x.1
theorem slp_wk {P : Program} {w : World} {A : Around} {gobj : Addr} {gno : Nat} {itm : Nat → Int × Int} {r : Nat} {fp : List Addr} {h : Heap} {y : GenState} (x : Slp P w A gobj gno itm r fp h y) :
    ∀ s, Good s → (∀ b ∈ fp, ∀ o, h.get? b = some o → s.heap.get? b = some o) → Wk (model P w) A y s (TurnE P w A gobj gno itm r fp s) := by
  cases r with
  | zero => exact x.2
  | succ r => exact x.2
theorem slp_of {P : Program} {w : World} {A : Around} {gobj : Addr} {gno : Nat} {itm : Nat → Int × Int} {r : Nat} {fp : List Addr} {h : Heap} {y : GenState} (b : Base gobj gno fp h y)
    (k : ∀ s, Good s → (∀ b ∈ fp, ∀ o, h.get? b = some o → s.heap.get? b = some o) → Wk (model P w) A y s (TurnE P w A gobj gno itm r fp s)) : Slp P w A gobj gno itm r fp h y := by
  cases r with
  | zero => exact ⟨b, k⟩
  | succ r => exact ⟨b, k⟩
/-! ### the pieces, by the heap -/
section
variable {P : Program} {w : World} {A : Around} {env : Env} {s : Shared} {L : Addr}
/-- range(n), its iterator -/
theorem ev_range {v : Str} {n : Int} {p1 p2 p3 : Pos} {m : Str → Option Value} {t : Tok} {R : Value → Shared → Prop} {E : Value → Shared → Prop} (ok : EnvOk env) (g : Good s) (hk : env.kindOf v = some .local) (hn : s.heap.Ns env.locals m) (hv : m v = some (.int n t)) (h1 : 0 ≤ n) (h2 : n < 2 ^ 62)
    (hR : ∀ h' tk I, s.heap.objs.size ≤ I → I < h'.objs.size → (∀ b o, s.heap.get? b = some o → h'.get? b = some o) → IsRangeIter h' I 0 n 1 → s.heap.objs.size ≤ h'.objs.size → R (.ref I) { s with heap := h', toks := tk })
    (hd : (v == ("__debug__" : Str)) = false := by decide) :
    wpAny (model P w) A (eval (.Call (.Name "range" p1) [.Name v p2] [] p3) env) (fun x s1 => wpAny (model P w) A (pyIter x) R E s1) E s := by
  obtain ⟨⟨mg, g1, g2⟩, mb, b1, b2⟩ := g
  refine Call_ (Calls.Name_function_global ok.kind ok.rng (Calls.loadGlobal_builtin (mg := mg) (mb := mb) (by rw [ok.glob]; exact g1) g2 (by rw [ok.blt]; exact b1) b2 ?_))
  refine PyProof.Rows.callWith_type1 (args_cons ?_ rfl) rfl rfl
  refine wpAny_Name (wpAny_loadName_local ok.kind hk hn hv ?_) hd
  refine args_nil ?_
  refine call_range_1 ?_
  refine wpAny_pyIter_range (IsRange.new ..) (small_one (by omega) (by omega) (by omega) h2) ?_
  refine hR _ _ _ ?_ ?_ (fun b o e => Heap.get?_push_of_some _ (Heap.get?_push_of_some _ e)) ?_ ?_
  · show _ ≤ (s.heap.push _).objs.size
    rw [Heap.size_push]; omega
  · show (s.heap.push _).objs.size < ((s.heap.push _).push _).objs.size
    simp only [Heap.size_push]; omega
  · have e2 : Builtin.Range.rangeSize 0 n 1 = n := by rw [rangeSize_one]; split <;> omega
    rw [e2]
    exact Heap.get?_push_size _ rfl
  · show _ ≤ ((s.heap.push _).push _).objs.size
    rw [Heap.size_push, Heap.size_push]; omega
/-- a store -/
theorem ev_store {v : Str} {u : Value} {p : Pos} {m : Str → Option Value} {Q : Unit → Shared → Prop} {E : Value → Shared → Prop} (ok : EnvOk env) (hk : env.kindOf v = some .local) (hn : s.heap.Ns env.locals m)
    (h : ∀ h', h'.Ns env.locals (fun x => if x = v then some u else m x) → Heap.SameBut env.locals s.heap h' → Q () { s with heap := h', toks := s.toks + 1 }) : wpAny (model P w) A (assign (.Name v p) env u) Q E s :=
  wpAny_assign_Name (wpAny_storeName_local hk hn h ok.hp)
theorem nameGo {it v : Value} {x : Str} {p : Pos} {Q : Unit → Shared → Prop} {E : Value → Shared → Prop} (h : Q () s) : wpAny (model P w) A (letOwnedTupleGo (.Name x p) it v) Q E s := wpAny_pure h
end
/-! ### the loops -/
section
variable {P : Program} {w : World} {A A' : Around} {env : Env} {gobj : Addr} {gno : Nat} {itm : Nat → Int × Int} {a C : Nat} {q1 q2 q3 q5 q6 p1 p2 p3 p4 p5 q7 q8 q9 : Pos} {kt : Nat}
abbrev bodyI (p1 p2 p3 p4 p5 : Pos) (kt : Nat) : List Stmt := [.Expr (.Yield (some (.Tuple [.Name "x" p1, .Name "y" p2] kt p3)) p4) p5]
abbrev bodyO (q1 q2 q3 q5 q7 p1 p2 p3 p4 p5 : Pos) (kt : Nat) : List Stmt := [.For (.Name "x" q1) (.Call (.Name "range" q2) [.Name "a" q3] [] q5) (bodyI p1 p2 p3 p4 p5 kt) [] q7]
/-- where the things of this turn stand -/
structure At (env : Env) (gobj : Addr) (gno : Nat) (fp : List Addr) (s0 s : Shared) (a y : Int) (I1 I2 : Addr) (q j : Int) (x : Int) : Prop where
  fr : FrY s.heap env.locals a y
  i1 : IsRangeIter s.heap I1 (y + 1) q 1
  i2 : IsRangeIter s.heap I2 x j 1
  n1 : I1 ≠ env.locals
  n2 : I2 ≠ env.locals
  n3 : I1 ≠ I2
  gn : s.heap.IsGen gobj gno
  g1 : gobj ≠ env.locals
  g2 : gobj ≠ I1
  g3 : gobj ≠ I2
  mf : ∀ b, (b = gobj ∨ b = env.locals ∨ b = I1 ∨ b = I2) → b ∈ fp ∨ s0.heap.objs.size ≤ b
  kp : Kp fp s0.heap s.heap
  sz : s0.heap.objs.size ≤ s.heap.objs.size
  nl : ∀ b, b = mainGlobals ∨ b = builtinsNs → b ∉ fp ∧ b < s0.heap.objs.size
  os : s.os = s0.os
  gens : s.gens = s0.gens
theorem isgen_at {h h' : Heap} {a g} (x : h.IsGen a g) (e : ∀ o, h.get? a = some o → h'.get? a = some o) : h'.IsGen a g := let ⟨o, nm, qn, ho, r⟩ := x; ⟨o, nm, qn, e _ ho, r⟩
theorem nl_next {fp fq : List Addr} {s0 s1 : Shared} (nl : ∀ b, b = mainGlobals ∨ b = builtinsNs → b ∉ fp ∧ b < s0.heap.objs.size) (mf : ∀ b ∈ fq, b ∈ fp ∨ s0.heap.objs.size ≤ b) (g : Good s1) :
    ∀ b, b = mainGlobals ∨ b = builtinsNs → b ∉ fq ∧ b < s1.heap.objs.size := fun b hb => by
  refine ⟨fun m => ?_, ?_⟩
  · rcases mf b m with z | z
    · exact (nl b hb).1 z
    · exact absurd (Nat.lt_of_lt_of_le (nl b hb).2 z) (Nat.lt_irrefl _)
  · obtain ⟨⟨m1, e1, _⟩, m2, e2, _⟩ := g
    rcases hb with rfl | rfl
    · exact e1.lt
    · exact e2.lt
/-- x, y = .., yield (x, y): one item -/
theorem inner_item {r j q : Nat} {x y : Int} {fp : List Addr} {s0 s : Shared} {I1 I2 : Addr} {fs : List Frame} (ok : EnvOk env) (hA : A.over (.forLoop (.Name "x" q1) (.ref I2) (bodyI p1 p2 p3 p4 p5 kt) [] env) fs = A') (hh : A'.handled = none) (hsp : splitAtGen fs = none) (hgu : fs.any Frame.guarded = false)
    (z : At env gobj gno fp s0 s a y I1 I2 q ((j : Int) + 1) x) (hx : itm r = (x, y))
    (ih : ∀ (fp' : List Addr) (s1 : Shared), Good s1 → At env gobj gno fp' s1 s1 a y I1 I2 q j (x + 1) → Sg (model P w) A (TurnE P w A gobj gno itm r fp' s1) (.forLoop (.Name "x" q1) (.ref I2) (bodyI p1 p2 p3 p4 p5 kt) [] env) ((model P w).den (.forLoop (.Name "x" q1) (.ref I2) (bodyI p1 p2 p3 p4 p5 kt) [] env)) fs s1) :
    Sg (model P w) A (TurnE P w A gobj gno itm (r + 1) fp s0) (.forLoop (.Name "x" q1) (.ref I2) (bodyI p1 p2 p3 p4 p5 kt) [] env) ((model P w).den (.forLoop (.Name "x" q1) (.ref I2) (bodyI p1 p2 p3 p4 p5 kt) [] env)) fs s := by
  refine sg_forLoop ?_
  rw [hA]
  refine wpAny_pyNext_range_item z.i2 (by omega) fun h' it' sb => ?_
  have it' : IsRangeIter h' I2 (x + 1) j 1 := by
    have e : ((j : Int) + 1 - 1) = j := by omega
    rw [e] at it'; exact it'
  refine nameGo ?_
  obtain ⟨m, t, u, hn, ha, hy⟩ := z.fr
  have hn' : h'.Ns env.locals m := hn.sameBut sb (Ne.symm z.n2)
  refine ev_store ok ok.kx hn' fun h2 hn2 sb2 => ?_
  refine sg_cons (sg_Expr_Yield hsp rfl ?_ ok.co ok.hi)
  rw [hA]
  refine wpAny_Tuple_spliced (args_cons (wpAny_Name (wpAny_loadName_local ok.kind ok.kx hn2 (v := .int x s.toks) (if_pos rfl) ?_) (by decide)) rfl)
  refine args_cons (wpAny_Name (wpAny_loadName_local ok.kind ok.ky hn2 (v := .int y u) ((if_neg (by decide)).trans hy) ?_) (by decide)) rfl
  refine args_nil ⟨by show 2 ≤ sizeLine; decide, ?_⟩
  intro g l k p hg hk
  subst hg
  have lL : env.locals < h2.objs.size := hn2.lt
  have i2' : IsRangeIter h2 I2 (x + 1) j 1 := by rw [IsRangeIter, sb2.2 I2 z.n2]; exact it'
  have i1' : IsRangeIter h2 I1 (y + 1) q 1 := by rw [IsRangeIter, sb2.2 I1 z.n1, sb.2 I1 z.n3]; exact z.i1
  have gn' : h2.IsGen gobj gno := isgen_at z.gn fun o e => by rw [sb2.2 gobj z.g1, sb.2 gobj z.g3]; exact e
  have size : h2.objs.size = s.heap.objs.size := sb2.1.trans sb.1
  have kp2 : Kp fp s0.heap h2 := fun b o n e => by
    have ne : ∀ c, (c = gobj ∨ c = env.locals ∨ c = I1 ∨ c = I2) → b ≠ c := fun c hc z' => by
      rcases z.mf c hc with k1 | k1
      · exact n (z' ▸ k1)
      · exact absurd (Nat.lt_of_lt_of_le (Heap.lt_size e) (z' ▸ k1)) (Nat.lt_irrefl _)
    rw [sb2.2 b (ne _ (.inr (.inl rfl))), sb.2 b (ne _ (.inr (.inr (.inr rfl))))]
    exact z.kp b o n e
  have up : ∀ b o, h2.get? b = some o → (h2.push (tupO (.int x s.toks) (.int y u))).get? b = some o := fun b o e => Heap.get?_push_of_some _ e
  refine ⟨h2, s.toks, u, l, k, _, p, fs, [gobj, env.locals, I1, I2], rfl, hgu, by rw [hx]; rfl, kp2, by rw [size]; exact z.sz, fun b hb => ?_, fun b hb => ?_, ?_, z.os, z.gens⟩
  · simp only [List.mem_cons, List.not_mem_nil, or_false] at hb
    exact z.mf b hb
  · simp only [List.mem_cons, List.not_mem_nil, or_false] at hb
    rcases hb with rfl | rfl | rfl | rfl
    · obtain ⟨o, _, _, e, _⟩ := gn'; exact Heap.lt_size e
    · exact lL
    · exact Heap.lt_size i1'
    · exact Heap.lt_size i2'
  have lt : ∀ b ∈ [gobj, env.locals, I1, I2], ∃ o, h2.get? b = some o ∧ ∀ v, o.data ≠ .cell v := fun b hb => by
    simp only [List.mem_cons, List.not_mem_nil, or_false] at hb
    rcases hb with rfl | rfl | rfl | rfl
    · obtain ⟨o, _, _, e, _, d, _⟩ := gn'; exact ⟨o, e, fun v c => by rw [d] at c; cases c⟩
    · obtain ⟨o, _, _, e, d, _⟩ := hn2; exact ⟨o, e, fun v c => by rw [d] at c; cases c⟩
    · exact ⟨_, i1', fun v c => by
        have c' : Data.fields _ = Data.cell v := c
        cases c'⟩
    · exact ⟨_, i2', fun v c => by
        have c' : Data.fields _ = Data.cell v := c
        cases c'⟩
  refine slp_of ⟨?_, rfl, List.mem_cons_self, isgen_at gn' fun o e => up _ _ e, fun b hb => ?_, fun b hb => ?_⟩ fun s1 g1 ag => ?_
  · show (!(false || fs.any Frame.guarded)) = true
    rw [hgu]; rfl
  · obtain ⟨o, e, _⟩ := lt b hb
    exact Heap.lt_size (up b o e)
  · obtain ⟨o, e, d⟩ := lt b hb
    exact ⟨o, up b o e, d⟩
  have at1 : ∀ b ∈ [gobj, env.locals, I1, I2], ∀ o, h2.get? b = some o → s1.heap.get? b = some o := fun b hb o e => ag b hb o (up b o e)
  refine hk _ s1 (sg_nil (sg_again rfl (ih _ s1 g1 ⟨?_, at1 _ (by simp) _ i1', at1 _ (by simp) _ i2', z.n1, z.n2, z.n3, isgen_at gn' (at1 _ (by simp)), z.g1, z.g2, z.g3, fun b hb => .inl (by simpa using hb), .refl, Nat.le_refl _, ?_, rfl, rfl⟩)))
  · exact ⟨_, t, u, hn2.at' (at1 _ (by simp)), (if_neg (by decide)).trans ha, (if_neg (by decide)).trans hy⟩
  · exact nl_next z.nl (fun b hb => z.mf b (by simpa using hb)) g1
/-- the outer loop's frames, the inner loop's: what comes when they end -/
structure OutOk (P : Program) (w : World) (A A' : Around) (env : Env) (cO : Code) (fs : List Frame) : Prop where
  over : A.over cO fs = A'
  split : splitAtGen fs = none
  guard : fs.any Frame.guarded = false
  fin : ∀ Φ s, Φ (.ret (.ok (.ret .none))) s → Sg (model P w) A Φ (.block [] env) (leafOf (.ok .next)) fs s
structure InOk (P : Program) (w : World) (A A' : Around) (env : Env) (cO cI : Code) (fsO fs : List Frame) : Prop where
  over : A.over cI fs = A'
  split : splitAtGen fs = none
  guard : fs.any Frame.guarded = false
  fin : ∀ Φ s, Sg (model P w) A Φ cO ((model P w).den cO) fsO s → Sg (model P w) A Φ (.block [] env) (leafOf (.ok .next)) fs s
theorem in_of {env : Env} {cO cI : Code} {fsO : List Frame} {K : Flow → Sem PySem.Fin} {H : Value → Sem PySem.Fin} (o : OutOk P w A A' env cO fsO) (hw : cI.weight = 0) (hu : cI.cUnits = 0) (hK : K .next = .pure (.again cO)) (hq : cO.quiet = true) (p : Pos) :
    InOk P w A A' env cO cI fsO (.ret (backK env K H id id) none (id false) (id []) cO p [] :: fsO) where
  over := (over_loop hw hu).trans o.over
  split := by
    show (splitAtGen fsO).map _ = none
    rw [o.split]; rfl
  guard := by
    show (false || fsO.any Frame.guarded) = false
    rw [o.guard]; rfl
  fin := fun Φ s h => by
    refine sg_leaf (.ok .next) ?_
    show Sg _ _ _ _ (K .next) _ _
    rw [hK]
    exact sg_again hq h
/-- a row begins -/
theorem outer_row {r q : Nat} {y : Int} {fp : List Addr} {s0 s : Shared} {I1 : Addr} {fsO : List Frame} (ok : EnvOk env) (hh : A'.handled = none) (ha : 1 ≤ a) (ha2 : a < 2 ^ 62) (gs : Good s)
    (o : OutOk P w A A' env (.forLoop (.Name "y" q6) (.ref I1) (bodyO q1 q2 q3 q5 q7 p1 p2 p3 p4 p5 kt) [] env) fsO)
    (fr : FrA s.heap env.locals a) (i1 : IsRangeIter s.heap I1 y (q + 1) 1) (n1 : I1 ≠ env.locals) (gn : s.heap.IsGen gobj gno) (g1 : gobj ≠ env.locals) (g2 : gobj ≠ I1)
    (mf : ∀ b, (b = gobj ∨ b = env.locals ∨ b = I1) → b ∈ fp ∨ s0.heap.objs.size ≤ b) (kp : Kp fp s0.heap s.heap) (sz : s0.heap.objs.size ≤ s.heap.objs.size) (nl : ∀ b, b = mainGlobals ∨ b = builtinsNs → b ∉ fp ∧ b < s0.heap.objs.size) (os : s.os = s0.os) (gens : s.gens = s0.gens)
    (k : ∀ (s1 : Shared) (I2 : Addr) (fs : List Frame), Good s1 → InOk P w A A' env (.forLoop (.Name "y" q6) (.ref I1) (bodyO q1 q2 q3 q5 q7 p1 p2 p3 p4 p5 kt) [] env) (.forLoop (.Name "x" q1) (.ref I2) (bodyI p1 p2 p3 p4 p5 kt) [] env) fsO fs → At env gobj gno fp s0 s1 a y I1 I2 q a 0 →
      Sg (model P w) A (TurnE P w A gobj gno itm r fp s0) (.forLoop (.Name "x" q1) (.ref I2) (bodyI p1 p2 p3 p4 p5 kt) [] env) ((model P w).den (.forLoop (.Name "x" q1) (.ref I2) (bodyI p1 p2 p3 p4 p5 kt) [] env)) fs s1) :
    Sg (model P w) A (TurnE P w A gobj gno itm r fp s0) (.forLoop (.Name "y" q6) (.ref I1) (bodyO q1 q2 q3 q5 q7 p1 p2 p3 p4 p5 kt) [] env) ((model P w).den (.forLoop (.Name "y" q6) (.ref I1) (bodyO q1 q2 q3 q5 q7 p1 p2 p3 p4 p5 kt) [] env)) fsO s := by
  refine sg_forLoop ?_
  rw [o.over]
  refine wpAny_pyNext_range_item i1 (by omega) fun h' it' sb => ?_
  have it' : IsRangeIter h' I1 (y + 1) q 1 := by
    have e : ((q : Int) + 1 - 1) = q := by omega
    rw [e] at it'; exact it'
  refine nameGo ?_
  obtain ⟨m, t, hn, hm⟩ := fr
  have hn' : h'.Ns env.locals m := hn.sameBut sb (Ne.symm n1)
  refine ev_store ok ok.ky hn' fun h2 hn2 sb2 => ?_
  refine sg_cons (sg_For ?_)
  rw [o.over]
  have kp1 : Kp [env.locals, I1] s.heap h2 := fun b o n e => by
    rw [sb2.2 b (fun z => n (z ▸ by simp)), sb.2 b (fun z => n (z ▸ by simp))]
    exact e
  have ownMF : ∀ b, b ∈ [env.locals, I1] → b ∈ fp ∨ s0.heap.objs.size ≤ b := fun b hb => mf b (by simp at hb; rcases hb with h | h <;> simp [h])
  have gnl : ∀ b, b = mainGlobals ∨ b = builtinsNs → b ∉ [env.locals, I1] := fun b hb m => by
    rcases ownMF b m with z | z
    · exact (nl b hb).1 z
    · exact absurd (Nat.lt_of_lt_of_le (nl b hb).2 z) (Nat.lt_irrefl _)
  have g2' : Good { s with heap := h2, toks := s.toks + 1 + 1 } := by
    obtain ⟨⟨m1, e1, e2⟩, m2, e3, e4⟩ := gs
    exact ⟨⟨m1, e1.at' fun o e => kp1 _ o (gnl _ (.inl rfl)) e, e2⟩, m2, e3.at' fun o e => kp1 _ o (gnl _ (.inr rfl)) e, e4⟩
  refine ev_range (v := "a") (n := a) (t := t) ok g2' ok.ka hn2 ((if_neg (by decide)).trans hm) (by omega) (by omega) fun h3 tk I2 l1 l2 k3 r3 s3 p => ?_
  have size : h2.objs.size = s.heap.objs.size := sb2.1.trans sb.1
  have l1 : h2.objs.size ≤ I2 := l1
  have k3 : ∀ b o, h2.get? b = some o → h3.get? b = some o := k3
  have s3 : h2.objs.size ≤ h3.objs.size := s3
  have i1' : IsRangeIter h2 I1 (y + 1) q 1 := by rw [IsRangeIter, sb2.2 I1 n1]; exact it'
  have gn' : h2.IsGen gobj gno := isgen_at gn fun o e => by rw [sb2.2 gobj g1, sb.2 gobj g2]; exact e
  have lg : gobj < h2.objs.size := by obtain ⟨o, _, _, e, _⟩ := gn'; exact Heap.lt_size e
  refine k _ I2 _ (by obtain ⟨⟨m1, e1, e2⟩, m2, e3, e4⟩ := g2'; exact ⟨⟨m1, e1.at' (k3 _), e2⟩, m2, e3.at' (k3 _), e4⟩) (in_of o rfl rfl rfl rfl p) ⟨⟨_, t, _, hn2.at' (k3 _), (if_neg (by decide)).trans hm, if_pos rfl⟩, k3 _ _ i1', r3, n1, Nat.ne_of_gt (Nat.lt_of_lt_of_le hn2.lt l1), Nat.ne_of_lt (Nat.lt_of_lt_of_le (Heap.lt_size i1') l1), isgen_at gn' (k3 _), g1, g2, Nat.ne_of_lt (Nat.lt_of_lt_of_le lg l1), fun b hb => ?_, ?_, ?_, nl, os, gens⟩
  · rcases hb with h | h | h | h
    · exact mf b (.inl h)
    · exact mf b (.inr (.inl h))
    · exact mf b (.inr (.inr h))
    · exact .inr (by rw [h]; omega)
  · refine fun b o n e => k3 b o (kp1 b o (fun hb => ?_) (kp b o n e))
    rcases ownMF b hb with z | z
    · exact n z
    · exact absurd (Nat.lt_of_lt_of_le (Heap.lt_size e) z) (Nat.lt_irrefl _)
  · show s0.heap.objs.size ≤ h3.objs.size
    omega
/-- THE LOOPS: what a turn does from any place -/
theorem loops {I1 : Addr} {fsO : List Frame} (ok : EnvOk env) (hh : A'.handled = none) (ha : 1 ≤ a) (ha2 : a < 2 ^ 62) (hitm : ∀ r j q x y : Nat, r = j + q * a → x + (j + 1) = a → y + 1 + q = C → itm r = ((x : Int), (y : Int)))
    (o : OutOk P w A A' env (.forLoop (.Name "y" q6) (.ref I1) (bodyO q1 q2 q3 q5 q7 p1 p2 p3 p4 p5 kt) [] env) fsO) :
    ∀ (r j q : Nat) (x y : Nat) (fp : List Addr) (s0 s : Shared) (I2 : Addr) (fs : List Frame), r = j + q * a → x + j = a → y + 1 + q = C → Good s →
      InOk P w A A' env (.forLoop (.Name "y" q6) (.ref I1) (bodyO q1 q2 q3 q5 q7 p1 p2 p3 p4 p5 kt) [] env) (.forLoop (.Name "x" q1) (.ref I2) (bodyI p1 p2 p3 p4 p5 kt) [] env) fsO fs → At env gobj gno fp s0 s a y I1 I2 q j x →
      Sg (model P w) A (TurnE P w A gobj gno itm r fp s0) (.forLoop (.Name "x" q1) (.ref I2) (bodyI p1 p2 p3 p4 p5 kt) [] env) ((model P w).den (.forLoop (.Name "x" q1) (.ref I2) (bodyI p1 p2 p3 p4 p5 kt) [] env)) fs s := by
  have fin0 : ∀ (fp : List Addr) (s0 s : Shared) (fs : List Frame) (I2 : Addr) (y x : Int) (q : Nat) (Φ : End → Shared → Prop), Good s → InOk P w A A' env (.forLoop (.Name "y" q6) (.ref I1) (bodyO q1 q2 q3 q5 q7 p1 p2 p3 p4 p5 kt) [] env) (.forLoop (.Name "x" q1) (.ref I2) (bodyI p1 p2 p3 p4 p5 kt) [] env) fsO fs → At env gobj gno fp s0 s a y I1 I2 q (0 : Nat) x →
      (∀ s1, Good s1 → FrA s1.heap env.locals a → IsRangeIter s1.heap I1 (y + 1) q 1 → s1.heap.IsGen gobj gno → Kp fp s0.heap s1.heap → s0.heap.objs.size ≤ s1.heap.objs.size → s1.os = s0.os → s1.gens = s0.gens →
        Sg (model P w) A Φ (.forLoop (.Name "y" q6) (.ref I1) (bodyO q1 q2 q3 q5 q7 p1 p2 p3 p4 p5 kt) [] env) ((model P w).den (.forLoop (.Name "y" q6) (.ref I1) (bodyO q1 q2 q3 q5 q7 p1 p2 p3 p4 p5 kt) [] env)) fsO s1) →
      Sg (model P w) A Φ (.forLoop (.Name "x" q1) (.ref I2) (bodyI p1 p2 p3 p4 p5 kt) [] env) ((model P w).den (.forLoop (.Name "x" q1) (.ref I2) (bodyI p1 p2 p3 p4 p5 kt) [] env)) fs s := by
    intro fp s0 s fs I2 y x q Φ gs io z k
    refine sg_forLoop ?_
    rw [io.over]
    refine wpAny_hsz (wpAny_pyNext_range_end hh z.i2 (by simp) fun h' eb sz => io.fin _ _ (k _ ?_ ?_ ?_ ?_ ?_ ?_ z.os z.gens))
    · have nI : ∀ b, b = mainGlobals ∨ b = builtinsNs → b ≠ I2 := fun b hb e => by
        rcases z.mf I2 (.inr (.inr (.inr rfl))) with m | m
        · exact (z.nl b hb).1 (e ▸ m)
        · exact absurd (Nat.lt_of_lt_of_le (z.nl b hb).2 (e ▸ m)) (Nat.lt_irrefl _)
      obtain ⟨⟨m1, e1, e2⟩, m2, e3, e4⟩ := gs
      exact ⟨⟨m1, e1.at' fun o e => eb _ o (nI _ (.inl rfl)) e, e2⟩, m2, e3.at' fun o e => eb _ o (nI _ (.inr rfl)) e, e4⟩
    · obtain ⟨m, t, u, hn, ha, hy⟩ := z.fr
      exact ⟨m, t, hn.at' fun o e => eb _ o (Ne.symm z.n2) e, ha⟩
    · exact eb _ _ z.n3 z.i1
    · exact isgen_at z.gn fun o e => eb _ o z.g3 e
    · refine fun b o n e => eb b o (fun hb => ?_) (z.kp b o n e)
      rcases z.mf I2 (.inr (.inr (.inr rfl))) with m | m
      · exact n (hb ▸ m)
      · exact absurd (Nat.lt_of_lt_of_le (Heap.lt_size e) (hb ▸ m)) (Nat.lt_irrefl _)
    · exact Nat.le_trans z.sz sz
  intro r
  induction r with
  | zero =>
    intro j q x y fp s0 s I2 fs hr hx hy gs io z
    have hj : j = 0 := by omega
    have hq : q = 0 := by
      rcases Nat.eq_zero_or_pos q with e | e
      · exact e
      · have := Nat.mul_le_mul e ha
        omega
    subst hj hq
    refine fin0 fp s0 s fs I2 y x 0 _ gs io z fun s1 gs1 fr1 i1 gn1 kp1 sz1 os1 ge1 => ?_
    refine sg_forLoop ?_
    rw [o.over]
    refine wpAny_hsz (wpAny_pyNext_range_end hh i1 (by simp) fun h' eb sz => o.fin _ _ ⟨⟨_, rfl, .inl rfl⟩, ?_, Nat.le_trans sz1 sz, os1, ge1⟩)
    refine fun b o n e => eb b o (fun hb => ?_) (kp1 b o n e)
    rcases z.mf I1 (.inr (.inr (.inl rfl))) with m | m
    · exact n (hb ▸ m)
    · exact absurd (Nat.lt_of_lt_of_le (Heap.lt_size e) (hb ▸ m)) (Nat.lt_irrefl _)
  | succ r ih =>
    intro j q x y fp s0 s I2 fs hr hx hy gs io z
    rcases Nat.eq_zero_or_pos j with hj | hj
    · subst hj
      obtain ⟨q', rfl⟩ : ∃ q', q = q' + 1 := ⟨q - 1, by
        rcases Nat.eq_zero_or_pos q with e | e
        · subst e; omega
        · omega⟩
      have hr' : r = (a - 1) + q' * a := by rw [Nat.add_mul] at hr; omega
      refine fin0 fp s0 s fs I2 y x (q' + 1) _ gs io z fun s1 gs1 fr1 i1 gn1 kp1 sz1 os1 ge1 => ?_
      refine outer_row (y := (y : Int) + 1) (q := q') ok hh ha ha2 gs1 o fr1 (by push_cast at i1; exact i1) z.n1 gn1 z.g1 z.g2 (fun b hb => z.mf b (by rcases hb with h | h | h <;> simp [h])) kp1 sz1 z.nl os1 ge1 fun s2 I2' fs' _ io' z' => ?_
      have e1 : ((a - 1 : Nat) : Int) + 1 = a := by omega
      refine inner_item (j := a - 1) (q := q') (x := 0) (y := (y : Int) + 1) ok io'.over hh io'.split io'.guard (by rw [e1]; exact z') ?_ fun fp' s3 gs3 z3 => ?_
      · have := hitm r (a - 1) q' 0 (y + 1) hr' (by omega) (by omega)
        rw [this]; push_cast; rfl
      · refine ih (a - 1) q' 1 (y + 1) fp' s3 s3 I2' fs' hr' (by omega) (by omega) gs3 io' ?_
        push_cast
        rw [Int.zero_add] at z3
        exact z3
    · obtain ⟨j', rfl⟩ : ∃ j', j = j' + 1 := ⟨j - 1, by omega⟩
      refine inner_item (j := j') ok io.over hh io.split io.guard (by push_cast at z; exact z) (hitm r j' q x y (by omega) (by omega) hy) fun fp' s3 gs3 z3 => ?_
      refine ih j' q (x + 1) y fp' s3 s3 I2 fs (by omega) (by omega) hy gs3 io ?_
      push_cast
      exact z3
end
end GX
namespace GX
open PySem PySem.Spec PyProof.Rows L2 GenW Z
section
variable {P : Program} {w : World} {A : Around} {Φ : End → Shared → Prop} {s : Shared} {env : Env}
def funcK (f : Flow) : Sem PySem.Fin := .pure (.done (.ret (match f with | .ret v => v | _ => .none)))
def funcH (env : Env) (e : Value) : Sem PySem.Fin := (leaving env e).bind fun _ => .raise e
theorem sg_func {body : List Stmt} {fs : List Frame} (h : Sg (model P w) A Φ (.func body env) ((execs body env).wrap funcK (funcH env) id id) fs s) : Sg (model P w) A Φ (.func body env) ((model P w).den (.func body env)) fs s := by
  show Sg _ A Φ _ (.point [] fun _ => ((execs body env).onRaise (leaving env)) >>= _) fs s
  refine sg_point ?_
  rw [Sem.onRaise_eq_wrap, Sem.bind_eq_wrap', Sem.wrap_wrap]
  refine Eq.mpr (congrArg (fun t => Sg (model P w) A Φ (.func body env) t fs s) (Sem.wrap_congr (execs body env) (K' := funcK) (H' := funcH env) _ _ (fun f => ?_) fun e => ?_)) h
  · cases f <;> rfl
  · rw [Sem.bind_eq_wrap, Sem.wrap_wrap]
    show _ = (leaving env e).bind _
    rw [Sem.bind_eq_wrap]
    rfl
end
abbrev cellBody (t1 t2 t3 t4 t5 t6 t7 u1 u2 u3 u4 q1 q2 q3 q5 q6 q7 p1 p2 p3 p4 p5 : Pos) (tt kt : Nat) : List Stmt :=
  [.Assign [.Tuple [.Name "a" t1, .Name "b" t2, .Name "c" t3] tt t4] (.Attribute (.Name "self" t5) "own_numbers" t6) t7,
   .For (.Name "y" q6) (.Call (.Name "range" u1) [.Name "c" u2] [] u3) (bodyO q1 q2 q3 q5 q7 p1 p2 p3 p4 p5 kt) [] u4]
section
variable {X : Cx} {pins : List (Addr × Obj)} {σ : L2.St} {H : Hp} {s : Shared} {A : Around} {env : Env} {gobj selfa C0 dx : Addr} {gno : Nat} {itm : Nat → Int × Int} {a b C : Nat} {fs0 : List (Str × V)} {tp : Addr} {tt kt : Nat} {t1 t2 t3 t4 t5 t6 t7 u1 u2 u3 u4 q1 q2 q3 q5 q6 q7 p1 p2 p3 p4 p5 : Pos}
theorem good_of (I : L2.Inv X pins σ H s) (hm : X.mg "range" = none) : Good s := by
  obtain ⟨mb, h1, h2⟩ := I.mod.blt
  exact ⟨⟨_, I.mod.glob.keeps I.bk, hm⟩, mb, h1.keeps I.bk, (h2 _ (by decide)).trans boot_range⟩
/-- the first turn -/
theorem first (ok : EnvOk env) (hA : A.handled = none) (ha : 1 ≤ a) (ha2 : a < 2 ^ 62) (hC : 1 ≤ C) (hC2 : C < 2 ^ 62) (hitm : ∀ r j q x y : Nat, r = j + q * a → x + (j + 1) = a → y + 1 + q = C → itm r = ((x : Int), (y : Int)))
    (I : L2.Inv X pins σ H s) (hm : X.mg "range" = none) (hs : H selfa = some (.ins C0 dx fs0)) (c1 : Cls X.K C0) (c2 : NoAttr X.K C0 "own_numbers") (hl : fs0.lookup ("own_numbers" : Str) = some (V.ref tp)) (hq : SqT X.K H tp [.int a, .int b, .int C])
    (pg : ∃ o, (gobj, o) ∈ pins) (pL : ∃ o, (env.locals, o) ∈ pins) (gn : s.heap.IsGen gobj gno) (gL : gobj ≠ env.locals) {m : Str → Option Value} (hn : s.heap.Ns env.locals m) (hself : m "self" = some (.ref selfa)) (nL : ∀ b, b = mainGlobals ∨ b = builtinsNs → b ≠ env.locals) :
    Sg (model X.prog X.w) A (fun e s' => ∃ s2, L2.Inv X pins σ H s2 ∧ s.gens.size ≤ s2.gens.size ∧ TurnE X.prog X.w A gobj gno itm (C * a) [gobj, env.locals] s2 e s')
      (.func (cellBody t1 t2 t3 t4 t5 t6 t7 u1 u2 u3 u4 q1 q2 q3 q5 q6 q7 p1 p2 p3 p4 p5 tt kt) env) ((model X.prog X.w).den (.func (cellBody t1 t2 t3 t4 t5 t6 t7 u1 u2 u3 u4 q1 q2 q3 q5 q6 q7 p1 p2 p3 p4 p5 tt kt) env)) [] s := by
  refine sg_func ?_
  refine sg_cons (sg_wrap ?_)
  rw [over_func]
  refine wpAny_Assign_stores (attr_of (by rfl) (wpAny_Name (wpAny_loadName_local ok.kind ok.ks hn hself ?_) (by decide))) (by rfl) (by rfl)
  refine wpAny_gsz (n := s.gens.size) (Nat.le_refl _) (getattr_ok I hs c1 c2 hl fun u s2 I2 ru sz2 => ?_)
  obtain rfl : u = Value.ref tp := ru
  have pin := fun (x : Addr) (o : Obj) (hx : (x, o) ∈ pins) (o' : Obj) (e : s.heap.get? x = some o') => show s2.heap.get? x = some o' by
    have h1 := (I.pin (x, o) (List.mem_append_right _ hx)).1
    have h2 := (I2.pin (x, o) (List.mem_append_right _ hx)).1
    rw [e] at h1
    cases h1
    exact h2
  obtain ⟨og, hpg⟩ := pg
  obtain ⟨oL, hpL⟩ := pL
  have hn2 : s2.heap.Ns env.locals m := hn.at' (pin _ _ hpL)
  have gn2 : s2.heap.IsGen gobj gno := isgen_at gn (pin _ _ hpg)
  obtain ⟨its, rv, ht, hz⟩ := I2.tuple hq
  cases rv with
  | cons r1 rv =>
  cases rv with
  | cons r2 rv =>
  cases rv with
  | cons r3 rv =>
  cases rv
  obtain ⟨ta, rfl⟩ := r1
  obtain ⟨tb, rfl⟩ := r2
  obtain ⟨tc, rfl⟩ := r3
  have hA' : (A.deeper env).handled = none := hA
  show wpAny _ _ (assign (.Tuple [.Name "a" t1, .Name "b" t2, .Name "c" t3] tt t4) env (.ref tp)) _ _ _
  refine wpAny_hsz (assign_Tuple_tuple hA' ht (by rfl) (by rfl) fun h3 x3 => ?_)
  have k3 : ∀ b o, s2.heap.get? b = some o → h3.get? b = some o := fun b o e => x3 b o (Nat.ne_of_lt (Heap.lt_size e)) e
  refine assignInOrder_cons (ev_store (s := { s2 with heap := h3 }) ok ok.ka (hn2.at' (k3 _)) fun h4 hn4 sb4 => ?_)
  refine assignInOrder_cons (ev_store (s := { s2 with heap := h4, toks := s2.toks + 1 }) ok ok.kb hn4 fun h5 hn5 sb5 => ?_)
  refine assignInOrder_cons (ev_store (s := { s2 with heap := h5, toks := s2.toks + 1 + 1 }) ok ok.kc hn5 fun h6 hn6 sb6 => ?_)
  refine assignInOrder_nil fun sz6 => ?_
  have sz6 : s2.heap.objs.size ≤ h6.objs.size := sz6
  have kp6 : Kp [gobj, env.locals] s2.heap h6 := fun b o n e => by
    have nL : b ≠ env.locals := fun z => n (z ▸ by simp)
    rw [sb6.2 b nL]
    show h5.get? b = some o
    rw [sb5.2 b nL]
    show h4.get? b = some o
    rw [sb4.2 b nL]
    exact k3 b o e
  have gn6 : h6.IsGen gobj gno := isgen_at gn2 fun o e => by
    rw [sb6.2 gobj gL]
    show h5.get? gobj = some o
    rw [sb5.2 gobj gL]
    show h4.get? gobj = some o
    rw [sb4.2 gobj gL]
    exact k3 _ o e
  have nl : ∀ b, b = mainGlobals ∨ b = builtinsNs → b ∉ [gobj, env.locals] ∧ b < s2.heap.objs.size := fun b hb => by
    obtain ⟨⟨m1, e1, _⟩, m2, e2, _⟩ := good_of I2 hm
    have gd : ∀ mm, s2.heap.Ns b mm → b ≠ gobj := fun mm hmm e => by
      obtain ⟨o, _, _, e3, d, _⟩ := hmm
      obtain ⟨o', _, _, e4, _, d', _⟩ := gn2
      rw [e, e4] at e3
      cases e3
      rw [d] at d'
      cases d'
    refine ⟨fun mm => ?_, ?_⟩
    · simp only [List.mem_cons, List.not_mem_nil, or_false] at mm
      rcases mm with z | z
      · rcases hb with rfl | rfl
        · exact gd _ e1 z
        · exact gd _ e2 z
      · exact nL b hb z
    · rcases hb with rfl | rfl
      · exact e1.lt
      · exact e2.lt
  have g2 := good_of I2 hm
  have g6 : Good { s2 with heap := h6, toks := s2.toks + 1 + 1 + 1 } := by
    obtain ⟨⟨m1, e1, e2⟩, m2, e3, e4⟩ := g2
    exact ⟨⟨m1, e1.at' fun o e => kp6 _ o (nl _ (.inl rfl)).1 e, e2⟩, m2, e3.at' fun o e => kp6 _ o (nl _ (.inr rfl)).1 e, e4⟩
  refine sg_cons (sg_For ?_)
  rw [over_func]
  refine ev_range (v := "c") (n := C) (t := tc) ok g6 ok.kc hn6 (if_pos rfl) (by omega) (by omega) fun h7 tk I1 l1 l2 k7 r7 s7 p => ?_
  have l1 : h6.objs.size ≤ I1 := l1
  have s7 : h6.objs.size ≤ h7.objs.size := s7
  have k7 : ∀ b o, h6.get? b = some o → h7.get? b = some o := k7
  have hn7 := hn6.at' (k7 env.locals)
  obtain ⟨C', rfl⟩ : ∃ C', C = C' + 1 := ⟨C - 1, by omega⟩
  have lg : gobj < h6.objs.size := by obtain ⟨o, _, _, e, _⟩ := gn6; exact Heap.lt_size e
  have oo : OutOk X.prog X.w A (A.deeper env) env (.forLoop (.Name "y" q6) (.ref I1) (bodyO q1 q2 q3 q5 q7 p1 p2 p3 p4 p5 kt) [] env) (.ret (backK env (fun f => match f with | .next => (execs [] env).wrap funcK (funcH env) id id | f => funcK f) (funcH env) id id) none (id false) (id []) (.func (cellBody t1 t2 t3 t4 t5 t6 t7 u1 u2 u3 u4 q1 q2 q3 q5 q6 q7 p1 p2 p3 p4 p5 tt kt) env) p [] :: []) :=
    ⟨(over_loop rfl rfl).trans over_func, rfl, rfl, fun Φ s h => sg_leaf (.ok .next) (sg_nil (env := env) (sg_end (.ok (.ret .none)) h))⟩
  refine Sg.mono (Ψ := fun e s' => ∃ s2, L2.Inv X pins σ H s2 ∧ s.gens.size ≤ s2.gens.size ∧ TurnE X.prog X.w A gobj gno itm ((C' + 1) * a) [gobj, env.locals] s2 e s') (outer_row (r := (C' + 1) * a) (y := 0) (q := C') (s0 := s2) (fp := [gobj, env.locals]) ok hA' ha ha2 ?_ oo ?_ (by push_cast at r7; exact r7) (Nat.ne_of_gt (Nat.lt_of_lt_of_le hn6.lt l1)) (isgen_at gn6 (k7 _)) gL (Nat.ne_of_lt (Nat.lt_of_lt_of_le lg l1)) (fun b hb => ?_) ?_ ?_ nl rfl rfl fun s8 I2' fs' gs8 io z => ?_) fun e s' q => ⟨s2, I2, sz2, q⟩
  · obtain ⟨⟨m1, e1, e2⟩, m2, e3, e4⟩ := g6
    exact ⟨⟨m1, e1.at' (k7 _), e2⟩, m2, e3.at' (k7 _), e4⟩
  · exact ⟨_, ta, hn7, (if_neg (by decide)).trans ((if_neg (by decide)).trans (if_pos rfl))⟩
  · rcases hb with h | h | h
    · exact .inl (by simp [h])
    · exact .inl (by simp [h])
    · exact .inr (by rw [h]; exact Nat.le_trans sz6 l1)
  · exact kp6.trans (Kp.of k7)
  · show s2.heap.objs.size ≤ h7.objs.size
    omega
  · have hr : (C' + 1) * a = a + C' * a := by rw [Nat.add_mul, Nat.one_mul, Nat.add_comm]
    exact loops ok hA' ha ha2 hitm oo _ a C' 0 0 _ s2 s8 I2' fs' hr (by omega) (by omega) gs8 io z
end
end GX
namespace GX
open PySem PySem.Spec PyProof.Rows L2 GenW Z
section
variable {X : Cx} {pins : List (Addr × Obj)} {σ : L2.St} {H : Hp} {s s1 : Shared} {fp : List Addr}
/-- behind a turn that left all but its own things as they were -/
theorem inv_turn {h1 : Heap} (I : L2.Inv X pins σ H s) (fo : ∀ b ∈ fp, FpOk X pins H b) (kp : Kp fp s.heap h1) (os : s1.os = s.os) (ba : AllBare s1.gens) (e1 : s1.heap = h1) : L2.Inv X pins σ H s1 := by
  subst e1
  refine I.call' (ch := fp) os ⟨fun b o e n hf hx => kp b o hx e, fun b o e n hf hx => ⟨o.slots, kp b o hx e⟩, fun b o e n hx => n, fun b o e hx => ⟨o, kp b o hx e⟩, fun _ _ q => q, fun _ _ _ q => q, fun b ps q => ⟨#[], by rw [q]; simp⟩⟩ (fun b u e => ?_) ba fun b hb => ⟨(fo b hb).2.2.2.1, (fo b hb).2.1, (fo b hb).2.2.2.2.1, (fo b hb).2.2.2.2.2⟩
  have nf : ∀ c v, H c = some v → c ∉ fp := fun c v e m => by rw [(fo c m).1] at e; cases e
  refine (I.hok b u e).stay (fun c v hc q => kp c v ?_ q) (fun _ y => y) fun _ _ y => y
  rcases hc with z | z
  · rw [z]; exact nf b u e
  · exact nf c _ z
end
def CellBd (b : List Stmt) : Prop := ∃ (t1 t2 t3 t4 t5 t6 t7 u1 u2 u3 u4 q1 q2 q3 q5 q6 q7 p1 p2 p3 p4 p5 : Pos) (tt kt : Nat), b = cellBody t1 t2 t3 t4 t5 t6 t7 u1 u2 u3 u4 q1 q2 q3 q5 q6 q7 p1 p2 p3 p4 p5 tt kt
structure ScOk (sc : Scope) : Prop where
  rng : sc.names.lookup ("range" : Str) = some .globalImplicit
  ka : sc.names.lookup ("a" : Str) = some .local
  kb : sc.names.lookup ("b" : Str) = some .local
  kc : sc.names.lookup ("c" : Str) = some .local
  kx : sc.names.lookup ("x" : Str) = some .local
  ky : sc.names.lookup ("y" : Str) = some .local
  ks : sc.names.lookup ("self" : Str) = some .local
def JG (N : Nat) (itm : Nat → Int × Int) (net : Hp → Prop) : It :=
  ⟨fun i H => i < N ∧ net H, fun i H x H' => ∃ p, H p = none ∧ x = .ref p ∧ H' = upd H p (.tup [.int (itm (N - 1 - i)).1, .int (itm (N - 1 - i)).2]), fun i _ => N ≤ i⟩
/-- an item has come -/
theorem item_end {X : Cx} {pins : List (Addr × Obj)} {σ : L2.St} {H : Hp} {s s1 : Shared} {fp : List Addr} {tg : Expr} {gobj : Addr} {gno : Nat} {xy : Int × Int} {S : List Addr → Heap → GenState → Prop} {e : End} {E : Value → Shared → Prop} {Qo : Hp → V → Hp → Prop}
    (I : L2.Inv X pins σ H s) (fo : ∀ b ∈ fp, FpOk X pins H b) (t : ItemG fp s xy S e s1) (hS : ∀ fp h y, S fp h y → Base gobj gno fp h y) (hg : gno < s.gens.size)
    (hQ : ∀ p, H p = none → Qo H (.ref p) (upd H p (.tup [.int xy.1, .int xy.2]))) :
    ∃ v g0 l k c p fs, e = .susp v g0 l k c p fs ∧ wpAny (model X.prog X.w) X.A (letOwnedTupleGo tg (.ref gobj) v) (fun _ s2 => ∃ x H' y' fp', L2.Inv X pins σ H' s2 ∧ RelV x v ∧ Qo H x H' ∧ s2.gens[gno]? = some y' ∧ susp y' = true ∧ S fp' s2.heap y' ∧ ∀ b ∈ fp', FpOk X pins H' b) E (s1.setGen gno e.genState) := by
  obtain ⟨h1, tx, ty, l, k, c, p, fs, fp', rfl, hgu, eh, kp, sz, mf, lt, st, os, ge⟩ := t
  refine ⟨_, _, _, _, _, _, _, rfl, ?_⟩
  have hb := hS _ _ _ st
  obtain ⟨b1, b2, b3, ⟨og, nm, qn, eg, cg, dg, _⟩, b5, b6⟩ := hb
  refine go_of (s := s1.setGen gno _) (n := "generator") eg cg dg (by decide) ?_
  have ba : AllBare (s1.setGen gno (End.susp (.ref h1.objs.size) false l k c p fs).genState).gens := allBare_setGen (by rw [ge]; exact I.bare) b1
  have I1 : L2.Inv X pins σ H { s1.setGen gno (End.susp (.ref h1.objs.size) false l k c p fs).genState with heap := h1 } := inv_turn I fo kp os ba rfl
  have hn : H h1.objs.size = none := I1.hok.fresh (Nat.le_refl _)
  refine ⟨.ref h1.objs.size, upd H h1.objs.size (.tup [.int xy.1, .int xy.2]), _, fp', ?_, rfl, hQ _ hn, setGen_at (by rw [ge]; exact hg), rfl, st, fun b hb => ?_⟩
  · have J := I1.laid (a := h1.objs.size) (o := .tup [.int xy.1, .int xy.2]) (h' := h1.push (tupO (.int xy.1 tx) (.int xy.2 ty))) (t' := s1.toks) (fun b u e => Heap.get?_push_of_some _ e) (Nat.le_refl _) ⟨by show 2 ≤ sizeLine; decide, [.int xy.1 tx, .int xy.2 ty], .cons ⟨tx, rfl⟩ (.cons ⟨ty, rfl⟩ .nil), _, Heap.get?_push_size _ rfl, rfl, _, rfl⟩
    obtain ⟨hh, gg, dd, tt, oo⟩ := s1
    have eh' : hh = h1.push (tupO (.int xy.1 tx) (.int xy.2 ty)) := eh
    subst eh'
    exact J
  · have hlt := lt b hb
    rcases mf b hb with m | m
    · have f := fo b m
      exact ⟨by rw [upd_ne (Nat.ne_of_lt hlt)]; exact f.1, f.2⟩
    · have f := I.fpOk (b := b) m (H' := H) (I.hok.fresh m)
      exact ⟨by rw [upd_ne (Nat.ne_of_lt hlt)]; exact f.1, f.2⟩
section
variable {P : Program} {w : World} {K : Frg} {mg : Str → Option Value} {A : Around} {env : Env} {gobj selfa C0 dx : Addr} {gno : Nat} {itm : Nat → Int × Int} {a b C : Nat} {fs0 : List (Str × V)} {tp : Addr} {tt kt : Nat} {t1 t2 t3 t4 t5 t6 t7 u1 u2 u3 u4 q1 q2 q3 q5 q6 q7 p1 p2 p3 p4 p5 : Pos}
/-- how the generator sleeps: not begun, or behind so many items -/
def tnC (P : Program) (w : World) (A : Around) (env : Env) (gobj selfa : Addr) (gno : Nat) (itm : Nat → Int × Int) (N : Nat) (body : List Stmt) (i : Nat) (fp : List Addr) (h : Heap) (y : GenState) : Prop :=
  (i = 0 ∧ fp = [gobj, env.locals] ∧ y = .fresh (.func body env) ∧ h.IsGen gobj gno ∧ ∃ m, h.Ns env.locals m ∧ m "self" = some (.ref selfa)) ∨ (1 ≤ i ∧ ∃ r, i + r = N ∧ Slp P w A.in1 gobj gno itm r fp h y)
theorem tnC_gen {N : Nat} {body : List Stmt} {i : Nat} {fp : List Addr} {h : Heap} {y : GenState} (x : tnC P w A env gobj selfa gno itm N body i fp h y) : h.IsGen gobj gno := by
  rcases x with ⟨_, _, _, g, _⟩ | ⟨_, r, _, s⟩
  · exact g
  · exact (slp_base s).2.2.2.1
theorem turn_cell (tg : Expr) (ok : EnvOk env) (hA : A.handled = none) (hroom : A.depth < recursionLimit) (ha : 1 ≤ a) (ha2 : a < 2 ^ 62) (hC : 1 ≤ C) (hC2 : C < 2 ^ 62) (hitm : ∀ r j q x y : Nat, r = j + q * a → x + (j + 1) = a → y + 1 + q = C → itm r = ((x : Int), (y : Int)))
    (hm : mg "range" = none) (c1 : Cls K C0) (c2 : NoAttr K C0 "own_numbers") (hl : fs0.lookup ("own_numbers" : Str) = some (V.ref tp)) (gL : gobj ≠ env.locals) (nL : ∀ b, b = mainGlobals ∨ b = builtinsNs → b ≠ env.locals) :
    TurnG P w K mg A tg (JG (C * a) itm fun H => H selfa = some (.ins C0 dx fs0) ∧ SqT K H tp [.int a, .int b, .int C]) gobj gno (tnC P w A env gobj selfa gno itm (C * a) (cellBody t1 t2 t3 t4 t5 t6 t7 u1 u2 u3 u4 q1 q2 q3 q5 q6 q7 p1 p2 p3 p4 p5 tt kt)) where
  obj := fun i fp h y x => by
    rcases x with ⟨_, rfl, _, ⟨o, _, _, e, _, d, _⟩, m, ⟨o', _, _, e', d', _⟩, _⟩ | ⟨_, r, _, s⟩
    · intro b hb
      simp only [List.mem_cons, List.not_mem_nil, or_false] at hb
      rcases hb with rfl | rfl
      · exact ⟨o, e, fun v z => by rw [d] at z; cases z⟩
      · exact ⟨o', e', fun v z => by rw [d'] at z; cases z⟩
    · exact (slp_base s).2.2.2.2.2
  keep := fun i fp h h' y x k => by
    rcases x with ⟨r1, rfl, r2, g, m, hn, hs⟩ | ⟨r1, r, r2, s⟩
    · exact .inl ⟨r1, rfl, r2, isgen_at g (k _ (by simp)), m, hn.at' (k _ (by simp)), hs⟩
    · refine .inr ⟨r1, r, r2, slp_of ?_ fun s1 g1 ag => slp_wk s s1 g1 fun b hb o e => ag b hb o (k b hb o e)⟩
      obtain ⟨b1, b2, b3, b4, b5, b6⟩ := slp_base s
      exact ⟨b1, b2, b3, isgen_at b4 (k _ b3), fun b hb => by obtain ⟨o, e, _⟩ := b6 b hb; exact Heap.lt_size (k b hb o e), fun b hb => by obtain ⟨o, e, d⟩ := b6 b hb; exact ⟨o, k b hb o e, d⟩⟩
  item := by
    intro X hP hw hK hmg hXA hc i pins s σ H E y fp I hf hy st ⟨hi, hself, htup⟩
    subst hP hw hK hmg hXA
    have ba : AllBare (s.setGen gno .running).gens := allBare_setGen I.bare rfl
    have hgs : gno < s.gens.size := (Array.getElem?_eq_some_iff.mp hy).1
    have szr : (s.setGen gno .running).gens.size = s.gens.size := setGen_size _ _ _
    rcases st with ⟨rfl, rfl, rfl, g, m, hn, hs⟩ | ⟨h1, r, hr, sl⟩
    · have hob : ∀ b ∈ [gobj, env.locals], ∃ o, s.heap.get? b = some o ∧ ∀ v, o.data ≠ .cell v := fun b hb => by
        simp only [List.mem_cons, List.not_mem_nil, or_false] at hb
        rcases hb with rfl | rfl
        · obtain ⟨o, _, _, e, _, d, _⟩ := g; exact ⟨o, e, fun v z => by rw [d] at z; cases z⟩
        · obtain ⟨o, _, _, e, d, _⟩ := hn; exact ⟨o, e, fun v z => by rw [d] at z; cases z⟩
      have pinned : ∀ b ∈ [gobj, env.locals], ∃ o, (b, o) ∈ pins ++ pinsAt [gobj, env.locals] s.heap := fun b hb => by
        obtain ⟨o, e, _⟩ := hob b hb
        exact ⟨o, List.mem_append_right _ (mem_pinsAt hb e)⟩
      have I' : L2.Inv X (pins ++ pinsAt [gobj, env.locals] s.heap) σ H (s.setGen gno .running) := inv_regen (I.pinned hf hob) ba
      have hw := first (t1 := t1) (t2 := t2) (t3 := t3) (t4 := t4) (t5 := t5) (t6 := t6) (t7 := t7) (u1 := u1) (u2 := u2) (u3 := u3) (u4 := u4) (q1 := q1) (q2 := q2) (q3 := q3) (q5 := q5) (q6 := q6) (q7 := q7) (p1 := p1) (p2 := p2) (p3 := p3) (p4 := p4) (p5 := p5) (tt := tt) (kt := kt) (A := X.A.in1) (itm := itm) ok hA ha ha2 hC hC2 hitm I' hm hself c1 c2 hl htup (pinned _ (by simp)) (pinned _ (by simp)) g gL hn hs nL
      obtain ⟨N', hN⟩ : ∃ N', C * a = N' + 1 := ⟨C * a - 1, by omega⟩
      rw [hN] at hw ⊢
      refine pyNext_genF hA I.nolimit hroom g hy hw (fun e s' q => ?_) fun e s1 q => ?_
      · obtain ⟨s2, _, _, h1, tx, ty, l, k, c, p, fs, fp', rfl, hgu, _⟩ := q
        show (!(false || fs.any Frame.guarded)) = true
        rw [hgu]; rfl
      · obtain ⟨s2, I2, sz2, q⟩ := q
        obtain ⟨v, g0, l, k, c, p, fs, rfl, hh⟩ := item_end (tg := tg) (E := E) (Qo := fun H x H' => (JG (N' + 1) itm fun H => H selfa = some (.ins C0 dx fs0) ∧ SqT X.K H tp [.int a, .int b, .int C]).yld 0 H x H') I2.unpinned hf q (fun fp h y => slp_base) (Nat.lt_of_lt_of_le (by rw [szr]; exact hgs) sz2) fun p hp => ⟨p, hp, rfl, by
          have e : N' + 1 - 1 - 0 = N' := by omega
          rw [e]⟩
        exact ⟨v, rfl, wpAny_mono hh (fun _ s3 ⟨x, H', y', fp', r1, r2, r3, r4, r5, r6, r7⟩ => ⟨x, H', y', fp', r1, r2, r3, r4, r5, .inr ⟨by omega, N', by omega, r6⟩, r7⟩) fun _ _ z => z⟩
    · obtain ⟨r', rfl⟩ : ∃ r', r = r' + 1 := ⟨r - 1, by omega⟩
      have I' : L2.Inv X pins σ H (s.setGen gno .running) := inv_regen I ba
      have hw := slp_wk sl (s.setGen gno .running) (good_of I' hm) fun _ _ _ e => e
      refine pyNext_genF hA I.nolimit hroom (slp_base sl).2.2.2.1 hy hw (fun e s' q => ?_) fun e s1 q => ?_
      · obtain ⟨h1, tx, ty, l, k, c, p, fs, fp', rfl, hgu, _⟩ := q
        show (!(false || fs.any Frame.guarded)) = true
        rw [hgu]; rfl
      · obtain ⟨v, g0, l, k, c, p, fs, rfl, hh⟩ := item_end (tg := tg) (E := E) (Qo := fun H x H' => (JG (C * a) itm fun H => H selfa = some (.ins C0 dx fs0) ∧ SqT X.K H tp [.int a, .int b, .int C]).yld i H x H') I' hf q (fun fp h y => slp_base) (by rw [szr]; exact hgs) fun p hp => ⟨p, hp, rfl, by
          have e : C * a - 1 - i = r' := by omega
          rw [e]⟩
        exact ⟨v, rfl, wpAny_mono hh (fun _ s3 ⟨x, H', y', fp', r1, r2, r3, r4, r5, r6, r7⟩ => ⟨x, H', y', fp', r1, r2, r3, r4, r5, .inr ⟨by omega, r', by omega, r6⟩, r7⟩) fun _ _ z => z⟩
  done := by
    intro X hP hw hK hmg hXA hc i pins s σ H E y fp I hf hy st hi
    subst hP hw hK hmg hXA
    have ba : AllBare (s.setGen gno .running).gens := allBare_setGen I.bare rfl
    have hi : C * a ≤ i := hi
    have hN : 1 ≤ C * a := Nat.mul_pos hC ha
    rcases st with ⟨rfl, _⟩ | ⟨h1, r, hr, sl⟩
    · omega
    · obtain rfl : r = 0 := by omega
      have I' : L2.Inv X pins σ H (s.setGen gno .running) := inv_regen I ba
      have hw := slp_wk sl (s.setGen gno .running) (good_of I' hm) fun _ _ _ e => e
      refine pyNext_genF hA I.nolimit hroom (slp_base sl).2.2.2.1 hy hw (fun e s' q => ?_) fun e s1 q => ?_
      · obtain ⟨⟨f, rfl, _⟩, _⟩ := q
        rfl
      · obtain ⟨⟨f, rfl, hf2⟩, kp, _, os, ge⟩ := q
        exact ⟨hf2, fun h' k => ⟨rfl, inv_turn I' hf (kp.trans (Kp.of k)) os (allBare_setGen (by rw [ge]; exact ba) rfl) rfl⟩⟩
  self := fun _ _ _ _ _ _ _ x h => wpAny_pyIter_gen (tnC_gen x) h
end
end GX
namespace Y
open PySem PySem.Spec PyProof.Rows L2 Z
section
variable {X : Cx} {B : Bs} {pos : Pos}
/-- {} -/
theorem y_dic0 : PEp X B (.Dict [] [] pos) (fun _ Q => Q (.dic [] [])) :=
  pe_imp pe_dnewK fun σ H Q ⟨F, ρ, Qd, I, z, k⟩ p hp => k _ _ _ _ (Go.new I.same hp) (I.tp.go0 (Go.new I.same hp)) (.dic (vs := []) (upd_same ..) rfl .nil) z
end
end Y
namespace Y
open PySem PySem.Spec PyProof.Rows L2 Z
open PySem.W PySem.Calls PySem.HandSPX
/-! ### an own class of errors whose __init__ keeps its argument in one field -/
def iA (f : Str) (p1 p2 : Pos) : Arguments := { posonlyargs := [], args := [{ arg := "self", annotation := none, pos := p1 }, { arg := f, annotation := none, pos := p2 }], vararg := none, kwonlyargs := [], kw_defaults := [], kwarg := none, defaults := [] }
def iB (f : Str) (q1 q2 q3 q4 : Pos) : List Stmt := [.Assign [.Attribute (.Name "self" q1) f q2] (.Name f q3) q4]
def iS (f : Str) : Scope := { kind := .function, names := [(PySem.Str.ofString "self", .local), (f, .local)], isGenerator := false, isCoroutine := false, more := [] }
/-- a built-in base of own errors -/
structure ExB (bmB : List Value) (newId : String) : Prop where
  fb : ∃ B initId, ExcBaseFacts B newId initId bmB
  ps : ∀ self, refuseLoop self "__setattr__" bmB = pure ()
  ob : bmB.contains (.type "object") = true
  ne : bmB.isEmpty = false
def bsValue : List Value := [.type "ValueError", .type "Exception", .type "BaseException", .type "object"]
def bsOver : List Value := [.type "OverflowError", .type "ArithmeticError", .type "Exception", .type "BaseException", .type "object"]
def bsArith : List Value := [.type "ArithmeticError", .type "Exception", .type "BaseException", .type "object"]
def bsRun : List Value := [.type "RuntimeError", .type "Exception", .type "BaseException", .type "object"]
theorem exB_Value : ExB bsValue "ValueError.__new__" := ⟨⟨_, _, F.excBase_ValueError⟩, F.store_ValueError.passes, by decide +kernel, rfl⟩
theorem exB_Over : ExB bsOver "OverflowError.__new__" := ⟨⟨_, _, F.excBase_OverflowError⟩, F.store_OverflowError.passes, by decide +kernel, rfl⟩
theorem exB_Arith : ExB bsArith "ArithmeticError.__new__" := ⟨⟨_, _, F.excBase_ArithmeticError⟩, F.store_ArithmeticError.passes, by decide +kernel, rfl⟩
section
variable {prog : Program} {w : World} {A : Around} {E : Value → Shared → Prop} {R : Result → Shared → Prop} {hp : Heap} {g : Array GenState} {d : Drawn} {t : Tok} {os : OsState}
open Builtin Builtin.ObjectAttr in
theorem exc_osaG {K : W.Frag} {name : Str} {tk : Tok} {v : Value} {x C : Addr} {fv : Array Value} {cd : ClassData} {bmB : List Value} {newId : String} (EB : ExB bmB newId)
    (X : K.In hp) (hx : hp.get? x = some { cls := .ref C, data := .fields fv }) (hcd : W.clsIn K C = some cd) (hm : excTail bmB cd.mro = true) (hh : cd.hasDict = true) (ha : W.findIn K (.ref C) name = some none)
    (hq : ∀ h' tk' dx, (∀ b o, b ≠ x → hp.get? b = some o → h'.get? b = some o) → hp.objs.size ≤ dx → dx ≠ x → h'.get? x = some { cls := .ref C, dict := some dx, data := .fields fv } →
      h'.Ns1 dx (fun y => if y = name then some v else none) → R (.ok (.ret .none)) ⟨h', g, d, tk', os⟩) :
    codeAny (model prog w) A (.call (.builtin "object.__setattr__") ⟨[.ref x, .str name tk, v], []⟩) R ⟨hp, g, d, t, os⟩ := by
  have I : W.InstAt hp x { cls := .ref C, data := .fields fv } C none := ⟨hx, rfl, rfl, trivial⟩
  have SF := F.store_object
  have hob : cd.mro.contains (.type "object") = true := (excTail_contains "object" _ hm).trans EB.ob
  have ne : cd.mro.isEmpty = false := by
    cases e : cd.mro with
    | nil => rw [e] at hob; simp at hob
    | cons _ _ => rfl
  have hxs : x ≠ hp.objs.size := Nat.ne_of_lt (Heap.lt_size hx)
  have sub : W.Looks (model prog w) hp (isInstance (.ref x) (.type "object")) true := I.type.andThen (W.looks_mroIn X (by unfold W.mroIn; rw [hcd, Option.bind_some, if_neg (by rw [ne]; decide), hob]))
  refine codeAny_call_builtin SF.slot.plain SF.entry (@W.check_slot (model prog w) _ _ ⟨hp, g, d, t, os⟩ "object.__setattr__" "object" "__setattr__" (.ref x) [.str name tk, v] [] _ SF.kind SF.split sub (SF.args (.ref x) (.str name tk) v) ?_)
  have hmr : W.Looks (model prog w) hp (mroOf (.ref C)) cd.mro := (W.looks_clsIn X hcd).andThen .now
  have L3 : W.Looks (model prog w) hp (storeTaker? none) none := .now
  have hcls : W.Looks (model prog w) hp (classData C) cd := W.looks_clsIn X hcd
  rw [W.osa_eq, refuse_eq]
  refine wpAny_bind (wpAny_bind (I.type.at (wpAny_bind (hmr.at ?_))))
  rw [excTail_pass _ (EB.ps _) _ hm]
  refine wpAny_pure (wpAny_bind (I.type.at (wpAny_bind ((W.looks_findIn X ha).at (wpAny_bind (L3.at ?_))))))
  show wpAny _ _ (storeInOwnDict (.ref x) (.ref C) (.str name tk) name v false) _ _ _
  obtain ⟨nm, bs, mro, ns, qn, hd, sn, sb, ab, col, del⟩ := cd
  dsimp only at hh
  subst hh
  unfold storeInOwnDict ownDictForStores
  repeat (first | with_reducible refine store_in_new ?_ ?_ | with_reducible refine wpAny_loadPart_at hx ?_ | with_reducible refine hcls.at ?_ | wp_step)
  · exact ⟨_, #[], _, (Heap.get?_update_ne _ _ _ _ hxs.symm).trans (Heap.get?_push_at rfl rfl), rfl, fun e he => absurd he (by simp), fun _ => rfl⟩
  · intro h' tk' hn' hs
    have hx₁ : (hp.push { cls := .type "dict", data := .dict #[] }).get? x = some { cls := .ref C, data := .fields fv } := Heap.get?_push_of_some _ hx
    refine hq h' tk' hp.objs.size (fun b o hb ho => ?_) (Nat.le_refl _) hxs.symm ?_ hn'
    · exact (hs.2 b (Nat.ne_of_lt (Heap.lt_size ho))).trans ((Heap.get?_update_ne _ _ _ _ hb).trans (Heap.get?_push_of_some _ ho))
    · exact (hs.2 x hxs).trans (Heap.get?_update_self _ hx₁ rfl)
end
structure XcT (K : Frg) (C fI : Addr) (f qual : Str) (st : Stmt) : Prop where
  cls : ∃ nm q N bs bm sn sub ab col dd k0 k1 k2 k3 k5 bmB newId, K.lookup C = some (excClassObj nm q C N bs bm true sn sub ab col dd k0 k1 k2 k3 k5 newId) ∧ excTail bmB bm = true ∧ ExB bmB newId
  sa : findIn K (.ref C) "__setattr__" = some (some (.builtin "object.__setattr__"))
  xf : L2.XfC K C
  noN : findIn K (.ref C) f = some none
  iC : findIn K (.ref C) "__init__" = some (some (.ref fI))
  tC : typeIn K (.ref fI) = some (.type "function")
  kC : keepIn K (.ref C) = true
  exC : subIn K (.ref C) (.type "BaseException") = some true
  tyC : typeIn K (.ref C) = some (.type "type")
  df : DefAt K "__init__" qual st fI
  arg : ∃ p1 p2, defArgs st = iA f p1 p2
  body : ∃ q1 q2 q3 q4, defBody st = iB f q1 q2 q3 q4
  sc : defScope st = iS f
def Fld (f : Str) : Prop := f = "value" ∨ f = "index" ∨ f = "limit" ∨ f = "name"
theorem one_size (v : Value) : [v].length ≤ sizeLine := by
  rw [sizeLine_eq]
  exact (by decide : 1 ≤ 16777216)
theorem ldC {M : Model} {s : Shared} {name : Str} {scope : Scope} {L a : Addr} {cd : Value} {m : Str → Option Value} {x : Str} {pos : Pos} {v : Value} {Q : Value → Shared → Prop} {A : Around} {E : Value → Shared → Prop} (hn : s.heap.Ns L m) (hv : m x = some v) (h : Q v s)
    (hk : scope.kind = .function := by rfl) (hl : (envOfC name scope L a cd).kindOf x = some .local := by rfl) (hd : (x == ("__debug__" : Str)) = false := by decide) :
    wpAny M A (eval (.Name x pos) (envOfC name scope L a cd)) Q E s := wpAny_Name (wpAny_loadName_local hk hl hn hv h) hd
structure InitEnd (h h' : Heap) (x C dx t1 : Addr) (f : Str) (v : Value) : Prop where
  keep : ∀ b o, b ≠ x → h.get? b = some o → h'.get? b = some o
  obj : h'.get? x = some { cls := .ref C, dict := some dx, data := .fields #[.ref t1, .none, .none, .none, .bool false, .none] }
  dbig : h.objs.size ≤ dx
  dne : dx ≠ x
  ns : h'.Ns1 dx (fun y => if y = f then some v else none)
structure OwnMade (h h' : Heap) (e C d : Addr) (f : Str) (v : Value) : Prop where
  keep : ∀ b o, h.get? b = some o → h'.get? b = some o
  new : h.objs.size ≤ e
  obj : ∃ oe t1, h'.get? e = some oe ∧ oe.cls = .ref C ∧ oe.dict = some d ∧ oe.data = .fields #[.ref t1, .none, .none, .none, .bool false, .none]
  dbig : h.objs.size ≤ d
  dne : d ≠ e
  ns : h'.Ns1 d (fun y => if y = f then some v else none)
section
variable {prog : Program} {w : World} {A : Around} {E : Value → Shared → Prop} {R : Result → Shared → Prop} {s : Shared} {K : Frg} {mg : Str → Option Value} {C fI : Addr} {f qual : Str} {st : Stmt}
theorem xc_init (T : XcT K C fI f qual st) (hf : Fld f) {x t0 : Addr} {v : Value} (X : K.In s.heap) (hlim : s.heap.NoLimit) (hx : s.heap.get? x = some (excO C t0)) (hnx : K.lookup x = none) (hroom : A.depth < recursionLimit)
    (hq : ∀ h' tk dx, InitEnd s.heap h' x C dx t0 f v → R (.ok (.ret .none)) { s with heap := h', toks := tk }) :
    codeAny (model prog w) A (.call (.ref fI) ⟨[.ref x, v], []⟩) R s := by
  obtain ⟨fd, F⟩ := T.df
  obtain ⟨oc, od, dV, kV, doc, pm, an, cdv, ct, osl, rfl, ho, hcd, hD, hK⟩ := F.ex
  have hD' : dV = .none := by
    rcases hD with ⟨_, z⟩ | ⟨z, _⟩
    · exact z
    · exact absurd rfl z
  subst hD'
  obtain ⟨p1, p2, eA⟩ := T.arg
  obtain ⟨q1, q2, q3, q4, eB⟩ := T.body
  rw [eA, eB, T.sc] at ho
  obtain ⟨nm, q, N, bs, bm, sn, sub, ab, col, dd, k0, k1, k2, k3, k5, bmB, newId, hC, hbm, EB⟩ := T.cls
  have hcl : clsIn K C = some { name := nm, bases := bs, mro := .ref C :: bm, ns := N, qualname := q, hasDict := true, slotNames := sn, subclasses := sub, abstract := ab, collection := col, hasDel := false } := by unfold clsIn; rw [hC] <;> rfl
  have hsa := T.sa
  have hno := T.noN
  clear T eA eB F hK hD
  rcases hf with rfl | rfl | rfl | rfl
  all_goals
    refine Att.call_fn (binds := [("self", .ref x), (_, v)]) X hlim ho hcd hroom (BindsTo.of_eq (by first | rfl | with_unfolding_all rfl)) (by first | rfl | decide | with_unfolding_all rfl) (fun s₁ IC => ?_) rfl rfl rfl
    obtain ⟨h₁, tk₁, rfl⟩ := IC.toInCall.same
    have k : ∀ b o, s.heap.get? b = some o → h₁.get? b = some o := IC.toInCall.keep
    have hn := IC.toInCall.ns
    have hxL : s.heap.objs.size ≠ x := Nat.ne_of_gt (Heap.lt_size hx)
    have X₁ : K.In h₁ := X.keeps k
    have hx₁ := k _ _ hx
    show wpAny _ _ (execs _ _) _ _ _
    refine wpAny_execs_cons (plainObj_wpAny_Assign_Attribute ?_)
    refine ldC (v := v) hn (by first | rfl | with_unfolding_all rfl | kernel_rfl) (ldC (v := .ref x) hn (by first | rfl | with_unfolding_all rfl | kernel_rfl) ?_)
    refine set_plain X₁ (ox := excO C t0) (od := none) ⟨hx₁, rfl, rfl, trivial⟩ hsa ?_
    refine exc_osaG EB X₁ hx₁ hcl (show excTail bmB (.ref C :: bm) = true from hbm) rfl hno (fun h₃ tk₃ dx k₃ dn dne hx₃ hn₃ => ?_)
    show wpAny _ _ (execs _ _) _ _ _
    have z : s.heap.objs.size < h₁.objs.size := hn.lt
    exact wpAny_execs_nil (hq h₃ tk₃ dx ⟨fun b o hb e => k₃ b o hb (k b o e), hx₃, Nat.le_of_lt (Nat.lt_of_lt_of_le z dn), dne, hn₃⟩)
theorem xc_made (T : XcT K C fI f qual st) (hf : Fld f) {v : Value} (X : K.In s.heap) (hlim : s.heap.NoLimit) (hroom : A.depth + 1 < recursionLimit)
    (hq : ∀ h' tk e d, OwnMade s.heap h' e C d f v → R (.ok (.ret (.ref e))) { s with heap := h', toks := tk }) :
    codeAny (model prog w) A (.call (.ref C) ⟨[v], []⟩) R s := by
  obtain ⟨nm, q, N, bs, bm, sn, sub, ab, col, dd, k0, k1, k2, k3, k5, bmB, newId, hC, hbm, EB⟩ := T.cls
  obtain ⟨hp, g, dr, tk, os⟩ := s
  have k : ∀ b o, hp.get? b = some o → ((hp.push (kdv_tup [v])).push (excO C hp.objs.size)).get? b = some o := fun b o e => Heap.get?_push_of_some _ (Heap.get?_push_of_some _ e)
  have hget : ((hp.push (kdv_tup [v])).push (excO C hp.objs.size)).get? (hp.objs.size + 1) = some (excO C hp.objs.size) := by heap_get
  have hnx : K.lookup (hp.objs.size + 1) = none := by
    cases e : K.lookup (hp.objs.size + 1) with
    | none => rfl
    | some o =>
      have z : hp.get? (hp.objs.size + 1) = some o := X _ _ e
      exact absurd (Nat.lt_of_succ_lt (Heap.lt_size z)) (Nat.lt_irrefl _)
  obtain ⟨B0, initId, EF⟩ := EB.fb
  refine call_own EF (fun X => excTail_contains X bm hbm) (X _ _ hC) (looks_findIn X T.iC) (fun self => bind_fn X self T.tC) (one_size v) ?_
  refine xc_init (s := ⟨(hp.push (kdv_tup [v])).push (excO C hp.objs.size), g, dr, tk, os⟩) T hf (X.keeps k) (hlim.keeps k) hget hnx ?_ fun h' tk' dx ⟨k', hx, dn, dne, hns⟩ => ?_
  · show A.depth + 1 < recursionLimit
    exact hroom
  · have old : ∀ b o, hp.get? b = some o → h'.get? b = some o := fun b o e => k' b o (Nat.ne_of_lt (Nat.lt_succ_of_lt (Heap.lt_size e))) (k b o e)
    have z : hp.objs.size + 1 + 1 ≤ dx := by
      first
        | (simpa only [Heap.size_push] using dn)
        | exact dn
        | (have q := dn; rw [Heap.size_push, Heap.size_push] at q; exact q)
    exact ⟨rfl, hq h' tk' (hp.objs.size + 1) dx ⟨old, Nat.le_succ _, ⟨_, _, hx, rfl, rfl, rfl⟩, Nat.le_trans (Nat.le_trans (Nat.le_succ _) (Nat.le_succ _)) z, dne, hns⟩⟩
end
end Y
namespace Y
open PySem PySem.Spec PyProof.Rows L2 Z
/-! ### try: body, except C as n: suite, ..; the caught error is a thing of the heap -/
section
variable {X : Cx} {pins : List (Addr × Obj)} {σ : L2.St} {H : Hp} {s : Shared}
theorem xo_ok {P : Program} {w : World} {H : Hp} {h : Heap} {a : Addr} {cls : Value} {d : Option Addr} {oe : Obj} {vs : Array Value} (e : h.get? a = some oe) (z : Zc cls d oe) (hd : oe.data = .fields vs) : ObjOk P w H h a (XO cls d a) :=
  ⟨⟨oe, vs, e, z, hd⟩, ⟨oe, e⟩, fun _ _ ⟨o, v, q, r⟩ k => ⟨o, v, k o q, r⟩⟩
theorem inv_track {a m : Addr} {o : HO} (J : Inv X pins σ H s) (na : H a = none) (n0 : X.s_0.heap.get? a = none) (nL : a ≠ X.env.locals) (hcell : ∀ x c, X.env.cells.lookup x = some c → c ≠ a) (hpin : ∀ p ∈ X.pn ++ pins, p.1 ≠ a)
    (new : ObjOk X.prog X.w (upd H a o) s.heap a o) : Inv (X.suite m (X.pn ++ pins)) [] σ (upd H a o) s :=
  ⟨J.ok.suite _ _, J.os, J.bare, ⟨J.base.keep, J.base.slot, fun b u q n hx => by rw [upd_ne (fun z => by rw [z, n0] at q; cases q)]; exact J.base.free b u q n hx, J.base.there,
      fun b xs q => by have h := J.base.tups b xs q; rw [upd_ne (fun z => by rw [z, na] at h; cases h)]; exact h, fun b u xs q => by have h := J.base.frzs b u xs q; rw [upd_ne (fun z => by rw [z, na] at h; cases h)]; exact h,
      fun b ps q => by obtain ⟨more, h⟩ := J.base.tbls b ps q; exact ⟨more, by rw [upd_ne (fun z => by rw [z, na] at h; cases h)]; exact h⟩⟩,
    J.loc, J.cell, by show upd H a o X.env.locals = none; rw [upd_ne (Ne.symm nL)]; exact J.free, fun x c e => by rw [upd_ne (hcell x c e)]; exact J.freeC x c e,
    fun p hp => by
      have hp' : p ∈ X.pn ++ pins := by rw [List.append_nil] at hp; exact hp
      obtain ⟨h1, h2, h3⟩ := J.pin p hp'
      exact ⟨h1, by rw [upd_ne (hpin p hp')]; exact h2, h3⟩,
    fun b u e => by
      by_cases hb : b = a
      · subst hb
        rw [upd_same] at e
        cases e
        exact new
      · rw [upd_ne hb] at e
        exact (J.hok b u e).stay (fun c v _ q => q) (fun c q => by rw [upd_ne (fun z => by rw [z, na] at q; cases q)]; exact q) fun c xs q => by rw [upd_ne (fun z => by rw [z, na] at q; cases q)]; exact q, J.len⟩
theorem inv_untrk {m : Addr} {pn' : List (Addr × Obj)} (I : Inv (X.suite m (X.pn ++ pins)) pn' σ H s) (ok : X.Ok) : Inv X pins σ H s :=
  ⟨ok, I.os, I.bare, I.base, I.loc, I.cell, I.free, I.freeC, fun p hp => I.pin p (List.mem_append_left _ hp), I.hok, I.len⟩
end
def endX (i : Nat) (D : Ends) : Ends := { nx := fun σ' H' => D.nx (σ'.set i none) H', rt := D.rt, bk := fun σ' H' => D.bk (σ'.set i none) H', ct := fun σ' H' => D.ct (σ'.set i none) H' }
def wN (K : Frg) (Wout : WX) (D : Ends) : List (Value × Nat × TS) → WX
  | [] => Wout
  | (c, i, ts) :: l => fun cls d σ H => ∃ b, PySem.W.exmOne K cls c = some b ∧ (b = true → ∀ a, H a = none → ts (endX i D) (σ.set i (some (.ref a))) (upd H a (XO cls d a))) ∧ (b = false → wN K Wout D l cls d σ H)
inductive HdsN (X : Cx) : List ExceptHandler → List (Value × Nat × TS) → Prop
  | nil : HdsN X [] []
  | cons {x n : Str} {c : Value} {i : Nat} {ts : TS} {b₀ : Stmt} {suite : List Stmt} {np pos' : Pos} {hds : List ExceptHandler} {l : List (Value × Nat × TS)} (hc : Names X x c) (hi : X.N[i]? = some n) (hln : X.env.kindOf n = some .local)
      (hsu : ∀ (a : Addr) (pn : List (Addr × Obj)), PSs (X.suite a pn) (b₀ :: suite) ts) (r : HdsN X hds l) :
      HdsN X (.ExceptHandler (some (.Name x np)) (some n) (b₀ :: suite) pos' :: hds) ((c, i, ts) :: l)
section
variable {X : Cx} {body : List Stmt} {h₀ : ExceptHandler} {hds : List ExceptHandler} {l : List (Value × Nat × TS)} {pos : Pos} {tb : WX → TS} {Wout : WX}
theorem ps_tryN (hs : X.stack = X.env :: X.outer) (hf : X.env.frame = some X.env.locals) (hN : X.N.Nodup) (hex : X.ex = []) (tk : Takes X Wout)
    (hb : ∀ (W : WX) (pn : List (Addr × Obj)) (xe : Value → Shared → Prop), Takes (X.tr pn xe) W → PassesOwn (model X.prog X.w) X.A X.env xe → PSs (X.tr pn xe) body (tb W))
    (hh : HdsN X (h₀ :: hds) l) : PS X (.Try body (h₀ :: hds) [] [] pos) (fun D σ H => tb (wN X.K Wout D l) D σ H) := by
  refine ⟨fun pins s σ H D I h => ?_⟩
  have ok := I.ok
  have hfr : X.A.frames = some (X.env :: X.outer) := by rw [ok.frames, hs]
  refine wpAny_Try_except ?_
  refine wpAny_mono ((hb (wN X.K Wout D l) (X.pn ++ pins) (fun e s₁ => wpAny (model X.prog X.w) X.A (noteFrame e X.env) (fun _ s₂ => wpAny (model X.prog X.w) X.A (setFlight e none) (fun _ s₃ =>
    wpAny (model X.prog X.w) X.A (handleBy e X.env (h₀ :: hds)) (SP X pins D) X.xe s₃) X.xe s₂) X.xe s₁) (fun u s' xx => ?_) PassesOwn.looking).run [] s σ H D (I.toTry _) h) (fun f s1 hsp => ?_) (fun e s1 he => he)
  · obtain ⟨a, B, sI, pins', σ', H', cls, d, rfl, J', nb, up, sky, na, os, ag, w⟩ := xx
    have J : Inv X pins σ' H' sI := J'.ofTry ok
    have sky' : Sky B (X.env :: X.outer) a (Zc cls d) X.env.locals s'.heap := by rw [← hs]; exact sky
    show wpAny (model X.prog X.w) X.A (noteFrame (.ref a) X.env) _ _ _
    refine Sky.land Zc.steady hfr hf sky' fun h3 fl3 up3 => ?_
    have J3 : Inv X pins σ' H' { s' with heap := h3 } := J.landed nb fl3.1 (up.trans up3) os ag
    obtain ⟨oe3, vs3, he3, hz3, hd3⟩ := fl3.there
    have notFr : ∀ {h : Heap} {o : Obj} {vs : Array Value}, h.FunFrames B (X.env :: X.outer) → h.get? a = some o → o.data = .fields vs → a ∉ frs (X.env :: X.outer) := fun {h o vs} ff e dd hm => by
      obtain ⟨_, o', e', hnf⟩ := ff.mem hm
      rw [e] at e'; cases e'
      exact hnf _ dd
    have nfr := notFr fl3.2.2.1 he3 hd3
    have nL : a ≠ X.env.locals := fun z => nfr (List.mem_filterMap.mpr ⟨X.env, List.mem_cons_self, by rw [hf, z]⟩)
    have nF : a ∉ X.fs := fun hm => by
      obtain ⟨e, he, q⟩ := List.mem_filterMap.mp hm
      exact nfr (List.mem_filterMap.mpr ⟨e, List.mem_cons_of_mem _ he, q⟩)
    have nfrS : a ∉ frs X.stack := by rw [hs]; exact nfr
    have nI : ∀ o, sI.heap.get? a ≠ some o := fun o e => by
      have z := nb a o e nfrS
      rw [fl3.2.1] at z
      cases z
    have n0 : X.s_0.heap.get? a = none := by
      cases e : X.s_0.heap.get? a with
      | none => rfl
      | some o =>
        obtain ⟨o', z⟩ := J.base.there a o e (by rw [hex]; exact fun z => nomatch z)
        exact absurd z (nI o')
    have hpn : ∀ p ∈ X.pn ++ pins, p.1 ≠ a := fun p hp z => by
      have q := (J.pin p hp).1
      rw [z] at q
      exact nI _ q
    have hcl : ∀ x c, X.env.cells.lookup x = some c → c ≠ a := fun x c e z => by
      obtain ⟨v, o, q, _⟩ := J.cell x c e
      rw [z] at q
      exact nI _ q
    have S3 := J3.suite he3 hd3 na nL nF
    have go : ∀ {hds' : List ExceptHandler} {l' : List (Value × Nat × TS)}, HdsN X hds' l' → wN X.K Wout D l' cls d σ' H' →
        wpAny (model X.prog X.w) X.A (handleBy (.ref a) X.env hds') (SP X pins D) X.xe { s' with heap := h3 } := by
      intro hds' l' hk
      induction hk with
      | nil =>
        intro w
        refine wpAny_handleBy_nil ?_
        obtain ⟨k1, k2, k3, oe, vs, T, oT, ts', he, hz, hd, h1, hr⟩ := id fl3
        unfold PySem.passOn
        refine wpAny_bind (wpAny_field he hd h1 ?_)
        rw [if_neg (show ¬ ((Value.ref T == Value.none) = true) from by simp)]
        have fin : wpAny (model X.prog X.w) X.A (setFlight (.ref a) X.env.frame) (fun _ s4 => wpAny (model X.prog X.w) X.A (throw (.ref a) : Sem Flow) (SP X pins D) X.xe s4) X.xe { s' with heap := h3 } := by
          rw [hf]
          refine HandSPX.setFlight_upZ fl3 fun h4 hh4 up4 => wpAny_throw (tk _ _ ?_)
          exact ⟨a, B, sI, pins, σ', H', cls, d, rfl, J, nb, (up.trans up3).trans up4, .inr (.inr (by rw [hs]; exact hh4)), na, os, ag, w⟩
        first
          | exact wpAny_bind (wpAny_pure (wpAny_bind fin))
          | exact wpAny_bind fin
      | @cons x n c i ts b₀ suite np pos' hds2 l2 hc hi hln hsu r ih =>
        intro w
        obtain ⟨b, hb1, hyes, hno⟩ := w
        refine wpAny_handleBy_cons (codeAny_handlers_test ?_) (by intro q; cases q)
        have LT : PySem.W.Looks (model X.prog X.w) h3 (typeOf (.ref a)) cls := fun A Q E s k q => wpAny_typeOf_ref (k _ _ he3) (by rw [hz3.1]; exact q)
        have LM := PySem.W.exm_one (M := model X.prog X.w) (J3.kIn) LT hb1
        have test : ∀ {Q : Value → Shared → Prop} {E : Value → Shared → Prop}, Q c { s' with heap := h3 } → wpAny (model X.prog X.w) (X.A.mark (some (.ref a))) (eval (.Name x np) X.env) Q E { s' with heap := h3 } := fun {Q E} q => by
          obtain ⟨hg, hdbg, hm | ⟨hm, hv, hnn⟩⟩ := hc
          · exact ld_glob (X := X.suite a ((a, oe3) :: (X.pn ++ pins))) S3 hg hm q hdbg
          · exact ld_blt (X := X.suite a ((a, oe3) :: (X.pn ++ pins))) S3 hg hm hv q hnn hdbg
        refine test (LM.here ?_)
        cases b with
        | true =>
          refine codeAny_handlers_suite_as ?_
          refine HandSPX.lands_againZ fl3 fun h4 fl4 up4 => ?_
          have J4 : Inv X pins σ' H' { s' with heap := h4 } := J.landed nb fl4.1 ((up.trans up3).trans up4) os ag
          obtain ⟨oe4, vs4, he4, hz4, hd4⟩ := fl4.there
          have S4 := inv_track (m := a) (o := XO cls d a) J4 na n0 nL hcl hpn (xo_ok he4 hz4 hd4)
          refine store_ok (X := X.suite a (X.pn ++ pins)) (v := .ref a) S4 hN hi (.inl hln) rfl (fun s5 S5 => ?_) (.inr hln)
          refine wpAny_mono ((hsu a (X.pn ++ pins)).run [] s5 _ _ _ S5 (hyes rfl a na)) (fun f s6 hsp => ?_) (fun _ _ z => False.elim z)
          have end_ : ∀ {σ6 : L2.St} {H6 : Hp} {Q : Shared → Prop}, Inv (X.suite a (X.pn ++ pins)) [] σ6 H6 s6 → (∀ s7, Inv X pins (σ6.set i none) H6 s7 → Q s7) →
              wpAny (model X.prog X.w) X.A (do bindName X.env n .none; unbindBehindTheSuite X.env n pos') (fun _ s7 => Q s7) X.xe s6 := fun {σ6 H6 Q} S6 hq => gone_ok (inv_untrk S6 ok) hN hi hln hq
          cases f with
          | next =>
            obtain ⟨σ6, H6, S6, q6⟩ := hsp
            exact end_ S6 fun s7 J7 => ⟨_, _, J7, q6⟩
          | brk =>
            obtain ⟨σ6, H6, S6, q6⟩ := hsp
            exact end_ S6 fun s7 J7 => ⟨_, _, J7, q6⟩
          | cont =>
            obtain ⟨σ6, H6, S6, q6⟩ := hsp
            exact end_ S6 fun s7 J7 => ⟨_, _, J7, q6⟩
          | ret u =>
            obtain ⟨v6, σ6, H6, S6, r6, q6⟩ := hsp
            exact end_ S6 fun s7 J7 => ⟨_, _, _, J7, r6, q6⟩
        | false =>
          show wpAny _ X.A (handleBy (.ref a) X.env hds2) _ _ _
          exact ih (hno rfl)
    exact go hh w
  · cases f with
    | next =>
      obtain ⟨σ', H', J', q⟩ := hsp
      exact wpAny_execs_nil ⟨σ', H', J'.ofTry ok, q⟩
    | brk =>
      obtain ⟨σ', H', J', q⟩ := hsp
      exact ⟨σ', H', J'.ofTry ok, q⟩
    | cont =>
      obtain ⟨σ', H', J', q⟩ := hsp
      exact ⟨σ', H', J'.ofTry ok, q⟩
    | ret u =>
      obtain ⟨v, σ', H', J', r, q⟩ := hsp
      exact ⟨v, σ', H', J'.ofTry ok, r, q⟩
end
end Y
namespace Y
open PySem PySem.Spec PyProof.Rows L2 Z
/-! ### raise -/
abbrev Tk (X : Cx) (B : Bs) : Prop := Takes X (fun cls d _ H => EE X.K B cls d H)
def tMkX (C : Addr) (f : Str) (ta : TA) : L2.St → Hp → XK → Prop := fun σ H Q => ta σ H fun vs H1 => ∃ v, vs = [v] ∧ ∀ d, H1 d = none → Q (.ref C) (some d) (upd H1 d (.xd [(f, v)]))
theorem relO_x {f : Str} {v : V} {v' : Value} (r : RelV v v') (g : Str) : RelO (List.lookup g [(f, v)]) (if g = f then some v' else none) := by
  by_cases hw : g = f
  · subst hw
    rw [if_pos rfl]
    have q : List.lookup g [(g, v)] = some v := by simp [List.lookup]
    rw [q]
    exact r
  · rw [if_neg hw]
    have qw : (g == f) = false := by simpa using hw
    have q2 : List.lookup g [(f, v)] = none := by simp [List.lookup, qw]
    rw [q2]
    trivial
section
variable {X : Cx} {B : Bs} {a b c e : Expr} {es : List Expr} {ra rb rc r : Rd} {rt ru : RdT} {rl : RdA} {pos p p0 p1 pos2 : Pos} {st : Stmt} {C fI f : Addr} {x fn qual : Str} {sti : Stmt} {k : Nat} {R : RdF}
theorem pmk_x {ta : TA} (T : XcT X.K C fI fn qual sti) (hf : Fld fn) (hr : RoomG k X.A) (ha : PA X [a] ta) (hg : Gl X x) (hm : X.mg x = some (.ref C)) (hdb : (x == ("__debug__" : Str)) = false := by decide)
    (he : starEach (a :: []) X.env = (false, eval a X.env) :: starEach [] X.env := by rfl) (hpl : (backTo pos (starEach [] X.env)).any (·.1) = false := by rfl) :
    PMk X (.Call (.Name x p) [a] [] pos) (tMkX C fn ta) := by
  intro pins s σ H Q I h
  refine wpAny_Call_Name_kw (ld_glob I hg hm ?_ hdb)
  refine PySem.W.callWith_K (h₀ := X.base) I.ok.mod.kin T.kC (thn (ha.run pos pins s σ H _ I h) fun us s1 hh => ?_) he hpl
  obtain ⟨vs, H1, I1, r1, v, ev, q1⟩ := hh
  subst ev
  refine ⟨I1.kIn, ?_⟩
  cases r1 with
  | cons rv rn =>
    rename_i v' us'
    cases rn
    show wpAny _ _ (call (.ref C) [v']) _ _ _
    have hlim := I1.nolimit
    obtain ⟨hp, g, dr, tk, os⟩ := s1
    refine wpAny_call (xc_made T hf I1.kIn hlim (by have := hr.rm.dp; omega) fun h' tk' e d M => ?_)
    show MkP X pins σ Q (.ref e) ⟨h', g, dr, tk', os⟩
    obtain ⟨oe, t1, hoe, hc, hd, hdat⟩ := M.obj
    have hns := M.ns
    obtain ⟨G', g1, g2⟩ := restrict h' fun b => decide (b ≠ e)
    have gk : ∀ b, b ≠ e → G'.get? b = h'.get? b := fun b hb => g1 b (decide_eq_true hb)
    have ge : G'.get? e = none := g2 e (by simp)
    have old : ∀ b o, hp.get? b = some o → G'.get? b = some o := fun b o q => (gk b (Nat.ne_of_lt (Nat.lt_of_lt_of_le (Heap.lt_size q) M.new))).trans (M.keep b o q)
    have ob : ObjOk X.prog X.w (upd H1 d (.xd [(fn, v)])) G' d (.xd [(fn, v)]) :=
      ⟨_, hns.at (fun o q => (gk d M.dne).trans q), fun f => relO_x rv f⟩
    have J : Inv X pins σ (upd H1 d (.xd [(fn, v)])) ⟨G', g, dr, tk', os⟩ := I1.laid (t' := tk') old M.dbig ob
    refine ⟨e, oe, _, ⟨G', g, dr, tk', os⟩, _, .ref C, some d, rfl, J, fun b o q => ?_, ge, hoe, ⟨hc, hd⟩, hdat, rfl, ?_, rfl, I1.bare, raises_own T.exC T.tyC, q1 d (I1.hok.fresh M.dbig)⟩
    · by_cases hb : b = e
      · have q' : G'.get? b = some o := q
        rw [hb, ge] at q'; cases q'
      · exact (gk b hb).symm.trans q
    · rw [upd_ne (Ne.symm M.dne)]
      exact I1.hok.fresh M.new
theorem s_raise (hc : X.calm = true) (tk : Tk X B) (T : XcT X.K (He.ga X.K x) fI fn qual sti) (hf : Fld fn) (hr : RoomG k X.A) (ha : PEp X B a r) (hg : Gl X x) (hm : X.mg x = some (.ref (He.ga X.K x))) (hdb : (x == ("__debug__" : Str)) = false := by decide)
    (he : starEach (a :: []) X.env = (false, eval a X.env) :: starEach [] X.env := by rfl) (hpl : (backTo pos (starEach [] X.env)).any (·.1) = false := by rfl) :
    PSp X B (.Raise (some (.Call (.Name x p) [a] [] pos)) none pos2) (fun ρ _ => r ρ fun d => B.Ed ⟨.glob x, [fn], [d]⟩) :=
  ps_imp (ps_raise hc tk (pmk_x T hf hr (pa_cons ha pa_nil he) hg hm hdb he hpl)) fun σ H Dd ⟨F, ρ, E, I, z, _⟩ => ⟨F, ρ, _, I, z, fun v F1 H1 d g1 t1 r1 q => ⟨v, rfl, fun dd hd =>
    ⟨upd F1 dd (.xd [(fn, v)]), ⟨.glob x, [fn], [d]⟩, (I.go.trans g1).trans (Go.new t1.1 hd), t1.go0 (Go.new t1.1 hd), ⟨rfl, fun _ => ⟨dd, [v], rfl, upd_same, rfl, .cons (r1.up (Go.new (ms := B.ms) t1.1 hd).ff) .nil⟩⟩, q⟩⟩⟩
/-! ### what may raise, in the body of a try -/
def tX (K : Frg) (B : Bs) (r : Ev → (D → Prop) → (Ex → Prop) → Prop) (W : WX) : TE := fun σ H Q => ∃ F ρ Qd Ed, Iv K B F H σ ρ ∧ r ρ Qd Ed ∧ (∀ v F' H' d, Go B.ms F H F' H' → Tp K B.ms F' H' → Rp K B.ms F' v d → Qd d → Q v H') ∧
  ∀ cls d F' H' x, Go B.ms F H F' H' → Tp K B.ms F' H' → XR K B.ms F' cls d x → Ed x → W cls d σ H'
def PXp (X : Cx) (B : Bs) (e : Expr) (r : Ev → (D → Prop) → (Ex → Prop) → Prop) : Prop := ∀ W, Takes X W → PE X e (tX X.K B r W)
theorem run_X {W : WX} {pins : List (Addr × Obj)} {σ : L2.St} {H : Hp} {s : Shared} {sp : Sp} {Q : VK} {us : List Value} {vs : List V} (F : FnA X.A X.prog X.w X.K X.mg X.base (L2.CX X.prog X.w) f sp) (tk : Takes X W) (I : L2.Inv X pins σ H s) (r : Vals vs us) (h : sp vs H Q (fun cls d H' => W cls d σ H')) :
    codeAny (model X.prog X.w) X.A (.call (.ref f) ⟨us, []⟩) (fun r s' => match r with | .ok (.ret v) => EP X pins σ Q v s' | .ok _ => False | .error e => X.xe e s') s :=
  codeAny_mono (F X.stack s H us vs Q _ I.env0 r h) fun q s' hq => match q, hq with
    | .error er, hq => tk er s' (XE.of_call I (fun _ _ _ h => h) hq)
    | .ok (.ret _), hq => I.after hq
    | .ok .next, hq => False.elim hq
    | .ok .brk, hq => False.elim hq
    | .ok .cont, hq => False.elim hq
theorem x_call (F : FnG X.prog X.w X.K X.mg X.base (L2.CX X.prog X.w) k f (spP X.K R)) (hr : RoomG k X.A) (hg : Gl X x) (hm : X.mg x = some (.ref f)) (hk : PySem.W.keepIn X.K (.ref f) = true)
    (ha : PAp X B.nox (e :: es) rl) (hdb : (x == ("__debug__" : Str)) = false := by decide) (he : starEach (e :: es) X.env = (false, eval e X.env) :: starEach es X.env := by rfl) (hpl : (backTo pos (starEach es X.env)).any (·.1) = false := by rfl) :
    PXp X B (.Call (.Name x p0) (e :: es) [] pos) (fun ρ Q E => rl ρ fun ds => R ds Q E) := fun W tk => by
  refine ⟨fun pins s σ H Q I ⟨F0, ρ, Qd, Ed, J, z, kq, kx⟩ => ?_⟩
  refine wpAny_Call_Name_kw (ld_glob I hg hm ?_ hdb)
  refine PySem.W.callWith_K (h₀ := X.base) I.ok.mod.kin hk (thn (ha.run pos pins s σ H (fun vs H1 => ∃ F1 ds, Go B.ms F0 H F1 H1 ∧ Tp X.K B.ms F1 H1 ∧ Rps X.K B.ms F1 vs ds ∧ R ds Qd Ed) I ⟨F0, ρ, _, J.nox, z, fun vs F1 H1 ds g1 t1 r1 z1 => ⟨F1, ds, g1, t1, r1, z1⟩⟩) fun us s1 ⟨vs, H1, I1, r, F1, ds, g1, t1, r1, z1⟩ => ⟨I1.kIn, ?_⟩) he hpl
  exact wpAny_call (run_X (F.at hr) tk I1 r ⟨B.ms, F1, ds, Qd, Ed, t1, r1, z1, fun v F2 H2 d g2 t2 r2 q2 => kq v F2 H2 d (g1.trans g2) t2 r2 q2, fun cls d F2 H2 x g2 t2 xr q => kx cls d F2 H2 x (g1.trans g2) t2 xr q⟩)
/-! ### try -/
def endR (i : Nat) (E : En) : En := { nx := fun ρ' => E.nx (ρ'.set i .no), rt := E.rt, bk := fun ρ' => E.bk (ρ'.set i .no), ct := fun ρ' => E.ct (ρ'.set i .no) }
def hndR (K : Frg) (Ed : Ex → Prop) : List (Str × Nat × RdS) → Ex → Ev → En → Prop
  | [], x, _, _ => Ed x
  | (C, i, rs) :: l, x, ρ, E => ∃ b, (∃ cls, clsV K x.c = some cls ∧ PySem.W.exmOne K cls (.ref (He.ga K C)) = some b) ∧ ifB b (rs (ρ.set i (.mu (.exc x))) (endR i E)) (hndR K Ed l x ρ E)
inductive HdsP (X : Cx) (B : Bs) : List ExceptHandler → List (Str × Nat × RdS) → Prop
  | nil : HdsP X B [] []
  | cons {x n : Str} {i : Nat} {rs : RdS} {b₀ : Stmt} {suite : List Stmt} {np pos' : Pos} {hds : List ExceptHandler} {l : List (Str × Nat × RdS)} (hc : Names X x (.ref (He.ga X.K x))) (hi : X.N[i]? = some n) (hln : X.env.kindOf n = some .local)
      (hsu : ∀ (a : Addr) (pn : List (Addr × Obj)), PSsp (X.suite a pn) B.nox (b₀ :: suite) rs) (r : HdsP X B hds l) :
      HdsP X B (.ExceptHandler (some (.Name x np)) (some n) (b₀ :: suite) pos' :: hds) ((x, i, rs) :: l)
def hdV (K : Frg) (B : Bs) (q : Str × Nat × RdS) : Value × Nat × TS := (.ref (He.ga K q.1), q.2.1, tS K B.nox q.2.2)
theorem HdsP.n {hds : List ExceptHandler} {l : List (Str × Nat × RdS)} (h : HdsP X B hds l) : HdsN X hds (l.map (hdV X.K B)) := by
  induction h with
  | nil => exact .nil
  | cons hc hi hln hsu _ ih => exact .cons hc hi hln hsu ih
theorem Iv.unnox {K : Frg} {F H : Hp} {σ : L2.St} {ρ : Ev} (I : Iv K B.nox F H σ ρ) : Iv K B F H σ ρ := ⟨I.go, I.tp, I.len, I.val, I.own, I.sep⟩
theorem hnd_ok {K : Frg} {E : En} {Dd : Ends} {F H : Hp} {σ : L2.St} {ρ : Ev} {cls : Value} {d : Option Addr} {x : Ex} (h0 : Same B.F0 B.H0) (I : Iv K B F H σ ρ) (xr : XR K B.ms F cls d x)
    (kn : ∀ σ' ρ' F' H', Same F F' → Iv K B F' H' σ' ρ' → E.nx ρ' → Dd.nx σ' H') (kr : ∀ v d F' H', Go B.ms B.F0 B.H0 F' H' → Tp K B.ms F' H' → Rp K B.ms F' v d → E.rt d → Dd.rt v H')
    (kb : ∀ σ' ρ' F' H', Same F F' → Iv K B F' H' σ' ρ' → E.bk ρ' → Dd.bk σ' H') (kc : ∀ σ' ρ' F' H', Same F F' → Iv K B F' H' σ' ρ' → E.ct ρ' → Dd.ct σ' H') :
    ∀ {l : List (Str × Nat × RdS)}, hndR K B.Ed l x ρ E → wN K (fun cls d _ H => EE K B cls d H) Dd (l.map (hdV K B)) cls d σ H
  | [], q => ⟨F, x, I.go, I.tp, xr, q⟩
  | (C, i, rs) :: l, q => by
    obtain ⟨b, ⟨cls', e1, e2⟩, q⟩ := q
    have e3 : cls' = cls := Option.some.inj (e1.symm.trans xr.1)
    subst e3
    refine ⟨b, e2, fun hb a na => ?_, fun hb => ?_⟩
    · subst hb
      refine ⟨F, _, endR i E, (I.newM (m := .exc x) h0 i na rfl ⟨cls', d, rfl, xr⟩).nox, ifB_t q, fun σ' ρ' F' H' s J z => ?_, fun v d F' H' g t r z => kr v d F' H' g t r z, fun σ' ρ' F' H' s J z => ?_, fun σ' ρ' F' H' s J z => ?_⟩
      · exact kn _ _ F' H' s (J.unnox.wipe i) z
      · exact kb _ _ F' H' s (J.unnox.wipe i) z
      · exact kc _ _ F' H' s (J.unnox.wipe i) z
    · subst hb
      exact hnd_ok h0 I xr kn kr kb kc (ifB_f q)
theorem s_tryE {h₀ : ExceptHandler} {hds : List ExceptHandler} {l : List (Str × Nat × RdS)} {rx : Ev → (D → Prop) → (Ex → Prop) → Prop} (h0 : Same B.F0 B.H0) (hs : X.stack = X.env :: X.outer) (hf : X.env.frame = some X.env.locals) (hN : X.N.Nodup) (hex : X.ex = []) (tk : Tk X B)
    (hx : ∀ (pn : List (Addr × Obj)) (xe : Value → Shared → Prop), PXp (X.tr pn xe) B e rx) (hh : HdsP X B (h₀ :: hds) l) (hsw : swapsWith e none p1.line X.env = pure false := by rfl) :
    PSp X B (.Try [.Expr e p1] (h₀ :: hds) [] [] pos) (fun ρ E => rx ρ (fun _ => E.nx ρ) (fun x => hndR X.K B.Ed l x ρ E)) :=
  ps_imp (ps_tryN (Wout := fun cls d _ H => EE X.K B cls d H) (tb := fun W => tDrop (tX X.K B rx W)) hs hf hN hex tk (fun W pn xe tk' po => pss_one (ps_expr (hx pn xe W tk') hsw)) hh.n) fun σ H Dd ⟨F, ρ, E, I, z, kn, kr, kb, kc⟩ =>
    ⟨F, ρ, _, _, I, z, fun v F' H' d g t r q => kn σ ρ F' H' g.ff (I.step g t) q, fun cls d F' H' x g t xr q => hnd_ok h0 (I.step g t) xr (fun σ2 ρ2 F2 H2 s => kn σ2 ρ2 F2 H2 (g.ff.trans s)) kr (fun σ2 ρ2 F2 H2 s => kb σ2 ρ2 F2 H2 (g.ff.trans s)) (fun σ2 ρ2 F2 H2 s => kc σ2 ρ2 F2 H2 (g.ff.trans s)) q⟩
theorem s_tryR {h₀ : ExceptHandler} {hds : List ExceptHandler} {l : List (Str × Nat × RdS)} {rx : Ev → (D → Prop) → (Ex → Prop) → Prop} (h0 : Same B.F0 B.H0) (hs : X.stack = X.env :: X.outer) (hf : X.env.frame = some X.env.locals) (hN : X.N.Nodup) (hex : X.ex = []) (tk : Tk X B)
    (hx : ∀ (pn : List (Addr × Obj)) (xe : Value → Shared → Prop), PXp (X.tr pn xe) B e rx) (hh : HdsP X B (h₀ :: hds) l) :
    PSp X B (.Try [.Return (some e) p1] (h₀ :: hds) [] [] pos) (fun ρ E => rx ρ E.rt (fun x => hndR X.K B.Ed l x ρ E)) :=
  ps_imp (ps_tryN (Wout := fun cls d _ H => EE X.K B cls d H) (tb := fun W => tRet (tX X.K B rx W)) hs hf hN hex tk (fun W pn xe tk' po => pss_one (ps_ret (hx pn xe W tk'))) hh.n) fun σ H Dd ⟨F, ρ, E, I, z, kn, kr, kb, kc⟩ =>
    ⟨F, ρ, _, _, I, z, fun v F' H' d g t r q => kr v d F' H' (I.go.trans g) t r q, fun cls d F' H' x g t xr q => hnd_ok h0 (I.step g t) xr (fun σ2 ρ2 F2 H2 s => kn σ2 ρ2 F2 H2 (g.ff.trans s)) kr (fun σ2 ρ2 F2 H2 s => kb σ2 ρ2 F2 H2 (g.ff.trans s)) (fun σ2 ρ2 F2 H2 s => kc σ2 ρ2 F2 H2 (g.ff.trans s)) q⟩
/-! ### the field of a caught error -/
def rXf (cs : List Str) (i : Nat) (f : Str) : Rd := fun ρ Q => match ρ[i]? with
  | some (.mu (.exc x)) => (∃ c ∈ cs, x.c = .glob c) ∧ x.ns = [f] ∧ (match x.ds with | [d] => Q d | _ => False)
  | _ => False
theorem y_xf {n fn : Str} {i : Nat} {cs : List Str} (hv : PE X (.Name n p) (tVar i)) (hc : ∀ c ∈ cs, XfC X.K (He.ga X.K c) ∧ PySem.W.findIn X.K (.ref (He.ga X.K c)) fn = some none)
    (hb : attributeBase (.Name n p) fn X.env (eval (.Name n p) X.env) = eval (.Name n p) X.env := by rfl) : PEp X B (.Attribute (.Name n p) fn pos) (rXf cs i fn) := by
  refine ⟨fun pins s σ H Q I ⟨F, ρ, Qd, J, z, kk⟩ => ?_⟩
  unfold rXf at z
  split at z
  · rename_i x hx
    obtain ⟨⟨c, hcs, ec⟩, hns, z⟩ := z
    split at z
    · rename_i dv hds
      obtain ⟨a, o, h1, h2, h3, h4, h5, cls, d, rfl, xr⟩ := J.own i _ hx
      refine attr_of hb (thn (hv.run pins s σ H (fun v H1 => v = .ref a ∧ H1 = H) I ⟨_, h1, rfl, rfl⟩) fun u s1 hh => ?_)
      obtain ⟨x1, H1, I1, rx, rfl, rfl⟩ := hh
      obtain rfl : u = Value.ref a := rx
      obtain ⟨⟨oe, vs, ha, hz, hd⟩, _⟩ := I1.hok a _ h5
      obtain ⟨ec1, xr2⟩ := xr
      rw [ec] at ec1
      have ecl : cls = .ref (He.ga X.K c) := (Option.some.inj ec1).symm
      subst ecl
      obtain ⟨dd, ws, ed, eF, el, er⟩ := xr2 (by rw [hns]; exact fun z => nomatch z)
      rw [hns] at eF el
      rw [hds] at er
      subst ed
      obtain ⟨T, hno⟩ := hc c hcs
      cases er with
      | @cons v _ _ _ r1 r2 =>
      cases r2
      have hx2 : ObjOk X.prog X.w H1 s1.heap dd (.xd [(fn, v)]) := I1.hok dd _ (J.same _ _ eF)
      obtain ⟨mA, hns2, hr⟩ := hx2
      obtain ⟨od, ho, hl⟩ := lookIn_ns hns2
      have l : List.lookup fn [(fn, v)] = some v := by simp [List.lookup]
      obtain ⟨u, hu, ru⟩ := RelO.some_of (v := v) (o := mA fn) (by rw [← l]; exact hr fn)
      have JJ : PySem.W.InstAt s1.heap a oe (He.ga X.K c) (some od) := ⟨ha, hz.1, by unfold PySem.W.notCls; rw [hd] <;> rfl, by rw [hz.2]; exact ho⟩
      exact HandSPX.exc_get I1.kIn JJ T.ga T.gg T.exC (PySem.W.findObj_own T.hdC hno rfl (by rw [hl, hu])) (handed_of ru) ⟨v, H1, I1.tok _, ru, kk v F H1 dv (Go.refl J.same) J.tp r1 z⟩
    · exact z.elim
  · exact z.elim
end
end Y
namespace Y
open PySem PySem.Spec PyProof.Rows L2 Z
/-! ### what the heap tells of an error class -/
def bsOf : Nat → List Value × String
  | 0 => (bsValue, "ValueError.__new__")
  | 1 => (bsOver, "OverflowError.__new__")
  | _ => (bsArith, "ArithmeticError.__new__")
theorem exB_of : ∀ b : Nat, ExB (bsOf b).1 (bsOf b).2
  | 0 => exB_Value
  | 1 => exB_Over
  | _ + 2 => exB_Arith
def xclB (K : Frg) (C : Addr) (b : Nat) : Bool := match K.lookup C with
  | some ⟨.type "type", _, .cls cd, sl⟩ => (match cd.mro, sl.toList with
    | .ref C' :: bm, [_, _, _, _, some (.builtin n), _] => C' == C && n == (bsOf b).2 && !cd.hasDel && cd.hasDict && PySem.W.excTail (bsOf b).1 bm
    | _, _ => false)
  | _ => false
theorem xcl_of {K : Frg} {C : Addr} {b : Nat} (q : xclB K C b = true) : ∃ nm q N bs bm sn sub ab col dd k0 k1 k2 k3 k5 bmB newId, K.lookup C = some (excClassObj nm q C N bs bm true sn sub ab col dd k0 k1 k2 k3 k5 newId) ∧ PySem.W.excTail bmB bm = true ∧ ExB bmB newId := by
  unfold xclB at q
  split at q
  · rename_i dd cd sl ho
    split at q
    · rename_i C' bm k0 k1 k2 k3 n k5 hm hs
      simp only [Bool.and_eq_true, beq_iff_eq, Bool.not_eq_true'] at q
      obtain ⟨⟨⟨⟨rfl, rfl⟩, hdel⟩, hdi⟩, ht⟩ := q
      obtain ⟨nm, bs, mro, ns, qn, hd, sn, sub, ab, col, del⟩ := cd
      dsimp only at hm hdel hdi
      subst hm hdel hdi
      have hsl : sl = #[k0, k1, k2, k3, some (.builtin (bsOf b).2), k5] := by
        obtain ⟨l⟩ := sl
        simp only at hs
        rw [hs]
      subst hsl
      exact ⟨nm, qn, ns, bs, bm, sn, sub, ab, col, dd, k0, k1, k2, k3, k5, _, _, ho, ht, exB_of b⟩
    · cases q
  · cases q
def bXc (x f : Str) (b : Nat) : Frg → Bool := fun K => xclB K (He.ga K x) b && (He.eqO (PySem.W.findIn K (.ref (He.ga K x)) "__setattr__") (some (some (.builtin "object.__setattr__"))) && (L2.xfB K (He.ga K x) && (He.eqO (PySem.W.findIn K (.ref (He.ga K x)) f) (some none) &&
  (He.eqO (PySem.W.findIn K (.ref (He.ga K x)) "__init__") (some (some (.ref (He.ma K (He.ga K x) "__init__")))) && (decide (PySem.W.typeIn K (.ref (He.ma K (He.ga K x) "__init__")) = some (.type "function")) && (PySem.W.keepIn K (.ref (He.ga K x)) &&
  (decide (PySem.W.subIn K (.ref (He.ga K x)) (.type "BaseException") = some true) && decide (PySem.W.typeIn K (.ref (He.ga K x)) = some (.type "type")))))))))
structure XcB (K : Frg) (C fI : Addr) (f : Str) : Prop where
  cls : ∃ nm q N bs bm sn sub ab col dd k0 k1 k2 k3 k5 bmB newId, K.lookup C = some (excClassObj nm q C N bs bm true sn sub ab col dd k0 k1 k2 k3 k5 newId) ∧ PySem.W.excTail bmB bm = true ∧ ExB bmB newId
  sa : PySem.W.findIn K (.ref C) "__setattr__" = some (some (.builtin "object.__setattr__"))
  xf : L2.XfC K C
  noN : PySem.W.findIn K (.ref C) f = some none
  iC : PySem.W.findIn K (.ref C) "__init__" = some (some (.ref fI))
  tC : PySem.W.typeIn K (.ref fI) = some (.type "function")
  kC : PySem.W.keepIn K (.ref C) = true
  exC : PySem.W.subIn K (.ref C) (.type "BaseException") = some true
  tyC : PySem.W.typeIn K (.ref C) = some (.type "type")
theorem xcb_of {K : Frg} {x f : Str} {b : Nat} (h : bXc x f b K = true) : XcB K (He.ga K x) (He.ma K (He.ga K x) "__init__") f := by
  obtain ⟨h1, h⟩ := He.ba h
  obtain ⟨h2, h⟩ := He.ba h
  obtain ⟨h3, h⟩ := He.ba h
  obtain ⟨h4, h⟩ := He.ba h
  obtain ⟨h5, h⟩ := He.ba h
  obtain ⟨h6, h⟩ := He.ba h
  obtain ⟨h7, h⟩ := He.ba h
  obtain ⟨h8, h9⟩ := He.ba h
  exact ⟨xcl_of h1, He.eqO_ok h2, L2.xfB_ok h3, He.eqO_ok h4, He.eqO_ok h5, of_decide_eq_true h6, h7, of_decide_eq_true h8, of_decide_eq_true h9⟩
theorem XcB.t {K : Frg} {C fI : Addr} {f qual : Str} {st : Stmt} (h : XcB K C fI f) (df : DefAt K "__init__" qual st fI) (arg : ∃ p1 p2, defArgs st = iA f p1 p2) (body : ∃ q1 q2 q3 q4, defBody st = iB f q1 q2 q3 q4) (sc : defScope st = iS f) : XcT K C fI f qual st :=
  ⟨h.cls, h.sa, h.xf, h.noN, h.iC, h.tC, h.kC, h.exC, h.tyC, df, arg, body, sc⟩
def bEx (x y : Str) (b : Bool) : Frg → Bool := fun K => decide (PySem.W.exmOne K (.ref (He.ga K x)) (.ref (He.ga K y)) = some b)
theorem ex_of {K : Frg} {x y : Str} {b : Bool} (h : bEx x y b K = true) : PySem.W.exmOne K (.ref (He.ga K x)) (.ref (He.ga K y)) = some b := of_decide_eq_true h
/-! ### defs that may raise -/
section
variable {P : Program} {w : World} {K : Frg} {mg : Str → Option Value} {base : Heap}
theorem tk_of {N : List Str} {qual : Str} {scope : Scope} {f : Addr} {cdv : Value} {A : Around} {outer : List Env} {s : Shared} {H : Hp} {E : XK} {B : Bs} (h : ∀ cls d H', EE K B cls d H' → E cls d H') : Tk (cxOf (L2.CX P w) P w K mg base N qual scope f cdv A outer s H E) B := by
  have tk : Takes (cxOf (L2.CX P w) P w K mg base N qual scope f cdv A outer s H E) (fun cls d _ H => E cls d H) := takes_of rfl rfl rfl rfl
  exact tk.imp fun cls d σ H z => h cls d H z
theorem y_fnX {x qual : Str} {st : Stmt} {f : Addr} {N ps : List Str} {k : Nat} {R : RdF} (F : DefAt K x qual st f) (S : FnScope N ps (defScope st)) (len : ∀ ds Q E, R ds Q E → ds.length = ps.length)
    (hb : ∀ (kV doc pm : Value) (an : Option Addr) (cdv ct : Value) (us : List Value), us.length = ps.length → bindArgs (PySem.W.fnOf x qual (defArgs st) (defBody st) (defScope st) .none kV doc pm an cdv ct) ⟨us, []⟩ = pure (ps.zip us))
    (hbody : ∀ (cdv : Value) (A : Around) (outer : List Env) (s : Shared) (H : Hp) (E : XK) (B : Bs), Same B.F0 B.H0 → RoomG k (A.deeper (envOfC qual (defScope st) s.heap.objs.size f cdv)) → Px (cxOf (L2.CX P w) P w K mg base N qual (defScope st) f cdv A outer s H E) B →
      PassesOwn (model P w) (cxOf (L2.CX P w) P w K mg base N qual (defScope st) f cdv A outer s H E).A (cxOf (L2.CX P w) P w K mg base N qual (defScope st) f cdv A outer s H E).env (cxOf (L2.CX P w) P w K mg base N qual (defScope st) f cdv A outer s H E).xe →
      Tk (cxOf (L2.CX P w) P w K mg base N qual (defScope st) f cdv A outer s H E) B →
      ∃ r, PSsp (cxOf (L2.CX P w) P w K mg base N qual (defScope st) f cdv A outer s H E) B (defBody st) r ∧ ∀ ds Q, R ds Q B.Ed → r (startE N.length ds) { nx := fun _ => Q .non, rt := Q }) : FnG P w K mg base (L2.CX P w) (k + 1) f (spP K R) := by
  refine zfnG F S (fun vs H Q E ⟨ms, F, ds, Qd, Ed, _, r, h, _⟩ => by rw [r.len]; exact len _ _ _ h) hb fun cdv A outer s H vs Q E hr h => ?_
  obtain ⟨ms, F, ds, Qd, Ed, t, r, h, kq, ke⟩ := h
  obtain ⟨rr, h1, h2⟩ := hbody cdv A outer s H E ⟨ms, F, H, Ed⟩ t.1 hr (px_of fun cls d H' ⟨F', x, g, t', xr, z⟩ => ke cls d F' H' x g t' xr z) po_of (tk_of fun cls d H' ⟨F', x, g, t', xr, z⟩ => ke cls d F' H' x g t' xr z)
  refine ⟨_, h1, F, _, _, iv_start (B := ⟨ms, F, H, Ed⟩) t r, h2 ds Qd h, ?_, ?_, ?_, ?_⟩
  · intro σ' ρ' F' H' _ I' z
    exact kq .non F' H' .non I'.go I'.tp .non z
  · intro v d F' H' g t' r' z
    exact kq v F' H' d g t' r' z
  · intro _ _ _ _ _ _ z; exact z
  · intro _ _ _ _ _ _ z; exact z
end
/-! ### repr in an except suite -/
section
variable {X : Cx}
theorem call_reprU (hu : X.A.units + 64 < cLine) (hgd : X.A.guards = some []) : CallR X (.builtin "repr") (rRepr X.K) := by
  intro pins s σ H xs us Q I r h
  obtain ⟨ms, F, v, d, n, rfl, hs, rd, hp, hb, hd, q⟩ := h
  obtain ⟨u, rfl, ru⟩ := vals1 r
  by_cases hdic : ∃ ks ds, d = .dic ks ds
  · obtain ⟨ks, ds, rfl⟩ := hdic
    obtain ⟨rfl, rfl⟩ := hp
    cases rd with
    | @dic a _ vs _ h1 h2 h3 =>
    cases h3
    obtain rfl : u = Value.ref a := ru
    obtain ⟨_, hz, vs', rel, o, es, ep, e1, e2, e3, e4, e5⟩ := dk_of I.hok (hs _ _ h1)
    cases rel
    have ee : es.toList.map (·.key) = [] ∧ es.toList.map (·.val) = [] := by
      have e6 := e5.1
      generalize es.toList = l at e6
      cases e6
      exact ⟨rfl, rfl⟩
    have rr : Reads s.heap (.ref a) (.dict []) (a :: [] ++ []) := .dict e1 e2.1 e3 (by rw [ee.1]; exact .nil) (by rw [ee.2]; exact .nil)
    exact repr_of_reads' rr rfl (fun _ m => by
      have : sysModules = a := by simpa using m
      rw [this] at hz
      simp at hz) hgd (by show _ + (1 + 1) < _; omega) (fun _ _ e => e) (fun h' u' tk hk => ⟨.str _, H, I.kept hk, ⟨_, rfl⟩, q⟩) (by show 2 ≤ sizeLine; decide)
  have hp : shP n d := by
    cases d <;> first | exact hp | exact (hdic ⟨_, _, rfl⟩).elim
  have hl := sh_len hp hb
  obtain ⟨as, rr⟩ := sh_reads I hs d v u hp rd ru
  have fin : ∀ h' u' tk, (∀ b o, s.heap.get? b = some o → h'.get? b = some o) → EP X pins σ Q (.str (toP d).shown u') { s with heap := h', toks := tk } := fun h' u' tk hk => ⟨.str _, H, I.kept hk, ⟨_, rfl⟩, q⟩
  cases rd with
  | non =>
    obtain rfl : u = Value.none := ru
    exact PySem.P.repr_of_none (fin _ _ _ fun _ _ e => e)
  | bl b =>
    obtain rfl : u = Value.bool b := ru
    exact PySem.P.repr_of_bool (fin _ _ _ fun _ _ e => e)
  | int i =>
    obtain ⟨t, rfl⟩ := (show ∃ t, u = Value.int i t from ru)
    exact PySem.P.repr_of_int (sz1900 hp) (fin _ _ _ fun _ _ e => e)
  | str x =>
    obtain ⟨t, rfl⟩ := (show ∃ t, u = Value.str x t from ru)
    exact PySem.P.repr_of_str (fin _ _ _ fun _ _ e => e) hl
  | ty _ => exact hp.elim
  | glob _ => exact hp.elim
  | tape _ => exact hp.elim
  | fn _ => exact hp.elim
  | dic _ _ _ => exact hp.elim
  | obj _ _ _ => exact hp.elim
  | lst h1 h2 =>
    obtain rfl : u = Value.ref _ := ru
    exact repr_of_reads' rr (sh_able _ hp) (PyData.noDict_hsm (sh_nodict _ hp)) hgd (by omega) (fun _ _ e => e) fin hl
  | tup h1 h2 =>
    obtain rfl : u = Value.ref _ := ru
    exact repr_of_reads' rr (sh_able _ hp) (PyData.noDict_hsm (sh_nodict _ hp)) hgd (by omega) (fun _ _ e => e) fin hl
end
end Y
namespace Y
open PySem PySem.Spec PyProof.Rows L2 Z
/-! ### enumerate(text) -/
def Ites (x : Str) : It :=
  ⟨fun i H => i < x.cps.size, fun i H v H' => ∃ T c, v = .ref T ∧ H T = none ∧ H' = upd H T (.tup [.int (i : Nat), .str ⟨#[c]⟩]) ∧ x.cps[i]? = some c, fun i H => i = x.cps.size⟩
theorem turn_enumS {P : Program} {w : World} {K : PySem.W.Frag} {elts : List Expr} {kk : Nat} {tpos : Pos} (x : Str) (t : Tok) (ty : String) (hty : ty = "str_ascii_iterator" ∨ ty = "str_iterator") (e it : Addr) :
    Turn P w K (.Tuple elts kk tpos) (Ites x) [e, it] e (fun i h => (∃ old, IsEnum h e it ((i : Nat) : Int) old) ∧ h.IsStrIter it ty x t i ∧ e ≠ it) where
  mem := by simp
  obj := fun i h st b hb => by
    obtain ⟨⟨old, he⟩, ⟨o, ho, hc, hd⟩, _⟩ := st
    have e' : b = e ∨ b = it := by simpa using hb
    rcases e' with z | z
    · rw [z]; exact ⟨_, he, fun v q => nomatch q⟩
    · rw [z]; exact ⟨o, ho, fun v q => by rw [hd] at q; cases q⟩
  keep := fun i h h' st k => let ⟨⟨old, he⟩, ⟨o, ho, r⟩, hne⟩ := st; ⟨⟨old, k e (by simp) _ he⟩, ⟨o, k it (by simp) o ho, r⟩, hne⟩
  item := by
    intro X hP hw hK hc i pins s σ H E I hf st hg
    subst hP hw hK
    obtain ⟨⟨old, he⟩, hit, hne⟩ := st
    have hi : i < x.cps.size := hg
    have D : Draws X.prog X.w X.A.in1 it [it] x.cps.size (fun i v => ∃ c u, x.cps[i]? = some c ∧ v = .str ⟨#[c]⟩ u) (fun i h => h.IsStrIter it ty x t i) := by
      rcases hty with q | q
      · rw [q]; exact Draws.strAscii (A := X.A.in1) (show X.A.in1.handled = none from I.ok.hd hc) it x t
      · rw [q]; exact Draws.strWide (A := X.A.in1) (show X.A.in1.handled = none from I.ok.hd hc) it x t
    have hel : e < s.heap.objs.size := Heap.lt_size he
    have hil : it < s.heap.objs.size := by obtain ⟨_, q, _⟩ := hit; exact Heap.lt_size q
    refine wpAny_pyNext_enum_itemD D he hit hi hne (by simpa using hne) fun y h' tk hP ho hit' hT hsz hk => ?_
    obtain ⟨c, u, hx, rfl⟩ := hP
    refine ⟨_, rfl, wpAny_letOwnedTupleGo_enum (s := { s with heap := h', toks := tk + 1 }) ho fun h'' he' sb => ?_⟩
    have hT2 : h''.get? s.heap.objs.size = some { cls := .type "tuple", data := .seq #[.int i tk, .str ⟨#[c]⟩ u] } := (sb.2 _ (Nat.ne_of_gt hel)).trans hT
    have new : ObjOk X.prog X.w (upd H s.heap.objs.size (.tup [.int (i : Nat), .str ⟨#[c]⟩])) h'' s.heap.objs.size (.tup [.int (i : Nat), .str ⟨#[c]⟩]) :=
      ⟨by show 2 ≤ sizeLine; decide, [.int i tk, .str ⟨#[c]⟩ u], .cons ⟨_, rfl⟩ (.cons ⟨_, rfl⟩ .nil), ⟨_, hT2, rfl, _, rfl⟩⟩
    have I1 : Inv X pins σ (upd H s.heap.objs.size (.tup [.int (i : Nat), .str ⟨#[c]⟩])) { s with heap := h'', toks := tk + 1 } :=
      I.turnedNew (ch := [e, it]) (fun b ob hb q => (sb.2 b (fun z => hb (by simp [z]))).trans (hk b ob (fun z => hb (by simp [z])) (fun z => hb (by simp [z])) q)) hf (Nat.le_refl _) new
    refine ⟨.ref s.heap.objs.size, _, I1, rfl, ⟨_, c, rfl, I.hok.fresh (Nat.le_refl _), rfl, hx⟩, ⟨⟨.str ⟨#[c]⟩ u, ?_⟩, ?_, hne⟩, fun b hb => ?_⟩
    · have e1 : ((i + 1 : Nat) : Int) = (i : Int) + 1 := by omega
      rw [e1]; exact he'
    · obtain ⟨o, q1, q2⟩ := hit'
      exact ⟨o, (sb.2 it (Ne.symm hne)).trans q1, q2⟩
    · have hb' : b < s.heap.objs.size := by
        have e' : b = e ∨ b = it := by simpa using hb
        rcases e' with z | z
        · rw [z]; exact hel
        · rw [z]; exact hil
      rw [upd_ne (Nat.ne_of_lt hb')]
      exact (hf b hb).1
  done := by
    intro X hP hw hK hc i pins s σ H E I hf st hg
    subst hP hw hK
    obtain ⟨⟨old, he⟩, hit, hne⟩ := st
    have hi : i = x.cps.size := hg
    subst hi
    have D : Draws X.prog X.w X.A.in1 it [it] x.cps.size (fun i v => ∃ c u, x.cps[i]? = some c ∧ v = .str ⟨#[c]⟩ u) (fun i h => h.IsStrIter it ty x t i) := by
      rcases hty with q | q
      · rw [q]; exact Draws.strAscii (A := X.A.in1) (show X.A.in1.handled = none from I.ok.hd hc) it x t
      · rw [q]; exact Draws.strWide (A := X.A.in1) (show X.A.in1.handled = none from I.ok.hd hc) it x t
    obtain ⟨f0, f1, f2, f3, f4, f5⟩ := hf it (by simp)
    exact wpAny_pyNext_enum_endD D he hit fun h' eb => ⟨rfl, I.turned (t' := s.toks) (fun b o hb q => eb b o hb q) f0 f1 f3 f4 f5⟩
  self := fun A i s Q E st h => let ⟨⟨_, he⟩, _⟩ := st; wpAny_pyIter_enum he h
def iEnumS (ta : TA) : TI := fun σ H R => ta σ H fun vs H1 => ∃ x, vs = [.str x] ∧ R (Ites x) H1
theorem pi_enumS {X : Cx} {e : Expr} {ta : TA} {p pos tpos : Pos} {elts : List Expr} {kk : Nat} (hg : Gl X "enumerate") (hm : X.mg "enumerate" = none) (ha : PA X [e] ta) (hs : starEach [e] X.env = [(false, eval e X.env)] := by rfl) :
    PI X (.Tuple elts kk tpos) (.Call (.Name "enumerate" p) [e] [] pos) (iEnumS ta) := by
  refine ⟨fun pins s σ H R I h => ?_⟩
  refine Call_ (ld_blt I hg hm boot_enumerate (PyProof.Rows.callWith_type1 (thn (ha.run pos pins s σ H _ I h) fun us s1 ⟨vs, H1, I1, r1, q1⟩ => ?_) hs rfl))
  obtain ⟨x, ex, q⟩ := q1
  subst ex
  cases r1 with
  | cons r rr =>
    cases rr
    obtain ⟨t, rfl⟩ := r
    have hty : strIterType x = "str_ascii_iterator" ∨ strIterType x = "str_iterator" := by
      unfold strIterType
      split
      · exact .inl rfl
      · exact .inr rfl
    refine call_enumerate_str fun h' he hit hsz hk => wpAny_pyIter_enum he ?_
    have I2 : Inv X pins σ H1 { s1 with heap := h' } := I1.kept (t' := s1.toks) hk
    refine ⟨s1.heap.objs.size + 1, [s1.heap.objs.size + 1, s1.heap.objs.size], _, _, H1, rfl, I2, turn_enumS x t _ hty (s1.heap.objs.size + 1) s1.heap.objs.size, ⟨⟨.none, he⟩, hit, Nat.succ_ne_self _⟩, fun b hb => ?_, q⟩
    have e' : b = s1.heap.objs.size + 1 ∨ b = s1.heap.objs.size := by simpa using hb
    have hle : s1.heap.objs.size ≤ b := by
      rcases e' with z | z
      · rw [z]; exact Nat.le_add_right _ _
      · rw [z]; exact Nat.le_refl _
    exact I1.fpOk hle (I1.hok.fresh hle)
theorem walk_enumS {x : Str} : Walk (Ites x) x.cps.size (fun _ => True) (fun i H v H' => ∃ T c, v = .ref T ∧ H T = none ∧ H' = upd H T (.tup [.int (i : Nat), .str ⟨#[c]⟩]) ∧ x.cps[i]? = some c) :=
  ⟨fun _ _ hi _ => hi, fun _ _ => rfl, fun _ _ _ _ _ _ y => y⟩
def enumSD (x : Str) : List D := (List.range x.cps.size).map fun i => .tup [.int (i : Nat), .str ⟨#[(x.cps[i]?).getD 0]⟩]
section
variable {X : Cx} {B : Bs} {e : Expr} {rl : RdA} {pos : Pos}
theorem i_enumS {p tpos : Pos} {elts : List Expr} {kk : Nat} (hg : Gl X "enumerate") (hm : X.mg "enumerate" = none) (ha : PAp X B [e] rl) (hs : starEach [e] X.env = [(false, eval e X.env)] := by rfl) :
    PIp X B (.Tuple elts kk tpos) (.Call (.Name "enumerate" p) [e] [] pos) (fun ρ Q => rl ρ fun ds => match ds with | [.str x] => Q (enumSD x) | _ => False) :=
  pi_imp (pi_enumS hg hm ha hs) fun σ H R ⟨F, ρ, Qd, I, z, k⟩ => ⟨F, ρ, _, I, z, fun vs F1 H1 ds g1 t1 r1 z1 => by
    split at z1
    · rename_i x
      obtain ⟨v, rfl, r2⟩ := rps1 r1
      cases r2
      refine ⟨x, rfl, k _ F1 H1 _ g1 t1 ⟨_, _, by rw [show (enumSD x).length = x.cps.size by simp [enumSD]]; exact walk_enumS, fun _ _ _ _ => trivial, ?_⟩ z1⟩
      rintro i F2 H2 y H2' d s s' ⟨T, c, rfl, hT, rfl, hc⟩ hd
      have hi : i < x.cps.size := (Array.getElem?_eq_some_iff.mp hc).1
      have : d = .tup [.int (i : Nat), .str ⟨#[c]⟩] := by
        unfold enumSD at hd
        rw [List.getElem?_map, List.getElem?_range hi] at hd
        have := (Option.some.inj hd).symm
        dsimp only at this
        rw [hc] at this
        exact this
      subst this
      obtain ⟨F3, g3, q3, _⟩ := newE s' hT rfl
      exact ⟨F3, g3, .tup (SqT.of q3) (.cons (.int _) (.cons (.str _) .nil))⟩
    · exact z1.elim⟩
end
end Y
namespace Y
open PySem PySem.Spec PyProof.Rows L2 Z
/-! ### constructors and defs with *args that may raise -/
section
variable {P : Program} {w : World} {K : Frg} {mg : Str → Option Value} {base : Heap}
theorem y_initBX {C qual : Str} {st : Stmt} {f : Addr} {N ps : List Str} {k : Nat} {R : RdF} (S : FnScope N ps (defScope st)) (len : ∀ ds Q E, R ds Q E → ds.length + 1 = ps.length)
    (hbody : ∀ (cdv : Value) (A : Around) (outer : List Env) (s : Shared) (H : Hp) (E : XK) (B : Bs), Same B.F0 B.H0 → RoomG k (A.deeper (envOfC qual (defScope st) s.heap.objs.size f cdv)) → Px (cxOf (L2.CX P w) P w K mg base N qual (defScope st) f cdv A outer s H E) B →
      PassesOwn (model P w) (cxOf (L2.CX P w) P w K mg base N qual (defScope st) f cdv A outer s H E).A (cxOf (L2.CX P w) P w K mg base N qual (defScope st) f cdv A outer s H E).env (cxOf (L2.CX P w) P w K mg base N qual (defScope st) f cdv A outer s H E).xe →
      Tk (cxOf (L2.CX P w) P w K mg base N qual (defScope st) f cdv A outer s H E) B →
      ∃ r, PSsp (cxOf (L2.CX P w) P w K mg base N qual (defScope st) f cdv A outer s H E) B (defBody st) r ∧ ∀ x ds Q, R ds Q B.Ed → r (.mu (.ins x C [] []) :: startE (N.length - 1) ds) { nx := finI x C Q, rt := fun _ => False }) (cdv : Value) (A : Around) (outer : List Env) (s : Shared) (H : Hp) (vs : List V) (Q : VK) (E : XK) (hr : RoomG k (A.deeper (envOfC qual (defScope st) s.heap.objs.size f cdv))) (h : spI K C R vs H Q E) :
    ∃ t, PSs (cxOf (L2.CX P w) P w K mg base N qual (defScope st) f cdv A outer s H E) (defBody st) t ∧ t { nx := fun _ H' => Q .non H', rt := Q } (start N vs) H := by
  obtain ⟨ms, F, Hb, x, args, ds, Qd, Ed, rfl, g0, sb, nx, t, ⟨dx, hx⟩, r, h, kq, ke⟩ := h
  obtain ⟨rr, h1, h2⟩ := hbody cdv A outer s H E ⟨ms, F, Hb, Ed⟩ sb hr (px_of fun cls d H' ⟨F', y, g, t', xr, z⟩ => ke cls d F' H' y g t' xr z) po_of (tk_of fun cls d H' ⟨F', y, g, t', xr, z⟩ => ke cls d F' H' y g t' xr z)
  have hN : 1 ≤ N.length := by
    have e1 := len _ _ _ h
    have e2 := congrArg List.length S.pre
    rw [List.length_take] at e2
    omega
  have nm : x ∉ ms := t.notIns hx
  have iv : Iv K ⟨ms, F, Hb, Ed⟩ F H (L2.start N (.ref x :: args)) (.mu (.ins x C [] []) :: startE (N.length - 1) ds) := by
    refine ⟨g0, t, ?_, fun i d h => ?_, fun i m h => ?_, fun i j m n a hij h1 h2 h3 => ?_⟩
    · simp [L2.start, startE, r.len]
      omega
    · cases i with
      | zero => cases h
      | succ i =>
        rw [List.getElem?_cons_succ] at h
        unfold startE at h
        have hi : i < ds.length := by
          rcases Nat.lt_or_ge i ds.length with z | z
          · exact z
          · rw [List.getElem?_append_right (by simpa using z), List.getElem?_replicate] at h
            split at h <;> cases h
        rw [List.getElem?_append_left (by simpa using hi), List.getElem?_map, List.getElem?_eq_getElem hi] at h
        have hd : ds[i]? = some d := by
          rw [List.getElem?_eq_getElem hi]
          simpa using h
        obtain ⟨v, h1, h2⟩ := r.get hd
        refine ⟨v, ?_, h2⟩
        unfold L2.start
        rw [List.getElem?_append_left (by simp [r.len]; omega), List.getElem?_map, List.getElem?_cons_succ, h1]
        rfl
    · cases i with
      | zero =>
        cases h
        exact ⟨x, _, rfl, same_none sb nx, nm, nx, hx, rfl, dx, [], rfl, rfl, .nil⟩
      | succ i =>
        exfalso
        rw [List.getElem?_cons_succ] at h
        unfold startE at h
        rcases Nat.lt_or_ge i ds.length with z | z
        · rw [List.getElem?_append_left (by simpa using z), List.getElem?_map, List.getElem?_eq_getElem z] at h
          cases h
        · rw [List.getElem?_append_right (by simpa using z), List.getElem?_replicate] at h
          split at h <;> cases h
    · have key : ∀ (i : Nat) (m : Mo), (Sl.mu (.ins x C [] []) :: startE (N.length - 1) ds)[i]? = some (.mu m) → i = 0 := fun i m h => by
        cases i with
        | zero => rfl
        | succ i =>
          exfalso
          rw [List.getElem?_cons_succ] at h
          unfold startE at h
          rcases Nat.lt_or_ge i ds.length with z | z
          · rw [List.getElem?_append_left (by simpa using z), List.getElem?_map, List.getElem?_eq_getElem z] at h
            cases h
          · rw [List.getElem?_append_right (by simpa using z), List.getElem?_replicate] at h
            split at h <;> cases h
      exact absurd ((key i m h1).trans (key j n h2).symm) hij
  refine ⟨_, h1, F, _, _, iv, h2 x ds Qd h, ?_, ?_, ?_, ?_⟩
  · intro σ' ρ' F' H' _ I' z
    have z' : finI x C Qd ρ' := z
    clear z
    unfold finI at z'
    split at z'
    · rename_i y c ns fs e
      obtain ⟨⟨rfl, rfl⟩, z'⟩ := z'
      obtain ⟨a, o, b1, b2, b3, b4, b5, b6⟩ := I'.own 0 _ e
      obtain ⟨ea, _⟩ := id b6
      subst ea
      exact kq F' H' o ns fs I'.go I'.tp b2 b5 b6 z'
    · exact z'.elim
  · intro v d F' H' g t' r' z
    exact z.elim
  · intro _ _ _ _ _ _ z; exact z
  · intro _ _ _ _ _ _ z; exact z
theorem y_initX {C x qual : Str} {st : Stmt} {f : Addr} {N ps : List Str} {k : Nat} {R : RdF} (F : DefAt K x qual st f) (S : FnScope N ps (defScope st)) (len : ∀ ds Q E, R ds Q E → ds.length + 1 = ps.length)
    (hb : ∀ (kV doc pm : Value) (an : Option Addr) (cdv ct : Value) (us : List Value), us.length = ps.length → bindArgs (PySem.W.fnOf x qual (defArgs st) (defBody st) (defScope st) .none kV doc pm an cdv ct) ⟨us, []⟩ = pure (ps.zip us))
    (hbody : ∀ (cdv : Value) (A : Around) (outer : List Env) (s : Shared) (H : Hp) (E : XK) (B : Bs), Same B.F0 B.H0 → RoomG k (A.deeper (envOfC qual (defScope st) s.heap.objs.size f cdv)) → Px (cxOf (L2.CX P w) P w K mg base N qual (defScope st) f cdv A outer s H E) B →
      PassesOwn (model P w) (cxOf (L2.CX P w) P w K mg base N qual (defScope st) f cdv A outer s H E).A (cxOf (L2.CX P w) P w K mg base N qual (defScope st) f cdv A outer s H E).env (cxOf (L2.CX P w) P w K mg base N qual (defScope st) f cdv A outer s H E).xe →
      Tk (cxOf (L2.CX P w) P w K mg base N qual (defScope st) f cdv A outer s H E) B →
      ∃ r, PSsp (cxOf (L2.CX P w) P w K mg base N qual (defScope st) f cdv A outer s H E) B (defBody st) r ∧ ∀ x ds Q, R ds Q B.Ed → r (.mu (.ins x C [] []) :: startE (N.length - 1) ds) { nx := finI x C Q, rt := fun _ => False }) : FnG P w K mg base (L2.CX P w) (k + 1) f (spI K C R) := by
  exact zfnG F S (fun vs H Q E ⟨ms, F, Hb, x, args, ds, Qd, Ed, e, _, _, _, _, _, r, h, _⟩ => by rw [e, List.length_cons, r.len]; exact len _ _ _ h) hb (y_initBX S len hbody)
theorem y_initDX {C x qual : Str} {st : Stmt} {f : Addr} {N ps : List Str} {k n : Nat} {R : RdF} {d : D} (F : DefAtD K x qual st f d) (S : FnScope N ps (defScope st)) (len : ∀ ds Q E, R ds Q E → ds.length + 1 = ps.length)
    (hb0 : ∀ (T : Addr) (kV doc pm : Value) (an : Option Addr) (cdv ct : Value) (us : List Value) (u : Value), us.length + 1 = ps.length → ∃ k, bindArgs (PySem.W.fnOf x qual (defArgs st) (defBody st) (defScope st) (.ref T) kV doc pm an cdv ct) ⟨us, []⟩ = seqItems? (.ref T) >>= k ∧ k (some #[u]) = pure (ps.zip (us ++ [u])))
    (hb1 : ∀ (T : Addr) (kV doc pm : Value) (an : Option Addr) (cdv ct : Value) (us : List Value) (u : Value), us.length = ps.length → ∃ k, bindArgs (PySem.W.fnOf x qual (defArgs st) (defBody st) (defScope st) (.ref T) kV doc pm an cdv ct) ⟨us, []⟩ = seqItems? (.ref T) >>= k ∧ k (some #[u]) = pure (ps.zip us))
    (hbody : ∀ (cdv : Value) (A : Around) (outer : List Env) (s : Shared) (H : Hp) (E : XK) (B : Bs), Same B.F0 B.H0 → RoomG k (A.deeper (envOfC qual (defScope st) s.heap.objs.size f cdv)) → Px (cxOf (L2.CX P w) P w K mg base N qual (defScope st) f cdv A outer s H E) B →
      PassesOwn (model P w) (cxOf (L2.CX P w) P w K mg base N qual (defScope st) f cdv A outer s H E).A (cxOf (L2.CX P w) P w K mg base N qual (defScope st) f cdv A outer s H E).env (cxOf (L2.CX P w) P w K mg base N qual (defScope st) f cdv A outer s H E).xe →
      Tk (cxOf (L2.CX P w) P w K mg base N qual (defScope st) f cdv A outer s H E) B →
      ∃ r, PSsp (cxOf (L2.CX P w) P w K mg base N qual (defScope st) f cdv A outer s H E) B (defBody st) r ∧ ∀ x ds Q, R ds Q B.Ed → r (.mu (.ins x C [] []) :: startE (N.length - 1) ds) { nx := finI x C Q, rt := fun _ => False }) : FnG P w K mg base (L2.CX P w) (k + 1) f (spI K C (dflR R n d)) := by
  obtain ⟨fd, v, F, hv⟩ := F
  refine FnG.imp (zfnGD ⟨fd, F⟩ S (fun vs H Q E ⟨ms, F, Hb, x, args, ds, Qd, Ed, e, _, _, _, _, _, r, h, _⟩ => by rw [e, List.length_cons, r.len]; exact len _ _ _ h) hb0 hb1 (y_initBX S len hbody)) ?_
  rintro vs H Q E ⟨ms, F, Hb, x, args, ds, Qd, Ed, rfl, h1, h2, h3, h4, h5, h6, h7, h8⟩
  unfold dflR at h7
  cases hb : Nat.beq ds.length n
  · rw [hb] at h7
    exact .inr ⟨ms, F, Hb, x, args, ds, Qd, Ed, rfl, h1, h2, h3, h4, h5, h6, h7, h8⟩
  · rw [hb] at h7
    exact .inl ⟨ms, F, Hb, x, args ++ [v], ds ++ [d], Qd, Ed, rfl, h1, h2, h3, h4, h5, h6.app (.one (hv ms F)), h7, h8⟩
theorem y_initKX {C x qual kn : Str} {st : Stmt} {f : Addr} {N ps : List Str} {k : Nat} {R : RdF} {d : D} (F : DefAtK K x qual st f kn d) (S : FnScope N ps (defScope st)) (len : ∀ ds Q E, R ds Q E → ds.length + 1 = ps.length)
    (hb0 : ∀ (D : Addr) (doc pm : Value) (an : Option Addr) (cdv ct : Value) (us : List Value) (u : Value), us.length + 1 = ps.length → KwChain D [(kn, u)] (bindArgs (PySem.W.fnOf x qual (defArgs st) (defBody st) (defScope st) .none (.ref D) doc pm an cdv ct) ⟨us, []⟩) (ps.zip (us ++ [u])))
    (hb1 : ∀ (D : Addr) (doc pm : Value) (an : Option Addr) (cdv ct : Value) (us : List Value) (u : Value), us.length + 1 = ps.length → bindArgs (PySem.W.fnOf x qual (defArgs st) (defBody st) (defScope st) .none (.ref D) doc pm an cdv ct) ⟨us, [(kn, u)]⟩ = pure (ps.zip (us ++ [u])))
    (hbody : ∀ (cdv : Value) (A : Around) (outer : List Env) (s : Shared) (H : Hp) (E : XK) (B : Bs), Same B.F0 B.H0 → RoomG k (A.deeper (envOfC qual (defScope st) s.heap.objs.size f cdv)) → Px (cxOf (L2.CX P w) P w K mg base N qual (defScope st) f cdv A outer s H E) B →
      PassesOwn (model P w) (cxOf (L2.CX P w) P w K mg base N qual (defScope st) f cdv A outer s H E).A (cxOf (L2.CX P w) P w K mg base N qual (defScope st) f cdv A outer s H E).env (cxOf (L2.CX P w) P w K mg base N qual (defScope st) f cdv A outer s H E).xe →
      Tk (cxOf (L2.CX P w) P w K mg base N qual (defScope st) f cdv A outer s H E) B →
      ∃ r, PSsp (cxOf (L2.CX P w) P w K mg base N qual (defScope st) f cdv A outer s H E) B (defBody st) r ∧ ∀ x ds Q, R ds Q B.Ed → r (.mu (.ins x C [] []) :: startE (N.length - 1) ds) { nx := finI x C Q, rt := fun _ => False }) :
    FnG P w K mg base (L2.CX P w) (k + 1) f (spI K C (lastR R d)) ∧ FnK P w K mg base (L2.CX P w) (k + 1) f kn (spI K C R) := by
  obtain ⟨fd, v, F, hv⟩ := F
  obtain ⟨h1, h2⟩ := zfnK ⟨fd, F⟩ S (fun vs H Q E ⟨ms, F, Hb, x, args, ds, Qd, Ed, e, _, _, _, _, _, r, h, _⟩ => by rw [e, List.length_cons, r.len]; exact len _ _ _ h) hb0 hb1 (y_initBX S len hbody)
  refine ⟨FnG.imp h1 ?_, h2⟩
  rintro vs H Q E ⟨ms, F, Hb, x, args, ds, Qd, Ed, rfl, a1, a2, a3, a4, a5, a6, a7, a8⟩
  exact ⟨ms, F, Hb, x, args ++ [v], ds ++ [d], Qd, Ed, rfl, a1, a2, a3, a4, a5, a6.app (.one (hv ms F)), a7, a8⟩
theorem y_fnSX {x qual pv : Str} {st : Stmt} {f : Addr} {N : List Str} {k : Nat} {R : RdF} (F : DefAt K x qual st f) (S : FnScope N [pv] (defScope st)) (len : ∀ ds Q E, R ds Q E → ds.length ≤ 100000)
    (hb : ∀ (kV doc pm : Value) (an : Option Addr) (cdv ct : Value) (rest : List Value), bindArgs (PySem.W.fnOf x qual (defArgs st) (defBody st) (defScope st) .none kV doc pm an cdv ct) ⟨rest, []⟩ = (newTuple rest >>= fun t => pure [(pv, t)]))
    (hbody : ∀ (cdv : Value) (A : Around) (outer : List Env) (s : Shared) (H : Hp) (E : XK) (B : Bs), Same B.F0 B.H0 → RoomG k (A.deeper (envOfC qual (defScope st) s.heap.objs.size f cdv)) → Px (cxOf (L2.CX P w) P w K mg base N qual (defScope st) f cdv A outer s H E) B →
      PassesOwn (model P w) (cxOf (L2.CX P w) P w K mg base N qual (defScope st) f cdv A outer s H E).A (cxOf (L2.CX P w) P w K mg base N qual (defScope st) f cdv A outer s H E).env (cxOf (L2.CX P w) P w K mg base N qual (defScope st) f cdv A outer s H E).xe →
      Tk (cxOf (L2.CX P w) P w K mg base N qual (defScope st) f cdv A outer s H E) B →
      ∃ r, PSsp (cxOf (L2.CX P w) P w K mg base N qual (defScope st) f cdv A outer s H E) B (defBody st) r ∧ ∀ ds Q, R ds Q B.Ed → r (startE N.length [.tup ds]) { nx := fun _ => Q .non, rt := Q }) : FnG P w K mg base (L2.CX P w) (k + 1) f (spP K R) := by
  refine (zfnSG (sp := spP K (ar1 fun d Q E => starD d fun ds => d = .tup ds ∧ R ds Q E)) F S hb fun cdv A outer s H vs Q E hr h => ?_).imp fun vs H Q E h => ?_
  · obtain ⟨ms, F, ds, Qd, Ed, t, r, h, kq, ke⟩ := h
    unfold ar1 at h
    split at h
    · rename_i d
      unfold starD at h
      split at h
      · exact absurd h.1 (fun z => nomatch z)
      · rename_i ds
        obtain ⟨rr, h1, h2⟩ := hbody cdv A outer s H E ⟨ms, F, H, Ed⟩ t.1 hr (px_of fun cls d H' ⟨F', x, g, t', xr, z⟩ => ke cls d F' H' x g t' xr z) po_of (tk_of fun cls d H' ⟨F', x, g, t', xr, z⟩ => ke cls d F' H' x g t' xr z)
        refine ⟨_, h1, F, _, _, iv_start (B := ⟨ms, F, H, Ed⟩) t r, h2 ds Qd h.2, ?_, ?_, ?_, ?_⟩
        · intro σ' ρ' F' H' _ I' z
          exact kq .non F' H' .non I'.go I'.tp .non z
        · intro v d F' H' g t' r' z
          exact kq v F' H' d g t' r' z
        · intro _ _ _ _ _ _ z; exact z
        · intro _ _ _ _ _ _ z; exact z
      · exact h.elim
    · exact h.elim
  · obtain ⟨ms, F, ds, Qd, Ed, t, r, h, kq, ke⟩ := h
    refine ⟨by rw [r.len]; exact Nat.le_trans (len _ _ _ h) line_ge, fun p hp => ?_⟩
    obtain ⟨F2, g2, q2, _⟩ := newE t.1 hp rfl
    exact ⟨ms, F2, [.tup ds], Qd, Ed, t.go0 g2, .cons (.tup (SqT.of q2) (r.up g2.ff)) .nil, ⟨rfl, h⟩, fun v F' H' d g t' r' q => kq v F' H' d (g2.nil.trans g) t' r' q, fun cls d F' H' x g t' xr q => ke cls d F' H' x (g2.nil.trans g) t' xr q⟩
end
end Y
namespace Y
open PySem PySem.Spec PyProof.Rows L2 Z
/-! ### more calls that may raise, in the body of a try -/
section
variable {X : Cx} {B : Bs} {a b c e o : Expr} {es : List Expr} {ra rb rc r ro : Rd} {rt ru : RdT} {rl : RdA} {pos p0 apos : Pos} {R : RdF} {k : Nat} {f g p : Addr} {x m : Str}
theorem run_makeX {W : WX} {pins : List (Addr × Obj)} {σ : L2.St} {H : Hp} {s : Shared} {sp : Sp} {C : Addr} {Q : VK} {us : List Value} {vs : List V} (M : Mk X.K C f) (F : FnG X.prog X.w X.K X.mg X.base (L2.CX X.prog X.w) k f sp) (hr : RoomG (k + 1) X.A) (tk : Takes X W) (I : L2.Inv X pins σ H s) (r : Vals vs us)
    (h : ∀ x dx, H x = none → H dx = none → dx ≠ x → sp (V.ref x :: vs) (upd (upd H dx (.own x)) x (.ins C dx [])) (fun v H2 => v = .non ∧ Q (.ref x) H2) (fun cls d H' => W cls d σ H')) :
    wpAny (model X.prog X.w) X.A (call (.ref C) us) (EP X pins σ Q) X.xe s := by
  have J := Inv.made (C := C) I
  have hq := h (s.heap.objs.size + 1) s.heap.objs.size (I.hok.fresh (Nat.le_succ _)) (I.hok.fresh (Nat.le_refl _)) (Nat.ne_of_lt (Nat.lt_succ_self _))
  have run := F _ X.stack _ _ (.ref (s.heap.objs.size + 1) :: us) (.ref (s.heap.objs.size + 1) :: vs) _ _ (hr.make C us) (J.env0.make C us []) (.cons rfl r) hq
  exact wpAny_call (make_map (f := f) I.kIn M.makes M.init (beq_iff_eq.mp M.fn) (codeAny_mono run fun q s' z => match q, z with
    | .error er, z => tk er s' (XE.of_call J (fun _ _ _ h => h) z)
    | .ok (.ret _), z => by
      obtain ⟨v, H', J3, rv, ev, q3⟩ := J.after z
      subst ev
      exact ⟨rv, V.ref (s.heap.objs.size + 1), H', J3, rfl, q3⟩
    | .ok .next, z => False.elim z
    | .ok .brk, z => False.elim z
    | .ok .cont, z => False.elim z))
theorem x_make {C : Str} (M : Mk X.K (He.ga X.K C) f) (F : FnG X.prog X.w X.K X.mg X.base (L2.CX X.prog X.w) k f (spI X.K C R)) (hr : RoomG (k + 1) X.A) (hg : Gl X C) (hm : X.mg C = some (.ref (He.ga X.K C))) (ha : PAp X B.nox (e :: es) rl) (hdb : (C == ("__debug__" : Str)) = false := by decide)
    (he : starEach (e :: es) X.env = (false, eval e X.env) :: starEach es X.env := by rfl) (hpl : (backTo pos (starEach es X.env)).any (·.1) = false := by rfl) : PXp X B (.Call (.Name C p0) (e :: es) [] pos) (fun ρ Q E => rl ρ fun ds => R ds Q E) := fun W tk => by
  refine ⟨fun pins s σ H Q I ⟨F0, ρ, Qd, Ed, J, z, kq, kx⟩ => ?_⟩
  refine wpAny_Call_Name_kw (ld_glob I hg hm ?_ hdb)
  refine PySem.W.callWith_K (h₀ := X.base) I.ok.mod.kin M.kp (thn (ha.run pos pins s σ H (fun vs H1 => ∃ F1 ds, Go B.ms F0 H F1 H1 ∧ Tp X.K B.ms F1 H1 ∧ Rps X.K B.ms F1 vs ds ∧ R ds Qd Ed) I ⟨F0, ρ, _, J.nox, z, fun vs F1 H1 ds g1 t1 r1 z1 => ⟨F1, ds, g1, t1, r1, z1⟩⟩) fun us s1 ⟨vs, H1, I1, r, F1, ds, g1, t1, r1, z1⟩ => ⟨I1.kIn, ?_⟩) he hpl
  exact run_makeX M F hr tk I1 r fun x dx h1 h2 h3 => spI_of vs H1 Q (E := fun cls d H' => W cls d σ H') ⟨B.ms, F1, ds, Qd, Ed, t1, r1, z1, fun v F2 H2 d g2 t2 r2 q2 => kq v F2 H2 d (g1.trans g2) t2 r2 q2, fun cls d F2 H2 x g2 t2 xr q => kx cls d F2 H2 x (g1.trans g2) t2 xr q⟩ x dx h1 h2 h3
theorem x_meth {cs ns : List Str} {pl : Sem Bool} (ho : PEp X B.nox o ro) (hc : ∀ c ∈ cs, Cls X.K (He.ga X.K c) ∧ Meth X.K (He.ga X.K c) m f) (F : FnG X.prog X.w X.K X.mg X.base (L2.CX X.prog X.w) k f (spP X.K R)) (hr : RoomG k X.A) (ha : PAp X B.nox (e :: es) rl)
    (hn : (ns.all fun y => !(m == y)) = true := by decide +kernel)
    (hst : starEach (e :: es) X.env = (false, eval e X.env) :: starEach es X.env := by rfl) (hpl : (backTo pos (starEach es X.env)).any (·.1) = false := by rfl)
    (ht : eval (.Call (.Attribute o m apos) (e :: es) [] pos) X.env = (do
      let ov ← eval o X.env
      standAt apos.atName
      let (f, first) ← holding [ov] (getMethod ov m pl)
      callWith pos f first (backTo pos (starEach (e :: es) X.env)) (backToKw pos (keywordEach [] X.env))) := by rfl) :
    PXp X B (.Call (.Attribute o m apos) (e :: es) [] pos) (fun ρ Q E => ro ρ fun d => asO cs ns d (rl ρ fun ds => R (d :: ds) Q E)) := fun W tk => by
  refine ⟨fun pins s σ H Q I ⟨F0, ρ, Qd, Ed, J, z, kq, kx⟩ => ?_⟩
  refine PySem.W.methodCall_KW (pl := pl) (thn (ho.run pins s σ H (fun v H1 => ∃ F1 d, Go B.ms F0 H F1 H1 ∧ Tp X.K B.ms F1 H1 ∧ Rp X.K B.ms F1 v d ∧ asO cs ns d (rl ρ fun ds => R (d :: ds) Qd Ed)) I ⟨F0, ρ, _, J.nox, z, fun v F1 H1 d g1 t1 r1 z1 => ⟨F1, d, g1, t1, r1, z1⟩⟩) fun u s1 ⟨v, H1, I1, rx, F1, d, g1, t1, r1, z1⟩ => ?_) ht
  unfold asO at z1
  split at z1
  · obtain ⟨hcs, rfl, z2⟩ := z1
    cases r1 with
    | @obj a dx _ _ vs ds h1 h2 h3 =>
      obtain rfl : u = Value.ref a := rx
      obtain ⟨c1, m1⟩ := hc _ hcs
      refine getmeth_ok I1 (t1.1 _ _ h1) c1 m1 (look_none hn) ?_
      refine PySem.W.callWith_K (first := [.ref a]) (h₀ := X.base) I.ok.mod.kin m1.kp (thn (ha.run pos pins s1 σ H1 (fun vs H2 => ∃ F2 ds', Go B.ms F1 H1 F2 H2 ∧ Tp X.K B.ms F2 H2 ∧ Rps X.K B.ms F2 vs ds' ∧ R (_ :: ds') Qd Ed) I1 ⟨F1, ρ, _, (J.step g1 t1).nox, z2, fun vs F2 H2 ds g2 t2 r2 z3 => ⟨F2, ds, g2, t2, r2, z3⟩⟩) fun us s2 ⟨vs', H2, I2, rv, F2, ds', g2, t2, r2, z3⟩ => ⟨I2.kIn, ?_⟩) hst hpl
      exact wpAny_call (run_X (us := .ref a :: us) (vs := .ref a :: vs') (F.at hr) tk I2 (.cons rfl rv) ⟨B.ms, F2, _, Qd, Ed, t2, .cons (.obj (g2.ff _ _ h1) h2 (h3.up g2.ff)) r2, z3, fun v F3 H3 d g3 t3 r3 q3 => kq v F3 H3 d ((g1.trans g2).trans g3) t3 r3 q3, fun cls d F3 H3 x g3 t3 xr q => kx cls d F3 H3 x ((g1.trans g2).trans g3) t3 xr q⟩)
  · exact z1.elim
end
end Y
namespace PySem.W
open PySem PySem.Spec PySem.Calls PyProof.Rows
section
variable {prog : Program} {w : World} {A : Around} {E : Value → Shared → Prop} {s : Shared} {K : Frag} {x D : Addr} {ox : Obj} {od : Option Obj}
theorem findObj_dataG {C : Addr} {name : Str} {a g : Value} (hc : (clsIn K C).isSome = true) (ha : findIn K (.ref C) name = some (some a)) (hg : specialIn K a "__get__" = some (some g)) (ht : takesIn K a = some true) : findObj K C od name = some (.bind g a) := by
  obtain ⟨cd, hc⟩ := Option.isSome_iff_exists.mp hc
  unfold findObj
  rw [hc, Option.bind_some, ha, Option.bind_some]
  cases od <;> simp [hg, ht]
theorem kin_classG {Q : Option Value → Shared → Prop} (hga : findIn K (.ref D) "__getattribute__" = some (some (.builtin "BaseException.__getattribute__"))) (hgt : findIn K (.ref D) "__getattr__" = some none) (hsub : subIn K (.ref D) (.type "BaseException") = some true)
    (hdct : hasDictIn K D = true) (ha : findIn K (.ref D) "__class__" = some (some (.builtin "object.__class__")))
    (hn : specialIn K (.builtin "object.__class__") "__get__" = some (some (.builtin "getset_descriptor.__get__"))) (htk : takesIn K (.builtin "object.__class__") = some true) (hm : mroIn K D (.type "object") = some true)
    (X : K.In s.heap) (I : InstAt s.heap x ox D od) (h : Q (some (.ref D)) { s with toks := s.toks + 1 }) : wpAny (model prog w) A (getAttr? (.ref x) "__class__") Q E s := by
  have hf : findObj K D od "__class__" = some (.bind (.builtin "getset_descriptor.__get__") (.builtin "object.__class__")) := findObj_dataG (by obtain ⟨cd, hc, _⟩ := any_some hdct; rw [hc]; rfl) ha hn htk
  obtain ⟨hp, g, d, t, os⟩ := s
  have L0 := I.type (M := model prog w)
  have L1 := looks_findIn (M := model prog w) X hga
  have L2 := looks_findIn (M := model prog w) X hgt
  have L3 := looks_find (M := model prog w) X I hf
  have sub : Looks (model prog w) hp (isInstance (.ref x) (.type "BaseException")) true := L0.andThen (looks_subIn X hsub)
  have hx0 : (false && onTheHeap (Value.builtin "BaseException.__getattribute__")) = false := rfl
  have hx2 : (Value.builtin "BaseException.__getattribute__" == Value.builtin "object.__getattribute__") = false := by decide +kernel
  have hx1 : (onTheHeap (Value.ref D) && Value.builtin "BaseException.__getattribute__" == Value.builtin "object.__getattribute__") = false := by rw [hx2]; rfl
  unfold getAttr? getAttrBy? getAttrBy
  refine wpAny_bind (wpAny_mkText (wpAny_bind (wpAny_attempt (wpAny_holding (wpAny_bind (L0.at (wpAny_bind (L1.at ?_))))))))
  show wpAny _ _ (if (onTheHeap (Value.ref D) && Value.builtin "BaseException.__getattribute__" == Value.builtin "object.__getattribute__") = true then _ else _) _ _ _
  rw [hx1, if_neg Bool.false_ne_true]
  unfold getAttrByItsOwn hookBefore
  refine wpAny_bind ?_
  rw [if_pos (show onTheHeap (Value.ref D) = true from rfl)]
  refine L2.at ?_
  refine wpAny_bind (wpAny_attempt (wpAny_holding ?_))
  unfold callGetattribute
  rw [hx0, if_neg Bool.false_ne_true]
  unfold boundAndCalled
  rw [PySem.F.excAttr_ValueError.ga.bind (.ref x)]
  refine wpAny_bind (wpAny_pure ?_)
  show wpAny _ _ (call (.builtin "BaseException.__getattribute__") [.ref x, .str "__class__" t]) _ _ _
  refine wpAny_call (codeAny_call_builtin PySem.F.excAttr_ValueError.ga.plain PySem.F.entry_bexc_ga ?_)
  refine @check_slot (model prog w) _ _ ⟨hp, g, d, t + 1, os⟩ "BaseException.__getattribute__" "BaseException" "__getattribute__" (.ref x) [.str "__class__" t] [] _ (by decide +kernel) (by decide +kernel) sub (PySem.F.args_bexc_ga (.ref x) (.str "__class__" t)) ?_
  unfold Builtin.«object.__getattribute__»
  refine wpAny_bind (wpAny_of_eq (a := ((Value.ref x : Value), [Value.str "__class__" t])) (by first | rfl | (simp only [slotArgs]; rfl)) ?_)
  refine wpAny_bind (wpAny_pure (wpAny_bind (L0.at (wpAny_bind (L3.at ?_)))))
  show wpAny _ _ (holding [Value.builtin "object.__class__"] (call (.builtin "getset_descriptor.__get__") [.builtin "object.__class__", .ref x, .ref D]) >>= ret) _ _ _
  refine wpAny_bind (wpAny_holding (wpAny_call (PySem.W.class_get (s := ⟨hp, g, d, t + 1, os⟩) (ox := ox) (od := od) X I hm ?_)))
  refine wpAny_pure ?_
  show wpAny _ _ (handedOut (.ref D)) _ _ _
  rw [handedOut_of (v := .ref D) rfl]
  first
    | exact wpAny_pure (wpAny_pure h)
    | exact wpAny_pure h
    | exact wpAny_pure (wpAny_bind (wpAny_pure (wpAny_pure h)))
theorem kitx_excG (hga : findIn K (.ref D) "__getattribute__" = some (some (.builtin "BaseException.__getattribute__"))) (hgt : findIn K (.ref D) "__getattr__" = some none) (hsub : subIn K (.ref D) (.type "BaseException") = some true) (hdct : hasDictIn K D = true) (ha : findIn K (.ref D) "__class__" = some (some (.builtin "object.__class__")))
    (hn : specialIn K (.builtin "object.__class__") "__get__" = some (some (.builtin "getset_descriptor.__get__"))) (htk : takesIn K (.builtin "object.__class__") = some true) (hm : mroIn K D (.type "object") = some true) :
    KitX K (.ref x) (.ref D) (fun h => InstAt h x ox D od) where
  ty := fun _ _ _ I => I.type
  it := fun _ _ X _ => by
    obtain ⟨cdD, hcD, _⟩ := any_some hdct
    unfold clsIn at hcD
    split at hcD
    · rename_i c' d' cd' sl' ho
      intro A' Q' E' s' k q
      unfold isType loadHead
      exact wpAny_bind (wpAny_loadPart (k _ _ (X _ _ ho)) (wpAny_pure q))
    · cases hcD
  ne := fun h tp dd its n sl X htp => by
    obtain ⟨cdD, hcD, _⟩ := any_some hdct
    refine Bool.eq_false_iff.mpr fun q => ?_
    have e : D = tp := Value.ref.inj (beq_iff_eq.mp q)
    subst e
    unfold clsIn at hcD
    split at hcD
    · rename_i c' d' cd' sl' ho
      have z := (X _ _ ho).symm.trans htp
      cases z
    · cases hcD
  ca := fun X I k => kin_classG hga hgt hsub hdct ha hn htk hm X I k
end
end PySem.W
namespace Y
open PySem PySem.Spec PyProof.Rows L2 Z
/-! ### isinstance(e, C), e a caught error -/
def rIsX (K : Frg) : List V → Hp → VK → Prop := fun xs H Q => ∃ (a D : Addr) (d : Option Addr) (c : V) (cv : Value) (b : Bool), xs = [.ref a, c] ∧ H a = some (XO (.ref D) d a) ∧ (∀ dd, d = some dd → ∃ fs, H dd = some (.xd fs)) ∧ ExcC K D ∧
  (∀ u, RelV c u → u = cv) ∧ PySem.W.kitOne K (.ref D) cv = some b ∧ Q (.bl b) H
section
variable {X : Cx} {B : Bs}
theorem call_isX : CallR X (.builtin "isinstance") (rIsX X.K) := by
  intro pins s σ H xs us Q I r h
  obtain ⟨a, D, d, c, cv, b, rfl, hH, hdd, C, hcv, e, q⟩ := h
  cases r with
  | cons rx rr =>
    cases rr with
    | cons rt rr =>
      cases rr
      cases rx
      have ec := hcv _ rt
      subst ec
      obtain ⟨⟨oe, vs, hget, hz, hv⟩, _⟩ := I.hok a _ hH
      have J : ∃ od, PySem.W.InstAt s.heap a oe D od := by
        cases d with
        | none => exact ⟨none, hget, hz.1, by unfold PySem.W.notCls; rw [hv] <;> rfl, by rw [hz.2]; trivial⟩
        | some dd =>
          obtain ⟨fs, hx⟩ := hdd dd rfl
          have hx2 : ObjOk X.prog X.w H s.heap dd (.xd fs) := I.hok dd _ hx
          obtain ⟨mA, hns, hr⟩ := hx2
          obtain ⟨od, ho, hl⟩ := lookIn_ns hns
          exact ⟨some od, hget, hz.1, by unfold PySem.W.notCls; rw [hv] <;> rfl, by rw [hz.2]; exact ho⟩
      obtain ⟨od, J⟩ := J
      exact PySem.W.kia_one (PySem.W.kitx_excG C.hg C.hk C.hs C.hd C.ha C.hn C.ht C.hm) I.kIn J e (fun z => nomatch z) fun tk => ⟨.bl b, H, I.kept (t' := tk) fun _ _ z => z, rfl, q⟩
def rIsE (K : Frg) (i : Nat) (C : Str) : Rd := fun ρ Q => match ρ[i]? with
  | some (.mu (.exc x)) => ∃ c b, (x.c = .glob c ∧ x.ns ≠ []) ∧ ExcC K (He.ga K c) ∧ PySem.W.kitOne K (.ref (He.ga K c)) (.ref (He.ga K C)) = some b ∧ Q (.bl b)
  | _ => False
theorem y_isx {K : Frg} {n C : Str} {i : Nat} {p p0 p1 pos : Pos} (hv : PE X (.Name n p) (tVar i)) (hg : Gl X C) (hm : X.mg C = some (.ref (He.ga X.K C))) (hi : Gl X "isinstance") (hmi : X.mg "isinstance" = none) (hdC : (C == ("__debug__" : Str)) = false := by decide)
    (h1 : starEach [.Name n p, .Name C p1] X.env = (false, eval (.Name n p) X.env) :: starEach [.Name C p1] X.env := by rfl) (h2 : starEach [.Name C p1] X.env = (false, eval (.Name C p1) X.env) :: starEach [] X.env := by rfl)
    (hpl : (backTo pos (starEach [.Name C p1] X.env)).any (·.1) = false := by rfl) (hK : X.K = K := by rfl) : PEp X B (.Call (.Name "isinstance" p0) [.Name n p, .Name C p1] [] pos) (rIsE K i C) := by
  subst hK
  exact pe_imp (pe_callB call_isX hi hmi (by decide +kernel) (pa_cons hv (pa_cons (pe_glob (v := .ref (He.ga X.K C)) hg hm rfl hdC) pa_nil h2) h1) (by decide) (by decide) h1 hpl) fun σ H Q ⟨F, ρ, Qd, J, z, kk⟩ => by
    unfold rIsE at z
    split at z
    · rename_i x hx
      obtain ⟨c, b, ⟨ec, hns⟩, EC, hk, z⟩ := z
      obtain ⟨a, o, s1, s2, s3, s4, s5, cls, d, rfl, xr⟩ := J.own i _ hx
      obtain ⟨ec1, xr2⟩ := xr
      rw [ec] at ec1
      have ecl : cls = .ref (He.ga X.K c) := (Option.some.inj ec1).symm
      subst ecl
      refine ⟨_, s1, a, He.ga X.K c, d, _, _, b, rfl, s5, fun dd ed => ?_, EC, fun u r => r, hk, kk _ F H _ (Go.refl J.same) J.tp (.bl b) z⟩
      obtain ⟨dd2, ws, ed2, eF, _⟩ := xr2 hns
      rw [ed] at ed2
      cases ed2
      exact ⟨_, J.same _ _ eF⟩
    · exact z.elim
end
def bExC (x : Str) : Frg → Bool := fun K => He.eqO (PySem.W.findIn K (.ref (He.ga K x)) "__getattribute__") (some (some (.builtin "BaseException.__getattribute__"))) && (He.eqO (PySem.W.findIn K (.ref (He.ga K x)) "__getattr__") (some none) && (decide (PySem.W.subIn K (.ref (He.ga K x)) (.type "BaseException") = some true) && (PySem.W.hasDictIn K (He.ga K x) &&
  (He.eqO (PySem.W.findIn K (.ref (He.ga K x)) "__class__") (some (some (.builtin "object.__class__"))) && (He.eqO (PySem.W.specialIn K (.builtin "object.__class__") "__get__") (some (some (.builtin "getset_descriptor.__get__"))) && (decide (PySem.W.takesIn K (.builtin "object.__class__") = some true) && decide (PySem.W.mroIn K (He.ga K x) (.type "object") = some true)))))))
theorem exc_of {K : Frg} {x : Str} (h : bExC x K = true) : ExcC K (He.ga K x) := by
  obtain ⟨h1, h⟩ := He.ba h
  obtain ⟨h2, h⟩ := He.ba h
  obtain ⟨h3, h⟩ := He.ba h
  obtain ⟨h4, h⟩ := He.ba h
  obtain ⟨h5, h⟩ := He.ba h
  obtain ⟨h6, h⟩ := He.ba h
  obtain ⟨h7, h8⟩ := He.ba h
  exact ⟨He.eqO_ok h1, He.eqO_ok h2, of_decide_eq_true h3, h4, He.eqO_ok h5, He.eqO_ok h6, of_decide_eq_true h7, of_decide_eq_true h8⟩
end Y
namespace Z
open PySem PySem.Spec PyProof.Rows L2
section
variable {P : Program} {w : World} {K : Frg} {mg : Str → Option Value} {base : Heap}
/-- a def whose last parameter is by name alone, without a default -/
theorem zfnKo {x qual kn : Str} {st : Stmt} {f : Addr} {N ps : List Str} {k : Nat} {sp : Sp} (F : DefAt K x qual st f) (S : FnScope N ps (defScope st)) (len : ∀ vs H Q E, sp vs H Q E → vs.length = ps.length)
    (hb1 : ∀ (kV doc pm : Value) (an : Option Addr) (cdv ct : Value) (us : List Value) (u : Value), us.length + 1 = ps.length → bindArgs (PySem.W.fnOf x qual (defArgs st) (defBody st) (defScope st) .none kV doc pm an cdv ct) ⟨us, [(kn, u)]⟩ = pure (ps.zip (us ++ [u])))
    (hbody : ∀ (cdv : Value) (A : Around) (outer : List Env) (s : Shared) (H : Hp) (vs : List V) (Q : VK) (E : XK), RoomG k (A.deeper (envOfC qual (defScope st) s.heap.objs.size f cdv)) → sp vs H Q E →
      ∃ t, PSs (cxOf (L2.CX P w) P w K mg base N qual (defScope st) f cdv A outer s H E) (defBody st) t ∧ t { nx := fun _ H' => Q .non H', rt := Q } (start N vs) H) : FnK P w K mg base (L2.CX P w) (k + 1) f kn sp := by
  obtain ⟨fd, F⟩ := F
  obtain ⟨oc, od, dV, kV, doc, pm, an, cdv, ct, osl, rfl, lk, hcd, hD, hK⟩ := F.ex
  have hD' : dV = .none := by
    rcases hD with ⟨_, z⟩ | ⟨z, _⟩
    · exact z
    · exact absurd rfl z
  subst hD'
  intro A outer s H us u vs z Q E hr e0 r rz hs
  have hl := len _ _ _ _ hs
  have hu : us.length + 1 = ps.length := by
    have := r.length
    rw [List.length_append] at hl
    simp only [List.length_cons, List.length_nil] at hl
    omega
  refine StX.run_bnd lk hcd S hr.rm e0 (G := fun xs H2 => xs = vs ++ [z] ∧ H2 = H) (fun A' Ex Q' h => ?_) fun s2 H2 xs g hr' => ?_
  · rw [hb1 kV doc pm an cdv ct us u hu]
    exact wpAny_pure (h s H _ _ e0 .refl rfl (fun _ _ z => z) (r.append (.cons rz .nil)) hl ⟨rfl, rfl⟩)
  · obtain ⟨rfl, rfl⟩ := g
    exact hbody cdv A outer s2 H2 _ Q E ⟨hr', hr.gd⟩ hs
end
end Z
namespace Y
open PySem PySem.Spec PyProof.Rows L2 Z
section
variable {P : Program} {w : World} {K : Frg} {mg : Str → Option Value} {base : Heap}
theorem y_fnKX {x qual kn : Str} {st : Stmt} {f : Addr} {N ps : List Str} {k : Nat} {R : RdF} (F : DefAt K x qual st f) (S : FnScope N ps (defScope st)) (len : ∀ ds Q E, R ds Q E → ds.length = ps.length)
    (hb1 : ∀ (kV doc pm : Value) (an : Option Addr) (cdv ct : Value) (us : List Value) (u : Value), us.length + 1 = ps.length → bindArgs (PySem.W.fnOf x qual (defArgs st) (defBody st) (defScope st) .none kV doc pm an cdv ct) ⟨us, [(kn, u)]⟩ = pure (ps.zip (us ++ [u])))
    (hbody : ∀ (cdv : Value) (A : Around) (outer : List Env) (s : Shared) (H : Hp) (E : XK) (B : Bs), Same B.F0 B.H0 → RoomG k (A.deeper (envOfC qual (defScope st) s.heap.objs.size f cdv)) → Px (cxOf (L2.CX P w) P w K mg base N qual (defScope st) f cdv A outer s H E) B →
      PassesOwn (model P w) (cxOf (L2.CX P w) P w K mg base N qual (defScope st) f cdv A outer s H E).A (cxOf (L2.CX P w) P w K mg base N qual (defScope st) f cdv A outer s H E).env (cxOf (L2.CX P w) P w K mg base N qual (defScope st) f cdv A outer s H E).xe →
      Tk (cxOf (L2.CX P w) P w K mg base N qual (defScope st) f cdv A outer s H E) B →
      ∃ r, PSsp (cxOf (L2.CX P w) P w K mg base N qual (defScope st) f cdv A outer s H E) B (defBody st) r ∧ ∀ ds Q, R ds Q B.Ed → r (startE N.length ds) { nx := fun _ => Q .non, rt := Q }) : FnK P w K mg base (L2.CX P w) (k + 1) f kn (spP K R) := by
  refine zfnKo F S (fun vs H Q E ⟨ms, F, ds, Qd, Ed, _, r, h, _⟩ => by rw [r.len]; exact len _ _ _ h) hb1 fun cdv A outer s H vs Q E hr h => ?_
  obtain ⟨ms, F, ds, Qd, Ed, t, r, h, kq, ke⟩ := h
  obtain ⟨rr, h1, h2⟩ := hbody cdv A outer s H E ⟨ms, F, H, Ed⟩ t.1 hr (px_of fun cls d H' ⟨F', x, g, t', xr, z⟩ => ke cls d F' H' x g t' xr z) po_of (tk_of fun cls d H' ⟨F', x, g, t', xr, z⟩ => ke cls d F' H' x g t' xr z)
  refine ⟨_, h1, F, _, _, iv_start (B := ⟨ms, F, H, Ed⟩) t r, h2 ds Qd h, ?_, ?_, ?_, ?_⟩
  · intro σ' ρ' F' H' _ I' z
    exact kq .non F' H' .non I'.go I'.tp .non z
  · intro v d F' H' g t' r' z
    exact kq v F' H' d g t' r' z
  · intro _ _ _ _ _ _ z; exact z
  · intro _ _ _ _ _ _ z; exact z
end
section
variable {X : Cx} {B : Bs} {e e2 : Expr} {es : List Expr} {r2 : Rd} {rl : RdA} {pos p0 kpos : Pos} {R : RdF} {k : Nat} {f : Addr} {x kn : Str}
theorem y_callK (F : FnK X.prog X.w X.K X.mg X.base (L2.CX X.prog X.w) k f kn (spP X.K R)) (hr : RoomG k X.A) (hg : Gl X x) (hm : X.mg x = some (.ref f)) (hk : PySem.W.keepIn X.K (.ref f) = true) (hx : Px X B) (ha : PAp X B (e :: es) rl) (h2 : PEp X B e2 r2)
    (hall : (backToKw pos (keywordEach [⟨some kn, e2, kpos⟩] X.env)).all (·.1.isSome) = true := by rfl) (hks : (backToKw pos (keywordEach [⟨some kn, e2, kpos⟩] X.env)).filterMap (·.1) = [kn] := by rfl) (hdb : (x == ("__debug__" : Str)) = false := by decide)
    (he : starEach (e :: es) X.env = (false, eval e X.env) :: starEach es X.env := by rfl) (hpl : ((backTo pos (starEach (e :: es) X.env)).any (·.1) || (backToKw pos (keywordEach [⟨some kn, e2, kpos⟩] X.env)).any (·.1.isNone)) = false := by rfl) :
    PEp X B (.Call (.Name x p0) (e :: es) [⟨some kn, e2, kpos⟩] pos) (fun ρ Q => rl ρ fun ds => r2 ρ fun d2 => R (ds ++ [d2]) Q B.Ed) := by
  refine ⟨fun pins s σ H Q I h => ?_⟩
  obtain ⟨F0, ρ, Qd, J, z, kk⟩ := h
  refine wpAny_Call_Name_kw (ld_glob I hg hm ?_ hdb)
  refine PySem.W.callWith_KW (h₀ := X.base) I.ok.mod.kin hk hall (thn (ha.run pos pins s σ H (fun vs H1 => ∃ F1 ds, Go B.ms F0 H F1 H1 ∧ Tp X.K B.ms F1 H1 ∧ Rps X.K B.ms F1 vs ds ∧ r2 ρ fun d2 => R (ds ++ [d2]) Qd B.Ed) I ⟨F0, ρ, _, J, z, fun vs F1 H1 ds g1 t1 r1 z1 => ⟨F1, ds, g1, t1, r1, z1⟩⟩) fun us s1 ⟨vs, H1, I1, rv, F1, ds, g1, t1, r1, q⟩ => ?_) hpl he
  refine thn ((pk_cons (kpos := kpos) (nm := some kn) h2 pk_nil).run pos pins s1 σ H1 (fun vs2 H2 => ∃ F2 v2 d2, vs2 = [v2] ∧ Go B.ms F1 H1 F2 H2 ∧ Tp X.K B.ms F2 H2 ∧ Rp X.K B.ms F2 v2 d2 ∧ R (ds ++ [d2]) Qd B.Ed) I1 ⟨F1, ρ, _, J.step g1 t1, q, fun v2 F2 H2 d2 g2 t2 r2 z2 => ⟨F2, v2, d2, rfl, g2, t2, r2, z2⟩⟩) fun ws s2 ⟨zs, H2, I2, rz, F2, v2, d2, ez, g2, t2, r2', q2⟩ => ⟨I2.kIn, ?_⟩
  subst ez
  rw [hks]
  obtain ⟨u2, rfl, ru2⟩ := vals1 rz
  show wpAny _ _ (call (.ref f) us [(kn, u2)]) _ _ _
  exact wpAny_call (codeAny_mono (F X.A X.stack s2 H2 us u2 vs v2 Q (EE X.K B) hr I2.env0 rv ru2 (sp_call J kk (g1.trans g2) t2 ((r1.up g2.ff).app (.one r2')) q2)) fun q s' hq => match q, hq with
    | .error er, hq => hx pins σ _ _ er s' I2 hq
    | .ok (.ret _), hq => I2.after hq
    | .ok .next, hq => False.elim hq
    | .ok .brk, hq => False.elim hq
    | .ok .cont, hq => False.elim hq)
theorem x_callK (F : FnK X.prog X.w X.K X.mg X.base (L2.CX X.prog X.w) k f kn (spP X.K R)) (hr : RoomG k X.A) (hg : Gl X x) (hm : X.mg x = some (.ref f)) (hk : PySem.W.keepIn X.K (.ref f) = true) (ha : PAp X B.nox (e :: es) rl) (h2 : PEp X B.nox e2 r2)
    (hall : (backToKw pos (keywordEach [⟨some kn, e2, kpos⟩] X.env)).all (·.1.isSome) = true := by rfl) (hks : (backToKw pos (keywordEach [⟨some kn, e2, kpos⟩] X.env)).filterMap (·.1) = [kn] := by rfl) (hdb : (x == ("__debug__" : Str)) = false := by decide)
    (he : starEach (e :: es) X.env = (false, eval e X.env) :: starEach es X.env := by rfl) (hpl : ((backTo pos (starEach (e :: es) X.env)).any (·.1) || (backToKw pos (keywordEach [⟨some kn, e2, kpos⟩] X.env)).any (·.1.isNone)) = false := by rfl) :
    PXp X B (.Call (.Name x p0) (e :: es) [⟨some kn, e2, kpos⟩] pos) (fun ρ Q E => rl ρ fun ds => r2 ρ fun d2 => R (ds ++ [d2]) Q E) := fun W tk => by
  refine ⟨fun pins s σ H Q I ⟨F0, ρ, Qd, Ed, J, z, kq, kx⟩ => ?_⟩
  refine wpAny_Call_Name_kw (ld_glob I hg hm ?_ hdb)
  refine PySem.W.callWith_KW (h₀ := X.base) I.ok.mod.kin hk hall (thn (ha.run pos pins s σ H (fun vs H1 => ∃ F1 ds, Go B.ms F0 H F1 H1 ∧ Tp X.K B.ms F1 H1 ∧ Rps X.K B.ms F1 vs ds ∧ r2 ρ fun d2 => R (ds ++ [d2]) Qd Ed) I ⟨F0, ρ, _, J.nox, z, fun vs F1 H1 ds g1 t1 r1 z1 => ⟨F1, ds, g1, t1, r1, z1⟩⟩) fun us s1 ⟨vs, H1, I1, rv, F1, ds, g1, t1, r1, q⟩ => ?_) hpl he
  refine thn ((pk_cons (kpos := kpos) (nm := some kn) h2 pk_nil).run pos pins s1 σ H1 (fun vs2 H2 => ∃ F2 v2 d2, vs2 = [v2] ∧ Go B.ms F1 H1 F2 H2 ∧ Tp X.K B.ms F2 H2 ∧ Rp X.K B.ms F2 v2 d2 ∧ R (ds ++ [d2]) Qd Ed) I1 ⟨F1, ρ, _, (J.step g1 t1).nox, q, fun v2 F2 H2 d2 g2 t2 r2 z2 => ⟨F2, v2, d2, rfl, g2, t2, r2, z2⟩⟩) fun ws s2 ⟨zs, H2, I2, rz, F2, v2, d2, ez, g2, t2, r2', q2⟩ => ⟨I2.kIn, ?_⟩
  subst ez
  rw [hks]
  obtain ⟨u2, rfl, ru2⟩ := vals1 rz
  show wpAny _ _ (call (.ref f) us [(kn, u2)]) _ _ _
  exact wpAny_call (codeAny_mono (F X.A X.stack s2 H2 us u2 vs v2 Q (fun cls d H' => W cls d σ H') hr I2.env0 rv ru2 ⟨B.ms, F2, ds ++ [d2], Qd, Ed, t2, (r1.up g2.ff).app (.one r2'), q2, fun v F3 H3 d g3 t3 r3 q3 => kq v F3 H3 d ((g1.trans g2).trans g3) t3 r3 q3, fun cls d F3 H3 x g3 t3 xr q => kx cls d F3 H3 x ((g1.trans g2).trans g3) t3 xr q⟩) fun q s' hq => match q, hq with
    | .error er, hq => tk er s' (XE.of_call I2 (fun _ _ _ h => h) hq)
    | .ok (.ret _), hq => I2.after hq
    | .ok .next, hq => False.elim hq
    | .ok .brk, hq => False.elim hq
    | .ok .cont, hq => False.elim hq)
end
end Y
namespace Y
open PySem PySem.Spec PyProof.Rows L2 Z
/-! ### lambdas: making -/
theorem tabN_mem {K : Frg} {x : Str} (hx : x ∈ lamNames) (hf : isFnB (K.lookup (He.ga K x)) = true) : (tabN K x, lamQ x) ∈ tabsOf K :=
  List.mem_map.mpr ⟨x, List.mem_filter.mpr ⟨hx, hf⟩, rfl⟩
theorem nodup_fst {α β : Type} : ∀ {l : List (α × β)} {a : α} {b c : β}, (l.map (·.1)).Nodup → (a, b) ∈ l → (a, c) ∈ l → b = c
  | (x, y) :: l, a, b, c, nd, h1, h2 => by
    rw [List.map_cons, List.nodup_cons] at nd
    have no : ∀ {d : β}, (x, d) ∉ l := fun h => nd.1 (List.mem_map.mpr ⟨_, h, rfl⟩)
    rcases List.mem_cons.mp h1 with e1 | e1 <;> rcases List.mem_cons.mp h2 with e2 | e2
    · cases e1; cases e2; rfl
    · cases e1; exact (no e2).elim
    · cases e2; exact (no e1).elim
    · exact nodup_fst nd.2 e1 e2
/-- what K tells of a def that makes lambdas -/
structure LamF (K : Frg) (mg : Str → Option Value) (x : Str) : Prop where
  mem : (tabN K x, lamQ x) ∈ tabsOf K
  nd : (tabA K).Nodup
  hd : PySem.W.codeHdIn K (cdAt K (He.ga K x)) (tabN K x) = true
  bm : ∃ bm ob, mg "__builtins__" = some (.ref bm) ∧ bm ≠ builtinsNs ∧ bm ≠ mainGlobals ∧ bm ≠ tabN K x ∧ K.lookup bm = some ob ∧ ob.cls = .type "module" ∧ ob.dict = some builtinsNs ∧ ob.data = .plain
  gP : mainGlobals ≠ tabN K x
def isMod : Option Obj → Bool
  | some ⟨.type "module", some d, .plain, _⟩ => d == builtinsNs
  | _ => false
def bLam (x : Str) : Frg → Bool := fun K => lamNames.contains x && (isFnB (K.lookup (He.ga K x)) && (decide (tabA K).Nodup && (PySem.W.codeHdIn K (cdAt K (He.ga K x)) (tabN K x) && (isMod (K.lookup (He.ga K "__builtins__")) &&
  (!(He.ga K "__builtins__" == builtinsNs) && (!(He.ga K "__builtins__" == mainGlobals) && (!(He.ga K "__builtins__" == tabN K x) && !(mainGlobals == tabN K x))))))))
theorem lamF_of {K : Frg} {mg : Str → Option Value} {x : Str} (hb : mg "__builtins__" = some (.ref (He.ga K "__builtins__"))) (h : bLam x K = true) : LamF K mg x := by
  obtain ⟨h1, h⟩ := He.ba h
  obtain ⟨h2, h⟩ := He.ba h
  obtain ⟨h3, h⟩ := He.ba h
  obtain ⟨h4, h⟩ := He.ba h
  obtain ⟨h5, h⟩ := He.ba h
  obtain ⟨h6, h⟩ := He.ba h
  obtain ⟨h7, h⟩ := He.ba h
  obtain ⟨h8, h9⟩ := He.ba h
  have ne : ∀ {a b : Addr}, (!(a == b)) = true → a ≠ b := fun {a b} z e => by subst e; simp at z
  refine ⟨tabN_mem (by simpa using h1) h2, of_decide_eq_true h3, h4, ?_, ne h9⟩
  cases e : K.lookup (He.ga K "__builtins__") with
  | none => rw [e] at h5; cases h5
  | some ob =>
    rw [e] at h5
    obtain ⟨oc, od, dt, sl⟩ := ob
    unfold isMod at h5
    split at h5
    · rename_i d sl' e2
      cases e2
      have : d = builtinsNs := by simpa using h5
      subst this
      exact ⟨_, _, hb, ne h6, ne h7, ne h8, e, rfl, rfl, rfl⟩
    · cases h5
theorem LamF.tb {K : Frg} {mg : Str → Option Value} {x : Str} {base : Heap} (L : LamF K mg x) (M : L2.Mod K mg base) : LamX.TabB base mg (cdAt K (He.ga K x)) (tabN K x) := by
  obtain ⟨bm, ob, b1, b2, b3, b4, b5, b6⟩ := L.bm
  exact ⟨PySem.W.codeHd_of_K M.kin L.hd, ⟨bm, ob, b1, b2, b3, b4, M.kin _ _ b5, b6⟩, L.gP⟩
abbrev lamO (q : Str) (params : Arguments) (body : Expr) (scope : Scope) (cl : List (Str × Addr)) (pm : Value) (c' : Addr) (ctv : Value) : Obj := PySem.W.kla_obj "<lambda>" q params body scope cl pm c' ctv
section
variable {X : Cx} {pins : List (Addr × Obj)} {σ : L2.St} {H F : Hp} {s : Shared}
theorem lam_mk {c P : Addr} {q : Str} {params : Arguments} {body : Expr} {scope : Scope} {lp : Pos} {E Q : Value → Shared → Prop} (I : Inv X pins σ H s) (TB : LamX.TabB X.base X.mg c P) (hcode : X.env.code = .ref c) (hq : X.env.qual ++ "<lambda>" = q) (hT : TabF F H P q) (sm : Same F H)
    (hdef : defaultsOf params X.env = ([], [])) (hfr : ∀ y ∈ scope.names, y.2 = .free → ∃ c, X.env.cells.lookup y.1 = some c)
    (k : ∀ (f c' : Addr) (pm ctv : Value) (F1 H1 : Hp) (s' : Shared), Inv X pins σ H1 s' → Go [P] F H F1 H1 → TabF F1 H1 P q → F1 c' = some (LamX.CodeO c' q) → s'.heap.get? f = some (lamO q params body scope (cloFrom X.env.cells scope.names []) pm c' ctv) → H1 f = none → f ∉ frs X.stack → Q (.ref f) s') :
    wpAny (model X.prog X.w) X.A (eval (.Lambda params body scope lp) X.env) Q E s := by
  subst hq
  obtain ⟨fP, ps, tbl, trip, known⟩ := hT
  have tblH := I.hok P _ tbl
  have newF : ∀ a : Addr, s.heap.objs.size ≤ a → a ∉ frs X.stack := fun a big m => by
    rcases List.mem_cons.mp (I.stkSub a m) with z | z
    · exact absurd (z ▸ I.lt) (Nat.not_lt.mpr big)
    · exact I.nofs big z
  refine PySem.W.kla_eval hdef ?_
  cases found : codeAmong lp ps.toList with
  | some cv =>
    obtain ⟨c', rfl, known'⟩ := known lp cv found
    refine PySem.W.kla_makeFunctionHit (closure_ok hfr) I.ok.glob (I.mod.glob.keeps I.bk) hcode (TB.code.keeps I.bk) tblH trip found (TB.bm.keeps I.bk) fun ctv hp tk stays big => ?_
    exact k hp.objs.size c' _ ctv F H _ (I.kept fun b o e => Heap.get?_push_of_some _ (stays b o e)) (Go.refl sm) ⟨fP, ps, tbl, trip, known⟩ known' (Heap.get?_push_size _ rfl) (I.hok.fresh big) (newF _ big)
  | none =>
    refine PySem.W.kla_makeFunction (closure_ok hfr) I.ok.glob (I.mod.glob.keeps I.bk) hcode (TB.code.keeps I.bk) tblH trip found TB.gP (TB.bm.keeps I.bk) fun c' ctv hp tk grow big small rec' tab' => ?_
    obtain ⟨c2, oc, vs, tq, ec, look, dat, nam⟩ := rec'
    cases ec
    have free' : H c' = none := I.hok.fresh big
    have neP : c' ≠ P := fun z => by rw [z, tbl] at free'; cases free'
    have fF : F c' = none := same_none sm free'
    have J := LamX.inv_table (t' := tk) (more := #[rawInt lp.line, rawInt lp.col, .ref c']) (h' := hp.push (lamO (X.env.qual ++ "<lambda>") params body scope (cloFrom X.env.cells scope.names []) ((X.mg "__name__").getD .none) c' ctv)) I tbl
      (fun b o nb e => Heap.get?_push_of_some _ (grow b o nb e)) (Heap.get?_push_of_some _ tab') big ⟨oc, vs, tq, Heap.get?_push_of_some _ look, dat, nam⟩
    have big2 : s.heap.objs.size ≤ hp.objs.size := Nat.le_trans big (Nat.le_of_lt small)
    have oldF : ∀ b u, F b = some u → b ≠ c' ∧ b ≠ P := fun b u e => ⟨fun z => (by rw [z, fF] at e; cases e), fun z => (by rw [z, fP] at e; cases e)⟩
    refine k hp.objs.size c' _ ctv (upd F c' (LamX.CodeO c' (X.env.qual ++ "<lambda>"))) _ _ J ⟨fun b u e => ?_, fun b u e => ?_, fun b u nm e1 e2 => ?_⟩ ⟨?_, _, (upd_ne (Ne.symm neP)).trans upd_same, ?_, fun lp' cv hc => ?_⟩ upd_same (Heap.get?_push_size _ rfl) ?_ (newF _ big2)
    · rw [upd_ne (oldF b u e).1]; exact e
    · by_cases hb : b = c'
      · subst hb; rw [upd_same] at e ⊢; exact e
      · rw [upd_ne hb] at e
        rw [upd_ne hb, upd_ne (oldF b u e).2]
        exact sm b u e
    · have hb : b ≠ c' := ne_of_none e2 free'
      have hb2 : b ≠ P := fun z => nm (by rw [z]; exact List.mem_cons_self)
      exact ⟨by rw [upd_ne hb]; exact e1, by rw [upd_ne hb, upd_ne hb2]; exact e2⟩
    · rw [upd_ne (Ne.symm neP)]; exact fP
    · have el : (ps ++ #[rawInt lp.line, rawInt lp.col, .ref c']).toList = ps.toList ++ [rawInt lp.line, rawInt lp.col, .ref c'] := by simp
      rw [el]
      exact PySem.TriplesOk_snoc _ _ _ _ trip
    · have el : (ps ++ #[rawInt lp.line, rawInt lp.col, .ref c']).toList = ps.toList ++ [rawInt lp.line, rawInt lp.col, .ref c'] := by simp
      rw [el] at hc
      rcases LamX.among_app _ trip hc with z | z
      · obtain ⟨c0, e1, e2⟩ := known lp' cv z
        exact ⟨c0, e1, by rw [upd_ne (oldF _ _ e2).1]; exact e2⟩
      · exact ⟨c', z, upd_same⟩
    · rw [upd_ne (Nat.ne_of_gt small), upd_ne (Nat.ne_of_gt (Nat.lt_of_lt_of_le (Heap.lt_size tblH) big2))]
      exact I.hok.fresh big2
end
theorem tp_table {K : Frg} {ms : List Addr} {F H F1 H1 : Hp} {P : Addr} {q : Str} (t : Tp K ms F H) (hm : (P, q) ∈ tabsOf K) (nd : (tabA K).Nodup) (g : Go [P] F H F1 H1) (n : TabF F1 H1 P q) : Tp K ms F1 H1 := by
  refine ⟨g.fh, fun y my ny => (t.tape y my ny).go g fun z => ?_, fun p hp => ⟨(t.tabs p hp).1, ?_⟩⟩
  · have : y = P := by simpa using z
    exact ny (this ▸ List.mem_map.mpr ⟨_, hm, rfl⟩)
  · by_cases e : p.1 = P
    · obtain ⟨a, b⟩ := p
      cases e
      rw [nodup_fst nd hp hm]
      exact n
    · exact (t.tabs p hp).2.go g fun z => e (by simpa using z)
/-! ### a larger base -/
theorem env0_big {P : Program} {w : World} {K : Frg} {mg : Str → Option Value} {base : Heap} {A : Around} {outer : List Env} {s : Shared} {H : Hp} (e0 : Env0 P w K mg base A outer s H) :
    ∃ b2 : Heap, (∀ b o, s.heap.get? b = some o → H b = none → b ∉ frs outer → b2.get? b = some o) ∧ Env0 P w K mg b2 A outer s H := by
  let l := trk s.heap H ++ frs outer
  have inl : ∀ b o, s.heap.get? b = some o → b ∈ trk s.heap H → ∃ u, H b = some u := fun b o e m => by
    have q : (H b).isSome = true := (List.mem_filter.mp m).2
    exact Option.isSome_iff_exists.mp q
  have see : ∀ b o, s.heap.get? b = some o → H b = none → b ∉ frs outer → (PySem.W.hideAll s.heap l).get? b = some o := fun b o e n nf => PySem.W.hideAll_get _ e fun m => by
    rcases List.mem_append.mp m with z | z
    · obtain ⟨u, q⟩ := inl b o e z
      rw [n] at q; cases q
    · exact nf z
  have up : ∀ b o, base.get? b = some o → (PySem.W.hideAll s.heap l).get? b = some o := fun b o e => see b o (e0.bs b o e).1 (e0.bs b o e).2 fun m => by
    have := (e0.funs.mem m).1
    rw [e] at this; cases this
  refine ⟨PySem.W.hideAll s.heap l, see, ⟨e0.frames, ?_, fun b o e => ?_, Nat.le_of_eq (PySem.W.hideAll_size _ _), ?_, e0.frf, e0.hok, e0.bare⟩⟩
  · obtain ⟨kin, glob, ⟨mb, bl, bb⟩, lim⟩ := e0.mod
    exact ⟨kin.keeps up, glob.keeps up, ⟨mb, bl.keeps up, bb⟩, lim.keeps up⟩
  · have e' := PySem.W.of_hideAll l e
    refine ⟨e', ?_⟩
    cases q : H b with
    | none => rfl
    | some u =>
      have z := PySem.W.hideAll_none l (h := s.heap) (List.mem_append_left _ (List.mem_filter.mpr ⟨List.mem_range.mpr (Heap.lt_size e'), by simp [q]⟩) : b ∈ l)
      rw [z] at e; cases e
  · have key : ∀ fs : List Env, s.heap.FunFrames base fs → (∀ b ∈ frs fs, b ∈ l) → s.heap.FunFrames (PySem.W.hideAll s.heap l) fs := by
      intro fs
      induction fs with
      | nil => intro _ _; trivial
      | cons env rest ih =>
        rintro ⟨h1, ⟨L, o, h2, h3, h4, h5⟩, h6⟩ sub
        have hL : L ∈ frs (env :: rest) := List.mem_filterMap.mpr ⟨env, List.mem_cons_self, h2⟩
        refine ⟨h1, ⟨L, o, h2, PySem.W.hideAll_none l (sub L hL), h4, h5⟩, ih h6 fun b hb => sub b ?_⟩
        obtain ⟨e, he, q⟩ := List.mem_filterMap.mp hb
        exact List.mem_filterMap.mpr ⟨e, List.mem_cons_of_mem _ he, q⟩
    exact key outer e0.funs fun b hb => List.mem_append_right _ hb
end Y
namespace Y
open PySem PySem.Spec PyProof.Rows L2 Z
/-! ### contracts over a known frozen heap; closures -/
def spX (K : Frg) (ms : List Addr) (Fm : Hp) (R : RdF) : Sp := fun vs H Q E => ∃ F ds Qd Ed, Same Fm F ∧ Tp K ms F H ∧ Rps K ms F vs ds ∧ R ds Qd Ed ∧ (∀ v F' H' d, Go ms F H F' H' → Tp K ms F' H' → Rp K ms F' v d → Qd d → Q v H') ∧
  (∀ cls d F' H' x, Go ms F H F' H' → Tp K ms F' H' → XR K ms F' cls d x → Ed x → E cls d H')
/-- a function at fa that keeps the promise R -/
structure CloAt (P : Program) (w : World) (K : Frg) (mg : Str → Option Value) (base : Heap) (k : Nat) (fa : Addr) (ms : List Addr) (Fm : Hp) (R : RdF) : Prop where
  fo : PySem.W.FnAt fa base
  fn : FnG P w K mg base (L2.CX P w) k fa (spX K ms Fm R)
/-- the cells that a function captured, in a base -/
structure CellsB (cl : List (Str × Addr)) (fr : List Str) (ws : List (Option V)) (b2 : Heap) : Prop where
  len : ws.length = fr.length
  all : ∀ y c, cl.lookup y = some c → ∃ v, b2.IsCell c v
  inj : ∀ x y c, cl.lookup x = some c → cl.lookup y = some c → x = y
  has : ∀ (i : Nat) (y : Str), fr[i]? = some y → ∃ c, cl.lookup y = some c ∧ ∀ v, ws[i]? = some (some v) → ∃ u, L2.RelV v u ∧ b2.IsCell c (some u)
section
variable {P : Program} {w : World} {K : Frg} {mg : Str → Option Value} {b2 : Heap}
theorem CellsB.at {cl : List (Str × Addr)} {fr : List Str} {ws : List (Option V)} {A : Around} {outer : List Env} {s : Shared} {H : Hp} (C : CellsB cl fr ws b2) (e0 : Env0 P w K mg b2 A outer s H) : NdefX.CellsAt cl fr ws s.heap H :=
  ⟨C.len, fun y c e => let ⟨v, o, h1, h2⟩ := C.all y c e; ⟨(e0.bs _ _ h1).2, v, o, (e0.bs _ _ h1).1, h2⟩, C.inj, fun i y e => let ⟨c, h1, h2⟩ := C.has i y e; ⟨c, h1, fun v hv => let ⟨u, r, o, q1, q2⟩ := h2 v hv; ⟨u, r, o, (e0.bs _ _ q1).1, q2⟩⟩⟩
abbrev lamNF (q : Str) (params : Arguments) (scope : Scope) (cl : List (Str × Addr)) (c' : Addr) : NdefX.NF := ⟨"<lambda>", q, params, [], scope, cl, c'⟩
abbrev lamC (P : Program) (w : World) (K : Frg) (mg : Str → Option Value) (b2 : Heap) (N : List Str) (F : NdefX.NF) (f : Addr) (A : Around) (outer : List Env) (s : Shared) (H : Hp) (E : XK) : Cx := NdefX.ncx (L2.CX P w) P w K mg b2 N F f A outer s H E
/-- a lambda by its body -/
theorem clo_fn {fr ps N : List Str} {q : Str} {params : Arguments} {body : Expr} {scope : Scope} {cl : List (Str × Addr)} {pm ctv : Value} {c' f : Addr} {ws : List (Option V)} {ms : List Addr} {Fm : Hp} {ρc : Ev} {k : Nat} {r : Bs → Rd}
    (hf : b2.get? f = some (lamO q params body scope cl pm c' ctv)) (hc : Fm c' = some (LamX.CodeO c' q)) (S : NdefX.NScope N ps fr scope) (hN : N = ps ++ fr)
    (hb : ∀ (cl : List (Str × Addr)) (pm cv ctv : Value) (us : List Value), us.length = ps.length → bindArgs (PySem.W.kla_fn "<lambda>" q params body scope cl pm cv ctv) ⟨us, []⟩ = pure (ps.zip us))
    (C : CellsB cl fr ws b2) (hl : ρc.length = fr.length) (hv : ∀ (i : Nat) (d : D), ρc[i]? = some (.val d) → ∃ v, ws[i]? = some (some v) ∧ Rp K ms Fm v d) (hm : ∀ (i : Nat) (m : Mo), ρc[i]? ≠ some (.mu m))
    (hbody : ∀ (A : Around) (outer : List Env) (s : Shared) (H : Hp) (E : XK) (B : Bs), RoomG k (A.deeper (NdefX.envF (lamNF q params scope cl c') f s.heap.objs.size)) → Px (lamC P w K mg b2 N (lamNF q params scope cl c') f A outer s H E) B → PEp (lamC P w K mg b2 N (lamNF q params scope cl c') f A outer s H E) B body (r B)) :
    FnG P w K mg b2 (L2.CX P w) (k + 1) f (spX K ms Fm (fun ds Q E => ds.length = ps.length ∧ ∀ F0 H0, r ⟨ms, F0, H0, E⟩ (ds.map Sl.val ++ ρc) Q)) := by
  intro A outer s H us vs Q E hr e0 rv ⟨F, ds, Qd, Ed, sm, t, rd, ⟨hlen, hR⟩, kq, ke⟩
  have ho : s.heap.get? f = some (lamO q params body scope cl pm c' ctv) := (e0.bs _ _ hf).1
  have hl2 : vs.length = ps.length := by rw [rd.len]; exact hlen
  have hu : us.length = ps.length := by rw [← rv.length]; exact hl2
  have crec : s.heap.CodeRec (.ref c') q := NdefX.codeO_at e0.hok (t.1 _ _ (sm _ _ hc))
  have lim : s.heap.NoLimit := e0.mod.nolimit.keeps fun b o e => (e0.bs b o e).1
  refine PySem.W.kla_callFunE hr.rm.depth ho rfl S.co S.gen rfl crec ?_
  rw [hb _ _ _ _ us hu]
  refine wpAny_pure (wpAny_newFunctionEnv S.nocell (fun ⟨n, _⟩ hy => S.par n (List.of_mem_zip hy).1) (fun h₁ hns hsb => ⟨lim.fresh _ hsb, ?_⟩) S.kind)
  have kp : ∀ b o, s.heap.get? b = some o → h₁.get? b = some o := fun b o e => hsb.extBut b o (Nat.ne_of_lt (Heap.lt_size e)) (Heap.get?_push_of_some _ e)
  have J : Inv (lamC P w K mg b2 N (lamNF q params scope cl c') f A outer s H E) [] (NdefX.startF N vs ws) H { s with heap := h₁, toks := s.toks + (ps.zip us).length } := NdefX.inv_startN (F := lamNF q params scope cl c') S hr.rm.hd e0 hl2 rv (C.at e0) hns kp
  have hx : Px (lamC P w K mg b2 N (lamNF q params scope cl c') f A outer s H E) ⟨ms, F, H, Ed⟩ := by
    have tk : Takes (lamC P w K mg b2 N (lamNF q params scope cl c') f A outer s H E) (fun cls d _ H => E cls d H) := takes_of rfl rfl rfl rfl
    exact passes_call tk fun cls d σ H ⟨F', x, g, t', xr, z⟩ => ke cls d F' _ x g t' xr z
  have eS : NdefX.startF N vs ws = vs.map some ++ ws := by
    unfold NdefX.startF
    have : N.length - vs.length - ws.length = 0 := by
      rw [hN, List.length_append, C.len, hl2]; omega
    rw [this]
    simp
  have iv : Iv K ⟨ms, F, H, Ed⟩ F H (NdefX.startF N vs ws) (ds.map Sl.val ++ ρc) := by
    rw [eS]
    refine ⟨Go.refl t.1, t, by rw [List.length_append, List.length_append, List.length_map, List.length_map, rd.len, hl, C.len], fun i d h => ?_, fun i m h => ?_, fun i j m n a _ h _ _ => ?_⟩
    · rcases Nat.lt_or_ge i ds.length with z | z
      · rw [List.getElem?_append_left (by simpa using z), List.getElem?_map] at h
        have hd : ds[i]? = some d := by
          rw [List.getElem?_eq_getElem z] at h ⊢
          simpa using h
        obtain ⟨v, h1, h2⟩ := rd.get hd
        refine ⟨v, ?_, h2⟩
        rw [List.getElem?_append_left (by rw [List.length_map, rd.len]; exact z), List.getElem?_map, h1]
        rfl
      · rw [List.getElem?_append_right (by simpa using z), List.length_map] at h
        obtain ⟨v, h1, h2⟩ := hv _ d h
        refine ⟨v, ?_, h2.up sm⟩
        rw [List.getElem?_append_right (by rw [List.length_map, rd.len]; exact z), List.length_map, rd.len]
        exact h1
    · exfalso
      rcases Nat.lt_or_ge i ds.length with z | z
      · rw [List.getElem?_append_left (by simpa using z), List.getElem?_map, List.getElem?_eq_getElem z] at h
        cases h
      · rw [List.getElem?_append_right (by simpa using z)] at h
        exact hm _ m h
    · exfalso
      rcases Nat.lt_or_ge i ds.length with z | z
      · rw [List.getElem?_append_left (by simpa using z), List.getElem?_map, List.getElem?_eq_getElem z] at h
        cases h
      · rw [List.getElem?_append_right (by simpa using z)] at h
        exact hm _ m h
  show codeAny _ _ (.expr body (NdefX.envF (lamNF q params scope cl c') f s.heap.objs.size)) _ _
  have hp := hbody A outer s H E ⟨ms, F, H, Ed⟩ (hr.deeper _) hx
  refine PySem.W.kla_codeExpr (wpAny_mono (hp.run [] _ (NdefX.startF N vs ws) H Q J ⟨F, _, Qd, iv, hR F H, fun v F' H' d g t' rr z => kq v F' H' d g t' rr z⟩) (fun v s' hq => ?_) fun e s' hq => hq)
  obtain ⟨v', H', J', rv', z⟩ := hq
  exact ⟨v', H', J'.os, J'.bare, J'.base, J'.hok, rv', z⟩
end
/-- a slot as a closure sees it -/
def capS (ρ : Ev) (j : Nat) : Sl := match ρ[j]? with
  | some (.val d) => .val d
  | _ => .no
/-- the promise of a lambda made at ρ -/
def cloR (ms : List Addr) (r : Bs → Rd) (np : Nat) (js : List Nat) (ρ : Ev) : RdF := fun ds Q E => ds.length = np ∧ ∀ F0 H0, r ⟨ms, F0, H0, E⟩ (ds.map Sl.val ++ js.map (capS ρ)) Q
/-- what a lambda's text tells -/
structure LamT (X : Cx) (N ps fr : List Str) (js : List Nat) (q : Str) (params : Arguments) (body : Expr) (scope : Scope) : Prop where
  sc : NdefX.NScope N ps fr scope
  nn : N = ps ++ fr
  bd : ∀ (cl : List (Str × Addr)) (pm cv ctv : Value) (us : List Value), us.length = ps.length → bindArgs (PySem.W.kla_fn "<lambda>" q params body scope cl pm cv ctv) ⟨us, []⟩ = pure (ps.zip us)
  df : defaultsOf params X.env = ([], [])
  free : ∀ y ∈ scope.names, y.2 = .free → X.env.scope.names.lookup y.1 = some .cell ∨ X.env.scope.names.lookup y.1 = some .free
  frm : ∀ y ∈ fr, (y, NameKind.free) ∈ scope.names
  ix : js.map (fun j => X.N[j]?) = fr.map some
  own : ∀ y, X.fn y = true
section
variable {X : Cx} {B : Bs} {pins : List (Addr × Obj)} {σ : L2.St} {H F : Hp} {s : Shared} {ρ : Ev}
/-- a lambda is made: a function that keeps its promise, over a larger base -/
theorem lam_clo {x : Str} {N ps fr : List Str} {js : List Nat} {k : Nat} {params : Arguments} {body : Expr} {scope : Scope} {lp : Pos} {E : Value → Shared → Prop} {Q : Value → Shared → Prop} {r : Bs → Rd} (I : Inv X pins σ H s) (J : Iv X.K B F H σ ρ)
    (L : LamF X.K X.mg x) (hcode : X.env.code = .ref (cdAt X.K (He.ga X.K x))) (hq : X.env.qual ++ "<lambda>" = lamQ x) (T : LamT X N ps fr js (lamQ x) params body scope)
    (hbody : ∀ (b2 : Heap) (cl : List (Str × Addr)) (c' f : Addr) (A : Around) (outer : List Env) (s : Shared) (H : Hp) (E : XK) (B : Bs), RoomG k (A.deeper (NdefX.envF (lamNF (lamQ x) params scope cl c') f s.heap.objs.size)) → Px (lamC X.prog X.w X.K X.mg b2 N (lamNF (lamQ x) params scope cl c') f A outer s H E) B → PEp (lamC X.prog X.w X.K X.mg b2 N (lamNF (lamQ x) params scope cl c') f A outer s H E) B body (r B))
    (kk : ∀ (f : Addr) (F1 H1 : Hp) (s1 : Shared) (b2 : Heap), Inv X pins σ H1 s1 → Go B.ms F H F1 H1 → Tp X.K B.ms F1 H1 → Iv X.K B F1 H1 σ ρ → Env0 X.prog X.w X.K X.mg b2 X.A X.stack s1 H1 → CloAt X.prog X.w X.K X.mg b2 (k + 1) f B.ms F1 (cloR B.ms r ps.length js ρ) → Q (.ref f) s1) :
    wpAny (model X.prog X.w) X.A (eval (.Lambda params body scope lp) X.env) Q E s := by
  have tp := J.tp
  have hfr : ∀ y ∈ scope.names, y.2 = .free → ∃ c, X.env.cells.lookup y.1 = some c := fun y hy e => (T.free y hy e).elim (fun z => I.ok.has _ (.inl z)) fun z => I.ok.has _ (.inr z)
  refine lam_mk I (L.tb I.mod) hcode hq (tp.tabs _ L.mem).2 tp.1 T.df hfr fun f c' pm ctv F1 H1 s1 I1 g n1 hcc hfo hfn hfs => ?_
  have t1 := tp_table tp L.mem L.nd g n1
  have gm : Go B.ms F H F1 H1 := g.sub fun a ha => by
    have : a = tabN X.K x := by simpa using ha
    rw [this]; exact (tp.tabs _ L.mem).1
  have J1 := J.step gm t1
  obtain ⟨b2, see, e0⟩ := env0_big I1.env0
  have hb2f : b2.get? f = some (lamO (lamQ x) params body scope (cloFrom X.env.cells scope.names []) pm c' ctv) := see f _ hfo hfn hfs
  have CA := NdefX.cells_of I1 (NdefX.Caps.made I1.ok T.free T.frm T.ix)
  have capsub : ∀ y c, (cloFrom X.env.cells scope.names []).lookup y = some c → X.env.cells.lookup y = some c := fun y c e => (NdefX.Caps.made (js := js) (fr := fr) I1.ok T.free T.frm T.ix).sub y c e
  have nofr : ∀ y c, (cloFrom X.env.cells scope.names []).lookup y = some c → c ∉ frs X.stack := fun y c e m => by
    have e' := capsub y c e
    rcases List.mem_cons.mp (I1.stkSub c m) with z | z
    · exact I1.cne y c e' z
    · obtain ⟨_, o, ho, _⟩ := I1.ok.funs.mem z
      exact absurd (Heap.lt_size ho) (Nat.not_lt.mpr (I1.ok.cab y c (T.own y) e'))
  have cb : ∀ y c v, (cloFrom X.env.cells scope.names []).lookup y = some c → s1.heap.IsCell c v → b2.IsCell c v := fun y c v e ⟨o, h1, h2⟩ => ⟨o, see c o h1 (I1.freeC y c (capsub y c e)) (nofr y c e), h2⟩
  have CB : CellsB (cloFrom X.env.cells scope.names []) fr (js.map (NdefX.slotAt σ)) b2 := ⟨CA.len, fun y c e => let ⟨v, h⟩ := (CA.all y c e).2; ⟨v, cb y c v e h⟩, CA.inj, fun i y e => let ⟨c, h1, h2⟩ := CA.has i y e; ⟨c, h1, fun v hv => let ⟨u, q1, q2⟩ := h2 v hv; ⟨u, q1, cb y c _ h1 q2⟩⟩⟩
  have hjl : (js.map (capS ρ)).length = fr.length := by
    have := congrArg List.length T.ix
    simpa using this
  refine kk f F1 H1 s1 b2 I1 gm t1 J1 e0 ⟨⟨_, _, _, _, hb2f⟩, clo_fn (ρc := js.map (capS ρ)) (ws := js.map (NdefX.slotAt σ)) hb2f hcc T.sc T.nn T.bd CB hjl (fun i d h => ?_) (fun i m h => ?_) (fun A outer s H E B => hbody b2 _ c' f A outer s H E B)⟩
  · rw [List.getElem?_map] at h ⊢
    cases e : js[i]? with
    | none => rw [e] at h; cases h
    | some j =>
      rw [e] at h
      have h' : capS ρ j = .val d := Option.some.inj h
      unfold capS at h'
      split at h'
      · rename_i d' e'
        cases h'
        obtain ⟨v, h1, h2⟩ := J1.val j _ e'
        exact ⟨v, congrArg some (NdefX.slotAt_of h1), h2⟩
      · cases h'
  · rw [List.getElem?_map] at h
    cases e : js[i]? with
    | none => rw [e] at h; cases h
    | some j =>
      rw [e] at h
      have h' : capS ρ j = .mu m := Option.some.inj h
      unfold capS at h'
      split at h' <;> cases h'
end
end Y
namespace Y
open PySem PySem.Spec PyProof.Rows L2 Z
theorem run_AB {X : Cx} {CX : CXT} {f : Addr} {sp : Sp} {E : XK} {pins : List (Addr × Obj)} {σ : L2.St} {H : Hp} {s : Shared} {b2 : Heap} {Q : VK} {us : List Value} {vs : List V} (F : FnA X.A X.prog X.w X.K X.mg b2 CX f sp) (e0 : Env0 X.prog X.w X.K X.mg b2 X.A X.stack s H) (hx : Passes CX X E) (I : L2.Inv X pins σ H s) (r : Vals vs us) (h : sp vs H Q E) :
    codeAny (model X.prog X.w) X.A (.call (.ref f) ⟨us, []⟩) (fun r s' => match r with | .ok (.ret v) => EP X pins σ Q v s' | .ok _ => False | .error e => X.xe e s') s :=
  codeAny_mono (F X.stack s H us vs Q E e0 r h) fun q s' hq => match q, hq with
    | .error er, hq => hx pins σ H s er s' I hq
    | .ok (.ret _), hq => I.after hq
    | .ok .next, hq => False.elim hq
    | .ok .brk, hq => False.elim hq
    | .ok .cont, hq => False.elim hq
/-! ### calls with a lambda, calls of a function that was handed in -/
section
variable {X : Cx} {B : Bs} {a e : Expr} {es : List Expr} {ra : Rd} {rl : RdA} {pos p0 lp : Pos} {k kc : Nat} {f fa : Addr} {y x q : Str} {N ps fr : List Str} {js : List Nat} {params : Arguments} {body : Expr} {scope : Scope} {r : Bs → Rd} {R2 : Addr → RdF → RdF} {ms : List Addr} {Fm : Hp} {R : RdF} {i : Nat}
theorem y_lam0 (F : ∀ (b2 : Heap) (fa : Addr) (Fm : Hp) (Rc : RdF), CloAt X.prog X.w X.K X.mg b2 (kc + 1) fa B.ms Fm Rc → FnG X.prog X.w X.K X.mg b2 (L2.CX X.prog X.w) k f (spX X.K B.ms Fm (R2 fa Rc))) (hr : RoomG k X.A) (hg : Gl X y) (hm : X.mg y = some (.ref f)) (hk : PySem.W.keepIn X.K (.ref f) = true) (hx : Px X B)
    (L : LamF X.K X.mg x) (hcode : X.env.code = .ref (cdAt X.K (He.ga X.K x))) (T : LamT X N ps fr js (lamQ x) params body scope)
    (hbody : ∀ (b2 : Heap) (cl : List (Str × Addr)) (c' f : Addr) (A : Around) (outer : List Env) (s : Shared) (H : Hp) (E : XK) (B : Bs), RoomG kc (A.deeper (NdefX.envF (lamNF (lamQ x) params scope cl c') f s.heap.objs.size)) → Px (lamC X.prog X.w X.K X.mg b2 N (lamNF (lamQ x) params scope cl c') f A outer s H E) B → PEp (lamC X.prog X.w X.K X.mg b2 N (lamNF (lamQ x) params scope cl c') f A outer s H E) B body (r B))
    (hq : X.env.qual ++ "<lambda>" = lamQ x := by rfl) (hdb : (y == ("__debug__" : Str)) = false := by decide) (he : starEach [.Lambda params body scope lp] X.env = [(false, eval (.Lambda params body scope lp) X.env)] := by rfl) :
    PEp X B (.Call (.Name y p0) [.Lambda params body scope lp] [] pos) (fun ρ Q => ∀ fa, R2 fa (cloR B.ms r ps.length js ρ) [.fn fa] Q B.Ed) := by
  refine ⟨fun pins s σ H Q I ⟨F0, ρ, Qd, J, z, kk⟩ => ?_⟩
  refine wpAny_Call_Name_kw (ld_glob I hg hm ?_ hdb)
  refine PySem.W.callWith_K (h₀ := X.base) I.ok.mod.kin hk ?_ he rfl
  rw [he]
  refine Calls.spliced_cons (lam_clo I J L hcode hq T hbody fun fa F1 H1 s1 b2 I1 g1 t1 J1 e0 C => ?_)
  refine Calls.spliced_nil ⟨I1.kIn, ?_⟩
  have hs : spX X.K B.ms F1 (R2 fa (cloR B.ms r ps.length js ρ)) [.ref fa] H1 Q (EE X.K B) :=
    ⟨F1, [.fn fa], Qd, B.Ed, Same.refl _, t1, .one (.fn fa), z fa, fun v F2 H2 d g2 t2 r2 q2 => kk v F2 H2 d (g1.trans g2) t2 r2 q2, fun cls d F2 H2 x g2 t2 xr q => ⟨F2, x, J1.go.trans g2, t2, xr, q⟩⟩
  exact wpAny_call (run_AB (us := [.ref fa]) (vs := [.ref fa]) ((F b2 fa F1 _ C).at hr) e0 hx I1 (.cons rfl .nil) hs)
/-- x(e, lambda ..: body) -/
theorem y_lam1 (ha : PEp X B e ra) (F : ∀ (b2 : Heap) (fa : Addr) (Fm : Hp) (Rc : RdF), CloAt X.prog X.w X.K X.mg b2 (kc + 1) fa B.ms Fm Rc → FnG X.prog X.w X.K X.mg b2 (L2.CX X.prog X.w) k f (spX X.K B.ms Fm (R2 fa Rc))) (hr : RoomG k X.A) (hg : Gl X y) (hm : X.mg y = some (.ref f)) (hk : PySem.W.keepIn X.K (.ref f) = true) (hx : Px X B)
    (L : LamF X.K X.mg x) (hcode : X.env.code = .ref (cdAt X.K (He.ga X.K x))) (T : LamT X N ps fr js (lamQ x) params body scope)
    (hbody : ∀ (b2 : Heap) (cl : List (Str × Addr)) (c' f : Addr) (A : Around) (outer : List Env) (s : Shared) (H : Hp) (E : XK) (B : Bs), RoomG kc (A.deeper (NdefX.envF (lamNF (lamQ x) params scope cl c') f s.heap.objs.size)) → Px (lamC X.prog X.w X.K X.mg b2 N (lamNF (lamQ x) params scope cl c') f A outer s H E) B → PEp (lamC X.prog X.w X.K X.mg b2 N (lamNF (lamQ x) params scope cl c') f A outer s H E) B body (r B))
    (hq : X.env.qual ++ "<lambda>" = lamQ x := by rfl) (hdb : (y == ("__debug__" : Str)) = false := by decide) (he : starEach [e, .Lambda params body scope lp] X.env = [(false, eval e X.env), (false, eval (.Lambda params body scope lp) X.env)] := by rfl)
    (he2 : starEach [e, .Lambda params body scope lp] X.env = (false, eval e X.env) :: starEach [.Lambda params body scope lp] X.env := by rfl) (hpl : (backTo pos (starEach [.Lambda params body scope lp] X.env)).any (·.1) = false := by rfl) :
    PEp X B (.Call (.Name y p0) [e, .Lambda params body scope lp] [] pos) (fun ρ Q => ra ρ fun d => ∀ fa, R2 fa (cloR B.ms r ps.length js ρ) [d, .fn fa] Q B.Ed) := by
  refine ⟨fun pins s σ H Q I ⟨F0, ρ, Qd, J, z, kk⟩ => ?_⟩
  refine wpAny_Call_Name_kw (ld_glob I hg hm ?_ hdb)
  refine PySem.W.callWith_K (h₀ := X.base) I.ok.mod.kin hk ?_ he2 hpl
  rw [he]
  show wpAny _ _ (spliced ((false, eval e X.env) :: [(false, _)])) _ _ _
  refine Calls.spliced_cons (thn (ha.run pins s σ H (fun v H1 => ∃ F1 d, Go B.ms F0 H F1 H1 ∧ Tp X.K B.ms F1 H1 ∧ Rp X.K B.ms F1 v d ∧ ∀ fa, R2 fa (cloR B.ms r ps.length js ρ) [d, .fn fa] Qd B.Ed) I ⟨F0, ρ, _, J, z, fun v F1 H1 d g1 t1 r1 z1 => ⟨F1, d, g1, t1, r1, z1⟩⟩) fun u s1 ⟨v, H1, I1, rv, F1, d, g1, t1, r1, z1⟩ => ?_)
  show wpAny _ _ (spliced ((false, eval (.Lambda params body scope lp) X.env) :: [])) _ _ _
  refine Calls.spliced_cons (lam_clo I1 (J.step g1 t1) L hcode hq T hbody fun fa F2 H2 s2 b2 I2 g2 t2 J2 e0 C => ?_)
  refine Calls.spliced_nil ⟨I2.kIn, ?_⟩
  have hs : spX X.K B.ms F2 (R2 fa (cloR B.ms r ps.length js ρ)) [v, .ref fa] H2 Q (EE X.K B) :=
    ⟨F2, [d, .fn fa], Qd, B.Ed, Same.refl _, t2, .two (r1.up g2.ff) (.fn fa), z1 fa, fun v F3 H3 d g3 t3 r3 q3 => kk v F3 H3 d ((g1.trans g2).trans g3) t3 r3 q3, fun cls d F3 H3 x g3 t3 xr q => ⟨F3, x, J2.go.trans g3, t3, xr, q⟩⟩
  exact wpAny_call (run_AB (us := [u, .ref fa]) (vs := [v, .ref fa]) ((F b2 fa F2 _ C).at hr) e0 hx I2 (.cons rv (.cons rfl .nil)) hs)
/-! ### x(..), where x was handed in -/
theorem fnAt_up {base h : Heap} {q : Addr} (X : PySem.W.FnAt q base) (k : ∀ b o, base.get? b = some o → h.get? b = some o) : PySem.W.FnAt q h := let ⟨a, b, c, d, e⟩ := X; ⟨a, b, c, d, k _ _ e⟩
theorem y_callV (hv : PEp X B (.Name y p0) (rVar i)) (C : CloAt X.prog X.w X.K X.mg X.base kc fa ms Fm R) (hms : B.ms = ms) (hFm : Same Fm B.F0) (hr : RoomG kc X.A) (hx : Px X B) (ha : PAp X B (e :: es) rl)
    (he : starEach (e :: es) X.env = (false, eval e X.env) :: starEach es X.env := by rfl) (hpl : (backTo pos (starEach es X.env)).any (·.1) = false := by rfl) :
    PEp X B (.Call (.Name y p0) (e :: es) [] pos) (fun ρ Q => rVar i ρ fun d => d = .fn fa ∧ rl ρ fun ds => ∃ Q' E', R ds Q' E' ∧ (∀ d, Q' d → Q d) ∧ ∀ x, E' x → B.Ed x) := by
  refine ⟨fun pins s σ H Q I ⟨F0, ρ, Qd, J, z, kk⟩ => ?_⟩
  subst hms
  refine wpAny_Call_Name_kw (thn (hv.run pins s σ H (fun v H1 => ∃ F1, Go B.ms F0 H F1 H1 ∧ Tp X.K B.ms F1 H1 ∧ v = .ref fa ∧ rl ρ fun ds => ∃ Q' E', R ds Q' E' ∧ (∀ d, Q' d → Qd d) ∧ ∀ x, E' x → B.Ed x) I ⟨F0, ρ, _, J, z, fun v F1 H1 d g1 t1 r1 z1 => ⟨F1, g1, t1, (by obtain ⟨rfl, _⟩ := z1; cases r1; rfl), z1.2⟩⟩) fun u s1 ⟨v, H1, I1, rv, F1, g1, t1, ev, z1⟩ => ?_)
  subst ev
  obtain rfl : u = Value.ref fa := rv
  have J1 := J.step g1 t1
  refine PySem.W.callWith_F (first := []) (fnAt_up C.fo I1.bk) (thn (ha.run pos pins s1 σ H1 (fun vs H2 => ∃ F2 ds, Go B.ms F1 H1 F2 H2 ∧ Tp X.K B.ms F2 H2 ∧ Rps X.K B.ms F2 vs ds ∧ ∃ Q' E', R ds Q' E' ∧ (∀ d, Q' d → Qd d) ∧ ∀ x, E' x → B.Ed x) I1 ⟨F1, ρ, _, J1, z1, fun vs F2 H2 ds g2 t2 r2 z2 => ⟨F2, ds, g2, t2, r2, z2⟩⟩) fun us s2 ⟨vs, H2, I2, rr, F2, ds, g2, t2, r2, Q', E', z2, zq, zx⟩ => ⟨fnAt_up C.fo I2.bk, ?_⟩) he hpl
  have J2 := J1.step g2 t2
  refine wpAny_call (run_fnA (us := us) (vs := vs) (C.fn.at hr) hx I2 rr ⟨F2, ds, Q', E', hFm.trans J2.go.ff, t2, r2, z2, fun v F3 H3 d g3 t3 r3 q3 => kk v F3 H3 d ((g1.trans g2).trans g3) t3 r3 (zq d q3), fun cls d F3 H3 x g3 t3 xr q => ⟨F3, x, J2.go.trans g3, t3, xr, zx x q⟩⟩)
/-- x() in a try -/
theorem x_callV (hv : PEp X B.nox (.Name y p0) (rVar i)) (C : CloAt X.prog X.w X.K X.mg X.base kc fa ms Fm R) (hms : B.ms = ms) (hFm : Same Fm B.F0) (hr : RoomG kc X.A) :
    PXp X B (.Call (.Name y p0) [] [] pos) (fun ρ Q E => rVar i ρ fun d => d = .fn fa ∧ ∃ Q' E', R [] Q' E' ∧ (∀ d, Q' d → Q d) ∧ ∀ x, E' x → E x) := fun W tk => by
  refine ⟨fun pins s σ H Q I ⟨F0, ρ, Qd, Ed, J, z, kq, kx⟩ => ?_⟩
  subst hms
  refine wpAny_Call_Name_kw (thn (hv.run pins s σ H (fun v H1 => ∃ F1, Go B.ms F0 H F1 H1 ∧ Tp X.K B.ms F1 H1 ∧ v = .ref fa ∧ ∃ Q' E', R [] Q' E' ∧ (∀ d, Q' d → Qd d) ∧ ∀ x, E' x → Ed x) I ⟨F0, ρ, _, J.nox, z, fun v F1 H1 d g1 t1 r1 z1 => ⟨F1, g1, t1, (by obtain ⟨rfl, _⟩ := z1; cases r1; rfl), z1.2⟩⟩) fun u s1 ⟨v, H1, I1, rv, F1, g1, t1, ev, Q', E', z1, zq, zx⟩ => ?_)
  subst ev
  obtain rfl : u = Value.ref fa := rv
  have J1 := J.step g1 t1
  refine PySem.W.callWith_F0 (first := []) (fnAt_up C.fo I1.bk) ?_
  exact wpAny_call (run_X (us := []) (vs := []) (C.fn.at hr) tk I1 .nil ⟨F1, [], Q', E', hFm.trans J1.go.ff, t1, .nil, z1, fun v F2 H2 d g2 t2 r2 q2 => kq v F2 H2 d (g1.trans g2) t2 r2 (zq d q2), fun cls d F2 H2 x g2 t2 xr q => kx cls d F2 H2 x (g1.trans g2) t2 xr (zx x q)⟩)
end
/-! ### defs that are handed a function; defs that make lambdas -/
/-- what a lambda's text tells, by a check -/
def lamTB (NX : List Str) (sc : Scope) (N ps fr : List Str) (js : List Nat) (scope : Scope) : Bool :=
  NdefX.nscB N ps fr scope && (decide (N = ps ++ fr) && ((scope.names.all fun y => !decide (y.2 = .free) || decide (sc.names.lookup y.1 = some .cell) || decide (sc.names.lookup y.1 = some .free)) && ((fr.all fun y => decide ((y, NameKind.free) ∈ scope.names)) && decide (js.map (fun j => NX[j]?) = fr.map some))))
theorem lamT_by {X : Cx} {N ps fr NX : List Str} {js : List Nat} {q : Str} {params : Arguments} {body : Expr} {scope sc : Scope} (h : lamTB NX sc N ps fr js scope = true) (hN : X.N = NX) (hs : X.env.scope = sc)
    (bd : ∀ (cl : List (Str × Addr)) (pm cv ctv : Value) (us : List Value), us.length = ps.length → bindArgs (PySem.W.kla_fn "<lambda>" q params body scope cl pm cv ctv) ⟨us, []⟩ = pure (ps.zip us)) (df : defaultsOf params X.env = ([], [])) (own : ∀ y, X.fn y = true) : LamT X N ps fr js q params body scope := by
  obtain ⟨h1, h⟩ := He.ba h
  obtain ⟨h2, h⟩ := He.ba h
  obtain ⟨h3, h⟩ := He.ba h
  obtain ⟨h4, h5⟩ := He.ba h
  refine ⟨NdefX.nscope_by h1, of_decide_eq_true h2, bd, df, fun y hy e => ?_, fun y hy => of_decide_eq_true (List.all_eq_true.mp h4 y hy), by rw [hN]; exact of_decide_eq_true h5, own⟩
  have z := List.all_eq_true.mp h3 y hy
  rw [hs]
  simp only [Bool.or_eq_true, Bool.not_eq_true', decide_eq_true_eq, decide_eq_false_iff_not] at z
  rcases z with (z | z) | z
  · exact absurd e z
  · exact .inl z
  · exact .inr z
/-- the code objects of the defs that make lambdas, with their tables -/
def csOf (K : Frg) : List (Addr × Addr) := (lamNames.filter fun x => isFnB (K.lookup (He.ga K x))).map fun x => (cdAt K (He.ga K x), tabN K x)
/-- all tables that are asked for, whichever defs there are -/
def tfAll : List (Frg → Addr) := lamNames.map fun x K => if isFnB (K.lookup (He.ga K x)) then He.ga K x else He.ga K "law"
theorem cs_tf {K : Frg} {p : Addr × Addr} (h : p ∈ csOf K) : ∃ f ∈ tfAll, p = (cdAt K (f K), He.tabOf K (cdAt K (f K))) := by
  obtain ⟨x, hx, rfl⟩ := List.mem_map.mp h
  obtain ⟨h1, h2⟩ := List.mem_filter.mp hx
  refine ⟨_, List.mem_map.mpr ⟨x, h1, rfl⟩, ?_⟩
  show _ = (cdAt K (if _ then _ else _), He.tabOf K (cdAt K (if _ then _ else _)))
  rw [if_pos h2]
  rfl
theorem cs_says {q : Ask} {w : World} {h : Heap} {K : Frg} (X : K.In h) (c : Says q w h K) (e : q.tf = tfAll) : (∀ p ∈ csOf K, h.get? p.2 = some { cls := .none, data := .fields #[] }) ∧ (∀ p ∈ csOf K, K.lookup p.2 = none) ∧ ∀ p ∈ csOf K, PySem.W.CodeHd h p.1 p.2 := by
  refine ⟨fun p hp => ?_, fun p hp => ?_, fun p hp => ?_⟩ <;> obtain ⟨f, hf, rfl⟩ := cs_tf hp
  · exact c.empty f (e ▸ hf)
  · exact c.out f (e ▸ hf)
  · exact PySem.W.codeHd_of_K X (c.hd f (e ▸ hf))
theorem cs_tabs {K : Frg} {H : Hp} (h : ∀ p ∈ csOf K, H p.2 = some (.tbl #[])) : ∀ p ∈ tabsOf K, H p.1 = some (.tbl #[]) := fun p hp => by
  obtain ⟨x, hx, rfl⟩ := List.mem_map.mp hp
  exact h _ (List.mem_map.mpr ⟨x, hx, rfl⟩)
def bLamG (x : Str) : Frg → Bool := fun K => bGlo "__builtins__" K && bLam x K
theorem lamG_of {K : Frg} {h : Heap} {mg : Str → Option Value} (X : K.In h) (G : h.Ns mainGlobals mg) {x : Str} (c : bLamG x K = true) : LamF K mg x := by
  obtain ⟨h1, h2⟩ := He.ba c
  exact lamF_of (glo_of X G h1) h2
section
variable {P : Program} {w : World} {K : Frg} {mg : Str → Option Value} {base : Heap}
theorem y_fnV {x qual : Str} {st : Stmt} {f : Addr} {N ps : List Str} {k : Nat} {R : RdF} {ms : List Addr} {Fm : Hp} (F : DefAt K x qual st f) (S : FnScope N ps (defScope st)) (len : ∀ ds Q E, R ds Q E → ds.length = ps.length)
    (hb : ∀ (kV doc pm : Value) (an : Option Addr) (cdv ct : Value) (us : List Value), us.length = ps.length → bindArgs (PySem.W.fnOf x qual (defArgs st) (defBody st) (defScope st) .none kV doc pm an cdv ct) ⟨us, []⟩ = pure (ps.zip us))
    (hbody : ∀ (cdv : Value) (A : Around) (outer : List Env) (s : Shared) (H : Hp) (E : XK) (B : Bs), B.ms = ms → Same Fm B.F0 → Same B.F0 B.H0 → RoomG k (A.deeper (envOfC qual (defScope st) s.heap.objs.size f cdv)) → Px (cxOf (L2.CX P w) P w K mg base N qual (defScope st) f cdv A outer s H E) B →
      PassesOwn (model P w) (cxOf (L2.CX P w) P w K mg base N qual (defScope st) f cdv A outer s H E).A (cxOf (L2.CX P w) P w K mg base N qual (defScope st) f cdv A outer s H E).env (cxOf (L2.CX P w) P w K mg base N qual (defScope st) f cdv A outer s H E).xe →
      Tk (cxOf (L2.CX P w) P w K mg base N qual (defScope st) f cdv A outer s H E) B →
      ∃ r, PSsp (cxOf (L2.CX P w) P w K mg base N qual (defScope st) f cdv A outer s H E) B (defBody st) r ∧ ∀ ds Q, R ds Q B.Ed → r (startE N.length ds) { nx := fun _ => Q .non, rt := Q }) : FnG P w K mg base (L2.CX P w) (k + 1) f (spX K ms Fm R) := by
  refine zfnG F S (fun vs H Q E ⟨F, ds, Qd, Ed, _, _, r, h, _⟩ => by rw [r.len]; exact len _ _ _ h) hb fun cdv A outer s H vs Q E hr h => ?_
  obtain ⟨F, ds, Qd, Ed, sm, t, r, h, kq, ke⟩ := h
  obtain ⟨rr, h1, h2⟩ := hbody cdv A outer s H E ⟨ms, F, H, Ed⟩ rfl sm t.1 hr (px_of fun cls d H' ⟨F', x, g, t', xr, z⟩ => ke cls d F' H' x g t' xr z) po_of (tk_of fun cls d H' ⟨F', x, g, t', xr, z⟩ => ke cls d F' H' x g t' xr z)
  refine ⟨_, h1, F, _, _, iv_start (B := ⟨ms, F, H, Ed⟩) t r, h2 ds Qd h, ?_, ?_, ?_, ?_⟩
  · intro σ' ρ' F' H' _ I' z
    exact kq .non F' H' .non I'.go I'.tp .non z
  · intro v d F' H' g t' r' z
    exact kq v F' H' d g t' r' z
  · intro _ _ _ _ _ _ z; exact z
  · intro _ _ _ _ _ _ z; exact z
/-- a def that makes lambdas -/
theorem y_fnC {x qual : Str} {st : Stmt} {f : Addr} {N ps : List Str} {k : Nat} {R : RdF} (F : DefAt K x qual st f) (S : FnScope N ps (defScope st)) (len : ∀ ds Q E, R ds Q E → ds.length = ps.length)
    (hb : ∀ (kV doc pm : Value) (an : Option Addr) (cdv ct : Value) (us : List Value), us.length = ps.length → bindArgs (PySem.W.fnOf x qual (defArgs st) (defBody st) (defScope st) .none kV doc pm an cdv ct) ⟨us, []⟩ = pure (ps.zip us))
    (hbody : ∀ (cdv : Value), cdv = .ref (cdAt K f) → ∀ (A : Around) (outer : List Env) (s : Shared) (H : Hp) (E : XK) (B : Bs), Same B.F0 B.H0 → RoomG k (A.deeper (envOfC qual (defScope st) s.heap.objs.size f cdv)) → Px (cxOf (L2.CX P w) P w K mg base N qual (defScope st) f cdv A outer s H E) B →
      PassesOwn (model P w) (cxOf (L2.CX P w) P w K mg base N qual (defScope st) f cdv A outer s H E).A (cxOf (L2.CX P w) P w K mg base N qual (defScope st) f cdv A outer s H E).env (cxOf (L2.CX P w) P w K mg base N qual (defScope st) f cdv A outer s H E).xe →
      Tk (cxOf (L2.CX P w) P w K mg base N qual (defScope st) f cdv A outer s H E) B →
      ∃ r, PSsp (cxOf (L2.CX P w) P w K mg base N qual (defScope st) f cdv A outer s H E) B (defBody st) r ∧ ∀ ds Q, R ds Q B.Ed → r (startE N.length ds) { nx := fun _ => Q .non, rt := Q }) : FnG P w K mg base (L2.CX P w) (k + 1) f (spP K R) := by
  refine zfnGC F S (fun vs H Q E ⟨ms, F, ds, Qd, Ed, _, r, h, _⟩ => by rw [r.len]; exact len _ _ _ h) hb fun cdv ecd A outer s H vs Q E hr h => ?_
  obtain ⟨ms, F, ds, Qd, Ed, t, r, h, kq, ke⟩ := h
  obtain ⟨rr, h1, h2⟩ := hbody cdv ecd A outer s H E ⟨ms, F, H, Ed⟩ t.1 hr (px_of fun cls d H' ⟨F', x, g, t', xr, z⟩ => ke cls d F' H' x g t' xr z) po_of (tk_of fun cls d H' ⟨F', x, g, t', xr, z⟩ => ke cls d F' H' x g t' xr z)
  refine ⟨_, h1, F, _, _, iv_start (B := ⟨ms, F, H, Ed⟩) t r, h2 ds Qd h, ?_, ?_, ?_, ?_⟩
  · intro σ' ρ' F' H' _ I' z
    exact kq .non F' H' .non I'.go I'.tp .non z
  · intro v d F' H' g t' r' z
    exact kq v F' H' d g t' r' z
  · intro _ _ _ _ _ _ z; exact z
  · intro _ _ _ _ _ _ z; exact z
end
end Y
namespace Y
open PySem PySem.Spec PyProof.Rows L2 Z
/-! ### shown texts are texts of real signs -/
def okU (s : Str) : Prop := ∀ c ∈ s.cps.toList, c < 0x110000
theorem okU_iff {s : Str} : okU s ↔ PyData.strOk s = true := by
  unfold okU PyData.strOk
  rw [Array.all_eq_true']
  simp [Array.mem_toList_iff]
theorem okU_app {a b : Str} (h : okU a) (h' : okU b) : okU (a ++ b) := by
  intro c hc
  have e : (a ++ b).cps.toList = a.cps.toList ++ b.cps.toList := by
    show (a.cps ++ b.cps).toList = _
    simp
  rw [e] at hc
  rcases List.mem_append.mp hc with z | z
  · exact h c z
  · exact h' c z
theorem chr_lt (c : Char) : c.toNat < 0x110000 := by
  rcases c.valid with h | h
  · exact Nat.lt_trans h (by decide)
  · exact h.2
theorem okU_lit (x : String) : okU (Str.ofString x) := by
  intro c hc
  have e : (Str.ofString x).cps.toList = x.toList.map Char.toNat := by
    rw [Str.ofString_eq_toList]
  rw [e] at hc
  obtain ⟨a, _, rfl⟩ := List.mem_map.mp hc
  exact chr_lt a
theorem okU_from : ∀ (ts : List Str) (k : Nat) (acc : Str), okU acc → (∀ t ∈ ts, okU t) → okU (PySem.textFrom k acc ts)
  | [], _, _, h, _ => h
  | t :: ts, k, acc, h, ht => okU_from ts (k + 1) _ (okU_app (okU_app h (okU_lit _)) (ht t List.mem_cons_self)) fun u hu => ht u (List.mem_cons_of_mem _ hu)
theorem okU_join {sep : Str} (hs : okU sep) : ∀ (ts : List Str), (∀ t ∈ ts, okU t) → okU (Str.join sep ts)
  | [], _ => fun c hc => by
    have e : (Str.join sep []).cps.toList = [] := rfl
    rw [e] at hc
    cases hc
  | [x], h => h x List.mem_cons_self
  | x :: y :: r, h => okU_app (okU_app (h x List.mem_cons_self) hs) (okU_join hs (y :: r) fun t ht => h t (List.mem_cons_of_mem _ ht))
theorem okU_char {q c : Nat} (hq : q < 0x110000) (hc : c < 0x110000) : ∀ d ∈ PySem.Builtin.Str.reprChar q c, d < 0x110000 := by
  have hex : ∀ (w : Nat) (d : Nat), d ∈ List.replicate (w - ((Nat.toDigits 16 c).map Char.toNat).length) 48 ++ (Nat.toDigits 16 c).map Char.toNat → d < 0x110000 := fun w d h => by
    rcases List.mem_append.mp h with z | z
    · rw [(List.mem_replicate.mp z).2]; decide
    · obtain ⟨a, _, rfl⟩ := List.mem_map.mp z
      exact chr_lt a
  intro d hd
  unfold PySem.Builtin.Str.reprChar at hd
  dsimp only at hd
  repeat' split at hd
  all_goals first
    | (simp only [List.mem_cons, List.not_mem_nil, or_false] at hd; omega)
    | (rcases List.mem_append.mp hd with z | z
       · simp only [List.mem_cons, List.not_mem_nil, or_false] at z; omega
       · exact hex _ d z)
theorem okU_fold {q : Nat} (hq : q < 0x110000) : ∀ (l : List Nat) (acc : Array Nat), (∀ c ∈ l, c < 0x110000) → (∀ c ∈ acc.toList, c < 0x110000) → ∀ c ∈ (l.foldl (fun out c => out ++ (PySem.Builtin.Str.reprChar q c).toArray) acc).toList, c < 0x110000
  | [], _, _, h => h
  | c :: r, acc, hl, h => okU_fold hq r _ (fun d hd => hl d (List.mem_cons_of_mem _ hd)) fun d hd => by
    rw [Array.toList_append] at hd
    rcases List.mem_append.mp hd with z | z
    · exact h d z
    · exact okU_char hq (hl c List.mem_cons_self) d (by simpa using z)
theorem okU_repr {x : Str} (h : okU x) : okU (PySem.reprText x) := by
  have hq : PySem.reprQuote x < 0x110000 := by
    unfold PySem.reprQuote
    split <;> decide
  intro c hc
  unfold PySem.reprText at hc
  rw [show ((⟨(x.cps.foldl (fun out c => out ++ (PySem.Builtin.Str.reprChar (PySem.reprQuote x) c).toArray) #[PySem.reprQuote x]).push (PySem.reprQuote x)⟩ : Str)).cps.toList = _ ++ _ from Array.toList_push] at hc
  rcases List.mem_append.mp hc with z | z
  · rw [← Array.foldl_toList] at z
    exact okU_fold hq _ _ h (fun d hd => by
      have : d = PySem.reprQuote x := by simpa using hd
      rw [this]; exact hq) c z
  · have : c = PySem.reprQuote x := by simpa using z
    rw [this]; exact hq
theorem okU_shown : ∀ (n : Nat) (d : D), okD n d = true → okU (toP d).shown := by
  have key : ∀ (n : Nat), (∀ d, okD n d = true → okU (toP d).shown) → ∀ ds : List D, ds.all (okD n) = true → ∀ t ∈ PyData.shownAll (toPs ds), okU t := by
    intro n ih ds
    induction ds with
    | nil => intro _ t ht; cases ht
    | cons d ds ih2 =>
      intro h t ht
      rw [List.all_cons, Bool.and_eq_true] at h
      rcases List.mem_cons.mp (show t ∈ (toP d).shown :: PyData.shownAll (toPs ds) from ht) with e | e
      · rw [e]; exact ih d h.1
      · exact ih2 h.2 t e
  have base : ∀ (n : Nat) (d : D), (∀ ds, d ≠ .lst ds) → (∀ ds, d ≠ .tup ds) → okD n d = true → okU (toP d).shown := by
    intro n d h1 h2 h
    cases d with
    | non => exact okU_lit _
    | bl b => cases b <;> exact okU_lit _
    | int i => exact okU_lit _
    | str s => exact okU_repr (okU_iff.mpr (by cases n <;> exact h))
    | lst ds => exact absurd rfl (h1 ds)
    | tup ds => exact absurd rfl (h2 ds)
    | _ => cases n <;> cases h
  intro n
  induction n with
  | zero =>
    intro d h
    cases d with
    | lst ds => cases h
    | tup ds => cases h
    | _ => exact base 0 _ (fun _ z => nomatch z) (fun _ z => nomatch z) h
  | succ n ih =>
    intro d h
    cases d with
    | lst ds => exact okU_app (okU_from _ 0 _ (okU_lit _) (key n ih ds h)) (okU_lit _)
    | tup ds =>
      refine okU_app (okU_app (okU_lit _) (okU_join (okU_lit _) _ (key n ih ds h))) ?_
      exact okU_lit _
    | _ => exact base (n + 1) _ (fun _ z => nomatch z) (fun _ z => nomatch z) h
/-- .. as data that may be compared -/
theorem okD_sh {n k : Nat} {d : D} (h : okD k d = true) : okD n (.str (shD d)) = true := by
  have := okU_iff.mp (okU_shown k d h)
  cases n <;> exact this
theorem okD_shE {n : Nat} : okD n (.str (shD (.dic [] []))) = true := by
  have : PyData.strOk (shD (.dic [] [])) = true := by decide +kernel
  cases n <;> exact this
/-! ### s.upper() -/
def dUpper (d : D) (Q : D → Prop) : Prop := match d with
  | .str s => s.length ≤ 100000 ∧ Q (.str (Txt.upper s))
  | _ => False
theorem y_upper {X : Cx} {B : Bs} {o : Expr} {ro : Rd} {pos apos : Pos} (ho : PEp X B o ro) (hbase : attributeBase o "upper" X.env (eval o X.env) = eval o X.env := by rfl) (hline : (apos.endLine == pos.line) = true := by rfl) :
    PEp X B (.Call (.Attribute o "upper" apos) [] [] pos) (fun ρ Q => ro ρ fun d => dUpper d Q) :=
  pe_imp (pe_upper ho hbase hline) fun σ H Q ⟨F, ρ, Qd, I, z, k⟩ => ⟨F, ρ, _, I, z, fun v F1 H1 d g1 t1 r1 z1 => by
    unfold dUpper at z1
    split at z1
    · cases r1
      exact ⟨⟨_, rfl⟩, _, rfl, rfl, Nat.le_trans z1.1 (by decide), k _ F1 H1 _ g1 t1 (.str _) z1.2⟩
    · exact z1.elim⟩
/-! ### weaker promises -/
section
variable {P : Program} {w : World} {K : Frg} {mg : Str → Option Value} {base : Heap} {k : Nat} {f : Addr} {R R' : RdF} {C : Str}
theorem FnG.weak (F : FnG P w K mg base (L2.CX P w) k f (spP K R)) (h : ∀ ds Q E, R' ds Q E → R ds Q E) : FnG P w K mg base (L2.CX P w) k f (spP K R') :=
  F.imp fun vs H Q E ⟨ms, F, ds, Qd, Ed, t, r, z, kq, ke⟩ => ⟨ms, F, ds, Qd, Ed, t, r, h _ _ _ z, kq, ke⟩
theorem FnG.weakI (F : FnG P w K mg base (L2.CX P w) k f (spI K C R)) (h : ∀ ds Q E, R' ds Q E → R ds Q E) : FnG P w K mg base (L2.CX P w) k f (spI K C R') :=
  F.imp fun vs H Q E ⟨ms, F, Hb, x, args, ds, Qd, Ed, e, g, s, n, t, dx, r, z, kq, ke⟩ => ⟨ms, F, Hb, x, args, ds, Qd, Ed, e, g, s, n, t, dx, r, h _ _ _ z, kq, ke⟩
end
theorem dflR_w {R R' : RdF} {n : Nat} {d : D} (h : ∀ ds Q E, R' ds Q E → R ds Q E) : ∀ ds Q E, dflR R' n d ds Q E → dflR R n d ds Q E := fun ds Q E z => by
  unfold dflR at z ⊢
  cases e : Nat.beq ds.length n with
  | true => rw [e] at z; exact h _ _ _ z
  | false => rw [e] at z; exact h _ _ _ z
/-! ### small data, by a check -/
mutual
def shb : D → Bool
  | .non | .bl _ => true
  | .int i => decide (i.natAbs < 18446744073709551616)
  | .str s => PyData.strOk s
  | .lst ds => shbs ds
  | .tup ds => shbs ds
  | _ => false
def shbs : List D → Bool
  | [] => true
  | d :: ds => shb d && shbs ds
end
mutual
theorem shb_ok : ∀ d : D, shb d = true → shP 0 d
  | .non, _ => trivial
  | .bl _, _ => trivial
  | .int i, h => by
    have h := of_decide_eq_true (show decide (i.natAbs < 18446744073709551616) = true from h)
    show i.natAbs < 2 ^ 1900
    exact Nat.lt_of_lt_of_le h (Nat.le_trans (show (18446744073709551616 : Nat) ≤ 2 ^ 64 by decide) (Nat.pow_le_pow_right (by decide) (by decide)))
  | .str s, h => fun c hc => Nat.lt_trans (okU_iff.mpr h c hc) (by decide)
  | .lst ds, h => shbs_ok ds h
  | .tup ds, h => shbs_ok ds h
  | .obj _ _ _, h => nomatch h
  | .ty _, h => nomatch h
  | .glob _, h => nomatch h
  | .tape, h => nomatch h
  | .fn _, h => nomatch h
  | .dic _ _, h => nomatch h
theorem shbs_ok : ∀ ds : List D, shbs ds = true → shPs 0 ds
  | [], _ => trivial
  | d :: ds, h => by
    obtain ⟨h1, h2⟩ := He.ba (show (shb d && shbs ds) = true from h)
    exact ⟨shb_ok d h1, shbs_ok ds h2⟩
end
/-- what may be shown -/
def shB (d : D) : Prop := shT 0 d ∧ (toP d).bulk ≤ 8000 ∧ (toP d).depth ≤ 40
def knB : D → Bool
  | .obj _ _ _ | .ty _ | .glob _ | .tape | .fn _ => false
  | _ => true
def isE : D → Bool
  | .dic [] [] => true
  | _ => false
def smD (d : D) : Bool := (isE d || (shb d && okD 8 d)) && (decide ((toP d).bulk ≤ 8000) && (decide ((toP d).depth ≤ 40) && knB d))
theorem isE_eq {d : D} (h : isE d = true) : d = .dic [] [] := by
  unfold isE at h
  split at h
  · rfl
  · cases h
theorem smD_sh {d : D} (h : smD d = true) : shB d := by
  obtain ⟨h1, h⟩ := He.ba h
  obtain ⟨h2, h⟩ := He.ba h
  obtain ⟨h3, _⟩ := He.ba h
  refine ⟨?_, of_decide_eq_true h2, of_decide_eq_true h3⟩
  rcases Bool.or_eq_true_iff.mp h1 with z | z
  · rw [isE_eq z]; exact ⟨rfl, rfl⟩
  · exact shT.of (shb_ok d (He.ba z).1)
theorem smD_ok {d : D} (h : smD d = true) : okD 8 (.str (shD d)) = true := by
  obtain ⟨h1, h⟩ := He.ba h
  rcases Bool.or_eq_true_iff.mp h1 with z | z
  · rw [isE_eq z]; exact okD_shE
  · exact okD_sh (He.ba z).2
theorem smD_kn {d : D} (h : smD d = true) : knB d = true := (He.ba (He.ba (He.ba h).2).2).2
theorem all_at {α : Type} {p : α → Bool} {l : List α} {i : Nat} {d : α} (h : l.all p = true) (e : l[i]? = some d) : p d = true := List.all_eq_true.mp h d (List.mem_of_getElem? e)
end Y
namespace K08
open PySem PySem.Spec PyProof.Rows L2 Z Y
def topS (i : Nat) : Stmt := PySem.Challenge.pw_carpets_k08_invalid_motions.main.body.getD i (.Pass ⟨0, 0, 0, 0⟩)
abbrev s_InvalidPlace_UinitU : Stmt := (inClass (topS 3) 0)
abbrev N_InvalidPlace_UinitU : List Str := ["self", "value"]
abbrev ps_InvalidPlace_UinitU : List Str := ["self", "value"]
theorem sc_InvalidPlace_UinitU : FnScope N_InvalidPlace_UinitU ps_InvalidPlace_UinitU (defScope s_InvalidPlace_UinitU) := ⟨rfl, rfl, rfl, by decide +kernel, rfl, by decide +kernel, by decide +kernel⟩
abbrev s_InvalidMotion_UinitU : Stmt := (inClass (topS 4) 0)
abbrev N_InvalidMotion_UinitU : List Str := ["self", "value"]
abbrev ps_InvalidMotion_UinitU : List Str := ["self", "value"]
theorem sc_InvalidMotion_UinitU : FnScope N_InvalidMotion_UinitU ps_InvalidMotion_UinitU (defScope s_InvalidMotion_UinitU) := ⟨rfl, rfl, rfl, by decide +kernel, rfl, by decide +kernel, by decide +kernel⟩
abbrev s_InvalidNumber_UinitU : Stmt := (inClass (topS 5) 0)
abbrev N_InvalidNumber_UinitU : List Str := ["self", "value"]
abbrev ps_InvalidNumber_UinitU : List Str := ["self", "value"]
theorem sc_InvalidNumber_UinitU : FnScope N_InvalidNumber_UinitU ps_InvalidNumber_UinitU (defScope s_InvalidNumber_UinitU) := ⟨rfl, rfl, rfl, by decide +kernel, rfl, by decide +kernel, by decide +kernel⟩
abbrev s_is_integer : Stmt := (topS 7)
abbrev N_is_integer : List Str := ["value"]
abbrev ps_is_integer : List Str := ["value"]
theorem sc_is_integer : FnScope N_is_integer ps_is_integer (defScope s_is_integer) := ⟨rfl, rfl, rfl, by decide +kernel, rfl, by decide +kernel, by decide +kernel⟩
abbrev s_is_place : Stmt := (topS 8)
abbrev N_is_place : List Str := ["value", "number"]
abbrev ps_is_place : List Str := ["value"]
theorem sc_is_place : FnScope N_is_place ps_is_place (defScope s_is_place) := ⟨rfl, rfl, rfl, by decide +kernel, rfl, by decide +kernel, by decide +kernel⟩
abbrev s_check_place : Stmt := (topS 9)
abbrev N_check_place : List Str := ["value"]
abbrev ps_check_place : List Str := ["value"]
theorem sc_check_place : FnScope N_check_place ps_check_place (defScope s_check_place) := ⟨rfl, rfl, rfl, by decide +kernel, rfl, by decide +kernel, by decide +kernel⟩
abbrev s_plus : Stmt := (topS 10)
abbrev N_plus : List Str := ["one", "other"]
abbrev ps_plus : List Str := ["one", "other"]
theorem sc_plus : FnScope N_plus ps_plus (defScope s_plus) := ⟨rfl, rfl, rfl, by decide +kernel, rfl, by decide +kernel, by decide +kernel⟩
abbrev s_turned : Stmt := (topS 14)
abbrev N_turned : List Str := ["kind", "place", "p", "q", "r", "s"]
abbrev ps_turned : List Str := ["kind", "place"]
theorem sc_turned : FnScope N_turned ps_turned (defScope s_turned) := ⟨rfl, rfl, rfl, by decide +kernel, rfl, by decide +kernel, by decide +kernel⟩
abbrev s_joined_kind : Stmt := (topS 15)
abbrev N_joined_kind : List Str := ["first", "second", "east", "north", "matrix", "kind", "other"]
abbrev ps_joined_kind : List Str := ["first", "second"]
theorem sc_joined_kind : FnScope N_joined_kind ps_joined_kind (defScope s_joined_kind) := ⟨rfl, rfl, rfl, by decide +kernel, rfl, by decide +kernel, by decide +kernel⟩
abbrev s_Motion_UinitU : Stmt := (inClass (topS 16) 1)
abbrev N_Motion_UinitU : List Str := ["self", "kind", "shift"]
abbrev ps_Motion_UinitU : List Str := ["self", "kind", "shift"]
theorem sc_Motion_UinitU : FnScope N_Motion_UinitU ps_Motion_UinitU (defScope s_Motion_UinitU) := ⟨rfl, rfl, rfl, by decide +kernel, rfl, by decide +kernel, by decide +kernel⟩
abbrev s_Motion_by : Stmt := (inClass (topS 16) 2)
abbrev N_Motion_by : List Str := ["shift"]
abbrev ps_Motion_by : List Str := ["shift"]
theorem sc_Motion_by : FnScope N_Motion_by ps_Motion_by (defScope s_Motion_by) := ⟨rfl, rfl, rfl, by decide +kernel, rfl, by decide +kernel, by decide +kernel⟩
abbrev s_Motion_kind : Stmt := (inClass (topS 16) 3)
abbrev N_Motion_kind : List Str := ["self"]
abbrev ps_Motion_kind : List Str := ["self"]
theorem sc_Motion_kind : FnScope N_Motion_kind ps_Motion_kind (defScope s_Motion_kind) := ⟨rfl, rfl, rfl, by decide +kernel, rfl, by decide +kernel, by decide +kernel⟩
abbrev s_Motion_shift : Stmt := (inClass (topS 16) 4)
abbrev N_Motion_shift : List Str := ["self"]
abbrev ps_Motion_shift : List Str := ["self"]
theorem sc_Motion_shift : FnScope N_Motion_shift ps_Motion_shift (defScope s_Motion_shift) := ⟨rfl, rfl, rfl, by decide +kernel, rfl, by decide +kernel, by decide +kernel⟩
abbrev s_Motion_image : Stmt := (inClass (topS 16) 6)
abbrev N_Motion_image : List Str := ["self", "place"]
abbrev ps_Motion_image : List Str := ["self", "place"]
theorem sc_Motion_image : FnScope N_Motion_image ps_Motion_image (defScope s_Motion_image) := ⟨rfl, rfl, rfl, by decide +kernel, rfl, by decide +kernel, by decide +kernel⟩
abbrev s_Motion_UcallU : Stmt := (inClass (topS 16) 7)
abbrev N_Motion_UcallU : List Str := ["self", "place"]
abbrev ps_Motion_UcallU : List Str := ["self", "place"]
theorem sc_Motion_UcallU : FnScope N_Motion_UcallU ps_Motion_UcallU (defScope s_Motion_UcallU) := ⟨rfl, rfl, rfl, by decide +kernel, rfl, by decide +kernel, by decide +kernel⟩
abbrev s_Motion_UmulU : Stmt := (inClass (topS 16) 8)
abbrev N_Motion_UmulU : List Str := ["self", "other"]
abbrev ps_Motion_UmulU : List Str := ["self", "other"]
theorem sc_Motion_UmulU : FnScope N_Motion_UmulU ps_Motion_UmulU (defScope s_Motion_UmulU) := ⟨rfl, rfl, rfl, by decide +kernel, rfl, by decide +kernel, by decide +kernel⟩
abbrev s_Motion_UinvertU : Stmt := (inClass (topS 16) 9)
abbrev N_Motion_UinvertU : List Str := ["self", "kind", "x", "y"]
abbrev ps_Motion_UinvertU : List Str := ["self"]
theorem sc_Motion_UinvertU : FnScope N_Motion_UinvertU ps_Motion_UinvertU (defScope s_Motion_UinvertU) := ⟨rfl, rfl, rfl, by decide +kernel, rfl, by decide +kernel, by decide +kernel⟩
abbrev s_Motion_repeated : Stmt := (inClass (topS 16) 10)
abbrev N_Motion_repeated : List Str := ["self", "number", "power", "left", "result"]
abbrev ps_Motion_repeated : List Str := ["self", "number"]
theorem sc_Motion_repeated : FnScope N_Motion_repeated ps_Motion_repeated (defScope s_Motion_repeated) := ⟨rfl, rfl, rfl, by decide +kernel, rfl, by decide +kernel, by decide +kernel⟩
abbrev s__law_tape : Stmt := (topS 18)
abbrev N__law_tape : List Str := ["_law_script"]
abbrev ps__law_tape : List Str := ["_law_script"]
theorem sc__law_tape : FnScope N__law_tape ps__law_tape (defScope s__law_tape) := ⟨rfl, rfl, rfl, by decide +kernel, rfl, by decide +kernel, by decide +kernel⟩
abbrev s__law_draw : Stmt := (topS 19)
abbrev N__law_draw : List Str := ["_law_tape_here", "_law_many", "_law_digit", "_law_cell", "_law_near"]
abbrev ps__law_draw : List Str := ["_law_tape_here", "_law_many"]
theorem sc__law_draw : FnScope N__law_draw ps__law_draw (defScope s__law_draw) := ⟨rfl, rfl, rfl, by decide +kernel, rfl, by decide +kernel, by decide +kernel⟩
abbrev s__law_great : Stmt := (topS 20)
abbrev N__law_great : List Str := ["_law_tape_here", "_law_size", "_law_high", "_law_value"]
abbrev ps__law_great : List Str := ["_law_tape_here", "_law_size"]
theorem sc__law_great : FnScope N__law_great ps__law_great (defScope s__law_great) := ⟨rfl, rfl, rfl, by decide +kernel, rfl, by decide +kernel, by decide +kernel⟩
abbrev s__law_place : Stmt := (topS 21)
abbrev N__law_place : List Str := ["_law_tape_here"]
abbrev ps__law_place : List Str := ["_law_tape_here"]
theorem sc__law_place : FnScope N__law_place ps__law_place (defScope s__law_place) := ⟨rfl, rfl, rfl, by decide +kernel, rfl, by decide +kernel, by decide +kernel⟩
abbrev s__law_kinds : Stmt := (topS 22)
abbrev N__law_kinds : List Str := []
abbrev ps__law_kinds : List Str := []
theorem sc__law_kinds : FnScope N__law_kinds ps__law_kinds (defScope s__law_kinds) := ⟨rfl, rfl, rfl, by decide +kernel, rfl, by decide +kernel, by decide +kernel⟩
abbrev s__law_heard : Stmt := (topS 23)
abbrev N__law_heard : List Str := ["_law_call", "e"]
abbrev ps__law_heard : List Str := ["_law_call"]
theorem sc__law_heard : FnScope N__law_heard ps__law_heard (defScope s__law_heard) := ⟨rfl, rfl, rfl, by decide +kernel, rfl, by decide +kernel, by decide +kernel⟩
abbrev s_law : Stmt := (topS 24)
abbrev N_law : List Str := ["_law_script", "_law_tape_here", "_law_good", "_law_place_here", "_law_spots", "_law_made", "_law_odd", "_law_other"]
abbrev ps_law : List Str := ["_law_script"]
theorem sc_law : FnScope N_law ps_law (defScope s_law) := ⟨rfl, rfl, rfl, by decide +kernel, rfl, by decide +kernel, by decide +kernel⟩
abbrev tab_BACK : List (Str × D) := [("left", (.str "right")), ("right", (.str "left"))]
abbrev tab_MATRICES : List (Str × D) := [("none", (.tup [(.int (1)), (.int (0)), (.int (0)), (.int (1))])), ("left", (.tup [(.int (0)), (.int (-1)), (.int (1)), (.int (0))])), ("half", (.tup [(.int (-1)), (.int (0)), (.int (0)), (.int (-1))])), ("right", (.tup [(.int (0)), (.int (1)), (.int (-1)), (.int (0))])), ("flip", (.tup [(.int (1)), (.int (0)), (.int (0)), (.int (-1))])), ("mirror", (.tup [(.int (-1)), (.int (0)), (.int (0)), (.int (1))])), ("swap", (.tup [(.int (0)), (.int (1)), (.int (1)), (.int (0))])), ("cross", (.tup [(.int (0)), (.int (-1)), (.int (-1)), (.int (0))]))]
structure Tx (w : World) (K : Frg) (mg : Str → Option Value) : Prop where
  b_abs : mg "abs" = none
  b_all : mg "all" = none
  b_bool : mg "bool" = none
  b_int : mg "int" = none
  b_isinstance : mg "isinstance" = none
  b_len : mg "len" = none
  b_list : mg "list" = none
  b_repr : mg "repr" = none
  b_str : mg "str" = none
  b_tuple : mg "tuple" = none
  cl_Motion : Cls K (He.ga K "Motion")
  co_Motion : StX.CallO K (He.ga K "Motion") (He.ma K (He.ga K "Motion") "__call__")
  df_Motion_UinitU : vOk K 4 (.tup [(.int (0)), (.int (0))]) (.ref (He.dflAt ("Motion", some "__init__") 0 K)) = true
  ec_InvalidMotion : ExcC K (He.ga K "InvalidMotion")
  ec_InvalidNumber : ExcC K (He.ga K "InvalidNumber")
  ec_InvalidPlace : ExcC K (He.ga K "InvalidPlace")
  exf_InvalidNumber_InvalidMotion : PySem.W.exmOne K (.ref (He.ga K "InvalidNumber")) (.ref (He.ga K "InvalidMotion")) = some false
  exf_InvalidNumber_InvalidPlace : PySem.W.exmOne K (.ref (He.ga K "InvalidNumber")) (.ref (He.ga K "InvalidPlace")) = some false
  exf_InvalidPlace_InvalidMotion : PySem.W.exmOne K (.ref (He.ga K "InvalidPlace")) (.ref (He.ga K "InvalidMotion")) = some false
  ext_InvalidMotion_InvalidMotion : PySem.W.exmOne K (.ref (He.ga K "InvalidMotion")) (.ref (He.ga K "InvalidMotion")) = some true
  ext_InvalidNumber_InvalidNumber : PySem.W.exmOne K (.ref (He.ga K "InvalidNumber")) (.ref (He.ga K "InvalidNumber")) = some true
  ext_InvalidPlace_InvalidPlace : PySem.W.exmOne K (.ref (He.ga K "InvalidPlace")) (.ref (He.ga K "InvalidPlace")) = some true
  g_BACK : mg "BACK" = some (.ref (He.ga K "BACK"))
  g_CarpetError : mg "CarpetError" = some (.ref (He.ga K "CarpetError"))
  g_InvalidMotion : mg "InvalidMotion" = some (.ref (He.ga K "InvalidMotion"))
  g_InvalidNumber : mg "InvalidNumber" = some (.ref (He.ga K "InvalidNumber"))
  g_InvalidPlace : mg "InvalidPlace" = some (.ref (He.ga K "InvalidPlace"))
  g_MATRICES : mg "MATRICES" = some (.ref (He.ga K "MATRICES"))
  g_Motion : mg "Motion" = some (.ref (He.ga K "Motion"))
  g__law_draw : mg "_law_draw" = some (.ref (He.ga K "_law_draw"))
  g__law_great : mg "_law_great" = some (.ref (He.ga K "_law_great"))
  g__law_heard : mg "_law_heard" = some (.ref (He.ga K "_law_heard"))
  g__law_kinds : mg "_law_kinds" = some (.ref (He.ga K "_law_kinds"))
  g__law_place : mg "_law_place" = some (.ref (He.ga K "_law_place"))
  g__law_tape : mg "_law_tape" = some (.ref (He.ga K "_law_tape"))
  g_check_place : mg "check_place" = some (.ref (He.ga K "check_place"))
  g_is_integer : mg "is_integer" = some (.ref (He.ga K "is_integer"))
  g_is_place : mg "is_place" = some (.ref (He.ga K "is_place"))
  g_joined_kind : mg "joined_kind" = some (.ref (He.ga K "joined_kind"))
  g_law : mg "law" = some (.ref (He.ga K "law"))
  g_plus : mg "plus" = some (.ref (He.ga K "plus"))
  g_turned : mg "turned" = some (.ref (He.ga K "turned"))
  k__law_draw : PySem.W.keepIn K (.ref (He.ga K "_law_draw")) = true
  k__law_great : PySem.W.keepIn K (.ref (He.ga K "_law_great")) = true
  k__law_heard : PySem.W.keepIn K (.ref (He.ga K "_law_heard")) = true
  k__law_kinds : PySem.W.keepIn K (.ref (He.ga K "_law_kinds")) = true
  k__law_place : PySem.W.keepIn K (.ref (He.ga K "_law_place")) = true
  k__law_tape : PySem.W.keepIn K (.ref (He.ga K "_law_tape")) = true
  k_check_place : PySem.W.keepIn K (.ref (He.ga K "check_place")) = true
  k_is_integer : PySem.W.keepIn K (.ref (He.ga K "is_integer")) = true
  k_is_place : PySem.W.keepIn K (.ref (He.ga K "is_place")) = true
  k_joined_kind : PySem.W.keepIn K (.ref (He.ga K "joined_kind")) = true
  k_plus : PySem.W.keepIn K (.ref (He.ga K "plus")) = true
  k_turned : PySem.W.keepIn K (.ref (He.ga K "turned")) = true
  kt_InvalidMotion_CarpetError : PySem.W.kitOne K (.ref (He.ga K "InvalidMotion")) (.ref (He.ga K "CarpetError")) = some true
  kt_InvalidNumber_CarpetError : PySem.W.kitOne K (.ref (He.ga K "InvalidNumber")) (.ref (He.ga K "CarpetError")) = some true
  kt_InvalidPlace_CarpetError : PySem.W.kitOne K (.ref (He.ga K "InvalidPlace")) (.ref (He.ga K "CarpetError")) = some true
  lf_law : LamF K mg "law"
  m_Motion_UinvertU : Meth K (He.ga K "Motion") "__invert__" (He.ma K (He.ga K "Motion") "__invert__")
  m_Motion_UmulU : Meth K (He.ga K "Motion") "__mul__" (He.ma K (He.ga K "Motion") "__mul__")
  m_Motion_image : Meth K (He.ga K "Motion") "image" (He.ma K (He.ga K "Motion") "image")
  m_Motion_repeated : Meth K (He.ga K "Motion") "repeated" (He.ma K (He.ga K "Motion") "repeated")
  mk_Motion : Mk K (He.ga K "Motion") (He.ma K (He.ga K "Motion") "__init__")
  na_Motion_own_kind : NoAttr K (He.ga K "Motion") "own_kind"
  na_Motion_own_shift : NoAttr K (He.ga K "Motion") "own_shift"
  ow_Motion : Own K (He.ga K "Motion")
  p_Motion_kind : PropOf K (He.ga K "Motion") "kind" (He.ma K (He.ga K "Motion") "kind") (He5.wf K (He.ga K "Motion") "property" "kind")
  p_Motion_shift : PropOf K (He.ga K "Motion") "shift" (He.ma K (He.ga K "Motion") "shift") (He5.wf K (He.ga K "Motion") "property" "shift")
  sm_Motion_by : SMet K (He.ga K "Motion") "by" (He.ma K (He.ga K "Motion") "by") (He5.wf K (He.ga K "Motion") "staticmethod" "by")
  tb_BACK : KTab K w "BACK" tab_BACK
  tb_MATRICES : KTab K w "MATRICES" tab_MATRICES
  xc_InvalidMotion : XcB K (He.ga K "InvalidMotion") (He.ma K (He.ga K "InvalidMotion") "__init__") "value"
  xc_InvalidNumber : XcB K (He.ga K "InvalidNumber") (He.ma K (He.ga K "InvalidNumber") "__init__") "value"
  xc_InvalidPlace : XcB K (He.ga K "InvalidPlace") (He.ma K (He.ga K "InvalidPlace") "__init__") "value"
  d_InvalidPlace_UinitU : DefAt K "__init__" "InvalidPlace.__init__" s_InvalidPlace_UinitU (He.ma K (He.ga K "InvalidPlace") "__init__")
  d_InvalidMotion_UinitU : DefAt K "__init__" "InvalidMotion.__init__" s_InvalidMotion_UinitU (He.ma K (He.ga K "InvalidMotion") "__init__")
  d_InvalidNumber_UinitU : DefAt K "__init__" "InvalidNumber.__init__" s_InvalidNumber_UinitU (He.ma K (He.ga K "InvalidNumber") "__init__")
  d_is_integer : DefAt K "is_integer" "is_integer" s_is_integer (He.ga K "is_integer")
  d_is_place : DefAt K "is_place" "is_place" s_is_place (He.ga K "is_place")
  d_check_place : DefAt K "check_place" "check_place" s_check_place (He.ga K "check_place")
  d_plus : DefAt K "plus" "plus" s_plus (He.ga K "plus")
  d_turned : DefAt K "turned" "turned" s_turned (He.ga K "turned")
  d_joined_kind : DefAt K "joined_kind" "joined_kind" s_joined_kind (He.ga K "joined_kind")
  d_Motion_UinitU : DefAtD K "__init__" "Motion.__init__" s_Motion_UinitU (He.ma K (He.ga K "Motion") "__init__") (.tup [(.int (0)), (.int (0))])
  d_Motion_by : DefAt K "by" "Motion.by" s_Motion_by (He5.wf K (He.ga K "Motion") "staticmethod" "by")
  d_Motion_kind : DefAt K "kind" "Motion.kind" s_Motion_kind (He5.wf K (He.ga K "Motion") "property" "kind")
  d_Motion_shift : DefAt K "shift" "Motion.shift" s_Motion_shift (He5.wf K (He.ga K "Motion") "property" "shift")
  d_Motion_image : DefAt K "image" "Motion.image" s_Motion_image (He.ma K (He.ga K "Motion") "image")
  d_Motion_UcallU : DefAt K "__call__" "Motion.__call__" s_Motion_UcallU (He.ma K (He.ga K "Motion") "__call__")
  d_Motion_UmulU : DefAt K "__mul__" "Motion.__mul__" s_Motion_UmulU (He.ma K (He.ga K "Motion") "__mul__")
  d_Motion_UinvertU : DefAt K "__invert__" "Motion.__invert__" s_Motion_UinvertU (He.ma K (He.ga K "Motion") "__invert__")
  d_Motion_repeated : DefAt K "repeated" "Motion.repeated" s_Motion_repeated (He.ma K (He.ga K "Motion") "repeated")
  d__law_tape : DefAt K "_law_tape" "_law_tape" s__law_tape (He.ga K "_law_tape")
  d__law_draw : DefAt K "_law_draw" "_law_draw" s__law_draw (He.ga K "_law_draw")
  d__law_great : DefAt K "_law_great" "_law_great" s__law_great (He.ga K "_law_great")
  d__law_place : DefAt K "_law_place" "_law_place" s__law_place (He.ga K "_law_place")
  d__law_kinds : DefAt K "_law_kinds" "_law_kinds" s__law_kinds (He.ga K "_law_kinds")
  d__law_heard : DefAt K "_law_heard" "_law_heard" s__law_heard (He.ga K "_law_heard")
  d_law : DefAt K "law" "law" s_law (He.ga K "law")
end K08
namespace K08
open PySem PySem.Spec PyProof.Rows L2 Z Y
def fs : List (Frg → Bool) := [bFree "abs", bFree "all", bFree "bool", bFree "int", bFree "isinstance", bFree "len", bFree "list", bFree "repr", bFree "str", bFree "tuple", bCls "Motion", bCallO "Motion", bDfl ("Motion", some "__init__") (.tup [(.int (0)), (.int (0))]), bExC "InvalidMotion", bExC "InvalidNumber", bExC "InvalidPlace", bEx "InvalidNumber" "InvalidMotion" false, bEx "InvalidNumber" "InvalidPlace" false, bEx "InvalidPlace" "InvalidMotion" false, bEx "InvalidMotion" "InvalidMotion" true, bEx "InvalidNumber" "InvalidNumber" true, bEx "InvalidPlace" "InvalidPlace" true, bGlo "BACK", bGlo "CarpetError", bGlo "InvalidMotion", bGlo "InvalidNumber", bGlo "InvalidPlace", bGlo "MATRICES", bGlo "Motion", bGlo "_law_draw", bGlo "_law_great", bGlo "_law_heard", bGlo "_law_kinds", bGlo "_law_place", bGlo "_law_tape", bGlo "check_place", bGlo "is_integer", bGlo "is_place", bGlo "joined_kind", bGlo "law", bGlo "plus", bGlo "turned", bKeep "_law_draw", bKeep "_law_great", bKeep "_law_heard", bKeep "_law_kinds", bKeep "_law_place", bKeep "_law_tape", bKeep "check_place", bKeep "is_integer", bKeep "is_place", bKeep "joined_kind", bKeep "plus", bKeep "turned", bKt "InvalidMotion" "CarpetError" true, bKt "InvalidNumber" "CarpetError" true, bKt "InvalidPlace" "CarpetError" true, bLamG "law", bMeth "Motion" "__invert__", bMeth "Motion" "__mul__", bMeth "Motion" "image", bMeth "Motion" "repeated", bMk "Motion", bNo "Motion" "own_kind", bNo "Motion" "own_shift", bOwn "Motion", bProp "Motion" "kind", bProp "Motion" "shift", bSM "Motion" "by", bTab "BACK" tab_BACK, bTab "MATRICES" tab_MATRICES, bXc "InvalidMotion" "value" 0, bXc "InvalidNumber" "value" 0, bXc "InvalidPlace" "value" 0]
def fn : List He5.DefA := [⟨fun K => (He.ma K (He.ga K "InvalidPlace") "__init__"), "__init__", "InvalidPlace.__init__", defArgs s_InvalidPlace_UinitU, defBody s_InvalidPlace_UinitU, defScope s_InvalidPlace_UinitU, [], []⟩, ⟨fun K => (He.ma K (He.ga K "InvalidMotion") "__init__"), "__init__", "InvalidMotion.__init__", defArgs s_InvalidMotion_UinitU, defBody s_InvalidMotion_UinitU, defScope s_InvalidMotion_UinitU, [], []⟩, ⟨fun K => (He.ma K (He.ga K "InvalidNumber") "__init__"), "__init__", "InvalidNumber.__init__", defArgs s_InvalidNumber_UinitU, defBody s_InvalidNumber_UinitU, defScope s_InvalidNumber_UinitU, [], []⟩, ⟨fun K => (He.ga K "is_integer"), "is_integer", "is_integer", defArgs s_is_integer, defBody s_is_integer, defScope s_is_integer, [], []⟩, ⟨fun K => (He.ga K "is_place"), "is_place", "is_place", defArgs s_is_place, defBody s_is_place, defScope s_is_place, [], []⟩, ⟨fun K => (He.ga K "check_place"), "check_place", "check_place", defArgs s_check_place, defBody s_check_place, defScope s_check_place, [], []⟩, ⟨fun K => (He.ga K "plus"), "plus", "plus", defArgs s_plus, defBody s_plus, defScope s_plus, [], []⟩, ⟨fun K => (He.ga K "turned"), "turned", "turned", defArgs s_turned, defBody s_turned, defScope s_turned, [], []⟩, ⟨fun K => (He.ga K "joined_kind"), "joined_kind", "joined_kind", defArgs s_joined_kind, defBody s_joined_kind, defScope s_joined_kind, [], []⟩, ⟨fun K => (He.ma K (He.ga K "Motion") "__init__"), "__init__", "Motion.__init__", defArgs s_Motion_UinitU, defBody s_Motion_UinitU, defScope s_Motion_UinitU, [.adr (He.dflAt ("Motion", some "__init__") 0)], []⟩, ⟨fun K => (He5.wf K (He.ga K "Motion") "staticmethod" "by"), "by", "Motion.by", defArgs s_Motion_by, defBody s_Motion_by, defScope s_Motion_by, [], []⟩, ⟨fun K => (He5.wf K (He.ga K "Motion") "property" "kind"), "kind", "Motion.kind", defArgs s_Motion_kind, defBody s_Motion_kind, defScope s_Motion_kind, [], []⟩, ⟨fun K => (He5.wf K (He.ga K "Motion") "property" "shift"), "shift", "Motion.shift", defArgs s_Motion_shift, defBody s_Motion_shift, defScope s_Motion_shift, [], []⟩, ⟨fun K => (He.ma K (He.ga K "Motion") "image"), "image", "Motion.image", defArgs s_Motion_image, defBody s_Motion_image, defScope s_Motion_image, [], []⟩, ⟨fun K => (He.ma K (He.ga K "Motion") "__call__"), "__call__", "Motion.__call__", defArgs s_Motion_UcallU, defBody s_Motion_UcallU, defScope s_Motion_UcallU, [], []⟩, ⟨fun K => (He.ma K (He.ga K "Motion") "__mul__"), "__mul__", "Motion.__mul__", defArgs s_Motion_UmulU, defBody s_Motion_UmulU, defScope s_Motion_UmulU, [], []⟩, ⟨fun K => (He.ma K (He.ga K "Motion") "__invert__"), "__invert__", "Motion.__invert__", defArgs s_Motion_UinvertU, defBody s_Motion_UinvertU, defScope s_Motion_UinvertU, [], []⟩, ⟨fun K => (He.ma K (He.ga K "Motion") "repeated"), "repeated", "Motion.repeated", defArgs s_Motion_repeated, defBody s_Motion_repeated, defScope s_Motion_repeated, [], []⟩, ⟨fun K => (He.ga K "_law_tape"), "_law_tape", "_law_tape", defArgs s__law_tape, defBody s__law_tape, defScope s__law_tape, [], []⟩, ⟨fun K => (He.ga K "_law_draw"), "_law_draw", "_law_draw", defArgs s__law_draw, defBody s__law_draw, defScope s__law_draw, [], []⟩, ⟨fun K => (He.ga K "_law_great"), "_law_great", "_law_great", defArgs s__law_great, defBody s__law_great, defScope s__law_great, [], []⟩, ⟨fun K => (He.ga K "_law_place"), "_law_place", "_law_place", defArgs s__law_place, defBody s__law_place, defScope s__law_place, [], []⟩, ⟨fun K => (He.ga K "_law_kinds"), "_law_kinds", "_law_kinds", defArgs s__law_kinds, defBody s__law_kinds, defScope s__law_kinds, [], []⟩, ⟨fun K => (He.ga K "_law_heard"), "_law_heard", "_law_heard", defArgs s__law_heard, defBody s__law_heard, defScope s__law_heard, [], []⟩, ⟨fun K => (He.ga K "law"), "law", "law", defArgs s_law, defBody s_law, defScope s_law, [], []⟩]
def ask : Ask := ⟨fs, fn, [(fun K => He.ga K "BACK", ["left", "right"]), (fun K => He.ga K "MATRICES", ["none", "left", "half", "right", "flip", "mirror", "swap", "cross"])], tfAll⟩
def fs0 : List (Frg → Bool) := [bFree "abs", bFree "all", bFree "bool", bFree "int", bFree "isinstance", bFree "len", bFree "list", bFree "repr", bFree "str", bFree "tuple", bCls "Motion", bCallO "Motion", bDfl ("Motion", some "__init__") (.tup [(.int (0)), (.int (0))]), bExC "InvalidMotion", bExC "InvalidNumber", bExC "InvalidPlace", bEx "InvalidNumber" "InvalidMotion" false, bEx "InvalidNumber" "InvalidPlace" false, bEx "InvalidPlace" "InvalidMotion" false, bEx "InvalidMotion" "InvalidMotion" true, bEx "InvalidNumber" "InvalidNumber" true, bEx "InvalidPlace" "InvalidPlace" true, bGlo "BACK", bGlo "CarpetError", bGlo "InvalidMotion", bGlo "InvalidNumber", bGlo "InvalidPlace", bGlo "MATRICES", bGlo "Motion", bGlo "_law_draw", bGlo "_law_great", bGlo "_law_heard", bGlo "_law_kinds", bGlo "_law_place", bGlo "_law_tape", bGlo "check_place", bGlo "is_integer", bGlo "is_place", bGlo "joined_kind", bGlo "law", bGlo "plus", bGlo "turned", bKeep "_law_draw", bKeep "_law_great", bKeep "_law_heard", bKeep "_law_kinds", bKeep "_law_place", bKeep "_law_tape", bKeep "check_place", bKeep "is_integer", bKeep "is_place", bKeep "joined_kind", bKeep "plus", bKeep "turned", bKt "InvalidMotion" "CarpetError" true, bKt "InvalidNumber" "CarpetError" true, bKt "InvalidPlace" "CarpetError" true, bLamG "law", bMeth "Motion" "__invert__", bMeth "Motion" "__mul__", bMeth "Motion" "image", bMeth "Motion" "repeated", bMk "Motion", bNo "Motion" "own_kind", bNo "Motion" "own_shift", bOwn "Motion", bProp "Motion" "kind", bProp "Motion" "shift", bSM "Motion" "by", bTab "BACK" tab_BACK, bTab "MATRICES" tab_MATRICES, bXc "InvalidMotion" "value" 0, bXc "InvalidNumber" "value" 0, bXc "InvalidPlace" "value" 0]
def fn0 : List He5.DefA := [⟨fun K => (He.ma K (He.ga K "InvalidPlace") "__init__"), "__init__", "InvalidPlace.__init__", defArgs s_InvalidPlace_UinitU, defBody s_InvalidPlace_UinitU, defScope s_InvalidPlace_UinitU, [], []⟩, ⟨fun K => (He.ma K (He.ga K "InvalidMotion") "__init__"), "__init__", "InvalidMotion.__init__", defArgs s_InvalidMotion_UinitU, defBody s_InvalidMotion_UinitU, defScope s_InvalidMotion_UinitU, [], []⟩, ⟨fun K => (He.ma K (He.ga K "InvalidNumber") "__init__"), "__init__", "InvalidNumber.__init__", defArgs s_InvalidNumber_UinitU, defBody s_InvalidNumber_UinitU, defScope s_InvalidNumber_UinitU, [], []⟩, ⟨fun K => (He.ga K "is_integer"), "is_integer", "is_integer", defArgs s_is_integer, defBody s_is_integer, defScope s_is_integer, [], []⟩, ⟨fun K => (He.ga K "is_place"), "is_place", "is_place", defArgs s_is_place, defBody s_is_place, defScope s_is_place, [], []⟩, ⟨fun K => (He.ga K "check_place"), "check_place", "check_place", defArgs s_check_place, defBody s_check_place, defScope s_check_place, [], []⟩, ⟨fun K => (He.ga K "plus"), "plus", "plus", defArgs s_plus, defBody s_plus, defScope s_plus, [], []⟩, ⟨fun K => (He.ga K "turned"), "turned", "turned", defArgs s_turned, defBody s_turned, defScope s_turned, [], []⟩, ⟨fun K => (He.ga K "joined_kind"), "joined_kind", "joined_kind", defArgs s_joined_kind, defBody s_joined_kind, defScope s_joined_kind, [], []⟩, ⟨fun K => (He.ma K (He.ga K "Motion") "__init__"), "__init__", "Motion.__init__", defArgs s_Motion_UinitU, defBody s_Motion_UinitU, defScope s_Motion_UinitU, [.adr (He.dflAt ("Motion", some "__init__") 0)], []⟩, ⟨fun K => (He5.wf K (He.ga K "Motion") "staticmethod" "by"), "by", "Motion.by", defArgs s_Motion_by, defBody s_Motion_by, defScope s_Motion_by, [], []⟩, ⟨fun K => (He5.wf K (He.ga K "Motion") "property" "kind"), "kind", "Motion.kind", defArgs s_Motion_kind, defBody s_Motion_kind, defScope s_Motion_kind, [], []⟩, ⟨fun K => (He5.wf K (He.ga K "Motion") "property" "shift"), "shift", "Motion.shift", defArgs s_Motion_shift, defBody s_Motion_shift, defScope s_Motion_shift, [], []⟩, ⟨fun K => (He.ma K (He.ga K "Motion") "image"), "image", "Motion.image", defArgs s_Motion_image, defBody s_Motion_image, defScope s_Motion_image, [], []⟩, ⟨fun K => (He.ma K (He.ga K "Motion") "__call__"), "__call__", "Motion.__call__", defArgs s_Motion_UcallU, defBody s_Motion_UcallU, defScope s_Motion_UcallU, [], []⟩, ⟨fun K => (He.ma K (He.ga K "Motion") "__mul__"), "__mul__", "Motion.__mul__", defArgs s_Motion_UmulU, defBody s_Motion_UmulU, defScope s_Motion_UmulU, [], []⟩, ⟨fun K => (He.ma K (He.ga K "Motion") "__invert__"), "__invert__", "Motion.__invert__", defArgs s_Motion_UinvertU, defBody s_Motion_UinvertU, defScope s_Motion_UinvertU, [], []⟩, ⟨fun K => (He.ma K (He.ga K "Motion") "repeated"), "repeated", "Motion.repeated", defArgs s_Motion_repeated, defBody s_Motion_repeated, defScope s_Motion_repeated, [], []⟩, ⟨fun K => (He.ga K "_law_tape"), "_law_tape", "_law_tape", defArgs s__law_tape, defBody s__law_tape, defScope s__law_tape, [], []⟩, ⟨fun K => (He.ga K "_law_draw"), "_law_draw", "_law_draw", defArgs s__law_draw, defBody s__law_draw, defScope s__law_draw, [], []⟩, ⟨fun K => (He.ga K "_law_great"), "_law_great", "_law_great", defArgs s__law_great, defBody s__law_great, defScope s__law_great, [], []⟩, ⟨fun K => (He.ga K "_law_place"), "_law_place", "_law_place", defArgs s__law_place, defBody s__law_place, defScope s__law_place, [], []⟩, ⟨fun K => (He.ga K "_law_kinds"), "_law_kinds", "_law_kinds", defArgs s__law_kinds, defBody s__law_kinds, defScope s__law_kinds, [], []⟩, ⟨fun K => (He.ga K "_law_heard"), "_law_heard", "_law_heard", defArgs s__law_heard, defBody s__law_heard, defScope s__law_heard, [], []⟩, ⟨fun K => (He.ga K "law"), "law", "law", defArgs s_law, defBody s_law, defScope s_law, [], []⟩]
def ts : List He.Tab := [(fun K => He.ga K "BACK", ["left", "right"]), (fun K => He.ga K "MATRICES", ["none", "left", "half", "right", "flip", "mirror", "swap", "cross"])]
abbrev askC : Ask := ⟨fs0, fn0, ts, tfAll⟩
theorem askC_eq : askC = ask := by kernel_rfl
theorem tx_of {w : World} {h : Heap} {K : Frg} {mg : Str → Option Value} (X : K.In h) (G : h.Ns mainGlobals mg) (c : Says ask w h K) : Tx w K mg where
  b_abs := free_of X G (c.at 0)
  b_all := free_of X G (c.at 1)
  b_bool := free_of X G (c.at 2)
  b_int := free_of X G (c.at 3)
  b_isinstance := free_of X G (c.at 4)
  b_len := free_of X G (c.at 5)
  b_list := free_of X G (c.at 6)
  b_repr := free_of X G (c.at 7)
  b_str := free_of X G (c.at 8)
  b_tuple := free_of X G (c.at 9)
  cl_Motion := cls_of (c.at 10)
  co_Motion := callO_of (c.at 11)
  df_Motion_UinitU := id (c.at 12)
  ec_InvalidMotion := exc_of (c.at 13)
  ec_InvalidNumber := exc_of (c.at 14)
  ec_InvalidPlace := exc_of (c.at 15)
  exf_InvalidNumber_InvalidMotion := ex_of (c.at 16)
  exf_InvalidNumber_InvalidPlace := ex_of (c.at 17)
  exf_InvalidPlace_InvalidMotion := ex_of (c.at 18)
  ext_InvalidMotion_InvalidMotion := ex_of (c.at 19)
  ext_InvalidNumber_InvalidNumber := ex_of (c.at 20)
  ext_InvalidPlace_InvalidPlace := ex_of (c.at 21)
  g_BACK := glo_of X G (c.at 22)
  g_CarpetError := glo_of X G (c.at 23)
  g_InvalidMotion := glo_of X G (c.at 24)
  g_InvalidNumber := glo_of X G (c.at 25)
  g_InvalidPlace := glo_of X G (c.at 26)
  g_MATRICES := glo_of X G (c.at 27)
  g_Motion := glo_of X G (c.at 28)
  g__law_draw := glo_of X G (c.at 29)
  g__law_great := glo_of X G (c.at 30)
  g__law_heard := glo_of X G (c.at 31)
  g__law_kinds := glo_of X G (c.at 32)
  g__law_place := glo_of X G (c.at 33)
  g__law_tape := glo_of X G (c.at 34)
  g_check_place := glo_of X G (c.at 35)
  g_is_integer := glo_of X G (c.at 36)
  g_is_place := glo_of X G (c.at 37)
  g_joined_kind := glo_of X G (c.at 38)
  g_law := glo_of X G (c.at 39)
  g_plus := glo_of X G (c.at 40)
  g_turned := glo_of X G (c.at 41)
  k__law_draw := keep_of (c.at 42)
  k__law_great := keep_of (c.at 43)
  k__law_heard := keep_of (c.at 44)
  k__law_kinds := keep_of (c.at 45)
  k__law_place := keep_of (c.at 46)
  k__law_tape := keep_of (c.at 47)
  k_check_place := keep_of (c.at 48)
  k_is_integer := keep_of (c.at 49)
  k_is_place := keep_of (c.at 50)
  k_joined_kind := keep_of (c.at 51)
  k_plus := keep_of (c.at 52)
  k_turned := keep_of (c.at 53)
  kt_InvalidMotion_CarpetError := kt_of (c.at 54)
  kt_InvalidNumber_CarpetError := kt_of (c.at 55)
  kt_InvalidPlace_CarpetError := kt_of (c.at 56)
  lf_law := lamG_of X G (c.at 57)
  m_Motion_UinvertU := meth_of (c.at 58)
  m_Motion_UmulU := meth_of (c.at 59)
  m_Motion_image := meth_of (c.at 60)
  m_Motion_repeated := meth_of (c.at 61)
  mk_Motion := mk_of (c.at 62)
  na_Motion_own_kind := no_of (c.at 63)
  na_Motion_own_shift := no_of (c.at 64)
  ow_Motion := own_of (c.at 65)
  p_Motion_kind := prop_of (c.at 66)
  p_Motion_shift := prop_of (c.at 67)
  sm_Motion_by := sm_of (c.at 68)
  tb_BACK := tab_of (c.at 69) (c.tb 0)
  tb_MATRICES := tab_of (c.at 70) (c.tb 1)
  xc_InvalidMotion := xcb_of (c.at 71)
  xc_InvalidNumber := xcb_of (c.at 72)
  xc_InvalidPlace := xcb_of (c.at 73)
  d_InvalidPlace_UinitU := c.df 0
  d_InvalidMotion_UinitU := c.df 1
  d_InvalidNumber_UinitU := c.df 2
  d_is_integer := c.df 3
  d_is_place := c.df 4
  d_check_place := c.df 5
  d_plus := c.df 6
  d_turned := c.df 7
  d_joined_kind := c.df 8
  d_Motion_UinitU := defD_of (c.df 9) (c.at 12)
  d_Motion_by := c.df 10
  d_Motion_kind := c.df 11
  d_Motion_shift := c.df 12
  d_Motion_image := c.df 13
  d_Motion_UcallU := c.df 14
  d_Motion_UmulU := c.df 15
  d_Motion_UinvertU := c.df 16
  d_Motion_repeated := c.df 17
  d__law_tape := c.df 18
  d__law_draw := c.df 19
  d__law_great := c.df 20
  d__law_place := c.df 21
  d__law_kinds := c.df 22
  d__law_heard := c.df 23
  d_law := c.df 24
abbrev R : PySem.W.OpenRow := PySem.W.OpenLaw.row PySem.Challenge.rw_carpets_k08_invalid_motions
abbrev hk : PySem.W.Hook := hookZ 2000 ask
def ob (s : PySem.W.SharedT) : AlZ := obsG 2000 ask (HandSHeadRun.getT s)
theorem ob_eq (s : PySem.W.SharedT) : ob s = hk.obs s.abs := obsG_eq (HandSHeadRun.getT_eq s)
def loose : List Str := (["_wall", "CarpetError", "InvalidPlace", "InvalidMotion", "InvalidNumber", "is_integer", "is_place", "check_place", "plus", "MATRICES", "BACK", "turned", "joined_kind", "Motion", "_law_tape", "_law_draw", "_law_great", "_law_place", "_law_kinds", "_law_heard"] : List Str)
abbrev qv : Program := PySem.W.view R.prog [24]
theorem run0_0 (w : World) : HandSHeadRun.RunEq R qv (hookZ 2000 ⟨fs0, fn0, ts, tfAll⟩) (fun s => obsG 2000 ⟨fs0, fn0, ts, tfAll⟩ (HandSHeadRun.getT s)) 12000 loose (w.withFollow "special-get-raises" false) := by
  intro os; kernel_rfl
theorem run0 (w : World) : HandSHeadRun.RunEq R qv hk ob 12000 loose (w.withFollow "special-get-raises" false) := by
  have h := run0_0 w
  have e : ∀ a : Ask, a = ask → HandSHeadRun.RunEq R qv (hookZ 2000 a) (fun s => obsG 2000 a (HandSHeadRun.getT s)) 12000 loose (w.withFollow "special-get-raises" false) → HandSHeadRun.RunEq R qv (hookZ 2000 ask) (fun s => obsG 2000 ask (HandSHeadRun.getT s)) 12000 loose (w.withFollow "special-get-raises" false) := fun a e h => e ▸ h
  exact e askC askC_eq h
theorem run1_0 (w : World) : HandSHeadRun.RunEq R qv (hookZ 2000 ⟨fs0, fn0, ts, tfAll⟩) (fun s => obsG 2000 ⟨fs0, fn0, ts, tfAll⟩ (HandSHeadRun.getT s)) 12000 loose (w.withFollow "special-get-raises" true) := by
  intro os; kernel_rfl
theorem run1 (w : World) : HandSHeadRun.RunEq R qv hk ob 12000 loose (w.withFollow "special-get-raises" true) := by
  have h := run1_0 w
  have e : ∀ a : Ask, a = ask → HandSHeadRun.RunEq R qv (hookZ 2000 a) (fun s => obsG 2000 a (HandSHeadRun.getT s)) 12000 loose (w.withFollow "special-get-raises" true) → HandSHeadRun.RunEq R qv (hookZ 2000 ask) (fun s => obsG 2000 ask (HandSHeadRun.getT s)) 12000 loose (w.withFollow "special-get-raises" true) := fun a e h => e ▸ h
  exact e askC askC_eq h
theorem run (w : World) : HandSHeadRun.RunEq R qv hk ob 12000 loose w := PySem.W.byRow2 "special-get-raises" (P := fun w => HandSHeadRun.RunEq R qv hk ob 12000 loose w) run0 run1 w
end K08
namespace MN
/-- what a list of shifts spans -/
inductive Sp (S : List (Int × Int)) : Int → Int → Prop
  | zero : Sp S 0 0
  | add {u v x y : Int} (k : Int) : (u, v) ∈ S → Sp S x y → Sp S (x + k * u) (y + k * v)
theorem Sp.cast {S : List (Int × Int)} {x y x' y' : Int} (h : Sp S x y) (e1 : x' = x) (e2 : y' = y) : Sp S x' y' := by rw [e1, e2]; exact h
theorem Sp.gen {S : List (Int × Int)} {u v : Int} (h : (u, v) ∈ S) : Sp S u v := (Sp.add 1 h .zero).cast (by omega) (by omega)
theorem Sp.sum {S : List (Int × Int)} {x y x' y' : Int} (h : Sp S x y) (h' : Sp S x' y') : Sp S (x + x') (y + y') := by
  induction h with
  | zero => exact h'.cast (by omega) (by omega)
  | add k m _ ih => exact (Sp.add k m ih).cast (by omega) (by omega)
theorem Sp.smul {S : List (Int × Int)} {x y : Int} (n : Int) (h : Sp S x y) : Sp S (n * x) (n * y) := by
  induction h with
  | zero => exact Sp.zero.cast (by omega) (by omega)
  | add k m _ ih => exact (Sp.add (n * k) m ih).cast (by grind) (by grind)
theorem Sp.sub {S : List (Int × Int)} {x y x' y' : Int} (h : Sp S x y) (h' : Sp S x' y') : Sp S (x - x') (y - y') := (h.sum (h'.smul (-1))).cast (by omega) (by omega)
theorem Sp.le {S S' : List (Int × Int)} (g : ∀ u v, (u, v) ∈ S → Sp S' u v) {x y : Int} (h : Sp S x y) : Sp S' x y := by
  induction h with
  | zero => exact .zero
  | add k m _ ih => exact ih.sum ((g _ _ m).smul k)
/-- two lists span the same -/
def Eqv (S S' : List (Int × Int)) : Prop := ∀ x y, Sp S x y ↔ Sp S' x y
theorem Eqv.refl (S : List (Int × Int)) : Eqv S S := fun _ _ => Iff.rfl
theorem Eqv.symm {S S' : List (Int × Int)} (h : Eqv S S') : Eqv S' S := fun x y => (h x y).symm
theorem Eqv.trans {S S' S'' : List (Int × Int)} (h : Eqv S S') (h' : Eqv S' S'') : Eqv S S'' := fun x y => (h x y).trans (h' x y)
theorem Eqv.of {S S' : List (Int × Int)} (g : ∀ u v, (u, v) ∈ S → Sp S' u v) (g' : ∀ u v, (u, v) ∈ S' → Sp S u v) : Eqv S S' := fun _ _ => ⟨Sp.le g, Sp.le g'⟩
theorem eqv_mem {S S' : List (Int × Int)} (g : ∀ p, p ∈ S ↔ p ∈ S') : Eqv S S' := .of (fun _ _ h => .gen ((g _).mp h)) (fun _ _ h => .gen ((g _).mpr h))
theorem eqv_app {S S' : List (Int × Int)} (h : Eqv S S') (R : List (Int × Int)) : Eqv (S ++ R) (S' ++ R) := by
  refine .of (fun u v m => ?_) (fun u v m => ?_)
  · rcases List.mem_append.mp m with m | m
    · exact Sp.le (fun _ _ q => .gen (List.mem_append_left _ q)) ((h _ _).mp (.gen m))
    · exact .gen (List.mem_append_right _ m)
  · rcases List.mem_append.mp m with m | m
    · exact Sp.le (fun _ _ q => .gen (List.mem_append_left _ q)) ((h _ _).mpr (.gen m))
    · exact .gen (List.mem_append_right _ m)
theorem inN_sp {a b c x y : Int} : InN a b c x y ↔ Sp [(a, 0), (b, c)] x y := by
  constructor
  · rintro ⟨m, k, rfl, rfl⟩
    exact (((Sp.gen (u := a) (v := 0) (by simp)).smul m).sum ((Sp.gen (u := b) (v := c) (by simp)).smul k)).cast (by grind) (by grind)
  · intro h
    induction h with
    | zero => exact inN_zero
    | add k m _ ih =>
      obtain ⟨p, q, rfl, rfl⟩ := ih
      rcases List.mem_cons.mp m with e | m
      · cases e
        exact ⟨p + k, q, by grind, by grind⟩
      rcases List.mem_cons.mp m with e | m
      · cases e
        exact ⟨p, q + k, by grind, by grind⟩
      cases m
/-- numbers of a net -/
def Ok (a b c : Int) : Prop := 1 ≤ c ∧ 0 ≤ b ∧ b < a
theorem net_le {a b c a' b' c' : Int} (h : Ok a b c) (h' : Ok a' b' c') (e : ∀ x y, InN a b c x y → InN a' b' c' x y) : a' ∣ a ∧ c' ∣ c := by
  obtain ⟨h1, h2, h3⟩ := h
  obtain ⟨p1, p2, p3⟩ := h'
  have x1 := e a 0 ⟨1, 0, by omega, by omega⟩
  have x2 := e b c ⟨0, 1, by omega, by omega⟩
  rw [inN_iff (by omega)] at x1 x2
  refine ⟨?_, x2.1⟩
  have := x1.2
  simpa using this
theorem net_eq {a b c a' b' c' : Int} (h : Ok a b c) (h' : Ok a' b' c') (e : ∀ x y, InN a b c x y ↔ InN a' b' c' x y) : a = a' ∧ b = b' ∧ c = c' := by
  have l1 := net_le h h' fun x y => (e x y).mp
  have l2 := net_le h' h fun x y => (e x y).mpr
  have ea : a = a' := Int.dvd_antisymm (by have := h.2; omega) (by have := h'.2; omega) l2.1 l1.1
  have ec : c = c' := Int.dvd_antisymm (by have := h.1; omega) (by have := h'.1; omega) l2.2 l1.2
  subst ea ec
  refine ⟨rfl, ?_, rfl⟩
  have x1 := (e b c).mp ⟨0, 1, by omega, by omega⟩
  have x2 : InN a b' c b' c := ⟨0, 1, by omega, by omega⟩
  have x3 := inN_sub x1 x2
  have := (in_cell (by have := h.2; omega) (by have := h.1; omega) x3 ⟨by have := h.2; have := h'.2; omega, by have := h.2; have := h'.2; omega⟩ ⟨by have := h.1; omega, by have := h.1; omega⟩).1
  omega
/-- the answer about a list of shifts -/
def Form (S : List (Int × Int)) : Option (Int × Int × Int) → Prop
  | none => ∀ a b c, Ok a b c → ¬ (Sp S a 0 ∧ Sp S b c)
  | some (a, b, c) => Ok a b c ∧ ∀ x y, InN a b c x y ↔ Sp S x y
theorem form_uni {S : List (Int × Int)} {r r' : Option (Int × Int × Int)} (h : Form S r) (h' : Form S r') : r = r' := by
  rcases r with _ | ⟨a, b, c⟩ <;> rcases r' with _ | ⟨a', b', c'⟩
  · rfl
  · exact (h _ _ _ h'.1 ⟨(h'.2 _ _).mp ⟨1, 0, by omega, by omega⟩, (h'.2 _ _).mp ⟨0, 1, by omega, by omega⟩⟩).elim
  · exact (h' _ _ _ h.1 ⟨(h.2 _ _).mp ⟨1, 0, by omega, by omega⟩, (h.2 _ _).mp ⟨0, 1, by omega, by omega⟩⟩).elim
  · obtain ⟨rfl, rfl, rfl⟩ := net_eq h.1 h'.1 fun x y => (h.2 x y).trans (h'.2 x y).symm
    rfl
theorem form_congr {S S' : List (Int × Int)} (e : Eqv S S') {r : Option (Int × Int × Int)} (h : Form S r) : Form S' r := by
  rcases r with _ | ⟨a, b, c⟩
  · intro a b c o z
    exact h a b c o ⟨(e _ _).mpr z.1, (e _ _).mpr z.2⟩
  · exact ⟨h.1, fun x y => (h.2 x y).trans (e x y)⟩
theorem form_net {a b c : Int} (h : Ok a b c) : Form [(a, 0), (b, c)] (some (a, b, c)) := ⟨h, fun _ _ => inN_sp⟩
/-- a step of Euclid's way -/
theorem eqv_step {b c x y t : Int} {R : List (Int × Int)} {a : Int} : Eqv ((a, 0) :: (b, c) :: (x, y) :: R) ((a, 0) :: (x, y) :: (b - t * x, c - t * y) :: R) := by
  refine .of (fun u v m => ?_) (fun u v m => ?_)
  · simp only [List.mem_cons, Prod.mk.injEq] at m
    rcases m with ⟨rfl, rfl⟩ | ⟨rfl, rfl⟩ | ⟨rfl, rfl⟩ | m
    · exact .gen (by simp)
    · exact ((Sp.gen (u := u - t * x) (v := v - t * y) (by simp)).sum ((Sp.gen (u := x) (v := y) (by simp)).smul t)).cast (by grind) (by grind)
    · exact .gen (by simp)
    · exact .gen (by simp [m])
  · simp only [List.mem_cons, Prod.mk.injEq] at m
    rcases m with ⟨rfl, rfl⟩ | ⟨rfl, rfl⟩ | ⟨rfl, rfl⟩ | m
    · exact .gen (by simp)
    · exact .gen (by simp)
    · exact (Sp.gen (u := b) (v := c) (by simp)).sub ((Sp.gen (u := x) (v := y) (by simp)).smul t)
    · exact .gen (by simp [m])
theorem bezN : ∀ (n m : Nat), ∃ s t : Int, ((Nat.gcd n m : Nat) : Int) = s * n + t * m := by
  intro n m
  induction n, m using Nat.gcd.induction with
  | H0 n => exact ⟨0, 1, by simp⟩
  | H1 m n h ih =>
    obtain ⟨s, t, e⟩ := ih
    refine ⟨t - s * (n / m : Nat), s, ?_⟩
    rw [Nat.gcd_rec, e]
    have : (n : Int) = m * (n / m : Nat) + (n % m : Nat) := by exact_mod_cast (Nat.div_add_mod n m).symm
    grind
theorem bez (a x : Int) : ∃ s t : Int, ((Int.gcd a x : Nat) : Int) = s * a + t * x := by
  obtain ⟨s, t, e⟩ := bezN a.natAbs x.natAbs
  have h1 : Int.gcd a x = Nat.gcd a.natAbs x.natAbs := rfl
  rw [h1, e]
  rcases Int.natAbs_eq a with ha | ha <;> rcases Int.natAbs_eq x with hx | hx
  · exact ⟨s, t, by rw [← ha, ← hx]⟩
  · exact ⟨s, -t, by grind⟩
  · exact ⟨-s, t, by grind⟩
  · exact ⟨-s, -t, by grind⟩
theorem eqv_gcd {b c x a : Int} {R : List (Int × Int)} : Eqv ((a, 0) :: (b, c) :: (x, 0) :: R) (((Int.gcd a x : Int), 0) :: (b, c) :: R) := by
  refine .of (fun u v m => ?_) (fun u v m => ?_)
  · simp only [List.mem_cons, Prod.mk.injEq] at m
    rcases m with ⟨rfl, rfl⟩ | ⟨rfl, rfl⟩ | ⟨rfl, rfl⟩ | m
    · obtain ⟨k, hk⟩ := Int.gcd_dvd_left u x
      exact ((Sp.gen (u := (Int.gcd u x : Int)) (v := 0) (by simp)).smul k).cast (by grind) (by omega)
    · exact .gen (by simp)
    · obtain ⟨k, hk⟩ := Int.gcd_dvd_right a u
      exact ((Sp.gen (u := (Int.gcd a u : Int)) (v := 0) (by simp)).smul k).cast (by grind) (by omega)
    · exact .gen (by simp [m])
  · simp only [List.mem_cons, Prod.mk.injEq] at m
    rcases m with ⟨rfl, rfl⟩ | ⟨rfl, rfl⟩ | m
    · obtain ⟨s, t, e⟩ := bez a x
      exact (((Sp.gen (u := a) (v := 0) (by simp)).smul s).sum ((Sp.gen (u := x) (v := 0) (by simp)).smul t)).cast e (by omega)
    · exact .gen (by simp)
    · exact .gen (by simp [m])
end MN
namespace MN
/-! ### Euclid's way with shifts: sizes and spans -/
def wgt (c y : Int) : Nat := c.natAbs + (if c * y < 0 then 2 * y.natAbs else 0)
structure Eu (M Y : Nat) (b c x y : Int) : Prop where
  phi : b.natAbs * y.natAbs + x.natAbs * wgt c y ≤ M
  hb : b.natAbs ≤ M
  hx : x.natAbs ≤ M
  hc : c.natAbs ≤ Y
  hy : y.natAbs ≤ Y
theorem fdiv_facts {c y : Int} (h : y ≠ 0) : (c - c.fdiv y * y).natAbs < y.natAbs ∧ 0 ≤ y * (c - c.fdiv y * y) ∧ (c - c.fdiv y * y).natAbs + (c.fdiv y).natAbs * y.natAbs ≤ wgt c y := by
  have e := Int.fmod_add_mul_fdiv c y
  have er : c - c.fdiv y * y = c.fmod y := by rw [Int.mul_comm]; omega
  rw [er]
  generalize hr : c.fmod y = r at *
  generalize ht : c.fdiv y = t at *
  rcases Int.lt_or_gt_of_ne h with hy | hy
  · have h12 : y < r ∧ r ≤ 0 := by
      rw [← hr, Int.fmod_eq_emod]
      have e1 := Int.emod_nonneg c (show y ≠ 0 by omega)
      have e2 := Int.emod_lt_of_neg c hy
      split
      · rename_i q
        rcases q with q | q
        · omega
        · have := Int.emod_eq_zero_of_dvd q
          omega
      · rename_i q
        have : c % y ≠ 0 := fun z => q (.inr (Int.dvd_of_emod_eq_zero z))
        omega
    obtain ⟨h1, h2⟩ := h12
    have k1 : 0 ≤ y * r := by
      have := Int.mul_nonneg (a := -y) (b := -r) (by omega) (by omega)
      rwa [Int.neg_mul_neg] at this
    refine ⟨by omega, k1, ?_⟩
    unfold wgt
    have nt : t.natAbs * y.natAbs = (t * y).natAbs := (Int.natAbs_mul t y).symm
    rw [nt]
    have ec : t * y = c - r := by rw [Int.mul_comm]; omega
    rw [ec]
    by_cases hcy : c * y < 0
    · rw [if_pos hcy]
      omega
    · rw [if_neg hcy]
      have hc0 : c ≤ 0 := by
        rcases Int.lt_or_le 0 c with z | z
        · exact absurd (Int.mul_neg_of_pos_of_neg z hy) hcy
        · exact z
      have t0 : 0 ≤ t := by
        rcases Int.lt_or_le t 0 with z | z
        · have : y * t ≥ -y := by
            have := Int.mul_le_mul_of_nonneg_left (a := t) (b := -1) (c := -y) (by omega) (by omega)
            simp only [Int.neg_mul, Int.mul_neg, Int.mul_one] at this
            omega
          omega
        · exact z
      have : y * t ≤ 0 := by
        have := Int.mul_nonneg (a := -y) (b := t) (by omega) t0
        rw [Int.neg_mul] at this
        omega
      omega
  · have h1 : r < y := by rw [← hr]; exact Int.fmod_lt_of_pos c hy
    have h2 : 0 ≤ r := by rw [← hr]; exact Int.fmod_nonneg_of_pos c hy
    have k1 : 0 ≤ y * r := Int.mul_nonneg (by omega) h2
    refine ⟨by omega, k1, ?_⟩
    unfold wgt
    have nt : t.natAbs * y.natAbs = (t * y).natAbs := (Int.natAbs_mul t y).symm
    rw [nt]
    have ec : t * y = c - r := by rw [Int.mul_comm]; omega
    rw [ec]
    by_cases hcy : c * y < 0
    · rw [if_pos hcy]
      omega
    · rw [if_neg hcy]
      have hc0 : 0 ≤ c := by
        rcases Int.lt_or_le c 0 with z | z
        · exact absurd (Int.mul_neg_of_neg_of_pos z hy) hcy
        · exact z
      have t0 : 0 ≤ t := by
        rcases Int.lt_or_le t 0 with z | z
        · have : y * t ≤ -y := by
            have := Int.mul_le_mul_of_nonneg_left (a := t) (b := -1) (c := y) (by omega) (by omega)
            omega
          omega
        · exact z
      have : 0 ≤ y * t := Int.mul_nonneg (by omega) t0
      omega
theorem Eu.step {M Y : Nat} {b c x y : Int} (h : Eu M Y b c x y) (hy : y ≠ 0) : Eu M Y x y (b - c.fdiv y * x) (c - c.fdiv y * y) := by
  obtain ⟨f1, f2, f3⟩ := fdiv_facts (c := c) hy
  obtain ⟨p, hb, hx, hc, hyy⟩ := h
  have w' : wgt y (c - c.fdiv y * y) = y.natAbs := by unfold wgt; rw [if_neg (by omega)]; omega
  have ex : (b - c.fdiv y * x).natAbs ≤ b.natAbs + (c.fdiv y).natAbs * x.natAbs := by
    have := Int.natAbs_sub_le b (c.fdiv y * x)
    rw [Int.natAbs_mul] at this
    exact this
  have ph : x.natAbs * (c - c.fdiv y * y).natAbs + (b - c.fdiv y * x).natAbs * y.natAbs ≤ M := by
    have m1 : (b - c.fdiv y * x).natAbs * y.natAbs ≤ (b.natAbs + (c.fdiv y).natAbs * x.natAbs) * y.natAbs := Nat.mul_le_mul_right _ ex
    have m2 : x.natAbs * ((c - c.fdiv y * y).natAbs + (c.fdiv y).natAbs * y.natAbs) ≤ x.natAbs * wgt c y := Nat.mul_le_mul_left _ f3
    have m3 : (b.natAbs + (c.fdiv y).natAbs * x.natAbs) * y.natAbs = b.natAbs * y.natAbs + x.natAbs * ((c.fdiv y).natAbs * y.natAbs) := by
      rw [Nat.add_mul, Nat.mul_comm (c.fdiv y).natAbs x.natAbs, Nat.mul_assoc]
    have m4 : x.natAbs * ((c - c.fdiv y * y).natAbs + (c.fdiv y).natAbs * y.natAbs) = x.natAbs * (c - c.fdiv y * y).natAbs + x.natAbs * ((c.fdiv y).natAbs * y.natAbs) := Nat.mul_add _ _ _
    omega
  have y1 : 1 ≤ y.natAbs := by omega
  refine ⟨by rw [w']; exact ph, hx, ?_, hyy, by omega⟩
  have := Nat.le_mul_of_pos_right (b - c.fdiv y * x).natAbs (show 0 < y.natAbs by omega)
  omega
theorem Eu.start {m n : Nat} {b c x y : Int} (hm : n + 1 ≤ m) (hb : b.natAbs ≤ 2 ^ m) (hc : c.natAbs ≤ 2 ^ n) (hx : x.natAbs ≤ 2 ^ n) (hy : y.natAbs ≤ 2 ^ n) : Eu (2 ^ (m + n + 2)) (2 ^ n) b c x y := by
  have p1 : 2 ^ m ≤ 2 ^ (m + n + 2) := Nat.pow_le_pow_right (by decide) (by omega)
  have p2 : 2 ^ n ≤ 2 ^ (m + n + 2) := Nat.pow_le_pow_right (by decide) (by omega)
  have w : wgt c y ≤ 3 * 2 ^ n := by
    unfold wgt
    split <;> omega
  have q1 : b.natAbs * y.natAbs ≤ 2 ^ (m + n) := by
    rw [Nat.pow_add]
    exact Nat.mul_le_mul hb hy
  have q2 : x.natAbs * wgt c y ≤ 2 ^ n * (3 * 2 ^ n) := Nat.mul_le_mul hx w
  have q3 : 2 ^ n * (3 * 2 ^ n) ≤ 3 * 2 ^ (m + n) := by
    have : 2 ^ n * 2 ^ n ≤ 2 ^ (m + n) := by
      rw [← Nat.pow_add]
      exact Nat.pow_le_pow_right (by decide) (by omega)
    have e : 2 ^ n * (3 * 2 ^ n) = 3 * (2 ^ n * 2 ^ n) := by rw [Nat.mul_left_comm]
    omega
  have q4 : 2 ^ (m + n + 2) = 4 * 2 ^ (m + n) := by rw [Nat.pow_add, Nat.mul_comm]
  exact ⟨by omega, by omega, by omega, hc, hy⟩
theorem abs_fdiv_le (c y : Int) : (c.fdiv y).natAbs ≤ c.natAbs := by
  rcases Decidable.em (y = 0) with h | h
  · subst h; simp
  · obtain ⟨f1, f2, f3⟩ := fdiv_facts (c := c) h
    have y1 : 1 ≤ y.natAbs := by omega
    have e := Int.fmod_add_mul_fdiv c y
    have nt : (c.fdiv y).natAbs * y.natAbs = (y * c.fdiv y).natAbs := by rw [Nat.mul_comm]; exact (Int.natAbs_mul y _).symm
    have er : c - c.fdiv y * y = c.fmod y := by rw [Int.mul_comm]; omega
    rw [er] at f1 f2 f3
    have l1 := Nat.le_mul_of_pos_right (c.fdiv y).natAbs (show 0 < y.natAbs by omega)
    rcases Nat.lt_or_ge c.natAbs (c.fdiv y).natAbs with z | z
    · exfalso
      -- |t| ≥ |c| + 1, so |t y| ≥ |t| |y| ≥ (|c| + 1) |y| ≥ |c| + |y| > |c| + |r|
      have l2 : (c.natAbs + 1) * y.natAbs ≤ (c.fdiv y).natAbs * y.natAbs := Nat.mul_le_mul_right _ z
      have l3 : c.natAbs + y.natAbs ≤ (c.natAbs + 1) * y.natAbs := by
        rw [Nat.add_mul, Nat.one_mul]
        have := Nat.le_mul_of_pos_right c.natAbs (show 0 < y.natAbs by omega)
        omega
      omega
    · exact z
/-! ### the answer -/
theorem form_none {S : List (Int × Int)} {a b c : Int} (e : Eqv S [(a, 0), (b, c)]) (h : a = 0 ∨ c = 0) : Form S none := by
  intro a' b' c' ok ⟨h1, h2⟩
  have z : ∀ x y, Sp S x y → ∃ m k : Int, x = m * a + k * b ∧ y = k * c := fun x y q => inN_sp.mpr ((e x y).mp q)
  obtain ⟨m, k, e1, e2⟩ := z _ _ h1
  obtain ⟨m', k', e3, e4⟩ := z _ _ h2
  obtain ⟨o1, o2, o3⟩ := ok
  rcases h with rfl | rfl
  · by_cases hc : c = 0
    · subst hc; simp at e4; omega
    · have : k = 0 := by
        rcases Int.mul_eq_zero.mp e2.symm with q | q
        · exact q
        · exact absurd q hc
      subst this
      simp at e1
      omega
  · simp at e4; omega
theorem form_pos {S : List (Int × Int)} {a b c : Int} (e : Eqv S [(a, 0), (b, c)]) (ha : 0 < a) (hc : 0 < c) : Form S (some (a, b % a, c)) := by
  refine ⟨⟨by omega, Int.emod_nonneg b (by omega), Int.emod_lt_of_pos b ha⟩, fun x y => ?_⟩
  rw [e x y, ← inN_sp]
  have hb := Int.emod_add_mul_ediv b a
  constructor
  · rintro ⟨m, k, h1, h2⟩
    exact ⟨m - k * (b / a), k, by grind, h2⟩
  · rintro ⟨m, k, h1, h2⟩
    exact ⟨m + k * (b / a), k, by grind, h2⟩
theorem form_neg {S : List (Int × Int)} {a b c : Int} (e : Eqv S [(a, 0), (b, c)]) (ha : 0 < a) (hc : c < 0) : Form S (some (a, -b % a, -c)) := by
  have e2 : Eqv [(a, 0), (b, c)] [(a, 0), (-b, -c)] := by
    intro x y
    rw [← inN_sp, ← inN_sp]
    constructor
    · rintro ⟨m, k, h1, h2⟩
      exact ⟨m, -k, by grind, by grind⟩
    · rintro ⟨m, k, h1, h2⟩
      exact ⟨m, -k, by grind, by grind⟩
  exact form_pos (e.trans e2) ha (by omega)
theorem eqv_nil : Eqv [] [((0 : Int), (0 : Int)), (0, 0)] := .of (fun _ _ m => nomatch m) (fun u v m => by
  simp at m
  obtain ⟨rfl, rfl⟩ := m
  exact .zero)
/-- one more shift -/
theorem eqv_more {S : List (Int × Int)} {a b c x y : Int} (e : Eqv S [(a, 0), (b, c)]) : Eqv (S ++ [(x, y)]) [(a, 0), (b, c), (x, y)] := eqv_app e [(x, y)]
/-! ### sizes of nets -/
def det (p q : Int × Int) : Int := p.1 * q.2 - q.1 * p.2
theorem det_dvd {a b c x y x' y' : Int} (h : InN a b c x y) (h' : InN a b c x' y') : a * c ∣ x * y' - x' * y := by
  obtain ⟨m, k, h1, h2⟩ := h
  obtain ⟨m', k', h3, h4⟩ := h'
  exact ⟨m * k' - m' * k, by subst h1 h2 h3 h4; grind⟩
theorem sp_two {p q : Int × Int} {x y : Int} (h : Sp [p, q] x y) : ∃ m k : Int, x = m * p.1 + k * q.1 ∧ y = m * p.2 + k * q.2 := by
  induction h with
  | zero => exact ⟨0, 0, by omega, by omega⟩
  | add n mem _ ih =>
    obtain ⟨m, k, h1, h2⟩ := ih
    rcases List.mem_cons.mp mem with e | mem
    · cases e; exact ⟨m + n, k, by grind, by grind⟩
    rcases List.mem_cons.mp mem with e | mem
    · cases e; exact ⟨m, k + n, by grind, by grind⟩
    cases mem
theorem det_ne {p q : Int × Int} {a b c : Int} (h : Form [p, q] (some (a, b, c))) : det p q ≠ 0 := by
  obtain ⟨⟨o1, o2, o3⟩, h⟩ := h
  obtain ⟨m, k, e1, e2⟩ := sp_two ((h a 0).mp ⟨1, 0, by omega, by omega⟩)
  obtain ⟨m', k', e3, e4⟩ := sp_two ((h b c).mp ⟨0, 1, by omega, by omega⟩)
  intro z
  have key : a * c = (m * k' - m' * k) * det p q := by
    unfold det
    have : a * c = a * c - b * 0 := by omega
    rw [this]
    conv => lhs; rw [e1, e4, e3, e2]
    grind
  rw [z, Int.mul_zero] at key
  have := Int.mul_pos (a := a) (b := c) (by omega) (by omega)
  omega
theorem form_size {S : List (Int × Int)} {a b c : Int} (h : Form S (some (a, b, c))) {p q : Int × Int} (hp : p ∈ S) (hq : q ∈ S) (hd : det p q ≠ 0) : a * c ≤ (det p q).natAbs ∧ a ≤ (det p q).natAbs ∧ c ≤ (det p q).natAbs := by
  obtain ⟨⟨o1, o2, o3⟩, h⟩ := h
  have d := det_dvd ((h _ _).mpr (.gen hp)) ((h _ _).mpr (.gen hq))
  have l := Int.le_of_dvd (show 0 < ((det p q).natAbs : Int) by omega) (Int.dvd_natAbs.mpr d)
  have l1 : a * 1 ≤ a * c := Int.mul_le_mul_of_nonneg_left o1 (by omega)
  have l2 : 1 * c ≤ a * c := Int.mul_le_mul_of_nonneg_right (by omega) (by omega)
  exact ⟨l, by omega, by omega⟩
theorem form_mem {S : List (Int × Int)} {a b c x y : Int} (h : Form S (some (a, b, c))) (hp : (x, y) ∈ S) : low a b c x y = (0, 0) := by
  obtain ⟨⟨o1, o2, o3⟩, h⟩ := h
  rw [low_zero (by omega) (by omega)]
  exact (h _ _).mpr (.gen hp)
theorem fmod_gcd (x y : Int) : Int.gcd y (x.fmod y) = Int.gcd x y := by
  have e := Int.fmod_add_mul_fdiv x y
  have h := Int.gcd_add_mul_right_right y (x.fmod y) (x.fdiv y)
  rw [show x.fmod y + x.fdiv y * y = x by rw [Int.mul_comm]; exact e] at h
  rw [← h, Int.gcd_comm]
theorem fmod_lt {x y : Int} (h : y ≠ 0) : (x.fmod y).natAbs < y.natAbs := by
  have := (fdiv_facts (c := x) h).1
  have e := Int.fmod_add_mul_fdiv x y
  rw [show x - x.fdiv y * y = x.fmod y by rw [Int.mul_comm]; omega] at this
  exact this
/-! ### nets and lists of shifts -/
theorem form_eqv {S : List (Int × Int)} {a b c : Int} (h : Form S (some (a, b, c))) : Eqv S [(a, 0), (b, c)] := fun x y => (h.2 x y).symm.trans inN_sp
theorem form_step {S : List (Int × Int)} {a b c : Int} {p : Int × Int} {r : Option (Int × Int × Int)} (h : Form S (some (a, b, c))) (h' : Form [(a, 0), (b, c), p] r) : Form (S ++ [p]) r := form_congr (eqv_app (form_eqv h) [p]).symm h'
theorem not_none {S : List (Int × Int)} {a b c : Int} (o : Ok a b c) (h1 : Sp S a 0) (h2 : Sp S b c) : ¬ Form S none := fun z => z a b c o ⟨h1, h2⟩
theorem some_not_none {S : List (Int × Int)} {r : Int × Int × Int} (h : Form S (some r)) : ¬ Form S none := fun z => nomatch form_uni h z
theorem eqv_again {a b c : Int} : Eqv [(a, 0), (b, c)] [(a * 7 + b, c), (0 - b, 0 - c), (a, 0), (0, 0)] := by
  refine .of (fun u v m => ?_) (fun u v m => ?_)
  · simp only [List.mem_cons, Prod.mk.injEq, List.not_mem_nil, or_false] at m
    rcases m with ⟨rfl, rfl⟩ | ⟨rfl, rfl⟩
    · exact .gen (by simp)
    · exact ((Sp.gen (u := 0 - u) (v := 0 - v) (by simp)).smul (-1)).cast (by omega) (by omega)
  · simp only [List.mem_cons, Prod.mk.injEq, List.not_mem_nil, or_false] at m
    have ga : Sp [(a, 0), (b, c)] a 0 := .gen (by simp)
    have gb : Sp [(a, 0), (b, c)] b c := .gen (by simp)
    rcases m with ⟨rfl, rfl⟩ | ⟨rfl, rfl⟩ | ⟨rfl, rfl⟩ | ⟨rfl, rfl⟩
    · exact ((ga.smul 7).sum gb).cast (by omega) (by omega)
    · exact (gb.smul (-1)).cast (by omega) (by omega)
    · exact ga
    · exact .zero
theorem eqv_swap {a b c : Int} : Eqv [(a, 0), (b, c)] [(b, c), (a, 0)] := eqv_mem fun p => by simp only [List.mem_cons, List.not_mem_nil, or_false]; exact Or.comm
theorem eqv_rev4 {p q r s : Int × Int} : Eqv [p, q, r, s] [s, r, q, p] := eqv_mem fun x => by simp only [List.mem_cons, List.not_mem_nil, or_false]; grind
theorem eqv_sides {p q r s : Int × Int} : Eqv [p, q, r, s] [r, (0 - q.1, 0 - q.2), s, (p.1 + r.1, p.2 + r.2), r] := by
  obtain ⟨p1, p2⟩ := p
  obtain ⟨q1, q2⟩ := q
  obtain ⟨r1, r2⟩ := r
  obtain ⟨s1, s2⟩ := s
  refine .of (fun u v m => ?_) (fun u v m => ?_)
  · simp only [List.mem_cons, Prod.mk.injEq, List.not_mem_nil, or_false] at m
    rcases m with ⟨rfl, rfl⟩ | ⟨rfl, rfl⟩ | ⟨rfl, rfl⟩ | ⟨rfl, rfl⟩
    · exact ((Sp.gen (u := u + r1) (v := v + r2) (by simp)).sub (Sp.gen (u := r1) (v := r2) (by simp))).cast (by omega) (by omega)
    · exact ((Sp.gen (u := 0 - u) (v := 0 - v) (by simp)).smul (-1)).cast (by omega) (by omega)
    · exact .gen (by simp)
    · exact .gen (by simp)
  · simp only [List.mem_cons, Prod.mk.injEq, List.not_mem_nil, or_false] at m
    rcases m with ⟨rfl, rfl⟩ | ⟨rfl, rfl⟩ | ⟨rfl, rfl⟩ | ⟨rfl, rfl⟩ | ⟨rfl, rfl⟩
    · exact .gen (by simp)
    · exact ((Sp.gen (u := q1) (v := q2) (by simp)).smul (-1)).cast (by omega) (by omega)
    · exact .gen (by simp)
    · exact (Sp.gen (u := p1) (v := p2) (by simp)).sum (Sp.gen (u := r1) (v := r2) (by simp))
    · exact .gen (by simp)
theorem form_unit : Form [((0 : Int), (1 : Int)), (1, 0)] (some (1, 0, 1)) := form_congr (eqv_mem fun p => by simp only [List.mem_cons, List.not_mem_nil, or_false]; exact Or.comm) (form_net ⟨by decide, by decide, by decide⟩)
end MN
namespace Y
open PySem PySem.Spec PyProof.Rows L2 Z
/-! ### promises of carpets.integers and carpets.nets -/
def knD (d : D) : Prop := match d with
  | .obj _ _ _ | .ty _ | .glob _ | .tape | .fn _ => False
  | _ => True
def isIntD (d : D) : Bool := match d with
  | .int _ => true
  | _ => false
def R_is_integer : RdF := ar1 fun d Q _ => knD d ∧ Q (.bl (isIntD d))
def knP (d : D) : Prop := match d with
  | .tup [a, b] => knD a ∧ knD b
  | d => knD d
def isPl (d : D) : Bool := match d with
  | .tup [a, b] => isIntD a && isIntD b
  | _ => false
def R_is_place : RdF := ar1 fun d Q _ => knP d ∧ Q (.bl (isPl d))
def R_check_place_n : RdF := ar1 fun d Q _ => knP d ∧ isPl d = true ∧ Q .non
def R_check_place : RdF := ar1 fun d Q E => knP d ∧ (isPl d = true → Q .non) ∧ (isPl d = false → E ⟨.glob "InvalidPlace", ["value"], [d]⟩)
def R_greatest_divisor : RdF := ar2 fun x y Q _ => match x, y with
  | .int x, .int y => Q (.int ((Int.gcd x y : Nat) : Int))
  | _, _ => False
def R_are_numbers : RdF := ar1 fun d Q _ => match d with
  | .tup [.int a, .int b, .int c] => Q (.bl (decide (1 ≤ c) && (decide (0 ≤ b) && decide (b < a))))
  | _ => False
abbrev nsNet : List Str := ["own_numbers"]
abbrev dNet (a b c : Int) : D := .obj "Net" ["own_numbers"] [.tup [.int a, .int b, .int c]]
abbrev dPl (x y : Int) : D := .tup [.int x, .int y]
def R_Net_UinitU : RdF := ar3 fun x y z Q _ => match x, y, z with
  | .int a, .int b, .int c => (1 ≤ c ∧ 0 ≤ b ∧ b < a) ∧ Q (dNet a b c)
  | _, _, _ => False
/-! ### nets of shifts -/
def plD (p : Int × Int) : D := .tup [.int p.1, .int p.2]
def optN : Option (Int × Int × Int) → D
  | none => .non
  | some (a, b, c) => .tup [.int a, .int b, .int c]
def SzF (r : Option (Int × Int × Int)) : Prop := ∀ a b c, r = some (a, b, c) → Sz 4000 a ∧ Sz 4000 c
def shOk (S : List (Int × Int)) : Prop := ∃ n, (∀ p ∈ S, Sz n p.1 ∧ Sz n p.2) ∧ (S.length + 2) * (n + 2) ≤ 4000
def R_form_of : RdF := ar1 fun d Q _ => match d with
  | .tup ds => ∃ S : List (Int × Int), ds = S.map plD ∧ shOk S ∧ ∀ r, MN.Form S r → SzF r → Q (optN r)
  | _ => False
/-- the numbers of a net of shifts, if there is one -/
def R_Net_of : RdF := fun ds Q _ => ∃ S : List (Int × Int), ds = S.map plD ∧ shOk S ∧ ¬ MN.Form S none ∧ ∀ a b c, MN.Form S (some (a, b, c)) → Sz 4000 a → Sz 4000 c → Q (dNet a b c)
theorem R_Net_of_len : ∀ ds Q E, R_Net_of ds Q E → ds.length ≤ 100000 := by
  rintro ds Q E ⟨S, rfl, ⟨n, _, h⟩, _⟩
  rw [List.length_map]
  have : (S.length + 2) * 2 ≤ (S.length + 2) * (n + 2) := Nat.mul_le_mul_left _ (by omega)
  omega
theorem sz_le2 {n : Nat} {x : Int} (h : Sz n x) : x.natAbs ≤ 2 ^ n := Nat.le_of_lt h
theorem sz_of_le {n m : Nat} {x : Int} (h : x.natAbs ≤ 2 ^ n) (hm : n < m) : Sz m x := Nat.lt_of_le_of_lt h (Nat.pow_lt_pow_right (by decide) hm)
theorem map_get {α β : Type} {f : α → β} {S : List α} {i : Nat} {d : β} (h : (S.map f)[i]? = some d) : ∃ p, S[i]? = some p ∧ d = f p := by
  rw [List.getElem?_map] at h
  obtain ⟨p, h1, rfl⟩ := Option.map_eq_some_iff.mp h
  exact ⟨p, h1, rfl⟩
/-! ### methods of nets -/
def R_Net_numbers : RdF := ar1 fun d Q _ => ∃ a b c : Int, d = dNet a b c ∧ Q (.tup [.int a, .int b, .int c])
def R_Net_size : RdF := ar1 fun d Q _ => ∃ a b c : Int, d = dNet a b c ∧ (Sz 4000 a ∧ Sz 4000 c) ∧ Q (.int (a * c))
def R_Net_spanning : RdF := ar1 fun d Q _ => ∃ a b c : Int, d = dNet a b c ∧ Q (.lst [dPl a 0, dPl b c])
def R_Net_place_in_cell : RdF := ar2 fun s p Q _ => ∃ a b c x y : Int, s = dNet a b c ∧ p = dPl x y ∧ (MN.Ok a b c ∧ Sz 4000 a ∧ Sz 4000 c ∧ Sz 4000 y) ∧ Q (dPl (MN.low a b c x y).1 (MN.low a b c x y).2)
def R_Net_UcontainsU : RdF := ar2 fun s v Q _ => ∃ a b c : Int, s = dNet a b c ∧ (MN.Ok a b c ∧ Sz 4000 a ∧ Sz 4000 c) ∧ ((∃ x y : Int, v = dPl x y ∧ Sz 4000 y ∧ Q (.bl (decide (MN.low a b c x y = (0, 0))))) ∨ (knP v ∧ isPl v = false ∧ Q (.bl false)))
def R_Net_UeqU : RdF := ar2 fun s v Q _ => ∃ a b c : Int, s = dNet a b c ∧ ((∃ a' b' c' : Int, v = dNet a' b' c' ∧ Q (.bl (decide (a = a' ∧ b = b' ∧ c = c')))) ∨ (knD v ∧ Q (.bl false)))
def R_Net_whole : RdF := ar1 fun d Q _ => d = .glob "Net" ∧ Q (dNet 1 0 1)
theorem eqN3 {a b c d e f : Int} : eqD (.tup [.int a, .int b, .int c]) (.tup [.int d, .int e, .int f]) = decide (a = d ∧ b = e ∧ c = f) := by
  simp only [eqD, eqDs, Bool.and_true]
  by_cases h1 : a = d <;> by_cases h2 : b = e <;> by_cases h3 : c = f <;> simp [h1, h2, h3]
theorem eqN2 {a b d e : Int} : eqD (.tup [.int a, .int b]) (.tup [.int d, .int e]) = decide (a = d ∧ b = e) := by
  simp only [eqD, eqDs, Bool.and_true]
  by_cases h1 : a = d <;> by_cases h2 : b = e <;> simp [h1, h2]
theorem leN {n : Nat} (h : Nat.ble n 100000 = true) : n ≤ 100000 := Nat.le_of_ble_eq_true h
/-! ### the law's own draws -/
def R__law_great : RdF := ar2 fun t n Q _ => match t, n with
  | .tape, .int n => (60 ≤ n ∧ Sz 1000 n) ∧ ∀ d, -n < d → d < n → Q (.int d)
  | _, _ => False
def R__law_place : RdF := ar1 fun t Q _ => match t with
  | .tape => ∀ x y, Sz 100 x → Sz 100 y → Q (dPl x y)
  | _ => False
def R__law_net : RdF := ar2 fun t n Q _ => match t, n with
  | .tape, .int n => (0 < n ∧ Sz 1000 n) ∧ ∀ a b c, MN.Ok a b c → a * c ≤ n → Q (.tup [.int a, .int b, .int c])
  | _, _ => False
def R__law_net_of : RdF := ar1 fun d Q _ => match d with
  | .lst ds => ∃ S : List (Int × Int), ds = S.map plD ∧ shOk S ∧ ∀ r, MN.Form S r → SzF r → Q (optN r)
  | _ => False
theorem szP {n : Nat} {x : Int} (h : Nat.blt x.natAbs (2 ^ 100) = true) (hn : 100 ≤ n) : Sz n x := (sz_lit (n := 100) h).mono hn
theorem dIx_l {ds : List D} {i : Int} {d : D} {Q : D → Prop} (e : atI ds i = some d) (h : Q d) : dIx (.lst ds) (.int i) Q := by
  show (match atI ds i with | some d => Q d | none => False)
  rw [e]
  exact h
theorem dIx_t {ds : List D} {i : Int} {d : D} {Q : D → Prop} (e : atI ds i = some d) (h : Q d) : dIx (.tup ds) (.int i) Q := by
  show (match atI ds i with | some d => Q d | none => False)
  rw [e]
  exact h
theorem atI_D {α : Type} {ds : List α} {k : Int} (h0 : 0 ≤ k) (h1 : k < ds.length) : ∃ d, atI ds k = some d ∧ d ∈ ds := by
  obtain ⟨j, rfl⟩ := Int.eq_ofNat_of_zero_le h0
  have hj : j < ds.length := by omega
  exact ⟨ds[j], atI_nat (List.getElem?_eq_getElem hj), List.getElem_mem hj⟩
theorem cut_take {α : Type} {xs : List α} {n : Nat} (hn : n ≤ 1000000) : cutD xs none (some (n : Int)) = xs.take n := by
  unfold cutD
  have e1 : HT.sIx xs.length 0 none = 0 := rfl
  have e2 : HT.sIx xs.length xs.length (some (n : Int)) = min n xs.length := by
    unfold HT.sIx
    simp
    omega
  rw [e1, e2, List.drop_zero]
  simp [List.take_eq_take_min]
theorem cut_drop {α : Type} {xs : List α} {n : Nat} : cutD xs (some (n : Int)) none = xs.drop n := by
  unfold cutD
  rw [HT.sIx_none, HT.sIx_nat]
  rcases Nat.le_total n xs.length with h | h
  · rw [Nat.min_eq_left h]
    exact List.take_of_length_le (by rw [List.length_drop]; omega)
  · rw [Nat.min_eq_right h, List.drop_eq_nil_of_le (Nat.le_refl _), List.drop_eq_nil_of_le h]
    simp
/-- up to six shifts of the law -/
def shS (S : List (Int × Int)) : Prop := ∀ p ∈ S, Sz 100 p.1 ∧ Sz 100 p.2
theorem shOk_of {S : List (Int × Int)} {n : Nat} (h : ∀ p ∈ S, Sz n p.1 ∧ Sz n p.2) (hl : (S.length + 2) * (n + 2) ≤ 4000) : shOk S := ⟨n, h, hl⟩
def R__law_shifts : RdF := ar1 fun t Q _ => match t with
  | .tape => ∀ p q rest, rest.length ≤ 4 → shS (p :: q :: rest) → Q (.lst ((p :: q :: rest).map plD))
  | _ => False
def R__law_of : RdF := ar1 fun d Q _ => ∃ p q rest, d = .lst ((p :: q :: rest).map plD) ∧ (rest.length ≤ 4 ∧ shS (p :: q :: rest)) ∧ ¬ MN.Form [p, q] none ∧ ∀ a b c, MN.Form (p :: q :: rest) (some (a, b, c)) → Sz 210 a → Sz 210 c → Q (dNet a b c)
theorem det_size {p q : Int × Int} (h1 : Sz 100 p.1) (h2 : Sz 100 p.2) (h3 : Sz 100 q.1) (h4 : Sz 100 q.2) : (MN.det p q).natAbs < 2 ^ 201 := sz_sub (a := 200) (sz_mul h1 h4) (sz_mul h3 h2)
theorem net_size {S : List (Int × Int)} {p q : Int × Int} {a b c : Int} (hp : p ∈ S) (hq : q ∈ S) (hd : MN.det p q ≠ 0) (z : shS S) (h : MN.Form S (some (a, b, c))) : Sz 210 a ∧ Sz 210 c := by
  obtain ⟨_, l1, l2⟩ := MN.form_size h hp hq hd
  have hs := det_size (z p hp).1 (z p hp).2 (z q hq).1 (z q hq).2
  obtain ⟨⟨o1, o2, o3⟩, _⟩ := h
  have k : ∀ x : Int, 0 ≤ x → x ≤ (MN.det p q).natAbs → Sz 210 x := fun x x0 x1 => Sz.mono (a := 201) (Nat.lt_of_le_of_lt (by omega) hs) (by decide)
  exact ⟨k a (by omega) l1, k c (by omega) l2⟩
theorem atI_0 {α : Type} {x : α} {xs : List α} : atI (x :: xs) 0 = some x := atI_nat (j := 0) rfl
theorem atI_1 {α : Type} {x y : α} {xs : List α} : atI (x :: y :: xs) 1 = some y := atI_nat (j := 1) rfl
theorem dSl_drop {xs : List D} {n : Nat} {Q : D → Prop} (h : Q (.lst (xs.drop n))) : dSl (.lst xs) (some (n : Int)) none Q := by
  unfold dSl
  dsimp only
  rw [cut_drop]
  exact h
theorem dSl_take {xs : List D} {n : Nat} {Q : D → Prop} (hn : n ≤ 1000000) (h : Q (.lst (xs.take n))) : dSl (.lst xs) none (some (n : Int)) Q := by
  unfold dSl
  dsimp only
  rw [cut_take hn]
  exact h
theorem ltN {n m : Nat} (h : Nat.ble n m = true) : n ≤ m := Nat.le_of_ble_eq_true h
theorem isPl_pl {d : D} (h : isPl d = true) : ∃ x y, d = dPl x y := by
  unfold isPl at h
  split at h
  · rename_i a b
    cases a <;> cases b <;> first | exact ⟨_, _, rfl⟩ | (simp [isIntD] at h)
  · cases h
end Y
namespace MN
/-- (w, r, u) are the numbers of the net of the common shifts -/
def Meet (a b c p q r W R U : Int) : Prop := Ok W R U ∧ (∀ x y, InN W R U x y ↔ (InN a b c x y ∧ InN p q r x y)) ∧ W ≤ a * p ∧ U ≤ a * (c * r)
theorem gcd_parts {c r : Int} (hc : 0 < c) : ∃ g c' r' m n : Int, g = (Int.gcd c r : Int) ∧ 0 < g ∧ c = g * c' ∧ r = g * r' ∧ m * c' + n * r' = 1 := by
  obtain ⟨m, n, e⟩ := bez c r
  have hg : 0 < (Int.gcd c r : Int) := by
    have : 0 < Int.gcd c r := Int.gcd_pos_of_ne_zero_left _ (by omega)
    omega
  obtain ⟨c', hc'⟩ := Int.gcd_dvd_left c r
  obtain ⟨r', hr'⟩ := Int.gcd_dvd_right c r
  refine ⟨_, c', r', m, n, rfl, hg, hc', hr', ?_⟩
  have e2 : (Int.gcd c r : Int) * (m * c' + n * r') = (Int.gcd c r : Int) * 1 := by
    calc (Int.gcd c r : Int) * (m * c' + n * r') = m * ((Int.gcd c r : Int) * c') + n * ((Int.gcd c r : Int) * r') := by grind
      _ = m * c + n * r := by rw [← hc', ← hr']
      _ = (Int.gcd c r : Int) * 1 := by rw [← e]; omega
  exact Int.eq_of_mul_eq_mul_left (by omega) e2
theorem ml1 {g c' r' k1 k2 y : Int} (h1 : y = k1 * (g * c')) (h2 : y = k2 * (g * r')) : g * (k1 * c') = g * (k2 * r') := by grind
theorem ml2 {b q c' r' j x D m1 m2 a' p' : Int} (h1 : x = m1 * (D * a') + r' * j * b) (h2 : x = m2 * (D * p') + c' * j * q) : j * (b * r' - q * c') = D * (m2 * p' - m1 * a') := by grind
theorem ml3 {G D' j d' z : Int} (h : j * (G * d') = G * D' * z) : G * (j * d') = G * (D' * z) := by grind
theorem ml4 {j u v D' d' z : Int} (h : j * d' = D' * z) (e3 : u * D' + v * d' = 1) : j = D' * (j * u + v * z) := by
  calc j = j * (u * D' + v * d') := by rw [e3]; omega
    _ = j * u * D' + v * (j * d') := by grind
    _ = _ := by rw [h]; grind
theorem ml5 {D' i d' z : Int} (h : D' * i * d' = D' * z) : D' * (i * d') = D' * z := by grind
theorem ml6 {m1 m2 s t a' p' : Int} (e2 : s * a' + t * p' = 1) : m1 + s * (m2 * p' - m1 * a') = p' * (m1 * t + s * m2) := by
  have : m1 * (s * a' + t * p') = m1 := by rw [e2]; omega
  grind
theorem ml7 {a b m1 r' D' i d' s p' t m2 k : Int} (h : a * (m1 + s * (i * d')) = a * (p' * (m1 * t + s * m2))) : m1 * a + r' * (D' * i) * b = (m1 * t + s * m2 + i * k) * (a * p') + i * (D' * (b * r') - a * (d' * s) - k * (a * p')) := by grind
theorem ml8 {r' D' i g c' : Int} : r' * (D' * i) * (g * c') = i * (D' * (c' * r' * g)) := by grind
/-- the numbers that the program finds, in parts -/
structure MP (a b c p q r : Int) (g c' r' m n D a' p' s t G D' d' u v : Int) : Prop where
  hg : 0 < g
  ec : c = g * c'
  er : r = g * r'
  e1 : m * c' + n * r' = 1
  hD : 0 < D
  ea : a = D * a'
  ep : p = D * p'
  e2 : s * a' + t * p' = 1
  hG : 0 < G
  eD : D = G * D'
  ed : b * r' - q * c' = G * d'
  e3 : u * D' + v * d' = 1
theorem meet_of {a b c p q r g c' r' m n D a' p' s t G D' d' u v : Int} (h : Ok a b c) (h' : Ok p q r) (x : MP a b c p q r g c' r' m n D a' p' s t G D' d' u v) (R : Int) (hR : R = (D' * (b * r') - a * (d' * s)) % (a * p')) :
    Meet a b c p q r (a * p') R (D' * (c' * r' * g)) ∧ ∃ β, Form [(a, 0), (b, c), (p, 0), (q, r)] (some (G, β, g)) ∧ a * p' * (D' * (c' * r' * g)) * (G * g) = a * c * (p * r) := by
  obtain ⟨hg, ec, er, e1, hD, ea, ep, e2, hG, eD, ed, e3⟩ := x
  have ha : 0 < a := by have := h.2; omega
  have hp : 0 < p := by have := h'.2; omega
  have hc : 0 < c := by have := h.1; omega
  have hr : 0 < r := by have := h'.1; omega
  have hc' : 0 < c' := by
    rcases Int.lt_or_le 0 c' with z | z
    · exact z
    · have := Int.mul_nonpos_of_nonneg_of_nonpos (Int.le_of_lt hg) z; omega
  have hr' : 0 < r' := by
    rcases Int.lt_or_le 0 r' with z | z
    · exact z
    · have := Int.mul_nonpos_of_nonneg_of_nonpos (Int.le_of_lt hg) z; omega
  have ha' : 0 < a' := by
    rcases Int.lt_or_le 0 a' with z | z
    · exact z
    · have := Int.mul_nonpos_of_nonneg_of_nonpos (Int.le_of_lt hD) z; omega
  have hp' : 0 < p' := by
    rcases Int.lt_or_le 0 p' with z | z
    · exact z
    · have := Int.mul_nonpos_of_nonneg_of_nonpos (Int.le_of_lt hD) z; omega
  have hD' : 0 < D' := by
    rcases Int.lt_or_le 0 D' with z | z
    · exact z
    · have := Int.mul_nonpos_of_nonneg_of_nonpos (Int.le_of_lt hG) z; omega
  have hW : 0 < a * p' := Int.mul_pos ha hp'
  have hU : 0 < D' * (c' * r' * g) := Int.mul_pos hD' (Int.mul_pos (Int.mul_pos hc' hr') hg)
  have eW : a * p' = a' * p := by rw [ea, ep]; grind
  obtain ⟨k, hk⟩ : ∃ k, R = (D' * (b * r') - a * (d' * s)) - k * (a * p') := ⟨(D' * (b * r') - a * (d' * s)) / (a * p'), by rw [hR, Int.emod_def]; grind⟩
  have okW : Ok (a * p') R (D' * (c' * r' * g)) := ⟨hU, by rw [hR]; exact Int.emod_nonneg _ (by omega), by rw [hR]; exact Int.emod_lt_of_pos _ hW⟩
  refine ⟨⟨okW, fun x y => ⟨?_, ?_⟩, ?_, ?_⟩, m * b + n * q - (m * b + n * q) / G * G, ?_, ?_⟩
  · rintro ⟨i, j, hx, hy⟩
    constructor
    · exact ⟨i * p' - j * (d' * s) - j * k * p', j * (D' * r'), by rw [hx, hk]; grind, by rw [hy, ec]; grind⟩
    · refine ⟨i * a' + j * (d' * t) - j * k * a', j * (D' * c'), ?_, by rw [hy, er]; grind⟩
      have key : D' * (b * r') - a * (d' * s) = p * (d' * t) + D' * c' * q := by
        have z1 : D' * (b * r' - q * c') = D * d' := by rw [ed, eD]; grind
        have z2 : D * d' - a * (d' * s) = p * (d' * t) := by
          have : D * d' * (s * a' + t * p') = D * d' := by rw [e2]; omega
          rw [ea, ep]
          grind
        grind
      rw [hx, hk, key, eW]
      grind
  · rintro ⟨⟨m1, k1, hx, hy⟩, m2, k2, hx2, hy2⟩
    have q1 : k1 * c' = k2 * r' := by
      have : g * (k1 * c') = g * (k2 * r') := ml1 (y := y) (by rw [← ec]; exact hy) (by rw [← er]; exact hy2)
      exact Int.eq_of_mul_eq_mul_left (by omega) this
    have j1 : k1 = r' * (m * k2 + n * k1) := by
      calc k1 = k1 * (m * c' + n * r') := by rw [e1]; omega
        _ = m * (k1 * c') + n * (k1 * r') := by grind
        _ = m * (k2 * r') + n * (k1 * r') := by rw [q1]
        _ = _ := by grind
    have j2 : k2 = c' * (m * k2 + n * k1) := by
      calc k2 = k2 * (m * c' + n * r') := by rw [e1]; omega
        _ = m * (k2 * c') + n * (k2 * r') := by grind
        _ = m * (k2 * c') + n * (k1 * c') := by rw [q1]
        _ = _ := by grind
    generalize m * k2 + n * k1 = j at j1 j2
    subst j1
    subst j2
    have q2 : j * (G * d') = D * (m2 * p' - m1 * a') := by
      rw [← ed]
      exact ml2 (x := x) (by rw [← ea]; exact hx) (by rw [← ep]; exact hx2)
    have q3 : j * d' = D' * (m2 * p' - m1 * a') := by
      have : G * (j * d') = G * (D' * (m2 * p' - m1 * a')) := ml3 (by rw [← eD]; exact q2)
      exact Int.eq_of_mul_eq_mul_left (by omega) this
    have q4 : j = D' * (j * u + v * (m2 * p' - m1 * a')) := ml4 q3 e3
    generalize j * u + v * (m2 * p' - m1 * a') = i at q4
    subst q4
    have q5 : i * d' = m2 * p' - m1 * a' := by
      have : D' * (i * d') = D' * (m2 * p' - m1 * a') := ml5 q3
      exact Int.eq_of_mul_eq_mul_left (by omega) this
    refine ⟨m1 * t + s * m2 + i * k, i, ?_, by rw [hy, ec]; exact ml8⟩
    rw [hx, hk]
    have q6 : m1 + s * (i * d') = p' * (m1 * t + s * m2) := by
      rw [q5]
      exact ml6 e2
    exact ml7 (by rw [q6])
  · rw [ep]
    exact Int.mul_le_mul_of_nonneg_left (by have := Int.mul_le_mul_of_nonneg_right (show (1 : Int) ≤ D by omega) (Int.le_of_lt hp'); omega) (Int.le_of_lt ha)
  · have hDa : D' ≤ a := by
      have e4 : a = D' * (G * a') := by rw [ea, eD]; grind
      have := Int.mul_le_mul_of_nonneg_left (show (1 : Int) ≤ G * a' from Int.mul_pos hG ha') (Int.le_of_lt hD')
      omega
    have h5 : c' * r' * g ≤ c * r := by
      rw [ec, er]
      have e5 : g * c' * (g * r') = g * (c' * r' * g) := by grind
      rw [e5]
      have h6 : 0 < c' * r' * g := Int.mul_pos (Int.mul_pos hc' hr') hg
      have := Int.mul_le_mul_of_nonneg_right (show (1 : Int) ≤ g by omega) (Int.le_of_lt h6)
      omega
    exact Int.mul_le_mul hDa h5 (Int.le_of_lt (Int.mul_pos (Int.mul_pos hc' hr') hg)) (Int.le_of_lt ha)
  · have e0 : m * b + n * q - (m * b + n * q) / G * G = (m * b + n * q) % G := by rw [Int.emod_def]; grind
    rw [e0]
    refine form_pos ?_ hG hg
    refine .of (fun x y z => ?_) (fun x y z => ?_)
    · -- each of the four in the net of (G, 0), (β, g)
      have inG : ∀ i : Int, Sp [(G, 0), (m * b + n * q, g)] (i * G) 0 := fun i => ((Sp.gen (u := G) (v := 0) (by simp)).smul i).cast rfl (by omega)
      have inB : ∀ i : Int, Sp [(G, 0), (m * b + n * q, g)] (i * (m * b + n * q)) (i * g) := fun i => (Sp.gen (u := m * b + n * q) (v := g) (by simp)).smul i
      simp only [List.mem_cons, List.not_mem_nil, or_false, Prod.mk.injEq] at z
      rcases z with ⟨rfl, rfl⟩ | ⟨rfl, rfl⟩ | ⟨rfl, rfl⟩ | ⟨rfl, rfl⟩
      · exact (inG (D' * a')).cast (by rw [ea, eD]; grind) rfl
      · refine ((inG (n * d')).sum (inB c')).cast ?_ (by rw [ec]; grind)
        have : x * (m * c' + n * r') = x := by rw [e1]; omega
        have z2 : n * (x * r' - q * c') = n * (G * d') := by rw [ed]
        grind
      · exact (inG (D' * p')).cast (by rw [ep, eD]; grind) rfl
      · refine ((inG (-m * d')).sum (inB r')).cast ?_ (by rw [er]; grind)
        have : x * (m * c' + n * r') = x := by rw [e1]; omega
        have z2 : m * (b * r' - x * c') = m * (G * d') := by rw [ed]
        grind
    · have g1 : Sp [(a, 0), (b, c), (p, 0), (q, r)] a 0 := .gen (by simp)
      have g2 : Sp [(a, 0), (b, c), (p, 0), (q, r)] b c := .gen (by simp)
      have g3 : Sp [(a, 0), (b, c), (p, 0), (q, r)] p 0 := .gen (by simp)
      have g4 : Sp [(a, 0), (b, c), (p, 0), (q, r)] q r := .gen (by simp)
      have gD : Sp [(a, 0), (b, c), (p, 0), (q, r)] D 0 := ((g1.smul s).sum (g3.smul t)).cast (by
        have : D * (s * a' + t * p') = D := by rw [e2]; omega
        rw [ea, ep]
        grind) (by omega)
      have gd : Sp [(a, 0), (b, c), (p, 0), (q, r)] (G * d') 0 := ((g2.smul r').sub (g4.smul c')).cast (by rw [← ed]; grind) (by rw [ec, er]; grind)
      simp only [List.mem_cons, List.not_mem_nil, or_false, Prod.mk.injEq] at z
      rcases z with ⟨rfl, rfl⟩ | ⟨rfl, rfl⟩
      · refine ((gD.smul u).sum (gd.smul v)).cast ?_ (by omega)
        have : x * (u * D' + v * d') = x := by rw [e3]; omega
        rw [eD]
        grind
      · refine ((g2.smul m).sum (g4.smul n)).cast rfl ?_
        have : y * (m * c' + n * r') = y := by rw [e1]; omega
        rw [ec, er]
        grind
  · have e5 : D' * G = D := by rw [eD]; grind
    calc a * p' * (D' * (c' * r' * g)) * (G * g) = a * (p' * (D' * G)) * ((g * c') * (g * r')) := by grind
      _ = a * c * (p * r) := by rw [e5, ← ec, ← er, ep]; grind
theorem meet_prog {a b c p q r s t g up f e D G rows W : Int} (h : Ok a b c) (h' : Ok p q r) (eg : g = (Int.gcd c r : Int)) (eup : up = c * r / g) (ef : f = b * (up / c)) (ee : e = q * (up / r)) (eD : D = (Int.gcd a p : Int)) (hs : D = s * a + t * p)
    (eG : G = (Int.gcd D (f - e) : Int)) (er : rows = D / G) (eW : W = a * p / D) :
    Meet a b c p q r W ((rows * f + a * ((rows * e - rows * f) / D * s)) % W) (rows * up) ∧ ∀ A B C, Form [(a, 0), (b, c), (p, 0), (q, r)] (some (A, B, C)) → W * (rows * up) * (A * C) = a * c * (p * r) := by
  have ha : 0 < a := by have := h.2; omega
  have hp : 0 < p := by have := h'.2; omega
  have hc : 0 < c := by have := h.1; omega
  have hr : 0 < r := by have := h'.1; omega
  obtain ⟨g0, c', r', m, n, rfl, hg, ec, er', e1⟩ := gcd_parts (r := r) hc
  rw [← eg] at hg ec er'
  obtain ⟨D0, a', p', _, _, rfl, hD, ea, ep, _⟩ := gcd_parts (r := p) ha
  rw [← eD] at hD ea ep
  have e2 : s * a' + t * p' = 1 := by
    have : D * (s * a' + t * p') = D * 1 := by
      calc D * (s * a' + t * p') = s * (D * a') + t * (D * p') := by grind
        _ = s * a + t * p := by rw [← ea, ← ep]
        _ = D * 1 := by rw [← hs]; omega
    exact Int.eq_of_mul_eq_mul_left (by omega) this
  have up1 : up = c' * r' * g := by
    rw [eup]
    have : c * r = g * (c' * r' * g) := by rw [ec, er']; grind
    rw [this, Int.mul_ediv_cancel_left _ (by omega)]
  have up2 : up / c = r' := by
    have : up = c * r' := by rw [up1, ec]; grind
    rw [this, Int.mul_ediv_cancel_left _ (by omega)]
  have up3 : up / r = c' := by
    have : up = r * c' := by rw [up1, er']; grind
    rw [this, Int.mul_ediv_cancel_left _ (by omega)]
  rw [up2] at ef
  rw [up3] at ee
  obtain ⟨G0, D', d', u, v, rfl, hG, eD2, ed, e3⟩ := gcd_parts (r := f - e) hD
  rw [← eG] at hG eD2 ed
  have erow : rows = D' := by rw [er, eD2, Int.mul_ediv_cancel_left _ (by omega)]
  have hW : W = a * p' := by
    rw [eW]
    have : a * p = D * (a * p') := by rw [ep]; grind
    rw [this, Int.mul_ediv_cancel_left _ (by omega)]
  have x : MP a b c p q r g c' r' m n D a' p' s t G D' d' u v := ⟨hg, ec, er', e1, hD, ea, ep, e2, hG, eD2, by rw [← ed, ef, ee], e3⟩
  have dv : (rows * e - rows * f) / D = -d' := by
    have : rows * e - rows * f = D * (-d') := by
      rw [erow]
      calc D' * e - D' * f = -(D' * (f - e)) := by grind
        _ = -(D' * (G * d')) := by rw [ed]
        _ = D * (-d') := by rw [eD2]; grind
    rw [this, Int.mul_ediv_cancel_left _ (by omega)]
  obtain ⟨z1, β, z2, z3⟩ := meet_of h h' x _ rfl
  rw [dv, hW, erow, up1]
  have e9 : D' * f + a * (-d' * s) = D' * (b * r') - a * (d' * s) := by rw [ef]; grind
  rw [e9]
  refine ⟨z1, fun A B C hF => ?_⟩
  have := form_uni hF z2
  simp only [Option.some.injEq, Prod.mk.injEq] at this
  obtain ⟨rfl, _, rfl⟩ := this
  exact z3
theorem meet_uni {a b c p q r W R U W' R' U' : Int} (h : Meet a b c p q r W R U) (h' : Meet a b c p q r W' R' U') : W = W' ∧ R = R' ∧ U = U' := net_eq h.1 h'.1 fun x y => (h.2.1 x y).trans (h'.2.1 x y).symm
theorem meet_size {a b c p q r W R U A B C : Int} (h : Ok a b c) (h' : Ok p q r) (hM : Meet a b c p q r W R U) (hF : Form [(a, 0), (b, c), (p, 0), (q, r)] (some (A, B, C))) : W * U * (A * C) = a * c * (p * r) := by
  obtain ⟨s, t, e⟩ := bez a p
  obtain ⟨z1, z2⟩ := meet_prog h h' rfl rfl rfl rfl rfl e rfl rfl rfl
  obtain ⟨e1, _, e2⟩ := meet_uni hM z1
  rw [e1, e2]
  exact z2 A B C hF
/-- Euclid's steps with factors -/
structure Bz (a p f0 f1 s0 s1 : Int) : Prop where
  f : ∃ t, f0 = f1 * a + t * p
  s : ∃ t, s0 = s1 * a + t * p
  g : Int.gcd f0 s0 = Int.gcd a p
  pos : 0 < f0
  nn : 0 ≤ s0
  sg : f1 * s1 ≤ 0
  sum : f0.natAbs * s1.natAbs + f1.natAbs * s0.natAbs = p.natAbs
  le : f1.natAbs ≤ p.natAbs
theorem Bz.start {a p : Int} (ha : 0 < a) (hp : 0 < p) : Bz a p a 1 p 0 := ⟨⟨0, by omega⟩, ⟨1, by omega⟩, rfl, ha, by omega, by omega, by simp, by simp; omega⟩
theorem Bz.step {a p f0 f1 s0 s1 : Int} (h : Bz a p f0 f1 s0 s1) (hs : 0 < s0) : Bz a p s0 s1 (f0 - f0 / s0 * s0) (f1 - f0 / s0 * s1) := by
  obtain ⟨⟨t, e1⟩, ⟨t', e2⟩, hg, hp, hn, sg, sm, le⟩ := h
  have hq : 0 ≤ f0 / s0 := Int.ediv_nonneg (by omega) (by omega)
  have e3 : f0 - f0 / s0 * s0 = f0 % s0 := by rw [Int.emod_def]; grind
  have hr := Int.emod_nonneg f0 (show s0 ≠ 0 by omega)
  have hr2 := Int.emod_lt_of_pos f0 hs
  have sq : 0 ≤ s1 * s1 := by
    rcases Int.le_total 0 s1 with z | z
    · exact Int.mul_nonneg z z
    · exact Int.mul_nonneg_of_nonpos_of_nonpos z z
  have abs : (f1 - f0 / s0 * s1).natAbs = f1.natAbs + (f0 / s0).natAbs * s1.natAbs := by
    rcases Int.le_total 0 s1 with z | z
    · have z2 : f1 ≤ 0 ∨ s1 = 0 := by
        rcases Int.lt_or_le 0 f1 with y | y
        · right
          rcases Int.lt_or_le 0 s1 with y' | y'
          · have := Int.mul_pos y y'; omega
          · omega
        · exact .inl y
      rcases z2 with z2 | z2
      · have : 0 ≤ f0 / s0 * s1 := Int.mul_nonneg hq z
        rw [← Int.natAbs_mul]
        omega
      · rw [z2]; simp
    · have z2 : 0 ≤ f1 ∨ s1 = 0 := by
        rcases Int.lt_or_le f1 0 with y | y
        · right
          rcases Int.lt_or_le s1 0 with y' | y'
          · have := Int.mul_pos_of_neg_of_neg y y'; omega
          · omega
        · exact .inl y
      rcases z2 with z2 | z2
      · have : f0 / s0 * s1 ≤ 0 := Int.mul_nonpos_of_nonneg_of_nonpos hq z
        rw [← Int.natAbs_mul]
        omega
      · rw [z2]; simp
  refine ⟨⟨t', e2⟩, ⟨t - f0 / s0 * t', ?_⟩, ?_, hs, by omega, ?_, ?_, ?_⟩
  · generalize f0 / s0 = k at *
    calc f0 - k * s0 = (f1 * a + t * p) - k * (s1 * a + t' * p) := by rw [← e1, ← e2]
      _ = _ := by grind
  · rw [e3, ← hg, ← fmod_gcd f0 s0, Int.fmod_eq_emod_of_nonneg _ (by omega)]
  · have : s1 * (f1 - f0 / s0 * s1) = f1 * s1 - f0 / s0 * (s1 * s1) := by grind
    rw [this]
    have := Int.mul_nonneg hq sq
    omega
  · rw [abs, ← sm]
    have e4 : f0.natAbs = (f0 / s0).natAbs * s0.natAbs + (f0 - f0 / s0 * s0).natAbs := by
      rw [← Int.natAbs_mul]
      have : 0 ≤ f0 / s0 * s0 := Int.mul_nonneg hq (by omega)
      omega
    rw [e4]
    grind
  · have h1 : 1 ≤ f0.natAbs := by omega
    have := Nat.mul_le_mul_right s1.natAbs h1
    omega
theorem Bz.fin {a p f0 f1 s1 : Int} (h : Bz a p f0 f1 0 s1) : f0 = (Int.gcd a p : Int) ∧ (∃ t, f0 = f1 * a + t * p) ∧ f1.natAbs ≤ p.natAbs := by
  refine ⟨?_, h.f, h.le⟩
  rw [← h.g]
  have := h.pos
  simp
  omega
end MN
namespace MN
/-- both spanning shifts of (a, b, c) belong to (p, q, r) -/
def inside (a b c p q r : Int) : Bool := decide (low p q r a 0 = (0, 0)) && decide (low p q r b c = (0, 0))
theorem inside_iff {a b c p q r : Int} (h : Ok p q r) : inside a b c p q r = true ↔ ∀ x y, InN a b c x y → InN p q r x y := by
  have hp : 0 < p := by have := h.2; omega
  have hr : 0 < r := by have := h.1; omega
  unfold inside
  rw [Bool.and_eq_true, decide_eq_true_eq, decide_eq_true_eq, low_zero hp hr, low_zero hp hr]
  constructor
  · rintro ⟨h1, h2⟩ x y ⟨m, k, rfl, rfl⟩
    have := inN_add (inN_mul m h1) (inN_mul k h2)
    rw [Int.mul_zero, Int.zero_add] at this
    exact this
  · intro h
    exact ⟨h a 0 ⟨1, 0, by omega, by omega⟩, h b c ⟨0, 1, by omega, by omega⟩⟩
theorem bool_ext {x y : Bool} (h : x = true ↔ y = true) : x = y := by cases x <;> cases y <;> simp_all
theorem meet_first {a b c p q r W R U : Int} (h : Ok a b c) (h' : Ok p q r) (m : Meet a b c p q r W R U) : decide (W = a ∧ R = b ∧ U = c) = inside a b c p q r := by
  refine bool_ext ?_
  rw [decide_eq_true_eq, inside_iff h']
  constructor
  · rintro ⟨rfl, rfl, rfl⟩ x y z
    exact ((m.2.1 x y).mp z).2
  · intro z
    exact net_eq m.1 h fun x y => ⟨fun w => ((m.2.1 x y).mp w).1, fun w => (m.2.1 x y).mpr ⟨w, z x y w⟩⟩
theorem join_in {a b c p q r A B C : Int} (f : Form [(a, 0), (b, c), (p, 0), (q, r)] (some (A, B, C))) : (∀ x y, InN a b c x y → InN A B C x y) ∧ (∀ x y, InN p q r x y → InN A B C x y) := by
  refine ⟨fun x y z => (f.2 x y).mpr ?_, fun x y z => (f.2 x y).mpr ?_⟩
  · refine Sp.le (fun u v m => ?_) (inN_sp.mp z)
    refine .gen ?_
    simp only [List.mem_cons, List.not_mem_nil, or_false] at m ⊢
    rcases m with m | m
    · exact .inl m
    · exact .inr (.inl m)
  · refine Sp.le (fun u v m => ?_) (inN_sp.mp z)
    refine .gen ?_
    simp only [List.mem_cons, List.not_mem_nil, or_false] at m ⊢
    rcases m with m | m
    · exact .inr (.inr (.inl m))
    · exact .inr (.inr (.inr m))
/-- the least net with both -/
theorem join_le {a b c p q r A B C a' b' c' : Int} (f : Form [(a, 0), (b, c), (p, 0), (q, r)] (some (A, B, C))) (h1 : ∀ x y, InN a b c x y → InN a' b' c' x y) (h2 : ∀ x y, InN p q r x y → InN a' b' c' x y) : ∀ x y, InN A B C x y → InN a' b' c' x y := fun x y z => by
  have := (f.2 x y).mp z
  refine inN_sp.mpr (Sp.le (fun u v m => inN_sp.mp ?_) this)
  simp only [List.mem_cons, List.not_mem_nil, or_false, Prod.mk.injEq] at m
  rcases m with ⟨rfl, rfl⟩ | ⟨rfl, rfl⟩ | ⟨rfl, rfl⟩ | ⟨rfl, rfl⟩
  · exact h1 _ _ ⟨1, 0, by omega, by omega⟩
  · exact h1 _ _ ⟨0, 1, by omega, by omega⟩
  · exact h2 _ _ ⟨1, 0, by omega, by omega⟩
  · exact h2 _ _ ⟨0, 1, by omega, by omega⟩
theorem join_second {a b c p q r A B C : Int} (h' : Ok p q r) (f : Form [(a, 0), (b, c), (p, 0), (q, r)] (some (A, B, C))) : decide (A = p ∧ B = q ∧ C = r) = inside a b c p q r := by
  refine bool_ext ?_
  rw [decide_eq_true_eq, inside_iff h']
  constructor
  · rintro ⟨rfl, rfl, rfl⟩
    exact (join_in f).1
  · intro z
    exact net_eq f.1 h' fun x y => ⟨join_le f z (fun _ _ w => w) x y, (join_in f).2 x y⟩
theorem join_not_none {a b c : Int} {S : List (Int × Int)} (h : Ok a b c) : ¬ Form ((a, 0) :: (b, c) :: S) none := not_none h (.gen (by simp)) (.gen (by simp))
theorem join_ex {a b c p q r : Int} (h : Ok a b c) (h' : Ok p q r) : ∃ A B C, Form [(a, 0), (b, c), (p, 0), (q, r)] (some (A, B, C)) := by
  obtain ⟨s, t, e⟩ := bez a p
  have ha : 0 < a := by have := h.2; omega
  have hc : 0 < c := by have := h.1; omega
  obtain ⟨g, c', r', m, n, _, hg, ec, er', e1⟩ := gcd_parts (r := r) hc
  obtain ⟨D, a', p', s, t, _, hD, ea, ep, e2⟩ := gcd_parts (r := p) ha
  obtain ⟨G, D', d', u, v, _, hG, eD2, ed, e3⟩ := gcd_parts (r := b * r' - q * c') hD
  obtain ⟨_, β, z, _⟩ := meet_of h h' (⟨hg, ec, er', e1, hD, ea, ep, e2, hG, eD2, ed, e3⟩ : MP a b c p q r g c' r' m n D a' p' s t G D' d' u v) _ rfl
  exact ⟨_, _, _, z⟩
end MN
namespace Y
open PySem PySem.Spec PyProof.Rows L2 Z
abbrev n3 (a b c : Int) : D := .tup [.int a, .int b, .int c]
def n3D (n : Int × Int × Int) : D := n3 n.1 n.2.1 n.2.2
def R_check_number_n : RdF := ar3 fun v lo hi Q _ => match v, lo, hi with
  | .int i, .int l, .non => l ≤ i ∧ Q .non
  | .int i, .int l, .int h => (l ≤ i ∧ i ≤ h) ∧ Q .non
  | _, _, _ => False
def R_bezout : RdF := ar2 fun x y Q _ => match x, y with
  | .int a, .int p => (0 < a ∧ 0 < p ∧ Sz 1000 a ∧ Sz 1000 p) ∧ ∀ s t : Int, ((Int.gcd a p : Nat) : Int) = s * a + t * p → s.natAbs ≤ p.natAbs → Q (dPl ((Int.gcd a p : Nat) : Int) s)
  | _, _ => False
/-- two nets of moderate numbers -/
def okN (n : Nat) (a b c : Int) : Prop := MN.Ok a b c ∧ Sz n a ∧ Sz n c
theorem okN.mono {n m : Nat} {a b c : Int} (h : okN n a b c) (z : n ≤ m) : okN m a b c := ⟨h.1, h.2.1.mono z, h.2.2.mono z⟩
theorem okN.b {n : Nat} {a b c : Int} (h : okN n a b c) : Sz n b := sz_le h.1.2.1 (Int.le_of_lt h.1.2.2) h.2.1
def R_common_numbers : RdF := ar2 fun x y Q _ => ∃ a b c p q r : Int, x = n3 a b c ∧ y = n3 p q r ∧ (okN 900 a b c ∧ okN 900 p q r) ∧ ∀ W R U, MN.Meet a b c p q r W R U → Q (n3 W R U)
def R_Net_UandU : RdF := ar2 fun x y Q _ => ∃ a b c p q r : Int, x = dNet a b c ∧ y = dNet p q r ∧ (okN 900 a b c ∧ okN 900 p q r) ∧ ∀ W R U, MN.Meet a b c p q r W R U → Q (dNet W R U)
def R_Net_UorU : RdF := ar2 fun x y Q _ => ∃ a b c p q r : Int, x = dNet a b c ∧ y = dNet p q r ∧ (okN 600 a b c ∧ okN 600 p q r) ∧ ∀ A B C, MN.Form [(a, 0), (b, c), (p, 0), (q, r)] (some (A, B, C)) → Q (dNet A B C)
def R_Net_is_within : RdF := ar2 fun x y Q _ => ∃ a b c p q r : Int, x = dNet a b c ∧ y = dNet p q r ∧ (okN 4000 p q r ∧ Sz 4000 c) ∧ Q (.bl (MN.inside a b c p q r))
def R_Net_scaled : RdF := ar2 fun x y Q _ => ∃ a b c f : Int, x = dNet a b c ∧ y = .int f ∧ (okN 1000 a b c ∧ 1 ≤ f ∧ Sz 1000 f) ∧ Q (dNet (a * f) (b * f) (c * f))
def R__law_low : RdF := ar2 fun n p Q _ => ∃ a b c x y : Int, n = n3 a b c ∧ p = dPl x y ∧ (okN 4000 a b c ∧ Sz 4000 y) ∧ Q (dPl (MN.low a b c x y).1 (MN.low a b c x y).2)
def R__law_rows : RdF := ar1 fun n Q _ => ∃ a b c : Int, n = n3 a b c ∧ Q (.lst [dPl a 0, dPl b c])
theorem meet_sz {n : Nat} {a b c p q r W R U : Int} (h : okN n a b c) (h' : okN n p q r) (m : MN.Meet a b c p q r W R U) : okN (3 * n) W R U := by
  obtain ⟨o, _, l1, l2⟩ := m
  obtain ⟨⟨o1, o2, o3⟩, sa, sc⟩ := h
  obtain ⟨⟨p1, p2, p3⟩, sp, sr⟩ := h'
  have s1 : Sz (n + n) (a * p) := sz_mul sa sp
  have s2 : Sz (n + (n + n)) (a * (c * r)) := sz_mul sa (sz_mul sc sr)
  exact ⟨o, (sz_le (by have := o.2; omega) l1 s1).mono (by omega), (sz_le (by have := o.1; omega) l2 s2).mono (by omega)⟩
theorem join_sz {n : Nat} {a b c p q r A B C : Int} (h : okN n a b c) (f : MN.Form [(a, 0), (b, c), (p, 0), (q, r)] (some (A, B, C))) : okN n A B C := by
  obtain ⟨⟨o1, o2, o3⟩, sa, sc⟩ := h
  obtain ⟨d1, d2⟩ := MN.net_le ⟨o1, o2, o3⟩ f.1 (MN.join_in f).1
  have l1 := Int.le_of_dvd (by omega) d1
  have l2 := Int.le_of_dvd (by omega) d2
  exact ⟨f.1, sz_le (by have := f.1.2; omega) l1 sa, sz_le (by have := f.1.1; omega) l2 sc⟩
theorem rngD_get {lo : Int} {n i : Nat} {d : D} (h : (rngD lo n)[i]? = some d) : ∃ v : Int, d = .int v ∧ lo ≤ v ∧ v < lo + n := by
  unfold rngD at h
  obtain ⟨j, h1, rfl⟩ := map_get h
  have hj : j < n := by
    have := List.mem_of_getElem? h1
    exact List.mem_range.mp this
  exact ⟨_, rfl, by omega, by omega⟩
theorem rngC_get {lo c : Int} {n i : Nat} {d : D} (h : (rngC lo c n)[i]? = some d) : ∃ j : Nat, j < n ∧ d = .int (lo + (j : Nat) * c) := by
  unfold rngC at h
  obtain ⟨j, h1, rfl⟩ := map_get h
  exact ⟨j, List.mem_range.mp (List.mem_of_getElem? h1), rfl⟩
/-! ### k04 -/
def R__law_three : RdF := ar1 fun t Q _ => match t with
  | .tape => ∀ l m n : Int × Int × Int, (∀ x ∈ [l, m, n], okN 20 x.1 x.2.1 x.2.2) → Q (.lst [n3D l, n3D m, n3D n])
  | _ => False
def R__law_pair_right : RdF := ar2 fun x y Q _ => ∃ a b c p q r : Int, x = n3 a b c ∧ y = n3 p q r ∧ (okN 60 a b c ∧ okN 60 p q r) ∧ Q (.bl true)
def R__law_great_net : RdF := ar1 fun t Q _ => match t with
  | .tape => ∀ a b c, okN 50 a b c → Q (n3 a b c)
  | _ => False
def R__law_great_right : RdF := ar1 fun t Q _ => match t with
  | .tape => Q (.bl true)
  | _ => False
end Y
namespace MN
/-! ### turns and mirror images -/
abbrev Mat := Int × Int × Int × Int
def turn (M : Mat) (p : Int × Int) : Int × Int := (M.1 * p.1 + M.2.1 * p.2, M.2.2.1 * p.1 + M.2.2.2 * p.2)
def tr (M : Mat) : Mat := (M.1, M.2.2.1, M.2.1, M.2.2.2)
def Orth (M : Mat) : Prop := M.1 * M.1 + M.2.2.1 * M.2.2.1 = 1 ∧ M.2.1 * M.2.1 + M.2.2.2 * M.2.2.2 = 1 ∧ M.1 * M.2.1 + M.2.2.1 * M.2.2.2 = 0 ∧ M.1 * M.1 + M.2.1 * M.2.1 = 1 ∧ M.2.2.1 * M.2.2.1 + M.2.2.2 * M.2.2.2 = 1 ∧ M.1 * M.2.2.1 + M.2.1 * M.2.2.2 = 0
instance (M : Mat) : Decidable (Orth M) := by unfold Orth; infer_instance
theorem orth_tr {M : Mat} (h : Orth M) : Orth (tr M) := by
  obtain ⟨p, q, r, s⟩ := M
  obtain ⟨h1, h2, h3, h4, h5, h6⟩ := h
  exact ⟨h4, h5, h6, h1, h2, h3⟩
theorem turn_tr {M : Mat} (h : Orth M) (u : Int × Int) : turn (tr M) (turn M u) = u := by
  obtain ⟨p, q, r, s⟩ := M
  obtain ⟨x, y⟩ := u
  obtain ⟨h1, h2, h3, h4, h5, h6⟩ := h
  simp only [turn, tr] at *
  refine Prod.ext ?_ ?_ <;> simp only <;> grind
theorem turn_tr' {M : Mat} (h : Orth M) (u : Int × Int) : turn M (turn (tr M) u) = u := turn_tr (orth_tr h) u
theorem sp_turn (M : Mat) {S : List (Int × Int)} {x y : Int} (h : Sp S x y) : Sp (S.map (turn M)) (turn M (x, y)).1 (turn M (x, y)).2 := by
  induction h with
  | zero => simp only [turn, Int.mul_zero, Int.add_zero]; exact .zero
  | @add u v x y n mem _ ih =>
    exact (Sp.sum (Sp.smul n (Sp.gen (S := S.map (turn M)) (u := (turn M (u, v)).1) (v := (turn M (u, v)).2) (List.mem_map.mpr ⟨(u, v), mem, rfl⟩))) ih).cast (by simp only [turn]; grind) (by simp only [turn]; grind)
def Img (M : Mat) (a b c a' b' c' : Int) : Prop := Ok a' b' c' ∧ (∀ x y, InN a' b' c' (turn M (x, y)).1 (turn M (x, y)).2 ↔ InN a b c x y) ∧ a' * c' = a * c
theorem img_tr {M : Mat} (h : Orth M) {a b c a' b' c' : Int} (i : Img M a b c a' b' c') (x y : Int) : InN a' b' c' x y ↔ InN a b c (turn (tr M) (x, y)).1 (turn (tr M) (x, y)).2 := by
  have := i.2.1 (turn (tr M) (x, y)).1 (turn (tr M) (x, y)).2
  have e : turn M ((turn (tr M) (x, y)).1, (turn (tr M) (x, y)).2) = (x, y) := turn_tr' h (x, y)
  rw [e] at this
  exact this
theorem img_uni {M : Mat} (h : Orth M) {a b c a' b' c' p q r : Int} (i : Img M a b c a' b' c') (j : Img M a b c p q r) : a' = p ∧ b' = q ∧ c' = r := net_eq i.1 j.1 fun x y => (img_tr h i x y).trans (img_tr h j x y).symm
theorem inN_turn {M : Mat} (h : Orth M) {a b c x y : Int} : Sp [turn M (a, 0), turn M (b, c)] (turn M (x, y)).1 (turn M (x, y)).2 ↔ InN a b c x y := by
  constructor
  · intro z
    obtain ⟨m, k, e1, e2⟩ := sp_two z
    have e3 : turn M (x, y) = turn M (m * a + k * b, k * c) := by
      refine Prod.ext ?_ ?_
      · rw [e1]; simp only [turn]; grind
      · rw [e2]; simp only [turn]; grind
    have e4 := congrArg (turn (tr M)) e3
    rw [turn_tr h, turn_tr h] at e4
    exact ⟨m, k, congrArg (·.1) e4, congrArg (·.2) e4⟩
  · intro z
    exact sp_turn M (inN_sp.mp z)
theorem det_turn {M : Mat} (h : Orth M) (p q : Int × Int) : det (turn M p) (turn M q) = det p q ∨ det (turn M p) (turn M q) = - det p q := by
  obtain ⟨a, b, c, d⟩ := M
  obtain ⟨h1, h2, h3, h4, h5, h6⟩ := h
  obtain ⟨x, y⟩ := p
  obtain ⟨u, v⟩ := q
  simp only [turn, det] at *
  have e : (a * d - b * c) * (a * d - b * c) = 1 := by grind
  have e2 : a * d - b * c = 1 ∨ a * d - b * c = -1 := by
    generalize a * d - b * c = t at e
    have e' : t * t - 1 = 0 := by omega
    have e'' : (t - 1) * (t + 1) = 0 := by grind
    rcases Int.mul_eq_zero.mp e'' with h | h
    · exact .inl (by omega)
    · exact .inr (by omega)
  rcases e2 with e2 | e2
  · exact .inl (by grind)
  · exact .inr (by grind)
theorem img_form {M : Mat} (h : Orth M) {a b c a' b' c' : Int} (o : Ok a b c) (f : Form [turn M (a, 0), turn M (b, c)] (some (a', b', c'))) : Img M a b c a' b' c' := by
  have hi : ∀ x y, InN a' b' c' (turn M (x, y)).1 (turn M (x, y)).2 ↔ InN a b c x y := fun x y => (f.2 _ _).trans (inN_turn h)
  refine ⟨f.1, hi, ?_⟩
  have ha : 0 < a := by have := o.2; omega
  have hc : 0 < c := by have := o.1; omega
  have ha' : 0 < a' := by have := f.1.2; omega
  have hc' : 0 < c' := by have := f.1.1; omega
  have d1 : a' * c' ∣ a * c := by
    have z := det_dvd ((hi a 0).mpr ⟨1, 0, by omega, by omega⟩) ((hi b c).mpr ⟨0, 1, by omega, by omega⟩)
    have z' : a' * c' ∣ det (turn M (a, 0)) (turn M (b, c)) := z
    rcases det_turn h (a, 0) (b, c) with e | e
    · rw [e] at z'
      have : det (a, 0) (b, c) = a * c := by simp only [det]; omega
      rwa [this] at z'
    · rw [e] at z'
      have : det (a, 0) (b, c) = a * c := by simp only [det]; omega
      rw [this] at z'
      exact Int.dvd_neg.mp z'
  have d2 : a * c ∣ a' * c' := by
    have i1 : InN a b c (turn (tr M) (a', 0)).1 (turn (tr M) (a', 0)).2 := by
      have := hi (turn (tr M) (a', 0)).1 (turn (tr M) (a', 0)).2
      have e : turn M ((turn (tr M) (a', 0)).1, (turn (tr M) (a', 0)).2) = (a', 0) := turn_tr' h _
      rw [e] at this
      exact this.mp ⟨1, 0, by omega, by omega⟩
    have i2 : InN a b c (turn (tr M) (b', c')).1 (turn (tr M) (b', c')).2 := by
      have := hi (turn (tr M) (b', c')).1 (turn (tr M) (b', c')).2
      have e : turn M ((turn (tr M) (b', c')).1, (turn (tr M) (b', c')).2) = (b', c') := turn_tr' h _
      rw [e] at this
      exact this.mp ⟨0, 1, by omega, by omega⟩
    have z' : a * c ∣ det (turn (tr M) (a', 0)) (turn (tr M) (b', c')) := det_dvd i1 i2
    have : det (a', 0) (b', c') = a' * c' := by simp only [det]; omega
    rcases det_turn (orth_tr h) (a', 0) (b', c') with e | e
    · rw [e, this] at z'
      exact z'
    · rw [e, this] at z'
      exact Int.dvd_neg.mp z'
  exact Int.dvd_antisymm (Int.le_of_lt (Int.mul_pos ha' hc')) (Int.le_of_lt (Int.mul_pos ha hc)) d1 d2
theorem turn_not_none {M : Mat} (h : Orth M) {a b c : Int} (o : Ok a b c) : ¬ Form [turn M (a, 0), turn M (b, c)] none := by
  have ha : 0 < a := by have := o.2; omega
  have hc : 0 < c := by have := o.1; omega
  have hN : 0 < a * c := Int.mul_pos ha hc
  have all : ∀ u v : Int, Sp [turn M (a, 0), turn M (b, c)] (a * c * u) (a * c * v) := fun u v => by
    have e : turn M (turn (tr M) (a * c * u, a * c * v)) = (a * c * u, a * c * v) := turn_tr' h _
    have z : InN a b c (turn (tr M) (a * c * u, a * c * v)).1 (turn (tr M) (a * c * u, a * c * v)).2 := by
      refine ⟨c * (turn (tr M) (u, v)).1 - b * (turn (tr M) (u, v)).2, a * (turn (tr M) (u, v)).2, ?_, ?_⟩ <;> simp only [turn] <;> grind
    have := (inN_turn h).mpr z
    have e' : turn M ((turn (tr M) (a * c * u, a * c * v)).1, (turn (tr M) (a * c * u, a * c * v)).2) = (a * c * u, a * c * v) := e
    rw [e'] at this
    exact this
  exact not_none (a := a * c) (b := 0) (c := a * c) ⟨by omega, by omega, hN⟩ ((all 1 0).cast (by omega) (by omega)) ((all 0 1).cast (by omega) (by omega))
/-! ### what is carried along -/
section
variable {M M' : Mat} {a b c a' b' c' p q r p' q' r' : Int}
theorem img_meet (h : Orth M) {W R U W' R' U' W2 R2 U2 : Int} (i : Img M a b c a' b' c') (j : Img M p q r p' q' r') (m : Meet a b c p q r W R U) (k : Img M W R U W' R' U') (m2 : Meet a' b' c' p' q' r' W2 R2 U2) : W' = W2 ∧ R' = R2 ∧ U' = U2 := by
  refine net_eq k.1 m2.1 fun x y => ?_
  rw [img_tr h k, m.2.1, m2.2.1, img_tr h i, img_tr h j]
theorem img_join (h : Orth M) {A B C A' B' C' A2 B2 C2 : Int} (i : Img M a b c a' b' c') (j : Img M p q r p' q' r') (f : Form [(a, 0), (b, c), (p, 0), (q, r)] (some (A, B, C))) (k : Img M A B C A' B' C') (f2 : Form [(a', 0), (b', c'), (p', 0), (q', r')] (some (A2, B2, C2))) : A' = A2 ∧ B' = B2 ∧ C' = C2 := by
  have sub1 : ∀ x y, InN a b c x y → InN A B C x y := fun x y z => (f.2 x y).mpr (Sp.le (fun u v m => .gen (by simp only [List.mem_cons, List.not_mem_nil, or_false] at m ⊢; rcases m with m | m; exact .inl m; exact .inr (.inl m))) (inN_sp.mp z))
  have sub2 : ∀ x y, InN p q r x y → InN A B C x y := fun x y z => (f.2 x y).mpr (Sp.le (fun u v m => .gen (by simp only [List.mem_cons, List.not_mem_nil, or_false] at m ⊢; rcases m with m | m; exact .inr (.inr (.inl m)); exact .inr (.inr (.inr m)))) (inN_sp.mp z))
  refine net_eq k.1 f2.1 fun x y => ⟨fun z => ?_, fun z => ?_⟩
  · rw [img_tr h k, f.2] at z
    have z2 := sp_turn M z
    have e : turn M ((turn (tr M) (x, y)).1, (turn (tr M) (x, y)).2) = (x, y) := turn_tr' h _
    rw [e] at z2
    refine inN_sp.mpr (Sp.le (fun u v m => ?_) z2)
    refine inN_sp.mp ?_
    obtain ⟨t, mt, et⟩ := List.mem_map.mp m
    have g1 : ∀ x y, InN a' b' c' x y → InN A2 B2 C2 x y := fun x y z => (f2.2 x y).mpr (Sp.le (fun u v m => .gen (by simp only [List.mem_cons, List.not_mem_nil, or_false] at m ⊢; rcases m with m | m; exact .inl m; exact .inr (.inl m))) (inN_sp.mp z))
    have g2 : ∀ x y, InN p' q' r' x y → InN A2 B2 C2 x y := fun x y z => (f2.2 x y).mpr (Sp.le (fun u v m => .gen (by simp only [List.mem_cons, List.not_mem_nil, or_false] at m ⊢; rcases m with m | m; exact .inr (.inr (.inl m)); exact .inr (.inr (.inr m)))) (inN_sp.mp z))
    have eu : u = (turn M t).1 := (congrArg (·.1) et).symm
    have ev : v = (turn M t).2 := (congrArg (·.2) et).symm
    rw [eu, ev]
    simp only [List.mem_cons, List.not_mem_nil, or_false] at mt
    rcases mt with rfl | rfl | rfl | rfl
    · exact g1 _ _ ((i.2.1 _ _).mpr ⟨1, 0, by omega, by omega⟩)
    · exact g1 _ _ ((i.2.1 _ _).mpr ⟨0, 1, by omega, by omega⟩)
    · exact g2 _ _ ((j.2.1 _ _).mpr ⟨1, 0, by omega, by omega⟩)
    · exact g2 _ _ ((j.2.1 _ _).mpr ⟨0, 1, by omega, by omega⟩)
  · rw [f2.2] at z
    refine inN_sp.mpr (Sp.le (fun u v m => inN_sp.mp ?_) z)
    have t1 : ∀ x y, InN a' b' c' x y → InN A' B' C' x y := fun x y z => (img_tr h k x y).mpr (sub1 _ _ ((img_tr h i x y).mp z))
    have t2 : ∀ x y, InN p' q' r' x y → InN A' B' C' x y := fun x y z => (img_tr h k x y).mpr (sub2 _ _ ((img_tr h j x y).mp z))
    simp only [List.mem_cons, List.not_mem_nil, or_false, Prod.mk.injEq] at m
    rcases m with ⟨rfl, rfl⟩ | ⟨rfl, rfl⟩ | ⟨rfl, rfl⟩ | ⟨rfl, rfl⟩
    · exact t1 _ _ ⟨1, 0, by omega, by omega⟩
    · exact t1 _ _ ⟨0, 1, by omega, by omega⟩
    · exact t2 _ _ ⟨1, 0, by omega, by omega⟩
    · exact t2 _ _ ⟨0, 1, by omega, by omega⟩
/-- one motion behind another -/
def comp (M M' : Mat) : Mat := (M'.1 * M.1 + M'.2.1 * M.2.2.1, M'.1 * M.2.1 + M'.2.1 * M.2.2.2, M'.2.2.1 * M.1 + M'.2.2.2 * M.2.2.1, M'.2.2.1 * M.2.1 + M'.2.2.2 * M.2.2.2)
theorem turn_comp (M M' : Mat) (u : Int × Int) : turn (comp M M') u = turn M' (turn M u) := by
  refine Prod.ext ?_ ?_ <;> simp only [turn, comp] <;> grind
theorem img_comp {W R U W' R' U' : Int} (h : Orth M) (h' : Orth M') (h2 : Orth (comp M M')) (i : Img M a b c a' b' c') (j : Img M' a' b' c' W R U) (k : Img (comp M M') a b c W' R' U') : W = W' ∧ R = R' ∧ U = U' := by
  refine net_eq j.1 k.1 fun x y => ?_
  have key : ∀ u : Int × Int, InN W R U (turn (comp M M') u).1 (turn (comp M M') u).2 ↔ InN W' R' U' (turn (comp M M') u).1 (turn (comp M M') u).2 := fun u => by
    rw [k.2.1 u.1 u.2, turn_comp]
    exact (j.2.1 _ _).trans (i.2.1 _ _)
  have := key (turn (tr (comp M M')) (x, y))
  rw [turn_tr' h2] at this
  exact this
theorem img_back {W R U : Int} (h : Orth M) (o : Ok a b c) (i : Img M a b c a' b' c') (j : Img (tr M) a' b' c' W R U) : W = a ∧ R = b ∧ U = c := by
  refine net_eq j.1 o fun x y => ?_
  have := j.2.1 (turn M (x, y)).1 (turn M (x, y)).2
  have e : turn (tr M) ((turn M (x, y)).1, (turn M (x, y)).2) = (x, y) := turn_tr h _
  rw [e] at this
  exact this.trans (i.2.1 x y)
theorem img_whole (h : Orth M) (i : Img M 1 0 1 a b c) : a = 1 ∧ b = 0 ∧ c = 1 := by
  refine net_eq i.1 ⟨by decide, by decide, by decide⟩ fun x y => ?_
  rw [img_tr h i]
  exact ⟨fun _ => ⟨x, y, by omega, by omega⟩, fun _ => ⟨(turn (tr M) (x, y)).1, (turn (tr M) (x, y)).2, by omega, by omega⟩⟩
theorem img_pos (i : Img M a b c a' b' c') : a' ≤ a * c ∧ c' ≤ a * c := by
  obtain ⟨⟨o1, o2, o3⟩, _, e⟩ := i
  have l1 : a' * 1 ≤ a' * c' := Int.mul_le_mul_of_nonneg_left o1 (by omega)
  have l2 : 1 * c' ≤ a' * c' := Int.mul_le_mul_of_nonneg_right (by omega) (by omega)
  omega
end
end MN
namespace Y
open PySem PySem.Spec PyProof.Rows L2 Z
open MN (Mat turn tr Orth comp Img)
/-! ### kinds of motions -/
def matL : List (Str × Mat) := [("none", (1, 0, 0, 1)), ("left", (0, -1, 1, 0)), ("half", (-1, 0, 0, -1)), ("right", (0, 1, -1, 0)), ("flip", (1, 0, 0, -1)), ("mirror", (-1, 0, 0, 1)), ("swap", (0, 1, 1, 0)), ("cross", (0, -1, -1, 0))]
def mat (k : Str) : Option Mat := matL.lookup k
def matD (M : Mat) : D := .tup [.int M.1, .int M.2.1, .int M.2.2.1, .int M.2.2.2]
def tabM : List (Str × D) := matL.map fun q => (q.1, matD q.2)
theorem lookup_mem {α β : Type} [BEq α] [LawfulBEq α] {k : α} {v : β} : ∀ {l : List (α × β)}, l.lookup k = some v → (k, v) ∈ l
  | [], h => by cases h
  | (a, b) :: l, h => by
    rw [List.lookup_cons] at h
    cases e : k == a with
    | true =>
      rw [e] at h
      cases h
      rw [beq_iff_eq.mp e]
      exact List.mem_cons_self
    | false =>
      rw [e] at h
      exact List.mem_cons_of_mem _ (lookup_mem h)
theorem lookup_map {α β γ : Type} [BEq α] {f : β → γ} {k : α} : ∀ {l : List (α × β)}, (l.map fun q => (q.1, f q.2)).lookup k = (l.lookup k).map f
  | [] => rfl
  | (a, b) :: l => by
    rw [List.map_cons, List.lookup_cons, List.lookup_cons]
    cases k == a with
    | true => rfl
    | false => exact lookup_map
theorem mat_mem {k : Str} {M : Mat} (h : mat k = some M) : (k, M) ∈ matL := lookup_mem h
theorem tabM_look {k : Str} {M : Mat} (h : mat k = some M) : tabM.lookup k = some (matD M) := by
  unfold tabM
  rw [lookup_map]
  unfold mat at h
  rw [h]
  rfl
theorem mat_orth {k : Str} {M : Mat} (h : mat k = some M) : Orth M := (show ∀ q ∈ matL, Orth q.2 by decide) _ (mat_mem h)
theorem mat_small {k : Str} {M : Mat} (h : mat k = some M) : (M.1.natAbs ≤ 1 ∧ M.2.1.natAbs ≤ 1) ∧ M.2.2.1.natAbs ≤ 1 ∧ M.2.2.2.natAbs ≤ 1 := (show ∀ q ∈ matL, (q.2.1.natAbs ≤ 1 ∧ q.2.2.1.natAbs ≤ 1) ∧ q.2.2.2.1.natAbs ≤ 1 ∧ q.2.2.2.2.natAbs ≤ 1 by decide) _ (mat_mem h)
theorem mat_comp {k l : Str} {M N : Mat} (h : mat k = some M) (h' : mat l = some N) : ∃ u, (u, comp M N) ∈ matL := by
  have := (show ∀ p ∈ matL, ∀ q ∈ matL, (matL.any fun r => decide (r.2 = comp p.2 q.2)) = true by decide) _ (mat_mem h) _ (mat_mem h')
  obtain ⟨r, h1, h2⟩ := List.any_eq_true.mp this
  have e := of_decide_eq_true h2
  exact ⟨r.1, by rw [← e]; exact h1⟩
theorem mat_of_mem {k : Str} {M : Mat} (h : (k, M) ∈ matL) : mat k = some M := by
  unfold matL at h
  simp only [List.mem_cons, List.not_mem_nil, or_false, Prod.mk.injEq] at h
  rcases h with ⟨rfl, rfl⟩ | ⟨rfl, rfl⟩ | ⟨rfl, rfl⟩ | ⟨rfl, rfl⟩ | ⟨rfl, rfl⟩ | ⟨rfl, rfl⟩ | ⟨rfl, rfl⟩ | ⟨rfl, rfl⟩ <;> decide +kernel
theorem mat_cases {k : Str} {M : Mat} (h : mat k = some M) : (k = "none" ∧ M = (1, 0, 0, 1)) ∨ (k = "left" ∧ M = (0, -1, 1, 0)) ∨ (k = "half" ∧ M = (-1, 0, 0, -1)) ∨ (k = "right" ∧ M = (0, 1, -1, 0)) ∨ (k = "flip" ∧ M = (1, 0, 0, -1)) ∨ (k = "mirror" ∧ M = (-1, 0, 0, 1)) ∨ (k = "swap" ∧ M = (0, 1, 1, 0)) ∨ (k = "cross" ∧ M = (0, -1, -1, 0)) := by
  have h := mat_mem h
  unfold matL at h
  simpa only [List.mem_cons, List.not_mem_nil, or_false, Prod.mk.injEq] using h
/-- the kind of the way back -/
def backL : List (Str × D) := [("left", .str "right"), ("right", .str "left")]
theorem mat_back {k : Str} {M : Mat} (h : mat k = some M) : ∃ t, (backL.lookup k).getD (.str k) = .str t ∧ mat t = some (tr M) := by
  rcases mat_cases h with ⟨rfl, rfl⟩ | ⟨rfl, rfl⟩ | ⟨rfl, rfl⟩ | ⟨rfl, rfl⟩ | ⟨rfl, rfl⟩ | ⟨rfl, rfl⟩ | ⟨rfl, rfl⟩ | ⟨rfl, rfl⟩
  · exact ⟨"none", rfl, rfl⟩
  · exact ⟨"right", rfl, rfl⟩
  · exact ⟨"half", rfl, rfl⟩
  · exact ⟨"left", rfl, rfl⟩
  · exact ⟨"flip", rfl, rfl⟩
  · exact ⟨"mirror", rfl, rfl⟩
  · exact ⟨"swap", rfl, rfl⟩
  · exact ⟨"cross", rfl, rfl⟩
theorem orth_comp {k l : Str} {M N : Mat} (h : mat k = some M) (h' : mat l = some N) : Orth (comp M N) := by
  obtain ⟨u, hu⟩ := mat_comp h h'
  exact (show ∀ q ∈ matL, Orth q.2 by decide) _ hu
theorem sz1 {n : Nat} {x : Int} (h : x.natAbs ≤ 1) : Sz (n + 1) x := Nat.lt_of_le_of_lt h (Nat.one_lt_two_pow (by omega))
theorem sz_turn {k : Str} {M : Mat} (h : mat k = some M) {n : Nat} {x y : Int} (hx : Sz n x) (hy : Sz n y) : Sz n (turn M (x, y)).1 ∧ Sz n (turn M (x, y)).2 := by
  rcases mat_cases h with ⟨rfl, rfl⟩ | ⟨rfl, rfl⟩ | ⟨rfl, rfl⟩ | ⟨rfl, rfl⟩ | ⟨rfl, rfl⟩ | ⟨rfl, rfl⟩ | ⟨rfl, rfl⟩ | ⟨rfl, rfl⟩ <;>
    (unfold Sz at *; simp only [turn]; exact ⟨by omega, by omega⟩)
/-! ### promises of carpets.motions -/
def R_turned : RdF := ar2 fun k p Q _ => ∃ s M x y, k = .str s ∧ p = dPl x y ∧ (mat s = some M ∧ Sz 4000 x ∧ Sz 4000 y) ∧ Q (plD (turn M (x, y)))
def R_joined_kind : RdF := ar2 fun k l Q _ => ∃ s t M N, k = .str s ∧ l = .str t ∧ (mat s = some M ∧ mat t = some N) ∧ ∀ u, mat u = some (comp M N) → Q (.str u)
abbrev nsMot : List Str := ["own_kind", "own_shift"]
abbrev dMot (k : Str) (x y : Int) : D := .obj "Motion" ["own_kind", "own_shift"] [.str k, dPl x y]
def R_Motion_UinitU : RdF := ar2 fun k s Q _ => ∃ t M x y, k = .str t ∧ s = dPl x y ∧ mat t = some M ∧ Q (dMot t x y)
def R_Motion_kind : RdF := ar1 fun d Q _ => ∃ k x y, d = dMot k x y ∧ Q (.str k)
def R_Motion_shift : RdF := ar1 fun d Q _ => ∃ k x y, d = dMot k x y ∧ Q (dPl x y)
def R_plus : RdF := ar2 fun p q Q _ => ∃ x y u v, p = dPl x y ∧ q = dPl u v ∧ Q (dPl (x + u) (y + v))
def R_Motion_image : RdF := ar2 fun d p Q _ => ∃ k M x y u v, d = dMot k x y ∧ p = dPl u v ∧ (mat k = some M ∧ Sz 4000 u ∧ Sz 4000 v) ∧ Q (dPl ((turn M (u, v)).1 + x) ((turn M (u, v)).2 + y))
def R_Motion_UmulU : RdF := ar2 fun d e Q _ => ∃ k l M N x y u v, d = dMot k x y ∧ e = dMot l u v ∧ (mat k = some M ∧ mat l = some N ∧ Sz 4000 x ∧ Sz 4000 y) ∧ ∀ t, mat t = some (comp M N) → Q (dMot t ((turn N (x, y)).1 + u) ((turn N (x, y)).2 + v))
def R_Motion_UinvertU : RdF := ar1 fun d Q _ => ∃ k M x y, d = dMot k x y ∧ (mat k = some M ∧ Sz 4000 x ∧ Sz 4000 y) ∧ ∀ t, mat t = some (tr M) → Q (dMot t (-(turn (tr M) (x, y)).1) (-(turn (tr M) (x, y)).2))
def R_Net_UmulU : RdF := ar2 fun d e Q _ => ∃ a b c k M x y, d = dNet a b c ∧ e = dMot k x y ∧ (okN 600 a b c ∧ mat k = some M) ∧ ∀ a' b' c', Img M a b c a' b' c' → Q (dNet a' b' c')
/-! ### k09 -/
def R__law_turned : RdF := ar2 fun k p Q _ => ∃ s M x y, k = .str s ∧ p = dPl x y ∧ mat s = some M ∧ Q (plD (turn M (x, y)))
def R__law_kinds : RdF := ar0 fun Q _ => Q (.lst (matL.map fun q => .str q.1))
def R__law_image_net : RdF := ar2 fun d e Q _ => ∃ a b c k M, d = n3 a b c ∧ e = .str k ∧ (okN 600 a b c ∧ mat k = some M) ∧ ∀ a' b' c', Img M a b c a' b' c' → Q (n3 a' b' c')
def R__law_square : RdF := ar2 fun t n Q _ => match t, n with
  | .tape, .int n => (4 ≤ n ∧ n ≤ 1000) ∧ ∀ a b c, MN.Ok a b c → a * c ≤ n → Q (n3 a b c)
  | _, _ => False
def R__law_right : RdF := ar3 fun t d e Q _ => match t with
  | .tape => ∃ a b c p q r, d = n3 a b c ∧ e = n3 p q r ∧ (MN.Ok a b c ∧ a * c ≤ 30 ∧ MN.Ok p q r ∧ p * r ≤ 30) ∧ Q (.bl true)
  | _ => False
end Y
namespace Y
open PySem PySem.Spec PyProof.Rows L2 Z
theorem getT_to {tab : List (Str × D)} {k t : Str} {z : D} {Q : D → Prop} (e : (tab.lookup k).getD z = .str t) (h : Q (.str t)) : dGetT tab (.str k) z Q := by
  show Q ((tab.lookup k).getD z)
  rw [e]
  exact h
theorem small_ok {a b c : Int} (o : MN.Ok a b c) (n : a * c ≤ 1000) : okN 20 a b c := by
  obtain ⟨o1, o2, o3⟩ := o
  have l1 : a * 1 ≤ a * c := Int.mul_le_mul_of_nonneg_left o1 (by omega)
  have l2 : 1 * c ≤ a * c := Int.mul_le_mul_of_nonneg_right (by omega) (by omega)
  have p : (2 : Nat) ^ 20 = 1048576 := by decide
  refine ⟨⟨o1, o2, o3⟩, ?_, ?_⟩
  · show a.natAbs < 2 ^ 20
    omega
  · show c.natAbs < 2 ^ 20
    omega
theorem img_sz {n : Nat} {M : MN.Mat} {a b c a' b' c' : Int} (o : okN n a b c) (i : MN.Img M a b c a' b' c') : okN (n + n) a' b' c' := by
  obtain ⟨l1, l2⟩ := MN.img_pos i
  have z := sz_mul o.2.1 o.2.2
  exact ⟨i.1, sz_le (by have := i.1.2; omega) l1 z, sz_le (by have := i.1.1; omega) l2 z⟩
theorem img_small {M : MN.Mat} {a b c a' b' c' : Int} (n : a * c ≤ 1000) (i : MN.Img M a b c a' b' c') : okN 20 a' b' c' := small_ok i.1 (by rw [i.2.2]; exact n)
theorem img_inside {M : MN.Mat} (h : MN.Orth M) {a b c p q r a' b' c' p' q' r' : Int} (o : MN.Ok p q r) (i : MN.Img M a b c a' b' c') (j : MN.Img M p q r p' q' r') : MN.inside a' b' c' p' q' r' = MN.inside a b c p q r := by
  refine MN.bool_ext ?_
  rw [MN.inside_iff o, MN.inside_iff j.1]
  constructor
  · intro z x y w
    exact (j.2.1 x y).mp (z _ _ ((i.2.1 x y).mpr w))
  · intro z x y w
    exact (MN.img_tr h j x y).mpr (z _ _ ((MN.img_tr h i x y).mp w))
theorem img_low {M : MN.Mat} {a b c a' b' c' x y : Int} (o : MN.Ok a b c) (i : MN.Img M a b c a' b' c') : decide (MN.low a' b' c' (MN.turn M (x, y)).1 (MN.turn M (x, y)).2 = (0, 0)) = decide (MN.low a b c x y = (0, 0)) := by
  refine decide_eq_decide.mpr ?_
  rw [MN.low_zero (by have := i.1.2; omega) (by have := i.1.1; omega), MN.low_zero (by have := o.2; omega) (by have := o.1; omega)]
  exact i.2.1 x y
theorem eqM (m n : MN.Mat) : eqD (matD m) (matD n) = decide (m = n) := by
  obtain ⟨a, b, c, d⟩ := m
  obtain ⟨p, q, r, s⟩ := n
  simp only [matD, eqD, eqDs, Bool.and_true, Prod.mk.injEq]
  by_cases h1 : a = p <;> by_cases h2 : b = q <;> by_cases h3 : c = r <;> by_cases h4 : d = s <;> simp [h1, h2, h3, h4]
theorem rngD_at {lo : Int} {n i : Nat} {d : D} (h : (rngD lo n)[i]? = some d) : i < n ∧ d = .int (lo + (i : Nat)) := by
  unfold rngD at h
  obtain ⟨j, h1, rfl⟩ := map_get h
  have hi := lt_of_get h1
  rw [List.length_range] at hi
  rw [List.getElem?_range hi] at h1
  cases h1
  exact ⟨hi, rfl⟩
end Y
namespace MN
/-! ### motions: a turn, then a shift -/
abbrev Mtn := Mat × Int × Int
def mmul (m n : Mtn) : Mtn := (comp m.1 n.1, (turn n.1 m.2).1 + n.2.1, (turn n.1 m.2).2 + n.2.2)
def mone : Mtn := ((1, 0, 0, 1), 0, 0)
def minv (m : Mtn) : Mtn := (tr m.1, -(turn (tr m.1) m.2).1, -(turn (tr m.1) m.2).2)
def mapp (m : Mtn) (p : Int × Int) : Int × Int := ((turn m.1 p).1 + m.2.1, (turn m.1 p).2 + m.2.2)
theorem mmul_assoc (l m n : Mtn) : mmul (mmul l m) n = mmul l (mmul m n) := by
  obtain ⟨⟨a, b, c, d⟩, x, y⟩ := l
  obtain ⟨⟨a', b', c', d'⟩, x', y'⟩ := m
  obtain ⟨⟨a2, b2, c2, d2⟩, x2, y2⟩ := n
  simp only [mmul, comp, turn, Prod.mk.injEq]
  refine ⟨⟨?_, ?_, ?_, ?_⟩, ?_, ?_⟩ <;> grind
theorem mone_mul (m : Mtn) : mmul mone m = m := by
  obtain ⟨⟨a, b, c, d⟩, x, y⟩ := m
  simp only [mmul, mone, comp, turn, Prod.mk.injEq]
  refine ⟨⟨?_, ?_, ?_, ?_⟩, ?_, ?_⟩ <;> grind
theorem mul_mone (m : Mtn) : mmul m mone = m := by
  obtain ⟨⟨a, b, c, d⟩, x, y⟩ := m
  simp only [mmul, mone, comp, turn, Prod.mk.injEq]
  refine ⟨⟨?_, ?_, ?_, ?_⟩, ?_, ?_⟩ <;> grind
theorem mul_minv {m : Mtn} (h : Orth m.1) : mmul m (minv m) = mone := by
  obtain ⟨⟨a, b, c, d⟩, x, y⟩ := m
  obtain ⟨h1, h2, h3, h4, h5, h6⟩ := h
  simp only [mmul, minv, mone, comp, turn, tr, Prod.mk.injEq] at *
  refine ⟨⟨?_, ?_, ?_, ?_⟩, ?_, ?_⟩ <;> grind
theorem minv_mul {m : Mtn} (h : Orth m.1) : mmul (minv m) m = mone := by
  obtain ⟨⟨a, b, c, d⟩, x, y⟩ := m
  obtain ⟨h1, h2, h3, h4, h5, h6⟩ := h
  simp only [mmul, minv, mone, comp, turn, tr, Prod.mk.injEq] at *
  refine ⟨⟨?_, ?_, ?_, ?_⟩, ?_, ?_⟩ <;> grind
theorem mapp_mul (m n : Mtn) (p : Int × Int) : mapp (mmul m n) p = mapp n (mapp m p) := by
  obtain ⟨⟨a, b, c, d⟩, x, y⟩ := m
  obtain ⟨⟨a', b', c', d'⟩, x', y'⟩ := n
  obtain ⟨u, v⟩ := p
  refine Prod.ext ?_ ?_ <;> simp only [mapp, mmul, comp, turn] <;> grind
theorem mapp_one (p : Int × Int) : mapp mone p = p := by
  obtain ⟨u, v⟩ := p
  refine Prod.ext ?_ ?_ <;> simp only [mapp, mone, turn] <;> grind
theorem mapp_inv {m : Mtn} (h : Orth m.1) (p : Int × Int) : mapp (minv m) (mapp m p) = p := by rw [← mapp_mul, mul_minv h, mapp_one]
theorem mapp_inv' {m : Mtn} (h : Orth m.1) (p : Int × Int) : mapp m (mapp (minv m) p) = p := by rw [← mapp_mul, minv_mul h, mapp_one]
theorem minv_minv {m : Mtn} (h : Orth m.1) : minv (minv m) = m := by
  have h' : Orth (minv m).1 := orth_tr h
  have e : mmul m (mmul (minv m) (minv (minv m))) = m := by rw [mul_minv h', mul_mone]
  rw [← mmul_assoc, mul_minv h, mone_mul] at e
  exact e
theorem minv_unique {m n : Mtn} (h : Orth m.1) (e : mmul m n = mone) : n = minv m := by
  have z : mmul (minv m) (mmul m n) = minv m := by rw [e, mul_mone]
  rw [← mmul_assoc, minv_mul h, mone_mul] at z
  exact z
theorem minv_prod {m n : Mtn} (h : Orth m.1) (h' : Orth n.1) (h2 : Orth (comp m.1 n.1)) : minv (mmul m n) = mmul (minv n) (minv m) := by
  refine (minv_unique (m := mmul m n) h2 ?_).symm
  rw [mmul_assoc, ← mmul_assoc n, mul_minv h', mone_mul, mul_minv h]
/-! ### powers -/
def npow (m : Mtn) : Nat → Mtn
  | 0 => mone
  | n + 1 => mmul (npow m n) m
theorem npow_add (m : Mtn) (a b : Nat) : npow m (a + b) = mmul (npow m a) (npow m b) := by
  induction b with
  | zero => exact (mul_mone _).symm
  | succ b ih =>
    show mmul (npow m (a + b)) m = mmul (npow m a) (mmul (npow m b) m)
    rw [ih, mmul_assoc]
theorem npow_one (m : Mtn) : npow m 1 = m := mone_mul m
def zpow (m : Mtn) (n : Int) : Mtn := if 0 ≤ n then npow m n.toNat else npow (minv m) n.natAbs
theorem zpow_succ {m : Mtn} (h : Orth m.1) (n : Int) : zpow m (n + 1) = mmul (zpow m n) m := by
  unfold zpow
  by_cases h0 : 0 ≤ n
  · rw [if_pos (by omega), if_pos h0, show (n + 1).toNat = n.toNat + 1 by omega]
    rfl
  · rw [if_neg h0]
    by_cases h1 : n = -1
    · subst h1
      rw [if_pos (by decide)]
      show mone = mmul (npow (minv m) 1) m
      rw [npow_one, minv_mul h]
    · rw [if_neg (by omega), show n.natAbs = (n + 1).natAbs + 1 by omega]
      show _ = mmul (mmul (npow (minv m) (n + 1).natAbs) (minv m)) m
      rw [mmul_assoc, minv_mul h, mul_mone]
theorem zpow_four {m : Mtn} (h : Orth m.1) (n : Int) : mmul (zpow m n) (zpow m 4) = zpow m (n + 4) := by
  rw [show n + 4 = n + 1 + 1 + 1 + 1 by omega, zpow_succ h, zpow_succ h, zpow_succ h, zpow_succ h]
  show mmul (zpow m n) (mmul (mmul (mmul (mmul mone m) m) m) m) = _
  rw [mone_mul]
  simp only [mmul_assoc]
theorem zpow_two (m : Mtn) (n : Int) : zpow m (2 * n) = zpow (zpow m n) 2 := by
  show _ = mmul (mmul mone (zpow m n)) (zpow m n)
  rw [mone_mul]
  unfold zpow
  by_cases h0 : 0 ≤ n
  · rw [if_pos (by omega), if_pos h0, show (2 * n).toNat = n.toNat + n.toNat by omega, npow_add]
  · rw [if_neg (by omega), if_neg h0, show (2 * n).natAbs = n.natAbs + n.natAbs by omega, npow_add]
theorem zpow_nat (m : Mtn) (n : Nat) : zpow m (n : Int) = npow m n := by
  unfold zpow
  rw [if_pos (by omega), Int.toNat_natCast]
theorem zpow_neg_nat {m : Mtn} (n : Nat) : zpow m (0 - (n : Int)) = npow (minv m) n := by
  unfold zpow
  by_cases h : n = 0
  · subst h
    rfl
  · rw [if_neg (by omega), show (0 - (n : Int)).natAbs = n by omega]
theorem npow_comm (m : Mtn) (n : Nat) : mmul m (npow m n) = mmul (npow m n) m := by
  have := npow_add m 1 n
  rw [npow_one] at this
  rw [← this, Nat.add_comm]
  rfl
theorem npow_inv {m : Mtn} (h : Orth m.1) : ∀ n : Nat, mmul (npow m n) (npow (minv m) n) = mone
  | 0 => mone_mul _
  | n + 1 => by
    show mmul (mmul (npow m n) m) (npow (minv m) (n + 1)) = mone
    rw [Nat.add_comm n 1, npow_add (minv m) 1 n, npow_one, mmul_assoc, ← mmul_assoc m, mul_minv h, mone_mul, npow_inv h n]
theorem mapp_pow (m : Mtn) (p : Int × Int) (n : Nat) : mapp (npow m (n + 1)) p = mapp m (mapp (npow m n) p) := mapp_mul _ _ _
theorem mapp_pow_inv {m : Mtn} (h : Orth m.1) (p : Int × Int) (n : Nat) : mapp (npow (minv m) n) (mapp (npow m n) p) = p := by rw [← mapp_mul, npow_inv h, mapp_one]
/-! ### sizes -/
def nrm (p : Int × Int) : Nat := p.1.natAbs + p.2.natAbs
end MN
namespace Y
open PySem PySem.Spec PyProof.Rows L2 Z
open MN (Mat Mtn turn tr Orth comp mmul mone minv mapp npow zpow nrm)
theorem nrm_turn {k : Str} {M : Mat} (h : mat k = some M) (p : Int × Int) : nrm (turn M p) = nrm p := by
  rcases mat_cases h with ⟨rfl, rfl⟩ | ⟨rfl, rfl⟩ | ⟨rfl, rfl⟩ | ⟨rfl, rfl⟩ | ⟨rfl, rfl⟩ | ⟨rfl, rfl⟩ | ⟨rfl, rfl⟩ | ⟨rfl, rfl⟩ <;> (simp only [nrm, turn]; omega)
abbrev mvD (k : Str) (m : Mtn) : D := .tup [.str k, dPl m.2.1 m.2.2]
abbrev dM (k : Str) (m : Mtn) : D := dMot k m.2.1 m.2.2
/-- a motion of moderate shift, and its kind -/
structure okK (n : Nat) (k : Str) (m : Mtn) : Prop where
  mt : mat k = some m.1
  sz : nrm m.2 < 2 ^ n
theorem okK.mono {n n' : Nat} {k : Str} {m : Mtn} (h : okK n k m) (z : n ≤ n') : okK n' k m := ⟨h.mt, Nat.lt_of_lt_of_le h.sz (Nat.pow_le_pow_right (by decide) z)⟩
theorem okK.x {n : Nat} {k : Str} {m : Mtn} (h : okK n k m) : Sz n m.2.1 := Nat.lt_of_le_of_lt (Nat.le_add_right _ _) h.sz
theorem okK.y {n : Nat} {k : Str} {m : Mtn} (h : okK n k m) : Sz n m.2.2 := Nat.lt_of_le_of_lt (Nat.le_add_left _ _) h.sz
theorem okK.orth {n : Nat} {k : Str} {m : Mtn} (h : okK n k m) : Orth m.1 := mat_orth h.mt
theorem nrm_add (p q : Int × Int) : nrm (p.1 + q.1, p.2 + q.2) ≤ nrm p + nrm q := by
  unfold nrm
  dsimp only
  omega
theorem nrm_mul {l : Str} {m n : Mtn} (h : mat l = some n.1) : nrm (mmul m n).2 ≤ nrm m.2 + nrm n.2 := by
  have := nrm_add (turn n.1 m.2) n.2
  rw [nrm_turn h] at this
  exact this
theorem pow2 (n : Nat) : (2 : Nat) ^ (n + 1) = 2 ^ n + 2 ^ n := by rw [Nat.pow_succ]; omega
theorem okK.mul {a : Nat} {k l t : Str} {m n : Mtn} (h : okK a k m) (h' : okK a l n) (ht : mat t = some (mmul m n).1) : okK (a + 1) t (mmul m n) := ⟨ht, by
  have := nrm_mul (m := m) h'.mt
  have := h.sz
  have := h'.sz
  have := pow2 a
  omega⟩
theorem mat_tr {k : Str} {M : Mat} (h : mat k = some M) : ∃ t, mat t = some (tr M) := by
  obtain ⟨t, _, ht⟩ := mat_back h
  exact ⟨t, ht⟩
theorem okK.inv {a : Nat} {k t : Str} {m : Mtn} (h : okK a k m) (ht : mat t = some (minv m).1) : okK a t (minv m) := ⟨ht, by
  obtain ⟨t', ht'⟩ := mat_tr h.mt
  have e : nrm (minv m).2 = nrm (turn (tr m.1) m.2) := by unfold nrm minv; dsimp only; omega
  rw [e, nrm_turn ht']
  exact h.sz⟩
theorem nrm_inv {k : Str} {m : Mtn} (h : mat k = some m.1) : nrm (minv m).2 = nrm m.2 := by
  obtain ⟨t', ht'⟩ := mat_tr h
  have e : nrm (minv m).2 = nrm (turn (tr m.1) m.2) := by unfold nrm minv; dsimp only; omega
  rw [e, nrm_turn ht']
theorem mat_inj {k l : Str} {M : Mat} (h : mat k = some M) (h' : mat l = some M) : k = l := by
  rcases mat_cases h with ⟨rfl, rfl⟩ | ⟨rfl, rfl⟩ | ⟨rfl, rfl⟩ | ⟨rfl, rfl⟩ | ⟨rfl, rfl⟩ | ⟨rfl, rfl⟩ | ⟨rfl, rfl⟩ | ⟨rfl, rfl⟩ <;>
    (rcases mat_cases h' with ⟨rfl, e⟩ | ⟨rfl, e⟩ | ⟨rfl, e⟩ | ⟨rfl, e⟩ | ⟨rfl, e⟩ | ⟨rfl, e⟩ | ⟨rfl, e⟩ | ⟨rfl, e⟩ <;> first | rfl | (exfalso; revert e; decide))
theorem npow_ok {k : Str} {m : Mtn} (h : mat k = some m.1) : ∀ i : Nat, (∃ t, mat t = some (npow m i).1) ∧ nrm (npow m i).2 ≤ i * nrm m.2
  | 0 => ⟨⟨"none", rfl⟩, by simp [npow, mone, nrm]⟩
  | i + 1 => by
    obtain ⟨⟨t, ht⟩, hn⟩ := npow_ok h i
    obtain ⟨u, hu⟩ := mat_comp ht h
    refine ⟨⟨u, mat_of_mem hu⟩, ?_⟩
    have := nrm_mul (m := npow m i) h
    show nrm (mmul (npow m i) m).2 ≤ (i + 1) * nrm m.2
    rw [Nat.add_mul, Nat.one_mul]
    omega
theorem zpow_base {k : Str} {m : Mtn} (h : mat k = some m.1) (j : Int) : ∃ t b, mat t = some b.1 ∧ nrm b.2 = nrm m.2 ∧ zpow m j = npow b j.natAbs := by
  by_cases h0 : 0 ≤ j
  · refine ⟨k, m, h, rfl, ?_⟩
    unfold zpow
    rw [if_pos h0, show j.toNat = j.natAbs by omega]
  · obtain ⟨t, ht⟩ := mat_tr h
    refine ⟨t, minv m, ht, nrm_inv h, ?_⟩
    unfold zpow
    rw [if_neg h0]
theorem zpow_ok {a b : Nat} {k t : Str} {m : Mtn} (h : okK a k m) {j : Int} (hj : Sz b j) (ht : mat t = some (zpow m j).1) : okK (a + b) t (zpow m j) := by
  obtain ⟨u, c, h1, h2, h3⟩ := zpow_base h.mt j
  refine ⟨ht, ?_⟩
  rw [h3]
  have := (npow_ok h1 j.natAbs).2
  rw [h2] at this
  refine Nat.lt_of_le_of_lt this ?_
  rw [Nat.pow_add, Nat.mul_comm]
  have hs := h.sz
  rcases Nat.eq_zero_or_pos j.natAbs with e | e
  · rw [e, Nat.mul_zero]
    exact Nat.mul_pos (Nat.two_pow_pos _) (Nat.two_pow_pos _)
  · exact Nat.mul_lt_mul_of_lt_of_le hs (Nat.le_of_lt hj) (Nat.two_pow_pos _)
theorem zpow_kind {k : Str} {m : Mtn} (h : mat k = some m.1) (j : Int) : ∃ t, mat t = some (zpow m j).1 := by
  obtain ⟨u, c, h1, h2, h3⟩ := zpow_base h j
  rw [h3]
  exact (npow_ok h1 _).1
theorem eqMot {k l : Str} {m n : Mtn} (h : mat k = some m.1) (h' : mat l = some n.1) : decide (k = l ∧ m.2.1 = n.2.1 ∧ m.2.2 = n.2.2) = decide (m = n) := by
  refine decide_eq_decide.mpr ⟨fun ⟨e1, e2, e3⟩ => ?_, fun e => ?_⟩
  · subst e1
    rw [h] at h'
    exact Prod.ext (Option.some.inj h') (Prod.ext e2 e3)
  · subst e
    exact ⟨mat_inj h h', rfl, rfl⟩
/-! ### promises -/
def R_Motion_is_mirrored : RdF := ar1 fun d Q _ => ∃ k x y, d = dMot k x y ∧ Q (.bl (anyD (.str k) [.str "flip", .str "mirror", .str "swap", .str "cross"]))
def motText (k : Str) (x y : Int) : Str := (((("Motion(" : Str) ++ shD (.str k)) ++ ", ") ++ shD (dPl x y)) ++ ")"
def R_Motion_UreprU : RdF := ar1 fun d Q _ => ∃ k m, d = dM k m ∧ okK 1000 k m ∧ Q (.str (motText k m.2.1 m.2.2))
def R_Motion_UeqU : RdF := ar2 fun s v Q _ => ∃ k x y, s = dMot k x y ∧ ((∃ l u w, v = dMot l u w ∧ Q (.bl (decide (k = l ∧ x = u ∧ y = w)))) ∨ (knD v ∧ Q (.bl false)))
def R_Motion_by : RdF := ar1 fun p Q _ => ∃ x y, p = dPl x y ∧ Q (dMot "none" x y)
def R_Motion_UcallU : RdF := ar2 fun d p Q _ => ∃ k m x y, d = dM k m ∧ p = dPl x y ∧ (mat k = some m.1 ∧ Sz 4000 x ∧ Sz 4000 y) ∧ Q (plD (mapp m (x, y)))
def R_Motion_repeated : RdF := ar2 fun d n Q _ => ∃ k m j, d = dM k m ∧ n = .int j ∧ (okK 400 k m ∧ Sz 200 j) ∧ ∀ t, mat t = some (zpow m j).1 → Q (dM t (zpow m j))
def R__law_carried : RdF := ar2 fun d p Q _ => ∃ k m x y, d = mvD k m ∧ p = dPl x y ∧ mat k = some m.1 ∧ Q (plD (mapp m (x, y)))
def R__law_far_move : RdF := ar1 fun t Q _ => match t with
  | .tape => ∀ k m, okK 110 k m → Q (mvD k m)
  | _ => False
def R__law_told : RdF := ar1 fun d Q _ => ∃ k x y, d = dMot k x y ∧ Q (.tup [.str k, dPl x y])
def plsS (ps : List (Int × Int)) : Prop := ∀ p ∈ ps, Sz 100 p.1 ∧ Sz 100 p.2
def R__law_right7 : RdF := ar2 fun d l Q _ => ∃ k m ps, d = mvD k m ∧ l = .lst (ps.map plD) ∧ (okK 110 k m ∧ plsS ps) ∧ Q (.bl true)
def R__law_products_right : RdF := ar2 fun l p Q _ => ∃ k1 m1 k2 m2 k3 m3 ps, l = .lst [mvD k1 m1, mvD k2 m2, mvD k3 m3] ∧ p = .lst (ps.map plD) ∧ ((okK 110 k1 m1 ∧ okK 110 k2 m2 ∧ okK 110 k3 m3) ∧ plsS ps) ∧ Q (.bl true)
def R__law_powers_right : RdF := ar3 fun t d p Q _ => match t with
  | .tape => ∃ k m x y, d = mvD k m ∧ p = dPl x y ∧ (okK 110 k m ∧ Sz 100 x ∧ Sz 100 y) ∧ Q (.bl true)
  | _ => False
/-! ### texts -/
theorem sh_le {n : Nat} {d : D} (h : shP n d) (hb : (toP d).bulk ≤ 40) : (shD d).length ≤ 80000 := by
  have z := PyData.shown_le_bulk 1921 (by decide) (toP d) (sh_short d h)
  have z2 : (1921 + 2) * (toP d).bulk ≤ (1921 + 2) * 40 := Nat.mul_le_mul_left _ hb
  show (toP d).shown.length ≤ _
  omega
theorem mat_str {k : Str} {M : Mat} (h : mat k = some M) : (∀ c ∈ k.cps.toList, c < 16 ^ 8) ∧ (PyData.str k).bulk ≤ 10 ∧ PyData.strOk k = true := by
  rcases mat_cases h with ⟨rfl, rfl⟩ | ⟨rfl, rfl⟩ | ⟨rfl, rfl⟩ | ⟨rfl, rfl⟩ | ⟨rfl, rfl⟩ | ⟨rfl, rfl⟩ | ⟨rfl, rfl⟩ | ⟨rfl, rfl⟩ <;> exact ⟨by decide +kernel, by decide +kernel, by decide +kernel⟩
theorem sh_le2 {n b : Nat} {d : D} (h : shP n d) (hb : (toP d).bulk ≤ b) : (shD d).length ≤ 1923 * b + 1921 := by
  have z := PyData.shown_le_bulk 1921 (by decide) (toP d) (sh_short d h)
  have z2 : (1921 + 2) * (toP d).bulk ≤ (1921 + 2) * b := Nat.mul_le_mul_left _ hb
  show (toP d).shown.length ≤ _
  omega
theorem okMv {k : Str} {M : Mat} (h : mat k = some M) {x y : Int} : okD 8 (.tup [.str k, dPl x y]) = true := by
  have s3 := (mat_str h).2.2
  simp [okD, s3]
theorem eqMv {k l : Str} {x y u v : Int} : eqD (.tup [.str k, dPl x y]) (.tup [.str l, dPl u v]) = decide (k = l ∧ x = u ∧ y = v) := by
  simp only [eqD, eqDs, Bool.and_true]
  by_cases h1 : k = l <;> by_cases h2 : x = u <;> by_cases h3 : y = v <;> simp [h1, h2, h3]
theorem sh_pl {n : Nat} {x y : Int} (hx : Sz 1900 x) (hy : Sz 1900 y) : shP n (dPl x y) := ⟨hx, hy, trivial⟩
theorem strLenA (a b : Str) : (a ++ b).length = a.length + b.length := PySem.strLen_append a b
theorem Str_empty_app (a : Str) : Str.empty ++ a = a := by
  cases a
  show Str.mk _ = _
  simp [Str.empty]
theorem mapp_sz {n : Nat} {k : Str} {m : Mtn} (h : okK n k m) {p : Int × Int} (hp : nrm p < 2 ^ n) : nrm (mapp m p) < 2 ^ (n + 1) := by
  have h1 := nrm_add (turn m.1 p) m.2
  rw [nrm_turn h.mt] at h1
  have h2 := h.sz
  have h3 := pow2 n
  show nrm ((turn m.1 p).1 + m.2.1, (turn m.1 p).2 + m.2.2) < _
  omega
theorem nrm_x {n : Nat} {p : Int × Int} (h : nrm p < 2 ^ n) : Sz n p.1 := Nat.lt_of_le_of_lt (Nat.le_add_right _ _) h
theorem nrm_y {n : Nat} {p : Int × Int} (h : nrm p < 2 ^ n) : Sz n p.2 := Nat.lt_of_le_of_lt (Nat.le_add_left _ _) h
theorem nrm_of {n : Nat} {p : Int × Int} (hx : Sz n p.1) (hy : Sz n p.2) : nrm p < 2 ^ (n + 1) := by
  have z1 : p.1.natAbs < 2 ^ n := hx
  have z2 : p.2.natAbs < 2 ^ n := hy
  have := pow2 n
  unfold nrm
  omega
theorem npow_small {k t : Str} {m : Mtn} (o : okK 110 k m) {i : Nat} (hi : i ≤ 8) (ht : mat t = some (npow m i).1) : okK 120 t (npow m i) := ⟨ht, by
  have h1 := (npow_ok o.mt i).2
  have h2 : i * nrm m.2 ≤ 8 * 2 ^ 110 := Nat.mul_le_mul hi (Nat.le_of_lt o.sz)
  have h3 : 8 * 2 ^ 110 < (2 : Nat) ^ 120 := by decide
  omega⟩
end Y
namespace Y
open PySem PySem.Spec PyProof.Rows L2 Z
open MN (Mtn mapp)
/-! ### motions that are refused -/
abbrev exV (c : Str) (d : D) : Ex := ⟨.glob c, ["value"], [d]⟩
def isKd : D → Bool
  | .str t => (mat t).isSome
  | _ => false
theorem tabM_none {k : Str} (h : mat k = none) : tabM.lookup k = none := by
  unfold tabM
  rw [lookup_map]
  unfold mat at h
  rw [h]
  rfl
def R_Motion_init8 : RdF := ar2 fun k s Q E => (∃ t M x y, k = .str t ∧ s = dPl x y ∧ mat t = some M ∧ Q (dMot t x y)) ∨ (knD k ∧ isKd k = false ∧ E (exV "InvalidMotion" k)) ∨ ∃ t M, k = .str t ∧ mat t = some M ∧ knP s ∧ isPl s = false ∧ E (exV "InvalidPlace" s)
theorem mot8_w : ∀ ds Q E, R_Motion_UinitU ds Q E → R_Motion_init8 ds Q E := fun ds Q E h => by
  obtain ⟨a, b, rfl, h⟩ := ar2E h
  exact Or.inl h
def R_Motion_by8 : RdF := ar1 fun p Q E => knP p ∧ (isPl p = false → E (exV "InvalidPlace" p)) ∧ ∀ x y, p = dPl x y → Q (dMot "none" x y)
def R_Motion_call8 : RdF := ar2 fun d p Q E => ∃ k m, d = dM k m ∧ mat k = some m.1 ∧ knP p ∧ isPl p = false ∧ E (exV "InvalidPlace" p)
def R_Motion_rep8 : RdF := ar2 fun d n Q E => ∃ k m, d = dM k m ∧ mat k = some m.1 ∧ knD n ∧ isIntD n = false ∧ E (exV "InvalidNumber" n)
def hrd (l : Str) (d : D) : D := .lst [.str l, .str (shD d), .bl true]
def R_heard8 (fa : Addr) (Rc : RdF) : RdF := ar1 fun f Q E => f = .fn fa ∧ Rc [] (fun _ => Q (.str "none")) fun x => ∃ d, shB d ∧ ((x = exV "InvalidMotion" d ∧ Q (hrd "motion" d)) ∨ (x = exV "InvalidPlace" d ∧ Q (hrd "place" d)) ∨ (x = exV "InvalidNumber" d ∧ Q (hrd "number" d)))
theorem knB_D {d : D} (h : knB d = true) : knD d := by
  cases d <;> first | trivial | cases h
def knPB : D → Bool
  | .tup [a, b] => knB a && knB b
  | d => knB d
theorem knPB_P {d : D} (h : knPB d = true) : knP d := by
  unfold knPB at h
  split at h
  · obtain ⟨h1, h2⟩ := He.ba h
    exact ⟨knB_D h1, knB_D h2⟩
  · rename_i hn
    unfold knP
    split
    · exact (hn _ _ rfl).elim
    · exact knB_D h
theorem hrd_ok {l : Str} {d : D} (hl : PyData.strOk l = true) (h : okD 8 (.str (shD d)) = true) : okD 8 (hrd l d) = true := by
  show ([D.str l, .str (shD d), .bl true].all (okD 7)) = true
  have h1 : okD 7 (.str l) = true := hl
  have h2 : okD 7 (.str (shD d)) = true := h
  simp only [List.all_cons, h1, h2]
  rfl
theorem hrd_eq {l : Str} {d : D} : eqD (hrd l d) (hrd l d) = true := by simp [hrd, eqD, eqDs]
/-- what is told is what is due -/
theorem hrd_ne {l : Str} {d : D} {Q : D → Prop} (hl : PyData.strOk l = true) (h : okD 8 (.str (shD d)) = true) (q : Q (.bl false)) : dNe (hrd l d) (hrd l d) Q := by
  refine ⟨⟨hrd_ok hl h, hrd_ok hl h⟩, ?_⟩
  rw [hrd_eq]
  exact q
/-- kinds that are none -/
def oddK (k : Str) : List D := [.non, .str "", .str "Left", .str "turn", .str (k ++ " "), .str (Txt.upper k), .int 3, .tup [.str "left"], .lst [.str "flip"], .bl true, .dic [] []]
theorem oddK_ok {k : Str} {M : MN.Mat} (h : mat k = some M) : ((oddK k).all fun d => smD d && !isKd d) = true := by
  rcases mat_cases h with ⟨rfl, rfl⟩ | ⟨rfl, rfl⟩ | ⟨rfl, rfl⟩ | ⟨rfl, rfl⟩ | ⟨rfl, rfl⟩ | ⟨rfl, rfl⟩ | ⟨rfl, rfl⟩ | ⟨rfl, rfl⟩ <;> decide +kernel
def oddP : List D := [.non, .int 5, .tup [.int 1], .tup [.int 1, .int 2, .int 3], .lst [.int 1, .int 2], .tup [.bl true, .int 0], .tup [.int 0, .str "1"], .str "ab", .dic [] [], .tup [.int 0, .non]]
theorem oddP_ok : (oddP.all fun d => smD d && (!isPl d && knPB d)) = true := by decide +kernel
def oddN : List D := [.non, .bl true, .bl false, .str "2", .tup [.int 1], .lst [.int 3], .dic [] []]
theorem oddN_ok : (oddN.all fun d => smD d && !isIntD d) = true := by decide +kernel
end Y
section
open PySem PySem.Spec PyProof.Rows L2 Z Y
local macro_rules | `(tactic| walk_at "s0") => `(tactic| first | assumption | exact SqT.of (by assumption) | exact SqL.of (by assumption))
local macro_rules | `(tactic| walk_at "s1") => `(tactic| first | assumption | exact SqT.of (by assumption) | exact SqL.of (by assumption) | exact sqT (Go.ff (by assumption)) (by walk_at "s0") | exact sqL (Go.ff (by assumption)) (by walk_at "s0"))
local macro_rules | `(tactic| walk_at "s2") => `(tactic| first | assumption | exact SqT.of (by assumption) | exact SqL.of (by assumption) | exact sqT (Go.ff (by assumption)) (by walk_at "s1") | exact sqL (Go.ff (by assumption)) (by walk_at "s1"))
local macro_rules | `(tactic| walk_at "s3") => `(tactic| first | assumption | exact SqT.of (by assumption) | exact SqL.of (by assumption) | exact sqT (Go.ff (by assumption)) (by walk_at "s2") | exact sqL (Go.ff (by assumption)) (by walk_at "s2"))
local macro_rules | `(tactic| walk_at "s4") => `(tactic| first | assumption | exact SqT.of (by assumption) | exact SqL.of (by assumption) | exact sqT (Go.ff (by assumption)) (by walk_at "s3") | exact sqL (Go.ff (by assumption)) (by walk_at "s3"))
local macro_rules | `(tactic| walk_at "s5") => `(tactic| first | assumption | exact SqT.of (by assumption) | exact SqL.of (by assumption) | exact sqT (Go.ff (by assumption)) (by walk_at "s4") | exact sqL (Go.ff (by assumption)) (by walk_at "s4"))
local macro_rules | `(tactic| walk_at "s6") => `(tactic| first | assumption | exact SqT.of (by assumption) | exact SqL.of (by assumption) | exact sqT (Go.ff (by assumption)) (by walk_at "s5") | exact sqL (Go.ff (by assumption)) (by walk_at "s5"))
local macro_rules | `(tactic| walk_at "s7") => `(tactic| first | assumption | exact SqT.of (by assumption) | exact SqL.of (by assumption) | exact sqT (Go.ff (by assumption)) (by walk_at "s6") | exact sqL (Go.ff (by assumption)) (by walk_at "s6"))
local macro_rules | `(tactic| walk_at "s8") => `(tactic| first | assumption | exact SqT.of (by assumption) | exact SqL.of (by assumption) | exact sqT (Go.ff (by assumption)) (by walk_at "s7") | exact sqL (Go.ff (by assumption)) (by walk_at "s7"))
local macro_rules | `(tactic| walk_at "s9") => `(tactic| first | assumption | exact SqT.of (by assumption) | exact SqL.of (by assumption) | exact sqT (Go.ff (by assumption)) (by walk_at "s8") | exact sqL (Go.ff (by assumption)) (by walk_at "s8"))
local macro_rules | `(tactic| walk_at "s10") => `(tactic| first | assumption | exact SqT.of (by assumption) | exact SqL.of (by assumption) | exact sqT (Go.ff (by assumption)) (by walk_at "s9") | exact sqL (Go.ff (by assumption)) (by walk_at "s9"))
local macro_rules | `(tactic| walk_at "sq") => `(tactic| first | assumption | exact SqT.of (by assumption) | exact SqL.of (by assumption) | exact sqT (Go.fh (by assumption)) (by walk_at "s10") | exact sqL (Go.fh (by assumption)) (by walk_at "s10") | exact sqT (F := _) (by assumption) (by walk_at "s10") | exact sqL (F := _) (by assumption) (by walk_at "s10"))
local macro_rules | `(tactic| walk_at "c") => `(tactic| ((try dsimp only); first | omega | assumption | exact ⟨by omega, by assumption⟩ | exact ⟨by assumption, by assumption⟩ | exact Or.inl ⟨by decide, by decide⟩ | exact Or.inr ⟨by decide, by decide⟩ | exact ⟨by decide, by decide, by decide⟩ | exact ⟨by decide, by decide⟩))
local macro_rules | `(tactic| walk_at "z") => `(tactic| repeat (first | refine ⟨_, rfl, ?_⟩ | refine ⟨_, _, rfl, rfl, ?_⟩ | refine ⟨_, _, _, _, rfl, rfl, by walk_at "sq", rfl, ?_⟩ | refine ⟨_, _, rfl, Or.inl (by walk_at "sq"), ?_⟩ | refine ⟨_, _, rfl, Or.inr (by walk_at "sq"), ?_⟩ | refine ⟨_, _, rfl, by walk_at "sq", rfl, ?_⟩ | refine ⟨rfl, ?_⟩ | refine And.intro (by walk_at "c") ?_ | refine ⟨lenOk rfl, ?_⟩ | refine ⟨_, _, rfl, ?_⟩))
local macro_rules | `(tactic| walk_at "p") => `(tactic| simp only [Y.rVar, Y.rC, Y.tst, Y.chn, Y.aNil, Y.aCons, Y.stN, Y.tgD, Y.rYes, Y.wipeR, Y.asO, Y.fldD, Y.dAdd, Y.dSub, Y.dMul, Y.dDiv, Y.dDivZ, Y.dMod, Y.dModZ, Y.dIsBl, Y.dInt1, Y.dPow, Y.dNeg, Y.dCmp, Y.dEq, Y.dNe, Y.isNon, Y.dIsN, Y.dNotN, Y.dIn, Y.dIx, Y.dSl, Y.asI, Y.dLen, Y.dAbs, Y.blsOf, Y.dAll, Y.dList, Y.dTuple, Y.dIsB, Y.dIs2, Y.dIsO, Y.appM, Y.frzM, Y.dBinO, Y.dEqO, Y.dInO, Y.finI, Y.putM, Y.starD, Y.rng1, Y.rng2, Y.dJoin, Y.strsOf, Y.isS, Y.rDraw, Y.ar0, Y.ar1, Y.ar2, Y.ar3, Y.ar4, Y.ar5, List.getElem?_cons_zero, List.getElem?_cons_succ, List.set_cons_zero, List.set_cons_succ, List.map_cons, List.map_nil, List.length_cons, List.length_nil, Option.map_some, List.nil_append, List.cons_append, List.mem_cons, List.not_mem_nil, or_false, true_and, and_true, if_true, Bool.false_eq_true, if_false, Bool.not_true, Bool.not_false, Nat.reduceAdd, Nat.reduceLeDiff, decide_eq_true_eq, reduceCtorEq, ite_true, ite_false, Int.cast_ofNat_Int, Int.natCast_add, eq_self, Int.reduceEq, Int.reduceLE, Int.reduceLT, Int.reduceNeg, Int.reduceSub, Int.reduceAdd, decide_true, decide_false, String.reduceBEq, Bool.or_self, Bool.or_true, Bool.true_or, Bool.or_false, Bool.false_or])
local macro_rules | `(tactic| walk_at "m") => `(tactic| simp only [Y.forP, Y.mapP, Y.rVar, Y.rC, Y.tst, Y.chn, Y.aNil, Y.aCons, Y.stN, Y.tgD, Y.rYes, Y.wipeR, Y.asO, Y.fldD, Y.dAdd, Y.dSub, Y.dMul, Y.dDiv, Y.dDivZ, Y.dMod, Y.dModZ, Y.dIsBl, Y.dInt1, Y.dPow, Y.dNeg, Y.dCmp, Y.dEq, Y.dNe, Y.isNon, Y.dIsN, Y.dNotN, Y.dIn, Y.dIx, Y.dSl, Y.asI, Y.dLen, Y.dAbs, Y.blsOf, Y.dAll, Y.dList, Y.dTuple, Y.dIsB, Y.dIs2, Y.dIsO, Y.appM, Y.frzM, Y.dBinO, Y.dEqO, Y.dInO, Y.finI, Y.putM, Y.starD, Y.rng1, Y.rng2, Y.dJoin, Y.strsOf, Y.isS, Y.rDraw, Y.ar0, Y.ar1, Y.ar2, Y.ar3, Y.ar4, Y.ar5, List.getElem?_cons_zero, List.getElem?_cons_succ, List.set_cons_zero, List.set_cons_succ, List.map_cons, List.map_nil, List.length_cons, List.length_nil, Option.map_some, List.nil_append, List.cons_append, List.mem_cons, List.not_mem_nil, or_false, true_and, and_true, if_true, Bool.false_eq_true, if_false, Bool.not_true, Bool.not_false, Nat.reduceAdd, Nat.reduceLeDiff, decide_eq_true_eq, reduceCtorEq, ite_true, ite_false, Int.cast_ofNat_Int, Int.natCast_add, eq_self, Int.reduceEq, Int.reduceLE, Int.reduceLT, Int.reduceNeg, Int.reduceSub, Int.reduceAdd, decide_true, decide_false, String.reduceBEq, Bool.or_self, Bool.or_true, Bool.true_or, Bool.or_false, Bool.false_or])
namespace K08
open PySem PySem.Spec PyProof.Rows L2 Z Y
section
variable {P : Program} {w : World} {K : Frg} {mg : Str → Option Value} {base : Heap}
theorem ok_is_integer (T : Tx w K mg) : FnG P w K mg base (L2.CX P w) 1 (He.ga K "is_integer") (spP K R_is_integer) := by
  refine y_fn T.d_is_integer sc_is_integer arl1 (fun _ _ _ _ _ _ us hl => match us, hl with | [_], _ => rfl) fun cdv A outer s H E B hB hr hx po => ⟨_, (s_one (s_ret (y_and (y_callB call_isi (isBL (cs := []) (T := "int") (by decide) all0) (by rfl) T.b_isinstance (by decide +kernel) (a_cons (y_var (pv 0)) (a_cons (y_ty (n := "int") rfl T.b_int (by decide +kernel)) a_nil))) (y_one (y_not (y_callB call_isi (isBL (cs := []) (T := "bool") (by decide) all0) (by rfl) T.b_isinstance (by decide +kernel) (a_cons (y_var (pv 0)) (a_cons (y_ty (n := "bool") rfl T.b_bool (by decide +kernel)) a_nil)))))))), fun ds Q h => ?_⟩
  obtain ⟨a0, e0, hh⟩ := ar1E h
  clear h
  subst e0
  have h := hh
  clear hh
  try dsimp only at h
  rw [show startE (List.length N_is_integer) [a0] = [.val a0] from rfl]
  obtain ⟨hk, h⟩ := h
  cases a0 with
  | int i => exact ⟨rfl, ifB_T rfl ⟨rfl, h⟩⟩
  | bl b => exact ⟨rfl, ifB_T rfl ⟨rfl, h⟩⟩
  | obj _ _ _ => exact hk.elim
  | ty _ => exact hk.elim
  | glob _ => exact hk.elim
  | tape => exact hk.elim
  | fn _ => exact hk.elim
  | _ => exact ⟨rfl, ifB_F rfl h⟩
end
end K08
namespace K08
open PySem PySem.Spec PyProof.Rows L2 Z Y
section
variable {P : Program} {w : World} {K : Frg} {mg : Str → Option Value} {base : Heap}
theorem ok_is_place (T : Tx w K mg) : FnG P w K mg base (L2.CX P w) 3 (He.ga K "is_place") (spP K R_is_place) := by
  refine y_fn T.d_is_place sc_is_place arl1 (fun _ _ _ _ _ _ us hl => match us, hl with | [_], _ => rfl) fun cdv A outer s H E B hB hr hx po => ⟨_, (s_one (s_ret (y_and (y_callB call_isi (isBL (cs := []) (T := "tuple") (by decide) all0) (by rfl) T.b_isinstance (by decide +kernel) (a_cons (y_var (pv 0)) (a_cons (y_ty (n := "tuple") rfl T.b_tuple (by decide +kernel)) a_nil))) (y_and (y_cmp (op_eqY hr.units) eqL (y_callB call_lenY lenL (by rfl) T.b_len (by decide +kernel) (a_cons (y_var (pv 0)) a_nil)) y_int (nomark _)) (y_one (y_callB (cr_all rfl) (allL (f := fun bs => bs.all id)) (by rfl) T.b_all (by decide +kernel) (a_cons (y_lc (own := [("number", 1)]) (t := .nm 1) rfl sc_is_place.nd (i_tup (y_var (pv 0))) (blkOk_by (own := [("number", 1)]) (N := N_is_place) (sc := defScope s_is_place) (by decide +kernel)) (fun _ _ _ _ _ => (g_nm (pg_name (i := 1) sc_is_place.nd rfl (by first | exact Or.inl rfl | exact Or.inr rfl)))) (fun _ _ _ _ _ => c_nil) (fun _ _ _ _ _ => (y_call (ok_is_integer T) (hr.mono (by decide)) rfl T.g_is_integer T.k_is_integer px_nox (a_cons (y_var (pv 1)) a_nil)))) a_nil))))))), fun ds Q h => ?_⟩
  obtain ⟨a0, e0, hh⟩ := ar1E h
  clear h
  subst e0
  have h := hh
  clear hh
  try dsimp only at h
  rw [show startE (List.length N_is_place) [a0] = [.val a0, .no] from rfl]
  obtain ⟨hk, h⟩ := h
  cases a0 with
  | tup ds =>
    match ds, hk, h with
    | [x, y], hk, h => exact ⟨rfl, ifB_T rfl (ifB_T rfl ⟨Nat.le_of_ble_eq_true rfl, mapI_of (ifB_T rfl ⟨hk.1, ifB_T rfl ⟨hk.2, by show Q (.bl ([isIntD x, isIntD y].all id)); simpa [isPl] using h⟩⟩)⟩)⟩
    | [], hk, h => exact ⟨rfl, ifB_T rfl (ifB_F rfl h)⟩
    | [_], hk, h => exact ⟨rfl, ifB_T rfl (ifB_F rfl h)⟩
    | a :: b :: c :: ds, hk, h => exact ⟨rfl, ifB_T rfl (ifB_F (decide_eq_false (by simp only [List.length_cons]; omega)) h)⟩
  | obj _ _ _ => exact hk.elim
  | ty _ => exact hk.elim
  | glob _ => exact hk.elim
  | tape => exact hk.elim
  | fn _ => exact hk.elim
  | _ => exact ⟨rfl, ifB_F rfl h⟩
end
end K08
namespace K08
open PySem PySem.Spec PyProof.Rows L2 Z Y
section
variable {P : Program} {w : World} {K : Frg} {mg : Str → Option Value} {base : Heap}
theorem ok_check_place (T : Tx w K mg) : FnG P w K mg base (L2.CX P w) 5 (He.ga K "check_place") (spP K R_check_place) := by
  refine y_fnX T.d_check_place sc_check_place arl1 (fun _ _ _ _ _ _ us hl => match us, hl with | [_], _ => rfl) fun cdv A outer s H E B hB hr hx po tk => ⟨_, (s_one (s_if (z_not (z_val (y_call (ok_is_place T) (hr.mono (by decide)) rfl T.g_is_place T.k_is_place hx (a_cons (y_var (pv 0)) a_nil))))
    (s_one (s_raise rfl tk (T.xc_InvalidPlace.t T.d_InvalidPlace_UinitU ⟨_, _, rfl⟩ ⟨_, _, _, _, rfl⟩ rfl) (.inl rfl) hr (y_var (pv 0)) rfl T.g_InvalidPlace))
    s_nil)), fun ds Q h => ?_⟩
  obtain ⟨a0, e0, hh⟩ := ar1E h
  clear h
  subst e0
  have h := hh
  clear hh
  try dsimp only at h
  rw [show startE (List.length N_check_place) [a0] = [.val a0] from rfl]
  obtain ⟨hk, h1, h2⟩ := h
  refine ⟨hk, ?_⟩
  cases e : isPl a0 with
  | true => exact ifB_F rfl (h1 e)
  | false => exact ifB_T rfl (h2 e)
end
end K08
namespace K08
open PySem PySem.Spec PyProof.Rows L2 Z Y
section
variable {P : Program} {w : World} {K : Frg} {mg : Str → Option Value} {base : Heap}
theorem ok_plus (T : Tx w K mg) : FnG P w K mg base (L2.CX P w) 1 (He.ga K "plus") (spP K R_plus) := by
  refine y_fn T.d_plus sc_plus arl2 (fun _ _ _ _ _ _ us hl => match us, hl with | [_, _], _ => rfl) fun cdv A outer s H E B hB hr hx po => ⟨_, (s_one (s_ret (y_tup (a_cons (y_op op_addY addL (y_ix (y_var (pv 0)) y_int (fun _ _ => rfl)) (y_ix (y_var (pv 1)) y_int (fun _ _ => rfl))) (a_cons (y_op op_addY addL (y_ix (y_var (pv 0)) y_int (fun _ _ => rfl)) (y_ix (y_var (pv 1)) y_int (fun _ _ => rfl))) a_nil))))), fun ds Q h => ?_⟩
  obtain ⟨a0, a1, e0, hh⟩ := ar2E h
  clear h
  subst e0
  have h := hh
  clear hh
  try dsimp only at h
  rw [show startE (List.length N_plus) [a0, a1] = [.val a0, .val a1] from rfl]
  obtain ⟨x, y, u, v, rfl, rfl, h⟩ := h
  exact ⟨leN rfl, h⟩
end
end K08
namespace K08
open PySem PySem.Spec PyProof.Rows L2 Z Y
section
variable {P : Program} {w : World} {K : Frg} {mg : Str → Option Value} {base : Heap}
theorem ok_turned (T : Tx w K mg) : FnG P w K mg base (L2.CX P w) 1 (He.ga K "turned") (spP K R_turned) := by
  refine y_fn T.d_turned sc_turned arl2 (fun _ _ _ _ _ _ us hl => match us, hl with | [_, _], _ => rfl) fun cdv A outer s H E B hB hr hx po => ⟨_, (s_cons (s_asg (t := .tp [2, 3, 4, 5]) (y_ixT T.tb_MATRICES (y_glob rfl T.g_MATRICES) (y_var (pv 0)) (fun _ _ => rfl)) (g_tp (is := [2, 3, 4, 5]) rfl (pgs_cons (pg_name (i := 2) sc_turned.nd rfl (by first | exact Or.inl rfl | exact Or.inr rfl)) (pgs_cons (pg_name (i := 3) sc_turned.nd rfl (by first | exact Or.inl rfl | exact Or.inr rfl)) (pgs_cons (pg_name (i := 4) sc_turned.nd rfl (by first | exact Or.inl rfl | exact Or.inr rfl)) (pgs_cons (pg_name (i := 5) sc_turned.nd rfl (by first | exact Or.inl rfl | exact Or.inr rfl)) pgs_nil))))))
  (s_one (s_ret (y_tup (a_cons (y_op op_addY addL (y_op op_mulY mulL (y_var (pv 2)) (y_ix (y_var (pv 1)) y_int (fun _ _ => rfl))) (y_op op_mulY mulL (y_var (pv 3)) (y_ix (y_var (pv 1)) y_int (fun _ _ => rfl)))) (a_cons (y_op op_addY addL (y_op op_mulY mulL (y_var (pv 4)) (y_ix (y_var (pv 1)) y_int (fun _ _ => rfl))) (y_op op_mulY mulL (y_var (pv 5)) (y_ix (y_var (pv 1)) y_int (fun _ _ => rfl)))) a_nil)))))), fun ds Q h => ?_⟩
  obtain ⟨a0, a1, e0, hh⟩ := ar2E h
  clear h
  subst e0
  have h := hh
  clear hh
  try dsimp only at h
  rw [show startE (List.length N_turned) [a0, a1] = [.val a0, .val a1, .no, .no, .no, .no] from rfl]
  obtain ⟨s, M, x, y, rfl, rfl, ⟨hM, zx, zy⟩, h⟩ := h
  obtain ⟨⟨m1, m2⟩, m3, m4⟩ := mat_small hM
  refine ⟨rfl, ?_⟩
  rw [show List.lookup s tab_MATRICES = some (matD M) from tabM_look hM]
  exact ⟨⟨sz1 m1, zx.mono (by decide)⟩, ⟨sz1 m2, zy.mono (by decide)⟩, ⟨sz1 m3, zx.mono (by decide)⟩, ⟨sz1 m4, zy.mono (by decide)⟩, leN rfl, h⟩
end
end K08
namespace K08
open PySem PySem.Spec PyProof.Rows L2 Z Y
section
variable {P : Program} {w : World} {K : Frg} {mg : Str → Option Value} {base : Heap}
theorem ok_joined_kind (T : Tx w K mg) : FnG P w K mg base (L2.CX P w) 3 (He.ga K "joined_kind") (spP K R_joined_kind) := by
  refine y_fn T.d_joined_kind sc_joined_kind arl2 (fun _ _ _ _ _ _ us hl => match us, hl with | [_, _], _ => rfl) fun cdv A outer s H E B hB hr hx po => ⟨_, (s_cons (s_par (i := 2) (j := 3) (by rfl) sc_joined_kind.nd rfl rfl (by decide) rfl rfl (a_cons (y_call (ok_turned T) (hr.mono (by decide)) rfl T.g_turned T.k_turned hx (a_cons (y_var (pv 1)) (a_cons (y_call (ok_turned T) (hr.mono (by decide)) rfl T.g_turned T.k_turned hx (a_cons (y_var (pv 0)) (a_cons (y_tup (a_cons y_int (a_cons y_int a_nil))) a_nil))) a_nil))) (a_cons (y_call (ok_turned T) (hr.mono (by decide)) rfl T.g_turned T.k_turned hx (a_cons (y_var (pv 1)) (a_cons (y_call (ok_turned T) (hr.mono (by decide)) rfl T.g_turned T.k_turned hx (a_cons (y_var (pv 0)) (a_cons (y_tup (a_cons y_int (a_cons y_int a_nil))) a_nil))) a_nil))) a_nil)) (by rfl))
  (s_cons (s_set (i := 4) sc_joined_kind.nd rfl (by first | exact Or.inl rfl | exact Or.inr rfl) (y_tup (a_cons (y_ix (y_var (pv 2)) y_int (fun _ _ => rfl)) (a_cons (y_ix (y_var (pv 3)) y_int (fun _ _ => rfl)) (a_cons (y_ix (y_var (pv 2)) y_int (fun _ _ => rfl)) (a_cons (y_ix (y_var (pv 3)) y_int (fun _ _ => rfl)) a_nil))))))
  (s_cons (s_for (t := .tp [5, 6]) po rfl (i_itemsT T.tb_MATRICES (y_glob rfl T.g_MATRICES)) (g_tp (is := [5, 6]) rfl (pgs_cons (pg_name (i := 5) sc_joined_kind.nd rfl (by first | exact Or.inl rfl | exact Or.inr rfl)) (pgs_cons (pg_name (i := 6) sc_joined_kind.nd rfl (by first | exact Or.inl rfl | exact Or.inr rfl)) pgs_nil)))
    (s_one (s_if (z_cmp (op_eqY hr.units) eqL (y_var (pv 6)) (y_var (pv 4)) (nomark _))
    (s_one (s_ret (y_var (pv 5))))
    s_nil)))
  (s_one (s_ret y_str))))), fun ds Q h => ?_⟩
  obtain ⟨a0, a1, e0, hh⟩ := ar2E h
  clear h
  subst e0
  have h := hh
  clear hh
  try dsimp only at h
  rw [show startE (List.length N_joined_kind) [a0, a1] = [.val a0, .val a1, .no, .no, .no, .no, .no] from rfl]
  obtain ⟨s, t, M, N, rfl, rfl, ⟨hM, hN⟩, h⟩ := h
  have e10 : Sz 4000 (1 : Int) := szP (by decide) (by decide)
  have e00 : Sz 4000 (0 : Int) := szP (by decide) (by decide)
  obtain ⟨z1, z2⟩ := sz_turn hM (n := 4000) e10 e00
  obtain ⟨z3, z4⟩ := sz_turn hM (n := 4000) e00 e10
  refine ⟨leN rfl, s, M, 1, 0, rfl, rfl, ⟨hM, e10, e00⟩, t, N, _, _, rfl, rfl, ⟨hN, z1, z2⟩, leN rfl, s, M, 0, 1, rfl, rfl, ⟨hM, e00, e10⟩, t, N, _, _, rfl, rfl, ⟨hN, z3, z4⟩, leN rfl, ?_⟩
  have eM : D.tup [D.int (MN.turn N ((MN.turn M (1, 0)).fst, (MN.turn M (1, 0)).snd)).fst, D.int (MN.turn N ((MN.turn M (0, 1)).fst, (MN.turn M (0, 1)).snd)).fst, D.int (MN.turn N ((MN.turn M (1, 0)).fst, (MN.turn M (1, 0)).snd)).snd, D.int (MN.turn N ((MN.turn M (0, 1)).fst, (MN.turn M (0, 1)).snd)).snd] = matD (MN.comp M N) := by
    simp [MN.turn, MN.comp, matD]
  rw [eM]
  generalize plD (MN.turn N ((MN.turn M (1, 0)).fst, (MN.turn M (1, 0)).snd)) = d2
  generalize plD (MN.turn N ((MN.turn M (0, 1)).fst, (MN.turn M (0, 1)).snd)) = d3
  refine ⟨rfl, fun i ρ => (∀ q ∈ matL.take i, q.2 ≠ MN.comp M N) ∧ ∃ o5 o6, ρ = [.val (.str s), .val (.str t), .val d2, .val d3, .val (matD (MN.comp M N)), o5, o6], ⟨fun q hq => (List.not_mem_nil hq).elim, _, _, rfl⟩, ?_, ?_⟩
  · rintro i d ρ hd ⟨hn, o5, o6, rfl⟩
    have hd' : (matL.map fun q => D.tup [.str q.1, matD q.2])[i]? = some d := hd
    obtain ⟨⟨k, m⟩, hq, rfl⟩ := map_get hd'
    refine ⟨⟨rfl, rfl⟩, ifB_2 (fun e => ?_) (fun e => ?_)⟩
    · have e' : decide (m = MN.comp M N) = true := (eqM _ _).symm.trans e
      have hm := of_decide_eq_true e'
      subst hm
      exact h k (mat_of_mem (List.mem_of_getElem? hq))
    · have e' : decide (m = MN.comp M N) = false := (eqM _ _).symm.trans e
      have hm := of_decide_eq_false e'
      refine ⟨fun q hq' => ?_, _, _, rfl⟩
      rw [List.take_succ, hq] at hq'
      rcases List.mem_append.mp hq' with z | z
      · exact hn q z
      · have : q = (k, m) := by simpa using z
        rw [this]
        exact hm
  · rintro ρ ⟨hn, o5, o6, rfl⟩
    obtain ⟨u, hu⟩ := mat_comp hM hN
    exact absurd rfl (hn _ (by exact hu))
end
end K08
namespace K08
open PySem PySem.Spec PyProof.Rows L2 Z Y
section
variable {P : Program} {w : World} {K : Frg} {mg : Str → Option Value} {base : Heap}
theorem ok_Motion_UinitU (T : Tx w K mg) : FnG P w K mg base (L2.CX P w) 7 (He.ma K (He.ga K "Motion") "__init__") (spI K "Motion" (dflR R_Motion_init8 1 (.tup [(.int (0)), (.int (0))]))) := by
  refine y_initDX (C := "Motion") (R := R_Motion_init8) T.d_Motion_UinitU sc_Motion_UinitU (fun ds Q E h => by rw [arl2 ds Q E h]; rfl) (fun _ _ _ _ _ _ _ us _ hl => match us, hl with | [_, _], _ => ⟨_, rfl, rfl⟩) (fun _ _ _ _ _ _ _ us _ hl => match us, hl with | [_, _, _], _ => ⟨_, rfl, rfl⟩) fun cdv A outer s H E B hB hr hx po tk => ⟨_, (s_cons (s_if (z_pt (z_or (z_not (z_val (y_callB call_isi (isBL (cs := []) (T := "str") (by decide) all0) (by rfl) T.b_isinstance (by decide +kernel) (a_cons (y_var (pv 1)) (a_cons (y_ty (n := "str") rfl T.b_str (by decide +kernel)) a_nil))))) (z_or1 (z_cmp (op_ninT T.tb_MATRICES) (ninTL T.tb_MATRICES) (y_var (pv 1)) (y_glob rfl T.g_MATRICES) rfl))))
    (s_one (s_raise rfl tk (T.xc_InvalidMotion.t T.d_InvalidMotion_UinitU ⟨_, _, rfl⟩ ⟨_, _, _, _, rfl⟩ rfl) (.inl rfl) hr (y_var (pv 1)) rfl T.g_InvalidMotion))
    s_nil)
  (s_cons (s_expr (y_call (ok_check_place T) (hr.mono (by decide)) rfl T.g_check_place T.k_check_place hx (a_cons (y_var (pv 2)) a_nil)))
  (s_cons (s_fld (C := "Motion") (ns := []) (i := 0) T.cl_Motion T.na_Motion_own_kind (pv 0) (y_var (pv 1)))
  (s_one (s_fld (C := "Motion") (ns := ["own_kind"]) (i := 0) T.cl_Motion T.na_Motion_own_shift (pv 0) (y_var (pv 2))))))), fun self ds Q h => ?_⟩
  obtain ⟨a0, a1, e0, hh⟩ := ar2E h
  clear h
  subst e0
  have h := hh
  clear hh
  try dsimp only at h
  rw [show startE (List.length N_Motion_UinitU - 1) [a0, a1] = [.val a0, .val a1] from rfl]
  rcases h with ⟨t, M, x, y, rfl, rfl, hM, h⟩ | ⟨k1, e, h⟩ | ⟨t, M, rfl, hM, k2, e, h⟩
  · refine ⟨rfl, ifB_F rfl ⟨rfl, ?_⟩⟩
    rw [show List.lookup t tab_MATRICES = some (matD M) from tabM_look hM]
    exact ifB_F rfl ⟨⟨trivial, trivial⟩, fun _ => ⟨⟨rfl, rfl⟩, ⟨rfl, rfl⟩, ⟨rfl, rfl⟩, h⟩, fun z => nomatch z⟩
  · cases a0 with
    | str t =>
      refine ⟨rfl, ifB_F rfl ⟨rfl, ?_⟩⟩
      have hM : mat t = none := by
        cases hM : mat t with
        | none => rfl
        | some M =>
          have e : (mat t).isSome = false := e
          rw [hM] at e
          cases e
      rw [show List.lookup t tab_MATRICES = none from tabM_none hM]
      exact ifB_T rfl h
    | obj _ _ _ => exact k1.elim
    | ty _ => exact k1.elim
    | glob _ => exact k1.elim
    | tape => exact k1.elim
    | fn _ => exact k1.elim
    | _ => exact ⟨rfl, ifB_T rfl (ifB_T rfl h)⟩
  · refine ⟨rfl, ifB_F rfl ⟨rfl, ?_⟩⟩
    rw [show List.lookup t tab_MATRICES = some (matD M) from tabM_look hM]
    exact ifB_F rfl ⟨k2, fun z => Bool.noConfusion (e.symm.trans z), fun _ => h⟩
theorem okw_Motion_UinitU (T : Tx w K mg) : FnG P w K mg base (L2.CX P w) 7 (He.ma K (He.ga K "Motion") "__init__") (spI K "Motion" (dflR R_Motion_UinitU 1 (.tup [(.int (0)), (.int (0))]))) := Y.FnG.weakI (ok_Motion_UinitU T) (dflR_w mot8_w)
end
end K08
namespace K08
open PySem PySem.Spec PyProof.Rows L2 Z Y
section
variable {P : Program} {w : World} {K : Frg} {mg : Str → Option Value} {base : Heap}
theorem ok_Motion_by (T : Tx w K mg) : FnG P w K mg base (L2.CX P w) 9 (He5.wf K (He.ga K "Motion") "staticmethod" "by") (spP K R_Motion_by8) := by
  refine y_fnX T.d_Motion_by sc_Motion_by arl1 (fun _ _ _ _ _ _ us hl => match us, hl with | [_], _ => rfl) fun cdv A outer s H E B hB hr hx po tk => ⟨_, (s_one (s_ret (y_make T.mk_Motion (ok_Motion_UinitU T) (hr.mono (by decide)) rfl T.g_Motion hx (a_cons y_str (a_cons (y_var (pv 0)) a_nil))))), fun ds Q h => ?_⟩
  obtain ⟨a0, e0, hh⟩ := ar1E h
  clear h
  subst e0
  have h := hh
  clear hh
  try dsimp only at h
  rw [show startE (List.length N_Motion_by) [a0] = [.val a0] from rfl]
  obtain ⟨k1, h1, h2⟩ := h
  cases e : isPl a0 with
  | true =>
    obtain ⟨x, y, rfl⟩ := isPl_pl e
    exact .inl ⟨"none", _, x, y, rfl, rfl, (rfl : mat "none" = some (1, 0, 0, 1)), h2 x y rfl⟩
  | false => exact .inr (.inr ⟨"none", _, rfl, (rfl : mat "none" = some (1, 0, 0, 1)), k1, e, h1 e⟩)
end
end K08
namespace K08
open PySem PySem.Spec PyProof.Rows L2 Z Y
section
variable {P : Program} {w : World} {K : Frg} {mg : Str → Option Value} {base : Heap}
theorem ok_Motion_kind (T : Tx w K mg) : FnG P w K mg base (L2.CX P w) 1 (He5.wf K (He.ga K "Motion") "property" "kind") (spP K R_Motion_kind) := by
  refine y_fn T.d_Motion_kind sc_Motion_kind arl1 (fun _ _ _ _ _ _ us hl => match us, hl with | [_], _ => rfl) fun cdv A outer s H E B hB hr hx po => ⟨_, (s_one (s_ret (y_fld (cs := ["Motion"]) (ns := ["own_kind", "own_shift"]) (j := 0) (y_var (pv 0)) (all1 ⟨T.cl_Motion, T.na_Motion_own_kind⟩)))), fun ds Q h => ?_⟩
  obtain ⟨a0, e0, hh⟩ := ar1E h
  clear h
  subst e0
  have h := hh
  clear hh
  try dsimp only at h
  rw [show startE (List.length N_Motion_kind) [a0] = [.val a0] from rfl]
  obtain ⟨k, x, y, rfl, h⟩ := h
  exact ⟨⟨.head _, rfl⟩, h⟩
end
end K08
namespace K08
open PySem PySem.Spec PyProof.Rows L2 Z Y
section
variable {P : Program} {w : World} {K : Frg} {mg : Str → Option Value} {base : Heap}
theorem ok_Motion_shift (T : Tx w K mg) : FnG P w K mg base (L2.CX P w) 1 (He5.wf K (He.ga K "Motion") "property" "shift") (spP K R_Motion_shift) := by
  refine y_fn T.d_Motion_shift sc_Motion_shift arl1 (fun _ _ _ _ _ _ us hl => match us, hl with | [_], _ => rfl) fun cdv A outer s H E B hB hr hx po => ⟨_, (s_one (s_ret (y_fld (cs := ["Motion"]) (ns := ["own_kind", "own_shift"]) (j := 1) (y_var (pv 0)) (all1 ⟨T.cl_Motion, T.na_Motion_own_shift⟩)))), fun ds Q h => ?_⟩
  obtain ⟨a0, e0, hh⟩ := ar1E h
  clear h
  subst e0
  have h := hh
  clear hh
  try dsimp only at h
  rw [show startE (List.length N_Motion_shift) [a0] = [.val a0] from rfl]
  obtain ⟨k, x, y, rfl, h⟩ := h
  exact ⟨⟨.head _, rfl⟩, h⟩
end
end K08
namespace K08
open PySem PySem.Spec PyProof.Rows L2 Z Y
section
variable {P : Program} {w : World} {K : Frg} {mg : Str → Option Value} {base : Heap}
theorem ok_Motion_image (T : Tx w K mg) : FnG P w K mg base (L2.CX P w) 3 (He.ma K (He.ga K "Motion") "image") (spP K R_Motion_image) := by
  refine y_fn T.d_Motion_image sc_Motion_image arl2 (fun _ _ _ _ _ _ us hl => match us, hl with | [_, _], _ => rfl) fun cdv A outer s H E B hB hr hx po => ⟨_, (s_one (s_ret (y_call (ok_plus T) (hr.mono (by decide)) rfl T.g_plus T.k_plus hx (a_cons (y_call (ok_turned T) (hr.mono (by decide)) rfl T.g_turned T.k_turned hx (a_cons (y_fld (cs := ["Motion"]) (ns := ["own_kind", "own_shift"]) (j := 0) (y_var (pv 0)) (all1 ⟨T.cl_Motion, T.na_Motion_own_kind⟩)) (a_cons (y_var (pv 1)) a_nil))) (a_cons (y_fld (cs := ["Motion"]) (ns := ["own_kind", "own_shift"]) (j := 1) (y_var (pv 0)) (all1 ⟨T.cl_Motion, T.na_Motion_own_shift⟩)) a_nil))))), fun ds Q h => ?_⟩
  obtain ⟨a0, a1, e0, hh⟩ := ar2E h
  clear h
  subst e0
  have h := hh
  clear hh
  try dsimp only at h
  rw [show startE (List.length N_Motion_image) [a0, a1] = [.val a0, .val a1] from rfl]
  obtain ⟨k, M, x, y, u, v, rfl, rfl, ⟨hM, zu, zv⟩, h⟩ := h
  exact ⟨⟨.head _, rfl⟩, k, M, u, v, rfl, rfl, ⟨hM, zu, zv⟩, ⟨.head _, rfl⟩, _, _, _, _, rfl, rfl, h⟩
end
end K08
namespace K08
open PySem PySem.Spec PyProof.Rows L2 Z Y
section
variable {P : Program} {w : World} {K : Frg} {mg : Str → Option Value} {base : Heap}
theorem ok_Motion_UcallU (T : Tx w K mg) : FnG P w K mg base (L2.CX P w) 7 (He.ma K (He.ga K "Motion") "__call__") (spP K R_Motion_call8) := by
  refine y_fnX T.d_Motion_UcallU sc_Motion_UcallU arl2 (fun _ _ _ _ _ _ us hl => match us, hl with | [_, _], _ => rfl) fun cdv A outer s H E B hB hr hx po tk => ⟨_, (s_cons (s_expr (y_call (ok_check_place T) (hr.mono (by decide)) rfl T.g_check_place T.k_check_place hx (a_cons (y_var (pv 1)) a_nil)))
  (s_one (s_ret (y_meth (cs := ["Motion"]) (ns := ["own_kind", "own_shift"]) (y_var (pv 0)) (all1 ⟨T.cl_Motion, T.m_Motion_image⟩) (ok_Motion_image T) (hr.mono (by decide)) hx (a_cons (y_var (pv 1)) a_nil))))), fun ds Q h => ?_⟩
  obtain ⟨a0, a1, e0, hh⟩ := ar2E h
  clear h
  subst e0
  have h := hh
  clear hh
  try dsimp only at h
  rw [show startE (List.length N_Motion_UcallU) [a0, a1] = [.val a0, .val a1] from rfl]
  obtain ⟨k, m, rfl, hm, kn, e, h⟩ := h
  exact ⟨kn, fun z => (Bool.noConfusion (e.symm.trans z)), fun _ => h⟩
end
end K08
namespace K08
open PySem PySem.Spec PyProof.Rows L2 Z Y
section
variable {P : Program} {w : World} {K : Frg} {mg : Str → Option Value} {base : Heap}
theorem ok_Motion_UmulU (T : Tx w K mg) : FnG P w K mg base (L2.CX P w) 9 (He.ma K (He.ga K "Motion") "__mul__") (spP K R_Motion_UmulU) := by
  refine y_fn T.d_Motion_UmulU sc_Motion_UmulU arl2 (fun _ _ _ _ _ _ us hl => match us, hl with | [_, _], _ => rfl) fun cdv A outer s H E B hB hr hx po => ⟨_, (s_cons (s_if (z_not (z_val (y_callB call_isi (isOL (C := "Motion") (cs := ["Motion"]) (cs' := []) ⟨T.cl_Motion, T.ow_Motion⟩ (all1 ⟨⟨T.cl_Motion, T.ow_Motion⟩, T.ow_Motion.ki⟩) all0) (by rfl) T.b_isinstance (by decide +kernel) (a_cons (y_var (pv 1)) (a_cons (y_glob rfl T.g_Motion) a_nil)))))
    (s_one s_never)
    s_nil)
  (s_one (s_ret (y_make T.mk_Motion (okw_Motion_UinitU T) (hr.mono (by decide)) rfl T.g_Motion hx (a_cons (y_call (ok_joined_kind T) (hr.mono (by decide)) rfl T.g_joined_kind T.k_joined_kind hx (a_cons (y_fld (cs := ["Motion"]) (ns := ["own_kind", "own_shift"]) (j := 0) (y_var (pv 0)) (all1 ⟨T.cl_Motion, T.na_Motion_own_kind⟩)) (a_cons (y_fld (cs := ["Motion"]) (ns := ["own_kind", "own_shift"]) (j := 0) (y_var (pv 1)) (all1 ⟨T.cl_Motion, T.na_Motion_own_kind⟩)) a_nil))) (a_cons (y_meth (cs := ["Motion"]) (ns := ["own_kind", "own_shift"]) (y_var (pv 1)) (all1 ⟨T.cl_Motion, T.m_Motion_image⟩) (ok_Motion_image T) (hr.mono (by decide)) hx (a_cons (y_fld (cs := ["Motion"]) (ns := ["own_kind", "own_shift"]) (j := 1) (y_var (pv 0)) (all1 ⟨T.cl_Motion, T.na_Motion_own_shift⟩)) a_nil)) a_nil)))))), fun ds Q h => ?_⟩
  obtain ⟨a0, a1, e0, hh⟩ := ar2E h
  clear h
  subst e0
  have h := hh
  clear hh
  try dsimp only at h
  rw [show startE (List.length N_Motion_UmulU) [a0, a1] = [.val a0, .val a1] from rfl]
  obtain ⟨k, l, M, N, x, y, u, v, rfl, rfl, ⟨hM, hN, zx, zy⟩, h⟩ := h
  exact ⟨rfl, .inl ⟨.head _, ifB_F rfl ⟨⟨.head _, rfl⟩, ⟨.head _, rfl⟩, k, l, M, N, rfl, rfl, ⟨hM, hN⟩, fun t ht => ⟨.head _, rfl, ⟨.head _, rfl⟩, l, N, u, v, x, y, rfl, rfl, ⟨hN, zx, zy⟩, ⟨t, _, _, _, rfl, rfl, ht, h t ht⟩⟩⟩⟩⟩
end
end K08
namespace K08
open PySem PySem.Spec PyProof.Rows L2 Z Y
section
variable {P : Program} {w : World} {K : Frg} {mg : Str → Option Value} {base : Heap}
theorem ok_Motion_UinvertU (T : Tx w K mg) : FnG P w K mg base (L2.CX P w) 9 (He.ma K (He.ga K "Motion") "__invert__") (spP K R_Motion_UinvertU) := by
  refine y_fn T.d_Motion_UinvertU sc_Motion_UinvertU arl1 (fun _ _ _ _ _ _ us hl => match us, hl with | [_], _ => rfl) fun cdv A outer s H E B hB hr hx po => ⟨_, (s_cons (s_set (i := 1) sc_Motion_UinvertU.nd rfl (by first | exact Or.inl rfl | exact Or.inr rfl) (y_getT T.tb_BACK (y_glob rfl T.g_BACK) (y_fld (cs := ["Motion"]) (ns := ["own_kind", "own_shift"]) (j := 0) (y_var (pv 0)) (all1 ⟨T.cl_Motion, T.na_Motion_own_kind⟩)) (y_fld (cs := ["Motion"]) (ns := ["own_kind", "own_shift"]) (j := 0) (y_var (pv 0)) (all1 ⟨T.cl_Motion, T.na_Motion_own_kind⟩))))
  (s_cons (s_asg (t := .tp [2, 3]) (y_call (ok_turned T) (hr.mono (by decide)) rfl T.g_turned T.k_turned hx (a_cons (y_var (pv 1)) (a_cons (y_fld (cs := ["Motion"]) (ns := ["own_kind", "own_shift"]) (j := 1) (y_var (pv 0)) (all1 ⟨T.cl_Motion, T.na_Motion_own_shift⟩)) a_nil))) (g_tp (is := [2, 3]) rfl (pgs_cons (pg_name (i := 2) sc_Motion_UinvertU.nd rfl (by first | exact Or.inl rfl | exact Or.inr rfl)) (pgs_cons (pg_name (i := 3) sc_Motion_UinvertU.nd rfl (by first | exact Or.inl rfl | exact Or.inr rfl)) pgs_nil))))
  (s_one (s_ret (y_make T.mk_Motion (okw_Motion_UinitU T) (hr.mono (by decide)) rfl T.g_Motion hx (a_cons (y_var (pv 1)) (a_cons (y_tup (a_cons (y_un un_neg negL (y_var (pv 2))) (a_cons (y_un un_neg negL (y_var (pv 3))) a_nil))) a_nil))))))), fun ds Q h => ?_⟩
  obtain ⟨a0, e0, hh⟩ := ar1E h
  clear h
  subst e0
  have h := hh
  clear hh
  try dsimp only at h
  rw [show startE (List.length N_Motion_UinvertU) [a0] = [.val a0, .no, .no, .no] from rfl]
  obtain ⟨k, M, x, y, rfl, ⟨hM, zx, zy⟩, h⟩ := h
  obtain ⟨t, e, ht⟩ := mat_back hM
  refine ⟨rfl, ⟨.head _, rfl⟩, ⟨.head _, rfl⟩, ?_⟩
  refine getT_to (t := t) e ?_
  obtain ⟨z1, z2⟩ := sz_turn ht (n := 4000) zx zy
  exact ⟨⟨.head _, rfl⟩, t, _, x, y, rfl, rfl, ⟨ht, zx, zy⟩, leN rfl, ⟨t, _, _, _, rfl, rfl, ht, h t ht⟩⟩
end
end K08
namespace K08
open PySem PySem.Spec PyProof.Rows L2 Z Y
section
variable {P : Program} {w : World} {K : Frg} {mg : Str → Option Value} {base : Heap}
theorem ok_Motion_repeated (T : Tx w K mg) : FnG P w K mg base (L2.CX P w) 11 (He.ma K (He.ga K "Motion") "repeated") (spP K R_Motion_rep8) := by
  refine y_fnX T.d_Motion_repeated sc_Motion_repeated arl2 (fun _ _ _ _ _ _ us hl => match us, hl with | [_, _], _ => rfl) fun cdv A outer s H E B hB hr hx po tk => ⟨_, (s_cons (s_if (z_not (z_val (y_call (ok_is_integer T) (hr.mono (by decide)) rfl T.g_is_integer T.k_is_integer hx (a_cons (y_var (pv 1)) a_nil))))
    (s_one (s_raise rfl tk (T.xc_InvalidNumber.t T.d_InvalidNumber_UinitU ⟨_, _, rfl⟩ ⟨_, _, _, _, rfl⟩ rfl) (.inl rfl) hr (y_var (pv 1)) rfl T.g_InvalidNumber))
    s_nil)
  (s_cut (s_par (i := 2) (j := 3) (by rfl) sc_Motion_repeated.nd rfl rfl (by decide) rfl rfl (a_cons (y_if (z_cmp op_ge cmpL (y_var (pv 1)) y_int (nomark _)) (y_var (pv 0)) (y_inv (C := "Motion") (ns := ["own_kind", "own_shift"]) T.m_Motion_UinvertU.at_ T.m_Motion_UinvertU.fn ((ok_Motion_UinvertU T).at (hr.mono (by decide))) hx (y_var (pv 0)))) (a_cons (y_callB call_abs absL (by rfl) T.b_abs (by decide +kernel) (a_cons (y_var (pv 1)) a_nil)) a_nil)) (by rfl))
  (s_cons (s_set (i := 4) sc_Motion_repeated.nd rfl (by first | exact Or.inl rfl | exact Or.inr rfl) (y_make T.mk_Motion (okw_Motion_UinitU T) (hr.mono (by decide)) rfl T.g_Motion hx (a_cons y_str a_nil)))
  (s_cons (s_while po (z_cmp op_gt cmpL (y_var (pv 3)) y_int (nomark _))
    (s_cut (s_if (z_cmp (op_eqY hr.units) eqL (y_op op_mod modL (y_var (pv 3)) y_int) y_int (nomark _))
    (s_one (s_set (i := 4) sc_Motion_repeated.nd rfl (by first | exact Or.inl rfl | exact Or.inr rfl) (y_opI (gop_bin (C := He.ga K "Motion") T.ow_Motion.sf T.m_Motion_UmulU.at_ T.m_Motion_UmulU.fn ((ok_Motion_UmulU T).at (hr.mono (by decide))) hx) (binOL (C := "Motion") (ns := ["own_kind", "own_shift"])) (y_var (pv 4)) (y_var (pv 2)))))
    s_nil)
  (s_one (s_par (i := 2) (j := 3) (by rfl) sc_Motion_repeated.nd rfl rfl (by decide) rfl rfl (a_cons (y_opI (gop_bin (C := He.ga K "Motion") T.ow_Motion.sf T.m_Motion_UmulU.at_ T.m_Motion_UmulU.fn ((ok_Motion_UmulU T).at (hr.mono (by decide))) hx) (binOL (C := "Motion") (ns := ["own_kind", "own_shift"])) (y_var (pv 2)) (y_var (pv 2))) (a_cons (y_op op_fdivW divL (y_var (pv 3)) y_int) a_nil)) (by rfl)))))
  (s_one (s_ret (y_var (pv 4)))))))), fun ds Q h => ?_⟩
  obtain ⟨a0, a1, e0, hh⟩ := ar2E h
  clear h
  subst e0
  have h := hh
  clear hh
  try dsimp only at h
  rw [show startE (List.length N_Motion_repeated) [a0, a1] = [.val a0, .val a1, .no, .no, .no] from rfl]
  obtain ⟨k, m, rfl, hm, kn, e, h⟩ := h
  refine ⟨kn, ?_⟩
  rw [e]
  exact ifB_T rfl h
end
end K08
namespace K08
open PySem PySem.Spec PyProof.Rows L2 Z Y
section
variable {P : Program} {w : World} {K : Frg} {mg : Str → Option Value} {base : Heap}
theorem ok__law_tape (T : Tx w K mg) : FnR P w K mg base (L2.CX P w) 1 (He.ga K "_law_tape") (spTape K) := by
  refine zfn T.d__law_tape sc__law_tape len1 (fun _ _ _ _ _ _ us hl => match us, hl with | [_], _ => rfl) (fun cdv A outer s H vs Q E hr h => ?_)
  obtain ⟨_, rfl, F, s, ns, rfl, hs, hS, k⟩ := h
  refine ⟨_, PSs.nox (pss_one (ps_ret (pe_lstZ (pa_cons (pe_callTy call_listZ (by rfl) T.b_list (by decide +kernel) (pa_cons (pe_slice sl_listZ (pv 0) po_none (po_some pe_int)) pa_nil)) (pa_cons pe_int (pa_cons pe_int (pa_cons pe_int pa_nil))))))), ?_⟩
  have hSH := sqL hs hS
  refine ⟨_, rfl, _, rfl, _, _, rfl, hSH, ?_⟩
  intro p1 H1 hp1 e1
  obtain ⟨F1, g1, q1, r1⟩ := newE hs hp1 e1
  obtain ⟨ms, em⟩ := cut_ints ns none (some 63)
  rw [em] at q1 r1
  refine ⟨_, _, rfl, .inl (SqL.of r1), ?_⟩
  intro p2 H2 hp2 e2
  obtain ⟨F2, g2, q2, r2⟩ := newE g1.fh hp2 e2
  walk_at "z"
  intro p3 H3 hp3 e3
  obtain ⟨g3, f3, r3⟩ := newM g2.fh hp3 e3
  exact k p3 F2 H3 ((g1.trans g2).trans g3) ⟨f3, _, r3, p2, ms, 0, 0, 17, rfl, SqL.of q2, by decide, by decide, by decide, by decide⟩
end
end K08
namespace K08
open PySem PySem.Spec PyProof.Rows L2 Z Y
section
variable {P : Program} {w : World} {K : Frg} {mg : Str → Option Value} {base : Heap}
theorem ok0__law_draw (T : Tx w K mg) : FnR P w K mg base (L2.CX P w) 1 (He.ga K "_law_draw") (spDraw K) := by
  refine zfn T.d__law_draw sc__law_draw len2 (fun _ _ _ _ _ _ us hl => match us, hl with | [_, _], _ => rfl) (fun cdv A outer s H vs Q E hr h => ?_)
  obtain ⟨_, _, rfl, F, t, many, rfl, rfl, hs, ⟨ft, xs, ht, c, ns, i, b, r, rfl, hc, hi, hb, hr0, hr1⟩, hm0, hm1, k⟩ := h
  refine ⟨_, PSs.nox (pss_cons (ps_if (pt_cmpR op_gt (pe_ix ix_list (pv 0) pe_int (fun _ _ => rfl)) pe_int (nomark _))
    (pss_cons (ps_set (i := 2) sc__law_draw.nd rfl (by first | exact Or.inl rfl | exact Or.inr rfl) (pe_op op_mod (pe_ix ix_list (pv 0) pe_int (fun _ _ => rfl)) (pv 1)))
  (pss_cons (ps_asg (pe_op op_fdivW (pe_ix ix_list (pv 0) pe_int (fun _ _ => rfl)) (pv 1)) (pg_sub (pv 0) pe_int set_listZ))
  (pss_one (ps_ret (pv 2)))))
    pss_nil)
  (pss_cons (ps_set (i := 3) sc__law_draw.nd rfl (by first | exact Or.inl rfl | exact Or.inr rfl) pe_int)
  (zcut (ps_if (pt_cmpR op_lt (pe_ix ix_list (pv 0) pe_int (fun _ _ => rfl)) (pe_callB call_len_seq (by rfl) T.b_len (by decide +kernel) (pa_cons (pe_ix ix_list (pv 0) pe_int (fun _ _ => rfl)) pa_nil)) (nomark _))
    (pss_one (ps_set (i := 3) sc__law_draw.nd rfl (by first | exact Or.inl rfl | exact Or.inr rfl) (pe_ix ix_list (pe_ix ix_list (pv 0) pe_int (fun _ _ => rfl)) (pe_ix ix_list (pv 0) pe_int (fun _ _ => rfl)) (fun _ _ => rfl))))
    pss_nil)
  (pss_cons (ps_asg (pe_op op_add (pe_ix ix_list (pv 0) pe_int (fun _ _ => rfl)) pe_int) (pg_sub (pv 0) pe_int set_listZ))
  (pss_cons (ps_if (pt_cmpR op_ge (pv 3) (pe_op op_pow pe_int pe_int) (nomark _))
    (pss_cons (ps_asg (pe_op op_fdivW (pv 3) (pv 1)) (pg_sub (pv 0) pe_int set_listZ))
  (pss_one (ps_ret (pe_op op_mod (pv 3) (pv 1)))))
    pss_nil)
  (pss_cons (ps_set (i := 4) sc__law_draw.nd rfl (by first | exact Or.inl rfl | exact Or.inr rfl) (pe_op op_add (pe_op op_add (pe_op op_mod (pv 3) pe_int) (pe_op op_mul pe_int (pe_ix ix_list (pv 0) pe_int (fun _ _ => rfl)))) pe_int))
  (pss_cons (ps_asg (pe_op op_mod (pe_op op_add (pe_op op_mul (pe_ix ix_list (pv 0) pe_int (fun _ _ => rfl)) pe_int) (pv 4)) pe_int) (pg_sub (pv 0) pe_int set_listZ))
  (pss_one (ps_ret (pe_op op_mod (pe_op op_mod (pe_op op_pow (pe_ix ix_list (pv 0) pe_int (fun _ _ => rfl)) pe_int) pe_int) (pv 1))))))))))), ?_⟩
  have hT := SqL.of (K := K) ht
  walk_at "z"
  refine ite2 (fun hb0 => ?_) (fun hb0 => ?_)
  · walk_at "z"
    intro H1 e1
    obtain ⟨g1, q1⟩ := putM hs ft e1
    walk_at "z"
    have hb1 : (0 : Int) < b := of_decide_eq_true hb0
    exact k _ _ (Int.emod_nonneg _ (by omega)) (Int.emod_lt_of_pos _ hm0) g1 ⟨ft, _, q1, c, ns, i, b / many, r, rfl, hc, hi, Int.ediv_nonneg hb (by omega), hr0, hr1⟩
  · have hcH := sqL hs hc
    refine ⟨fun σ' H' => ∃ cell : Int, σ' = [some (.ref t), some (.int many), none, some (.int cell), none] ∧ H' = H, ?_, ?_⟩
    · walk_at "z"
      refine ite2 (fun hlt => ?_) (fun _ => ⟨0, rfl, rfl⟩)
      have hl : i < ((ns.map V.int).length : Int) := of_decide_eq_true hlt
      walk_at "z"
      obtain ⟨j, rfl⟩ := Int.eq_ofNat_of_zero_le hi
      have hj : j < ns.length := by simpa using hl
      refine ⟨_, _, _, _, rfl, rfl, hcH, atI_nat (by rw [List.getElem?_map, List.getElem?_eq_getElem hj]; rfl), _, rfl, rfl⟩
    · rintro σ' H' ⟨cell, rfl, rfl⟩
      walk_at "z"
      intro H1 e1
      obtain ⟨g1, q1⟩ := putM hs ft e1
      have hT1 : SqL K H1 t [V.ref c, V.int (i + 1), V.int b, V.int r] := SqL.of q1
      have hx1 : H1 t = some (.lst [V.ref c, V.int (i + 1), V.int b, V.int r]) := q1
      have hi1 : 0 ≤ i + 1 := by omega
      walk_at "z"
      refine ite2 (fun hge => ?_) (fun _ => ?_)
      · walk_at "z"
        intro H2 e2
        obtain ⟨g2, q2⟩ := putM g1.fh ft e2
        walk_at "z"
        have hc0 : (0 : Int) ≤ cell := by
          have := of_decide_eq_true hge
          have h3 : (10 : Int) ^ (Int.toNat 18) = 1000000000000000000 := by decide
          rw [h3] at this
          omega
        exact k _ _ (Int.emod_nonneg _ (by omega)) (Int.emod_lt_of_pos _ hm0) (g1.trans g2) ⟨ft, _, q2, c, ns, i + 1, cell / many, r, rfl, hc, hi1, Int.ediv_nonneg hc0 (by omega), hr0, hr1⟩
      · walk_at "z"
        intro H2 e2
        obtain ⟨g2, q2⟩ := putM g1.fh ft e2
        replace q2 : H2 t = some (.lst [V.ref c, V.int (i + 1), V.int b, V.int ((r * 48271 + (cell % 2147483647 + 7919 * (i + 1) + 11)) % 2147483647)]) := q2
        generalize hrr : (r * 48271 + (cell % 2147483647 + 7919 * (i + 1) + 11)) % 2147483647 = r2 at q2
        have hr2 : 0 ≤ r2 ∧ r2 < 2147483647 := by omega
        have hT2 : SqL K H2 t [V.ref c, V.int (i + 1), V.int b, V.int r2] := SqL.of q2
        walk_at "z"
        refine And.intro ⟨by decide, by decide, by have := hr2; omega⟩ ?_
        walk_at "z"
        exact k _ _ (Int.emod_nonneg _ (by omega)) (Int.emod_lt_of_pos _ hm0) (g1.trans g2) ⟨ft, _, q2, c, ns, i + 1, b, r2, rfl, hc, hi1, hb, hr2.1, hr2.2⟩
theorem ok__law_draw (T : Tx w K mg) : FnG P w K mg base (L2.CX P w) 1 (He.ga K "_law_draw") (spP K rDraw) := draw_of (ok0__law_draw T)
end
end K08
namespace K08
open PySem PySem.Spec PyProof.Rows L2 Z Y
section
variable {P : Program} {w : World} {K : Frg} {mg : Str → Option Value} {base : Heap}
theorem ok__law_great (T : Tx w K mg) : FnG P w K mg base (L2.CX P w) 3 (He.ga K "_law_great") (spP K R__law_great) := by
  refine y_fn T.d__law_great sc__law_great arl2 (fun _ _ _ _ _ _ us hl => match us, hl with | [_, _], _ => rfl) fun cdv A outer s H E B hB hr hx po => ⟨_, (s_cons (s_set (i := 2) sc__law_great.nd rfl (by first | exact Or.inl rfl | exact Or.inr rfl) (y_op op_addY addL (y_op op_mulY mulL (y_call (ok__law_draw T) (hr.mono (by decide)) rfl T.g__law_draw T.k__law_draw hx (a_cons (y_var (pv 0)) (a_cons (y_op op_pow powL y_int y_int) a_nil))) (y_op op_pow powL y_int y_int)) (y_op op_mulY mulL (y_call (ok__law_draw T) (hr.mono (by decide)) rfl T.g__law_draw T.k__law_draw hx (a_cons (y_var (pv 0)) (a_cons (y_op op_pow powL y_int y_int) a_nil))) (y_op op_pow powL y_int y_int))))
  (s_cons (s_set (i := 3) sc__law_great.nd rfl (by first | exact Or.inl rfl | exact Or.inr rfl) (y_ix (y_lst (a_cons (y_call (ok__law_draw T) (hr.mono (by decide)) rfl T.g__law_draw T.k__law_draw hx (a_cons (y_var (pv 0)) (a_cons y_int a_nil))) (a_cons (y_call (ok__law_draw T) (hr.mono (by decide)) rfl T.g__law_draw T.k__law_draw hx (a_cons (y_var (pv 0)) (a_cons y_int a_nil))) (a_cons (y_op op_mod modL (y_op op_addY addL (y_var (pv 2)) (y_call (ok__law_draw T) (hr.mono (by decide)) rfl T.g__law_draw T.k__law_draw hx (a_cons (y_var (pv 0)) (a_cons (y_op op_pow powL y_int y_int) a_nil)))) (y_var (pv 1))) a_nil)))) (y_call (ok__law_draw T) (hr.mono (by decide)) rfl T.g__law_draw T.k__law_draw hx (a_cons (y_var (pv 0)) (a_cons y_int a_nil))) (fun _ _ => rfl)))
  (s_one (s_ret (y_op op_mulY mulL (y_var (pv 3)) (y_ix (y_lst (a_cons y_int (a_cons (y_un un_neg negL y_int) a_nil))) (y_call (ok__law_draw T) (hr.mono (by decide)) rfl T.g__law_draw T.k__law_draw hx (a_cons (y_var (pv 0)) (a_cons y_int a_nil))) (fun _ _ => rfl))))))), fun ds Q h => ?_⟩
  obtain ⟨a0, a1, e0, hh⟩ := ar2E h
  clear h
  subst e0
  have h := hh
  clear hh
  try dsimp only at h
  rw [show startE (List.length N__law_great) [a0, a1] = [.val a0, .val a1, .no, .no] from rfl]
  split at h
  · rename_i n
    obtain ⟨⟨h60, sn⟩, h⟩ := h
    have pw : ∀ k : Int, 0 ≤ k → k ≤ 1000 → (0 ≤ k ∧ k ≤ 1000 ∧ (10 : Int).natAbs < 18446744073709551616) := fun k a b => ⟨a, b, by decide⟩
    have e9 : (10 : Int) ^ (Int.toNat 9) = 1000000000 := by decide
    have s9 : Sz 100 ((10 : Int) ^ (Int.toNat 9)) := sz_lit (by decide)
    have s18 : Sz 100 ((10 : Int) ^ (Int.toNat 18)) := sz_lit (by decide)
    refine ⟨pw _ (by decide) (by decide), ⟨by rw [e9]; decide, s9.mono (by decide)⟩, fun d1 l1 u1 => ?_⟩
    refine ⟨pw _ (by decide) (by decide), ⟨(sz_of (by omega) u1 s9).mono (by decide), s18.mono (by decide)⟩, ?_⟩
    refine ⟨pw _ (by decide) (by decide), ⟨by rw [e9]; decide, s9.mono (by decide)⟩, fun d2 l2 u2 => ?_⟩
    refine ⟨pw _ (by decide) (by decide), ⟨(sz_of (by omega) u2 s9).mono (by decide), s9.mono (by decide)⟩, ?_⟩
    refine ⟨⟨by decide, szP (by decide) (by decide)⟩, fun d3 l3 u3 => ⟨⟨by decide, szP (by decide) (by decide)⟩, fun d4 l4 u4 => ?_⟩⟩
    refine ⟨pw _ (by decide) (by decide), ⟨by rw [e9]; decide, s9.mono (by decide)⟩, fun d5 l5 u5 => ⟨by omega, leN rfl, ?_⟩⟩
    generalize hv : (d1 * (10 : Int) ^ (Int.toNat 18) + d2 * (10 : Int) ^ (Int.toNat 9) + d5) % n = v
    have hv2 : 0 ≤ v ∧ v < n := by rw [← hv]; exact ⟨Int.emod_nonneg _ (by omega), Int.emod_lt_of_pos _ (by omega)⟩
    refine ⟨⟨by decide, szP (by decide) (by decide)⟩, fun d6 l6 u6 => ?_⟩
    obtain ⟨x, ex, mx⟩ := atI_D (ds := [D.int d3, D.int d4, D.int v]) l6 u6
    have hx : ∃ u : Int, x = .int u ∧ 0 ≤ u ∧ u < n := by
      simp only [List.mem_cons, List.not_mem_nil, or_false] at mx
      rcases mx with rfl | rfl | rfl
      · exact ⟨_, rfl, l3, by omega⟩
      · exact ⟨_, rfl, l4, by omega⟩
      · exact ⟨_, rfl, hv2.1, hv2.2⟩
    obtain ⟨u, rfl, u0, u1⟩ := hx
    refine dIx_l ex ⟨leN rfl, ⟨by decide, szP (by decide) (by decide)⟩, fun d7 l7 u7 => ?_⟩
    obtain ⟨y, ey, my⟩ := atI_D (ds := [D.int 1, D.int (-1)]) l7 u7
    have su : Sz 5000 u := (sz_le u0 (Int.le_of_lt u1) sn).mono (by decide)
    simp only [List.mem_cons, List.not_mem_nil, or_false] at my
    rcases my with rfl | rfl
    · exact dIx_l ey ⟨⟨su, szP (by decide) (by decide)⟩, h _ (by omega) (by omega)⟩
    · exact dIx_l ey ⟨⟨su, szP (by decide) (by decide)⟩, h _ (by omega) (by omega)⟩
  · exact h.elim
end
end K08
namespace K08
open PySem PySem.Spec PyProof.Rows L2 Z Y
section
variable {P : Program} {w : World} {K : Frg} {mg : Str → Option Value} {base : Heap}
theorem ok__law_place (T : Tx w K mg) : FnG P w K mg base (L2.CX P w) 5 (He.ga K "_law_place") (spP K R__law_place) := by
  refine y_fn T.d__law_place sc__law_place arl1 (fun _ _ _ _ _ _ us hl => match us, hl with | [_], _ => rfl) fun cdv A outer s H E B hB hr hx po => ⟨_, (s_one (s_ret (y_tup (a_cons (y_call (ok__law_great T) (hr.mono (by decide)) rfl T.g__law_great T.k__law_great hx (a_cons (y_var (pv 0)) (a_cons (y_op op_pow powL y_int y_int) a_nil))) (a_cons (y_call (ok__law_great T) (hr.mono (by decide)) rfl T.g__law_great T.k__law_great hx (a_cons (y_var (pv 0)) (a_cons (y_op op_pow powL y_int y_int) a_nil))) a_nil))))), fun ds Q h => ?_⟩
  obtain ⟨a0, e0, hh⟩ := ar1E h
  clear h
  subst e0
  have h := hh
  clear hh
  try dsimp only at h
  rw [show startE (List.length N__law_place) [a0] = [.val a0] from rfl]
  split at h
  · have s : Sz 100 ((10 : Int) ^ (Int.toNat 26)) := sz_lit (by decide)
    have g : 60 ≤ (10 : Int) ^ (Int.toNat 26) := by decide
    refine ⟨⟨by decide, by decide, by decide⟩, ⟨g, s.mono (by decide)⟩, fun d1 l1 u1 => ⟨⟨by decide, by decide, by decide⟩, ⟨g, s.mono (by decide)⟩, fun d2 l2 u2 => ⟨leN rfl, h _ _ (sz_of l1 u1 s) (sz_of l2 u2 s)⟩⟩⟩
  · exact h.elim
end
end K08
namespace K08
open PySem PySem.Spec PyProof.Rows L2 Z Y
section
variable {P : Program} {w : World} {K : Frg} {mg : Str → Option Value} {base : Heap}
theorem ok__law_kinds (T : Tx w K mg) : FnG P w K mg base (L2.CX P w) 1 (He.ga K "_law_kinds") (spP K R__law_kinds) := by
  refine y_fn T.d__law_kinds sc__law_kinds arl0 (fun _ _ _ _ _ _ us hl => match us, hl with | [], _ => rfl) fun cdv A outer s H E B hB hr hx po => ⟨_, (s_one (s_ret (y_lst (a_cons y_str (a_cons y_str (a_cons y_str (a_cons y_str (a_cons y_str (a_cons y_str (a_cons y_str (a_cons y_str a_nil))))))))))), fun ds Q h => ?_⟩
  obtain ⟨e0, hh⟩ := ar0E h
  clear h
  subst e0
  have h := hh
  clear hh
  try dsimp only at h
  rw [show startE (List.length N__law_kinds) [] = [] from rfl]
  exact ⟨leN rfl, h⟩
end
end K08
namespace K08
open PySem PySem.Spec PyProof.Rows L2 Z Y
section
variable {P : Program} {w : World} {K : Frg} {mg : Str → Option Value} {base : Heap}
theorem ok__law_heard (T : Tx w K mg) {fa : Addr} {ms : List Addr} {Fm : Hp} {Rc : RdF} (C : CloAt P w K mg base 40 fa ms Fm Rc) : FnG P w K mg base (L2.CX P w) 41 (He.ga K "_law_heard") (spX K ms Fm (R_heard8 fa Rc)) := by
  refine y_fnV T.d__law_heard sc__law_heard arl1 (fun _ _ _ _ _ _ us hl => match us, hl with | [_], _ => rfl) fun cdv A outer s H E B hms hFm hB hr hx po tk => ⟨_, (s_cons (s_tryE hB rfl rfl sc__law_heard.nd rfl tk (fun pn_ xe_ => (x_callV (y_var (pv 0)) C hms hFm (hr.mono (by decide))))
    (.cons (i := 1) ⟨rfl, by decide, .inl T.g_InvalidMotion⟩ rfl rfl (fun a_ pn_ => (s_one (s_ret (y_lst (a_cons y_str (a_cons (y_callB (call_reprU hr.units hr.gd) reprL (by rfl) T.b_repr (by decide +kernel) (a_cons (y_xf (cs := ["InvalidMotion"]) (i := 1) (pv 1) (all1 ⟨T.xc_InvalidMotion.xf, T.xc_InvalidMotion.noN⟩)) a_nil)) (a_cons (y_isx (K := K) (i := 1) (C := "CarpetError") (pv 1) rfl T.g_CarpetError (by rfl) T.b_isinstance) a_nil))))))) (.cons (i := 1) ⟨rfl, by decide, .inl T.g_InvalidPlace⟩ rfl rfl (fun a_ pn_ => (s_one (s_ret (y_lst (a_cons y_str (a_cons (y_callB (call_reprU hr.units hr.gd) reprL (by rfl) T.b_repr (by decide +kernel) (a_cons (y_xf (cs := ["InvalidPlace"]) (i := 1) (pv 1) (all1 ⟨T.xc_InvalidPlace.xf, T.xc_InvalidPlace.noN⟩)) a_nil)) (a_cons (y_isx (K := K) (i := 1) (C := "CarpetError") (pv 1) rfl T.g_CarpetError (by rfl) T.b_isinstance) a_nil))))))) (.cons (i := 1) ⟨rfl, by decide, .inl T.g_InvalidNumber⟩ rfl rfl (fun a_ pn_ => (s_one (s_ret (y_lst (a_cons y_str (a_cons (y_callB (call_reprU hr.units hr.gd) reprL (by rfl) T.b_repr (by decide +kernel) (a_cons (y_xf (cs := ["InvalidNumber"]) (i := 1) (pv 1) (all1 ⟨T.xc_InvalidNumber.xf, T.xc_InvalidNumber.noN⟩)) a_nil)) (a_cons (y_isx (K := K) (i := 1) (C := "CarpetError") (pv 1) rfl T.g_CarpetError (by rfl) T.b_isinstance) a_nil))))))) .nil))))
  (s_one (s_ret y_str))), fun ds Q h => ?_⟩
  obtain ⟨a0, e0, hh⟩ := ar1E h
  clear h
  subst e0
  have h := hh
  clear hh
  try dsimp only at h
  rw [show startE (List.length N__law_heard) [a0] = [.val a0, .no] from rfl]
  obtain ⟨rfl, h⟩ := h
  refine ⟨rfl, _, _, h, fun d z => z, ?_⟩
  rintro x ⟨d, hs, ⟨rfl, hq⟩ | ⟨rfl, hq⟩ | ⟨rfl, hq⟩⟩
  · refine ⟨true, ⟨_, rfl, T.ext_InvalidMotion_InvalidMotion⟩, ifB_T rfl ?_⟩
    exact ⟨⟨_, .head _, rfl⟩, rfl, hs, _, true, ⟨rfl, fun z => nomatch z⟩, T.ec_InvalidMotion, T.kt_InvalidMotion_CarpetError, leN rfl, hq⟩
  · refine ⟨false, ⟨_, rfl, T.exf_InvalidPlace_InvalidMotion⟩, ifB_F rfl ?_⟩
    refine ⟨true, ⟨_, rfl, T.ext_InvalidPlace_InvalidPlace⟩, ifB_T rfl ?_⟩
    exact ⟨⟨_, .head _, rfl⟩, rfl, hs, _, true, ⟨rfl, fun z => nomatch z⟩, T.ec_InvalidPlace, T.kt_InvalidPlace_CarpetError, leN rfl, hq⟩
  · refine ⟨false, ⟨_, rfl, T.exf_InvalidNumber_InvalidMotion⟩, ifB_F rfl ?_⟩
    refine ⟨false, ⟨_, rfl, T.exf_InvalidNumber_InvalidPlace⟩, ifB_F rfl ?_⟩
    refine ⟨true, ⟨_, rfl, T.ext_InvalidNumber_InvalidNumber⟩, ifB_T rfl ?_⟩
    exact ⟨⟨_, .head _, rfl⟩, rfl, hs, _, true, ⟨rfl, fun z => nomatch z⟩, T.ec_InvalidNumber, T.kt_InvalidNumber_CarpetError, leN rfl, hq⟩
end
end K08
namespace K08
open PySem PySem.Spec PyProof.Rows L2 Z Y
section
variable {P : Program} {w : World} {K : Frg} {mg : Str → Option Value} {base : Heap}
theorem ok_law (T : Tx w K mg) : ∀ base : Heap, FnG P w K mg base (L2.CX P w) 43 (He.ga K "law") (spLawT K) := by
  refine y_law (i := 1) T.d_law sc_law (fun _ _ _ _ _ _ us hl => match us, hl with | [_], _ => rfl) rfl (fun base => ok__law_tape T) T.g__law_tape T.k__law_tape (by decide) rfl rfl (by decide) (fun _ _ => rfl) (by first | exact Or.inl rfl | exact Or.inr (Or.inl rfl)) (by first | exact Or.inl rfl | exact Or.inr rfl) (fun _ _ => rfl) (fun _ _ => rfl) (by decide) (by decide) fun base cdv ecd A outer s H E B hB hE hr hx po => ⟨_, (s_cons (s_asg (t := .tp [2, 3]) (y_tup (a_cons (y_ix (y_call0 (ok__law_kinds T) (hr.mono (by decide)) rfl T.g__law_kinds T.k__law_kinds hx) (y_call (ok__law_draw T) (hr.mono (by decide)) rfl T.g__law_draw T.k__law_draw hx (a_cons (y_var (pv 1)) (a_cons y_int a_nil))) (fun _ _ => rfl)) (a_cons (y_call (ok__law_place T) (hr.mono (by decide)) rfl T.g__law_place T.k__law_place hx (a_cons (y_var (pv 1)) a_nil)) a_nil))) (g_tp (is := [2, 3]) rfl (pgs_cons (pg_name (i := 2) sc_law.nd rfl (by first | exact Or.inl rfl | exact Or.inr rfl)) (pgs_cons (pg_name (i := 3) sc_law.nd rfl (by first | exact Or.inl rfl | exact Or.inr rfl)) pgs_nil))))
  (s_cons (s_set (i := 4) sc_law.nd rfl (by first | exact Or.inl rfl | exact Or.inr rfl) (y_lst (a_cons y_non (a_cons y_int (a_cons (y_tup (a_cons y_int a_nil)) (a_cons (y_tup (a_cons y_int (a_cons y_int (a_cons y_int a_nil)))) (a_cons (y_lst (a_cons y_int (a_cons y_int a_nil))) (a_cons (y_tup (a_cons y_bl (a_cons y_int a_nil))) (a_cons (y_tup (a_cons y_int (a_cons y_str a_nil))) (a_cons y_str (a_cons y_dic0 (a_cons (y_tup (a_cons y_int (a_cons y_non a_nil))) a_nil))))))))))))
  (s_cons (s_set (i := 5) sc_law.nd rfl (by first | exact Or.inl rfl | exact Or.inr rfl) (y_make T.mk_Motion (ok_Motion_UinitU T) (hr.mono (by decide)) rfl T.g_Motion hx (a_cons (y_var (pv 2)) (a_cons (y_var (pv 3)) a_nil))))
  (s_cons (s_for (t := .nm 6) po rfl (i_lst (y_lst (a_cons y_non (a_cons y_str (a_cons y_str (a_cons y_str (a_cons (y_op op_addY addL (y_var (pv 2)) y_str) (a_cons (y_upper (y_var (pv 2))) (a_cons y_int (a_cons (y_tup (a_cons y_str a_nil)) (a_cons (y_lst (a_cons y_str a_nil)) (a_cons y_bl (a_cons y_dic0 a_nil))))))))))))) (g_nm (pg_name (i := 6) sc_law.nd rfl (by first | exact Or.inl rfl | exact Or.inr rfl)))
    (s_cons (s_for (t := .nm 7) po rfl (i_lst (y_lst (a_cons (y_var (pv 3)) (a_cons y_non (a_cons (y_ix (y_var (pv 4)) (y_call (ok__law_draw T) (hr.mono (by decide)) rfl T.g__law_draw T.k__law_draw hx (a_cons (y_var (pv 1)) (a_cons y_int a_nil))) (fun _ _ => rfl)) a_nil))))) (g_nm (pg_name (i := 7) sc_law.nd rfl (by first | exact Or.inl rfl | exact Or.inr rfl)))
    (s_one (s_if (z_cmp (op_neY hr.units) neL (y_lam0 (x := "law") (N := ["_law_odd", "_law_other"]) (ps := []) (fr := ["_law_odd", "_law_other"]) (js := [6, 7]) (kc := 39) (fun _ _ _ _ C => ok__law_heard T C) (hr.mono (by decide)) rfl T.g__law_heard T.k__law_heard hx T.lf_law ecd (lamT_by (NX := N_law) (sc := defScope s_law) (by decide +kernel) rfl rfl (fun _ _ _ _ us hl => match us, hl with | [], _ => rfl) rfl (fun _ => rfl)) (fun b2_ cl_ c_ f_ A_ outer_ s_ H_ E_ B hr hx => (y_make T.mk_Motion (ok_Motion_UinitU T) (hr.mono (by decide)) rfl T.g_Motion hx (a_cons (y_var (pv 0)) (a_cons (y_var (pv 1)) a_nil))))) (y_lst (a_cons y_str (a_cons (y_callB (call_reprD hr) reprL (by rfl) T.b_repr (by decide +kernel) (a_cons (y_var (pv 6)) a_nil)) (a_cons y_bl a_nil)))) (nomark _))
    (s_one (s_ret y_bl))
    s_nil)))
  (s_one (s_if (z_cmp (op_neY hr.units) neL (y_lam0 (x := "law") (N := ["_law_odd"]) (ps := []) (fr := ["_law_odd"]) (js := [6]) (kc := 39) (fun _ _ _ _ C => ok__law_heard T C) (hr.mono (by decide)) rfl T.g__law_heard T.k__law_heard hx T.lf_law ecd (lamT_by (NX := N_law) (sc := defScope s_law) (by decide +kernel) rfl rfl (fun _ _ _ _ us hl => match us, hl with | [], _ => rfl) rfl (fun _ => rfl)) (fun b2_ cl_ c_ f_ A_ outer_ s_ H_ E_ B hr hx => (y_make T.mk_Motion (ok_Motion_UinitU T) (hr.mono (by decide)) rfl T.g_Motion hx (a_cons (y_var (pv 0)) a_nil)))) (y_lst (a_cons y_str (a_cons (y_callB (call_reprD hr) reprL (by rfl) T.b_repr (by decide +kernel) (a_cons (y_var (pv 6)) a_nil)) (a_cons y_bl a_nil)))) (nomark _))
    (s_one (s_ret y_bl))
    s_nil))))
  (s_cons (s_for (t := .nm 6) po rfl (i_lst (y_var (pv 4))) (g_nm (pg_name (i := 6) sc_law.nd rfl (by first | exact Or.inl rfl | exact Or.inr rfl)))
    (s_cons (s_if (z_cmp (op_neY hr.units) neL (y_lam0 (x := "law") (N := ["_law_good", "_law_odd"]) (ps := []) (fr := ["_law_good", "_law_odd"]) (js := [2, 6]) (kc := 39) (fun _ _ _ _ C => ok__law_heard T C) (hr.mono (by decide)) rfl T.g__law_heard T.k__law_heard hx T.lf_law ecd (lamT_by (NX := N_law) (sc := defScope s_law) (by decide +kernel) rfl rfl (fun _ _ _ _ us hl => match us, hl with | [], _ => rfl) rfl (fun _ => rfl)) (fun b2_ cl_ c_ f_ A_ outer_ s_ H_ E_ B hr hx => (y_make T.mk_Motion (ok_Motion_UinitU T) (hr.mono (by decide)) rfl T.g_Motion hx (a_cons (y_var (pv 0)) (a_cons (y_var (pv 1)) a_nil))))) (y_lst (a_cons y_str (a_cons (y_callB (call_reprD hr) reprL (by rfl) T.b_repr (by decide +kernel) (a_cons (y_var (pv 6)) a_nil)) (a_cons y_bl a_nil)))) (nomark _))
    (s_one (s_ret y_bl))
    s_nil)
  (s_cons (s_if (z_cmp (op_neY hr.units) neL (y_lam0 (x := "law") (N := ["_law_made", "_law_odd"]) (ps := []) (fr := ["_law_made", "_law_odd"]) (js := [5, 6]) (kc := 39) (fun _ _ _ _ C => ok__law_heard T C) (hr.mono (by decide)) rfl T.g__law_heard T.k__law_heard hx T.lf_law ecd (lamT_by (NX := N_law) (sc := defScope s_law) (by decide +kernel) rfl rfl (fun _ _ _ _ us hl => match us, hl with | [], _ => rfl) rfl (fun _ => rfl)) (fun b2_ cl_ c_ f_ A_ outer_ s_ H_ E_ B hr hx => (y_callO (C := "Motion") (ns := ["own_kind", "own_shift"]) (y_var (pv 0)) T.co_Motion ((ok_Motion_UcallU T).at (hr.mono (by decide))) hx (a_cons (y_var (pv 1)) a_nil)))) (y_lst (a_cons y_str (a_cons (y_callB (call_reprD hr) reprL (by rfl) T.b_repr (by decide +kernel) (a_cons (y_var (pv 6)) a_nil)) (a_cons y_bl a_nil)))) (nomark _))
    (s_one (s_ret y_bl))
    s_nil)
  (s_one (s_if (z_cmp (op_neY hr.units) neL (y_lam0 (x := "law") (N := ["_law_odd"]) (ps := []) (fr := ["_law_odd"]) (js := [6]) (kc := 39) (fun _ _ _ _ C => ok__law_heard T C) (hr.mono (by decide)) rfl T.g__law_heard T.k__law_heard hx T.lf_law ecd (lamT_by (NX := N_law) (sc := defScope s_law) (by decide +kernel) rfl rfl (fun _ _ _ _ us hl => match us, hl with | [], _ => rfl) rfl (fun _ => rfl)) (fun b2_ cl_ c_ f_ A_ outer_ s_ H_ E_ B hr hx => (y_smeth rfl T.g_Motion T.sm_Motion_by (ok_Motion_by T) (hr.mono (by decide)) hx (a_cons (y_var (pv 0)) a_nil)))) (y_lst (a_cons y_str (a_cons (y_callB (call_reprD hr) reprL (by rfl) T.b_repr (by decide +kernel) (a_cons (y_var (pv 6)) a_nil)) (a_cons y_bl a_nil)))) (nomark _))
    (s_one (s_ret y_bl))
    s_nil)))))
  (s_cons (s_for (t := .nm 6) po rfl (i_lst (y_lst (a_cons y_non (a_cons y_bl (a_cons y_bl (a_cons y_str (a_cons (y_tup (a_cons y_int a_nil)) (a_cons (y_lst (a_cons y_int a_nil)) (a_cons y_dic0 a_nil))))))))) (g_nm (pg_name (i := 6) sc_law.nd rfl (by first | exact Or.inl rfl | exact Or.inr rfl)))
    (s_one (s_if (z_cmp (op_neY hr.units) neL (y_lam0 (x := "law") (N := ["_law_odd", "_law_made"]) (ps := []) (fr := ["_law_odd", "_law_made"]) (js := [6, 5]) (kc := 39) (fun _ _ _ _ C => ok__law_heard T C) (hr.mono (by decide)) rfl T.g__law_heard T.k__law_heard hx T.lf_law ecd (lamT_by (NX := N_law) (sc := defScope s_law) (by decide +kernel) rfl rfl (fun _ _ _ _ us hl => match us, hl with | [], _ => rfl) rfl (fun _ => rfl)) (fun b2_ cl_ c_ f_ A_ outer_ s_ H_ E_ B hr hx => (y_meth (cs := ["Motion"]) (ns := ["own_kind", "own_shift"]) (y_var (pv 1)) (all1 ⟨T.cl_Motion, T.m_Motion_repeated⟩) (ok_Motion_repeated T) (hr.mono (by decide)) hx (a_cons (y_var (pv 0)) a_nil)))) (y_lst (a_cons y_str (a_cons (y_callB (call_reprD hr) reprL (by rfl) T.b_repr (by decide +kernel) (a_cons (y_var (pv 6)) a_nil)) (a_cons y_bl a_nil)))) (nomark _))
    (s_one (s_ret y_bl))
    s_nil)))
  (s_one (s_ret (y_cmp (op_eqY hr.units) eqL (y_tup (a_cons (y_prop (cs := ["Motion"]) (ns := ["own_kind", "own_shift"]) (y_var (pv 5)) (all1 ⟨T.cl_Motion, _, T.p_Motion_kind⟩) (ok_Motion_kind T) (hr.mono (by decide)) px_nox) (a_cons (y_prop (cs := ["Motion"]) (ns := ["own_kind", "own_shift"]) (y_var (pv 5)) (all1 ⟨T.cl_Motion, _, T.p_Motion_shift⟩) (ok_Motion_shift T) (hr.mono (by decide)) px_nox) a_nil))) (y_tup (a_cons (y_var (pv 2)) (a_cons (y_var (pv 3)) a_nil))) (nomark _)))))))))), ?_⟩
  rw [show (List.replicate (List.length N_law) Sl.no).set 1 (.val .tape) = [.no, .val .tape, .no, .no, .no, .no, .no, .no] from rfl]
  have lk : ∀ k M, mat k = some M → k.length + (" " : Str).length ≤ 100000 := fun k M h => by
    rcases mat_cases h with ⟨rfl, rfl⟩ | ⟨rfl, rfl⟩ | ⟨rfl, rfl⟩ | ⟨rfl, rfl⟩ | ⟨rfl, rfl⟩ | ⟨rfl, rfl⟩ | ⟨rfl, rfl⟩ | ⟨rfl, rfl⟩ <;> decide +kernel
  have sM : PyData.strOk "motion" = true := by decide +kernel
  have sP : PyData.strOk "place" = true := by decide +kernel
  have sN : PyData.strOk "number" = true := by decide +kernel
  refine ⟨⟨by decide, szP (by decide) (by decide)⟩, fun e l u => ?_⟩
  obtain ⟨d1, ed1, m1⟩ := atI_D (ds := matL.map fun q => D.str q.1) (k := e) l (by rw [List.length_map]; exact u)
  obtain ⟨⟨k, M⟩, hk, rfl⟩ := List.mem_map.mp m1
  have hM := mat_of_mem hk
  refine dIx_l ed1 fun x y zx zy => ⟨leN rfl, leN rfl, leN rfl, leN rfl, leN rfl, leN rfl, leN rfl, leN rfl, .inl ⟨k, M, x, y, rfl, rfl, hM, ?_⟩⟩
  refine ⟨lk k M hM, Nat.le_trans (Nat.le_add_right _ _) (lk k M hM), leN rfl, leN rfl, leN rfl, ?_⟩
  refine ⟨fun i ρ => ∃ o6 o7, ρ = [.no, .val .tape, .val (.str k), .val (dPl x y), .val (.lst oddP), .val (dMot k x y), o6, o7], ⟨_, _, rfl⟩, ?_, ?_⟩
  · rintro i d ρ hd ⟨o6, o7, rfl⟩
    obtain ⟨h1, h2⟩ := He.ba (all_at (l := oddK k) (p := fun d => smD d && !isKd d) (oddK_ok hM) hd)
    have nk : isKd d = false := by simpa using h2
    have kn := knB_D (smD_kn h1)
    refine ⟨⟨by decide, szP (by decide) (by decide)⟩, fun e1 l1 u1 => ?_⟩
    obtain ⟨d2, ed2, m2⟩ := atI_D (ds := oddP) (k := e1) l1 (by exact u1)
    refine dIx_l ed2 ⟨leN rfl, fun j ρ => ∃ o7, ρ = [.no, .val .tape, .val (.str k), .val (dPl x y), .val (.lst oddP), .val (dMot k x y), .val d, o7], ⟨_, rfl⟩, ?_, ?_⟩
    · rintro j d3 ρ hd3 ⟨o7, rfl⟩
      exact fun fa => ⟨rfl, rfl, fun F0 H0 => .inr (.inl ⟨kn, nk, d, smD_sh h1, .inl ⟨rfl, smD_sh h1, leN rfl, hrd_ne sM (smD_ok h1) (ifB_F rfl ⟨_, rfl⟩)⟩⟩)⟩
    · rintro ρ ⟨o7, rfl⟩
      exact fun fa => ⟨rfl, rfl, fun F0 H0 => .inr (.inl ⟨kn, nk, d, smD_sh h1, .inl ⟨rfl, smD_sh h1, leN rfl, hrd_ne sM (smD_ok h1) (ifB_F rfl ⟨_, _, rfl⟩)⟩⟩)⟩
  rintro ρ ⟨o6, o7, rfl⟩
  refine ⟨fun i ρ => ∃ o6 o7, ρ = [.no, .val .tape, .val (.str k), .val (dPl x y), .val (.lst oddP), .val (dMot k x y), o6, o7], ⟨_, _, rfl⟩, ?_, ?_⟩
  · rintro i d ρ hd ⟨o6, o7, rfl⟩
    obtain ⟨h1, h2⟩ := He.ba (all_at (l := oddP) (p := fun d => smD d && (!isPl d && knPB d)) oddP_ok hd)
    obtain ⟨h2, h3⟩ := He.ba h2
    have np : isPl d = false := by simpa using h2
    have kp := knPB_P h3
    refine fun fa => ⟨rfl, rfl, fun F0 H0 => .inr (.inr ⟨k, M, rfl, hM, kp, np, d, smD_sh h1, .inr (.inl ⟨rfl, smD_sh h1, leN rfl, hrd_ne sP (smD_ok h1) (ifB_F rfl ?_)⟩)⟩)⟩
    refine fun fa => ⟨rfl, rfl, fun F0 H0 => ⟨.head _, rfl, k, (M, x, y), rfl, hM, kp, np, d, smD_sh h1, .inr (.inl ⟨rfl, smD_sh h1, leN rfl, hrd_ne sP (smD_ok h1) (ifB_F rfl ?_)⟩)⟩⟩
    refine fun fa => ⟨rfl, rfl, fun F0 H0 => ⟨kp, fun _ => ⟨d, smD_sh h1, .inr (.inl ⟨rfl, smD_sh h1, leN rfl, hrd_ne sP (smD_ok h1) (ifB_F rfl ⟨_, _, rfl⟩)⟩)⟩, fun a b e => ?_⟩⟩
    subst e
    cases np
  rintro ρ ⟨o6, o7, rfl⟩
  refine ⟨leN rfl, leN rfl, leN rfl, fun i ρ => ∃ o6 o7, ρ = [.no, .val .tape, .val (.str k), .val (dPl x y), .val (.lst oddP), .val (dMot k x y), o6, o7], ⟨_, _, rfl⟩, ?_, ?_⟩
  · rintro i d ρ hd ⟨o6, o7, rfl⟩
    obtain ⟨h1, h2⟩ := He.ba (all_at (l := oddN) (p := fun d => smD d && !isIntD d) oddN_ok hd)
    have ni : isIntD d = false := by simpa using h2
    have kn := knB_D (smD_kn h1)
    exact fun fa => ⟨rfl, rfl, fun F0 H0 => ⟨.head _, rfl, k, (M, x, y), rfl, hM, kn, ni, d, smD_sh h1, .inr (.inr ⟨rfl, smD_sh h1, leN rfl, hrd_ne sN (smD_ok h1) (ifB_F rfl ⟨_, _, rfl⟩)⟩)⟩⟩
  rintro ρ ⟨o6, o7, rfl⟩
  have s3 := (mat_str hM).2.2
  refine ⟨.head _, rfl, k, x, y, rfl, .head _, rfl, k, x, y, rfl, leN rfl, leN rfl, ⟨okMv hM, okMv hM⟩, ?_⟩
  show D.bl (eqD (.tup [.str k, dPl x y]) (.tup [.str k, dPl x y])) = .bl true
  rw [eqMv]
  simp
end
end K08
namespace K08
open PySem PySem.Spec PyProof.Rows L2 Z
theorem facts {P : Program} {w : World} {K : Frg} {h : Heap} {mg : Str → Option Value} {f : Addr} (X : K.In h) (G : h.Ns mainGlobals mg) (hfa : mg ("law" : Str) = some (.ref f)) (c : Says ask w h K) : ∀ base : Heap, FnG P w K mg base (L2.CX P w) 43 f (Y.spLawT K) := by
  have T := tx_of X G c
  have e2 : f = He.ga K "law" := by
    have e3 := hfa.symm.trans T.g_law
    injection e3 with e4
    injection e4
  rw [e2]
  exact ok_law T
end K08
end
open PySem PySem.W PySem.Calls PyProof.Rows
theorem PySem.Challenge.cw_carpets_k08_invalid_motions_holds : PySem.Challenge.rw_carpets_k08_invalid_motions.Holds := by
  w_on; o_law
  refine HandSHeadRun.head_any (r := K08.R) (q := K08.qv) (H := K08.hk) (ob := K08.ob) (M := 12000) (loose := K08.loose) (d := HandSHeadRun.topDef K08.R.prog 24) (kwd := []) K08.ob_eq
    (by kernel_rfl) (fun s => by kernel_rfl) K08.run (by kernel_rfl) (by kernel_rfl) (by kernel_rfl) (by rfl) (by first | assumption | decide +kernel) (by decide +kernel) ⟨rfl, rfl, rfl, rfl, rfl, by decide +kernel⟩ ?hw ?hc
  case hw => w_witness2
  case hc =>
    refine Z.walk_G (l := PySem.Challenge.rw_carpets_k08_invalid_motions) (n := 63) (k := 43) (CX := fun w => L2.CX PySem.Challenge.rw_carpets_k08_invalid_motions.prog w) rfl (by decide) (by kernel_rfl) ⟨rfl, by decide, by decide⟩ ?F (Z.cx_no (P := fun _ => PySem.Challenge.rw_carpets_k08_invalid_motions.prog))
    intro w mg fa h Y G hmg0
    obtain ⟨K, KX, c⟩ := Y
    have hmg : mg ("law" : PySem.Str) = some (.ref fa) := by
      have e : (HandSHeadRun.topDef K08.R.prog 24).name = ("law" : PySem.Str) := by kernel_rfl
      rw [← e]
      exact hmg0
    have hF := K08.facts (P := PySem.Challenge.rw_carpets_k08_invalid_motions.prog) (w := w) KX G hmg c
    obtain ⟨t1, t2, t3⟩ := Y.cs_says KX c rfl
    exact ⟨K, KX, Y.csOf K, Y.spLawT K, t1, t2, t3, fun H a ns hl hT hS => ⟨_, rfl, a, ns, rfl, hl, hS, Y.cs_tabs hT, fun _ => rfl⟩, fun base _ _ _ => hF base⟩
