import PyProof.Rows.All
import Wide.All
import OpenK.AllK
import Wide.FinOn
import HandS.ForMost
import HandS.ForExc
import HandS.More
import HandS.Wide
import HandS.Property
import HandS.Star
import HandS.ClsMeth
import HandS.SlotsOwn
import HandS.IsInst
import HandS.Defaults
import HandS.RaiseMore
import HandS.EndBits
import HandS.Style
import HandS.Head0
import HandS.Head1
import HandS.Head2
import HandS.HeadEnd
import HandS.HeadHook1
import HandS.HeadHook2
import HandS.HeadHook3
import HandS.HeadHook4
import HandS.HeadNt
import HandS.HeadWalk
import HandS.Walk
import HandS.Evl
import HandS.TryOnly
import KE.KOpsOwn
import HandS.EndTab
import HandS.Deep
import HandS.WideMore
import KE.KAssignIn
import HandS.Text
import PyProof.ReprBulk
import PyProof.ReprRoads
import KE.KDictWalk
import HandS.Iter
import HandS.FStr
import PyProof.FString
import PyProof.FString4
import PySem.Challenge.RW_carpets_k07_motions_and_their_products
set_option Elab.async false
set_option linter.all false
set_option maxRecDepth 100000
set_option maxHeartbeats 4000000
namespace Z
open PySem PySem.Spec PyProof.Rows L2
/-! ### heaps: a frozen part F of H; what goes on -/
structure Go (ms : List Addr) (F H F' H' : Hp) : Prop where
  ff : Same F F'
  fh : Same F' H'
  mu : ∀ a o, a ∉ ms → F a = none → H a = some o → F' a = none ∧ H' a = some o
section
variable {ms ms' : List Addr} {F H F1 H1 F2 H2 : Hp} {p a : Addr} {o : HO} {K : PySem.W.Frag} {xs : List V}
theorem Go.refl (h : Same F H) : Go ms F H F H := ⟨Same.refl _, h, fun _ _ _ h1 h2 => ⟨h1, h2⟩⟩
theorem Go.trans (x : Go ms F H F1 H1) (y : Go ms F1 H1 F2 H2) : Go ms F H F2 H2 :=
  ⟨x.ff.trans y.ff, y.fh, fun a o hm h1 h2 => let ⟨a1, a2⟩ := x.mu a o hm h1 h2; y.mu a o hm a1 a2⟩
theorem Go.sub (x : Go ms F H F1 H1) (h : ∀ a ∈ ms, a ∈ ms') : Go ms' F H F1 H1 := ⟨x.ff, x.fh, fun a o hm => x.mu a o fun z => hm (h a z)⟩
theorem Go.nil (x : Go [] F H F1 H1) : Go ms F H F1 H1 := x.sub fun _ h => nomatch h
/-- a new object, frozen -/
theorem Go.new (h : Same F H) (hp : H p = none) : Go ms F H (upd F p o) (upd H p o) := by
  refine ⟨fun a u e => ?_, fun a u e => ?_, fun a u _ h1 h2 => ?_⟩
  · rw [upd_ne (ne_of_none (h a u e) hp)]; exact e
  · by_cases ha : a = p
    · subst ha; rw [upd_same] at e ⊢; exact e
    · rw [upd_ne ha] at e ⊢; exact h a u e
  · have ha := ne_of_none h2 hp
    exact ⟨by rw [upd_ne ha]; exact h1, by rw [upd_ne ha]; exact h2⟩
/-- a new object that may change -/
theorem Go.newM (h : Same F H) (hp : H p = none) : Go ms F H F (upd H p o) := by
  refine ⟨Same.refl _, fun a u e => ?_, fun a u _ h1 h2 => ⟨h1, ?_⟩⟩
  · rw [upd_ne (ne_of_none (h a u e) hp)]; exact h a u e
  · rw [upd_ne (ne_of_none h2 hp)]; exact h2
/-- a store -/
theorem Go.put (h : Same F H) (hp : F p = none) : Go [p] F H F (upd H p o) := by
  refine ⟨Same.refl _, fun a u e => ?_, fun a u hm h1 h2 => ⟨h1, ?_⟩⟩
  · rw [upd_ne (ne_of_none e hp)]; exact h a u e
  · rw [upd_ne (fun z => hm (by rw [z]; exact List.mem_cons_self))]; exact h2
/-- an object that was changed is frozen from now on -/
theorem Go.freeze (h : Same F H) (hp : F p = none) (e : H p = some o) : Go [p] F H (upd F p o) H := by
  refine ⟨fun a u z => ?_, fun a u z => ?_, fun a u hm h1 h2 => ⟨?_, h2⟩⟩
  · rw [upd_ne (ne_of_none z hp)]; exact z
  · by_cases ha : a = p
    · subst ha; rw [upd_same] at z; rw [e]; exact z
    · rw [upd_ne ha] at z; exact h a u z
  · rw [upd_ne (fun z => hm (by rw [z]; exact List.mem_cons_self))]; exact h1
theorem same_none {F H : Hp} {p : Addr} (h : Same F H) (e : H p = none) : F p = none := h.free e
/-- drop from ms what was free at the start -/
theorem Go.drop (x : Go (p :: ms) F H F1 H1) (hp : H p = none) : Go ms F H F1 H1 :=
  ⟨x.ff, x.fh, fun a o hm h1 h2 => x.mu a o (fun z => by
    rcases List.mem_cons.mp z with e | e
    · rw [e, hp] at h2; cases h2
    · exact hm e) h1 h2⟩
theorem sqT (s : Same F H) (h : SqT K F a xs) : SqT K H a xs := by
  rcases h with (h | ⟨o, h⟩) | h
  · exact .inl (.inl (s _ _ h))
  · exact .inl (.inr ⟨o, s _ _ h⟩)
  · exact .inr h
theorem sqL (s : Same F H) (h : SqL K F a xs) : SqL K H a xs := s.seq h
mutual
theorem dp_mono {F H : Hp} (s : Same F H) : ∀ (d : PyData) (v : V), Dp K F v d → Dp K H v d
  | .none, _, h => by cases h; exact .non
  | .bool b, _, h => by cases h; exact .bl b
  | .int i, _, h => by cases h; exact .int i
  | .str x, _, h => by cases h; exact .str x
  | .list ds, _, h => by
    cases h with
    | lst h1 h2 => exact .lst (sqL s h1) (dpAll_mono s ds _ h2)
  | .tuple ds, _, h => by
    cases h with
    | tup h1 h2 => exact .tup (sqT s h1) (dpAll_mono s ds _ h2)
  | .dict _, _, h => by cases h
theorem dpAll_mono {F H : Hp} (s : Same F H) : ∀ (ds : List PyData) (vs : List V), DpAll K F vs ds → DpAll K H vs ds
  | [], _, h => by cases h; exact .nil
  | d :: ds, _, h => by
    cases h with
    | cons h1 h2 => exact .cons (dp_mono s d _ h1) (dpAll_mono s ds _ h2)
end
end
/-! ### calls by positional promises -/
section
variable {X : Cx} {CX : CXT} {k : Nat} {f C p g : Addr} {sp : Sp} {E : XK} {x m : Str} {p0 pos apos : Pos} {e o a b : Expr} {es : List Expr} {ta tb : TE} {t : TA}
def tFn (sp : Sp) (E : XK) (t : TA) : TE := fun σ H Q => t σ H fun vs H1 => sp vs H1 Q E
theorem zcall (F : FnR X.prog X.w X.K X.mg X.base CX k f sp) (hr : Room k X.A) (hg : Gl X x) (hm : X.mg x = some (.ref f)) (hk : PySem.W.keepIn X.K (.ref f) = true) (hx : Passes CX X E)
    (ha : PA X (e :: es) t) (hdb : (x == ("__debug__" : Str)) = false := by decide) (he : starEach (e :: es) X.env = (false, eval e X.env) :: starEach es X.env := by rfl) (hpl : (backTo pos (starEach es X.env)).any (·.1) = false := by rfl) :
    PE X (.Call (.Name x p0) (e :: es) [] pos) (tFn sp E t) := by
  refine ⟨fun pins s σ H Q I h => ?_⟩
  refine wpAny_Call_Name_kw (ld_glob I hg hm ?_ hdb)
  refine PySem.W.callWith_K (h₀ := X.base) I.ok.mod.kin hk (thn (ha.run pos pins s σ H _ I h) fun us s1 ⟨vs, H1, I1, r, q⟩ => ⟨I1.kIn, ?_⟩) he hpl
  exact wpAny_call (run_fnR F hr hx I1 r q)
theorem zcall0 (F : FnR X.prog X.w X.K X.mg X.base CX k f sp) (hr : Room k X.A) (hg : Gl X x) (hm : X.mg x = some (.ref f)) (hk : PySem.W.keepIn X.K (.ref f) = true) (hx : Passes CX X E)
    (hdb : (x == ("__debug__" : Str)) = false := by decide) : PE X (.Call (.Name x p0) [] [] pos) (tFn sp E tNil) := by
  refine ⟨fun pins s σ H Q I h => ?_⟩
  refine wpAny_Call_Name_kw (ld_glob I hg hm ?_ hdb)
  exact PySem.W.callWith_K0 I.kIn hk (wpAny_call (run_fnR (us := []) F hr hx I .nil h))
theorem zmeth0 {pl : Sem Bool} (he : PE X o ta) (c : Cls X.K C) (hm : Meth X.K C m f) (F : FnR X.prog X.w X.K X.mg X.base CX k f sp) (hr : Room k X.A) (hx : Passes CX X E)
    (ht : eval (.Call (.Attribute o m apos) [] [] pos) X.env = (do
      let ov ← eval o X.env
      standAt apos.atName
      let (f, first) ← holding [ov] (getMethod ov m pl)
      callWith pos f first (backTo pos (starEach [] X.env)) (backToKw pos (keywordEach [] X.env))) := by rfl) :
    PE X (.Call (.Attribute o m apos) [] [] pos) (tMethR C m sp E ta tNil) := by
  refine ⟨fun pins s σ H Q I h => ?_⟩
  refine PySem.W.methodCall_KW (pl := pl) (thn (he.run pins s σ H _ I h) fun u s1 ⟨x, H1, I1, rx, a, dx, fs, ex, ea, l, q⟩ => ?_) ht
  subst ex
  obtain rfl : u = Value.ref a := rx
  refine getmeth_ok I1 ea c hm l ?_
  exact PySem.W.callWith_K0 (first := [.ref a]) I1.kIn hm.kp (wpAny_call (run_fnR (us := [.ref a]) (vs := [.ref a]) F hr hx I1 (.cons rfl .nil) q))
/-- o.f, a property -/
def tPropR (C : Addr) (sp : Sp) (E : XK) (ta : TE) : TE := fun σ H Q => ta σ H fun x H1 => ∃ a dx fs, x = .ref a ∧ H1 a = some (.ins C dx fs) ∧ sp [.ref a] H1 Q E
theorem zprop (he : PE X e ta) (c : Cls X.K C) (hp : PropOf X.K C m p g) (F : FnR X.prog X.w X.K X.mg X.base CX k g sp) (hr : Room (k + 1) X.A) (hx : Passes CX X.nox E)
    (hab : attributeBase e m X.env (eval e X.env) = eval e X.env := by rfl) : PE X (.Attribute e m pos) (tPropR C sp E ta) := by
  refine ⟨fun pins s σ H Q I h => ?_⟩
  refine attr_of hab (thn (he.run pins s σ H _ I h) fun u s1 ⟨x, H1, I1, rx, a, dx, fs, ex, ea, q⟩ => ?_)
  subst ex
  obtain rfl : u = Value.ref a := rx
  obtain ⟨mA, O, _, _, _, _⟩ := ins_get I1.hok ea
  obtain ⟨od, J, _⟩ := O.look
  obtain ⟨rest, hrec⟩ := hp.rec_
  have I2 := I1.tok (s1.toks + 1)
  have hc : (PySem.W.clsIn X.K C).isSome = true := by
    obtain ⟨cd, hc, _⟩ := PySem.W.any_some c.hd
    rw [hc]
    rfl
  refine PySem.W.get_bind I1.kIn J (PySem.W.plainGet_of (c.get m)).1 (PySem.W.findObj_data hc hp.at_ hp.get hp.tak) (PySem.W.plainGet_of (c.get m)).2 (wpAny_call (PySem.W.prop_get (s := { s1 with toks := s1.toks + 1 }) I1.kIn hrec ?_))
  refine codeAny_mono (F X.A.in1 X.stack { s1 with toks := s1.toks + 1 } H1 [.ref a] [.ref a] Q E hr.in1 I2.env0.in1 (.cons rfl .nil) q) fun r s' hq => ?_
  cases r with
  | error er => exact False.elim (hx pins σ H1 { s1 with toks := s1.toks + 1 } er s' (I2.wish _) hq)
  | ok fl =>
    cases fl with
    | ret u =>
      obtain ⟨v, H', I3, rv, q3⟩ := I2.after hq
      show wpAny _ _ (handedOut u) _ _ _
      rw [PySem.W.handedOut_of (handed_of rv)]
      exact wpAny_pure ⟨v, H', I3, rv, q3⟩
    | next => exact False.elim hq
    | brk => exact False.elim hq
    | cont => exact False.elim hq
/-- x in o, o of an own class -/
def rInO (neg : Bool) (C : Addr) (sp : Sp) (E : XK) : R2 := fun x y H Q => ∃ a dx fs, y = .ref a ∧ H a = some (.ins C dx fs) ∧ sp [.ref a, x] H (fun v H' => ∃ b, v = .bl b ∧ Q (.bl (if neg then !b else b)) H') E
theorem op_inO (hs : PySem.W.findIn X.K (.ref C) "__contains__" = some (some (.ref g))) (hf : PySem.W.isFn X.K (.ref g) = true) (F : FnR X.prog X.w X.K X.mg X.base CX k g sp) (hr : Room k X.A) (hx : Passes CX X E) : OpR X (compareOp .In) (rInO false C sp E) := by
  intro pins s σ H x y v u Q I rx ry h
  obtain ⟨a, dx, fs, rfl, ea, q⟩ := h
  cases (show u = Value.ref a from ry)
  obtain ⟨mA, O, _, _, _, _⟩ := ins_get I.hok ea
  obtain ⟨od, J, _⟩ := O.look
  obtain ⟨m, hF⟩ := I.fr
  refine PySem.W.in_K hF I.ok.mod.kin J hs hf ?_
  refine wpAny_mono (wpAny_call (run_fnR (us := [.ref a, v]) (vs := [.ref a, x]) F hr hx I (.cons rfl (.cons rx .nil)) q)) (fun w s' z => ?_) fun _ _ x => x
  obtain ⟨z', H', I', rz, b, rfl, qz⟩ := z
  cases (show w = Value.bool b from rz)
  exact wpAny_truthy_bool ⟨.bl b, H', I', rfl, qz⟩
theorem op_notInO (hs : PySem.W.findIn X.K (.ref C) "__contains__" = some (some (.ref g))) (hf : PySem.W.isFn X.K (.ref g) = true) (F : FnR X.prog X.w X.K X.mg X.base CX k g sp) (hr : Room k X.A) (hx : Passes CX X E) : OpR X (compareOp .NotIn) (rInO true C sp E) := by
  intro pins s σ H x y v u Q I rx ry h
  obtain ⟨a, dx, fs, rfl, ea, q⟩ := h
  cases (show u = Value.ref a from ry)
  obtain ⟨mA, O, _, _, _, _⟩ := ins_get I.hok ea
  obtain ⟨od, J, _⟩ := O.look
  obtain ⟨m, hF⟩ := I.fr
  refine PySem.W.notIn_K hF I.ok.mod.kin J hs hf ?_
  refine wpAny_mono (wpAny_call (run_fnR (us := [.ref a, v]) (vs := [.ref a, x]) F hr hx I (.cons rfl (.cons rx .nil)) q)) (fun w s' z => ?_) fun _ _ x => x
  obtain ⟨z', H', I', rz, b, rfl, qz⟩ := z
  cases (show w = Value.bool b from rz)
  exact wpAny_truthy_bool ⟨.bl (!b), H', I', rfl, qz⟩
end
/-! ### floor division of great numbers, any sign -/
def CDivZ (_ j : Int) : Prop := j ≠ 0 ∧ j.natAbs.log2 < 9000
theorem op_fdivZ {X : Cx} : OpR X (binaryOp .FloorDiv) (rI CDivZ fun i j => .int (i.fdiv j)) := opI fun i j _ _ _ _ _ hc q =>
  floordiv_int hc.1 q (.inl (PyProof.noPylong_of_log2 hc.2))
end Z
namespace Z
open PySem PySem.Spec PyProof.Rows L2
section
variable {X : Cx} {CX : CXT} {k : Nat} {f C p g : Addr} {sp : Sp} {E : XK} {x m : Str} {p0 pos apos : Pos} {e o a b : Expr} {es : List Expr} {ta tb : TE} {t : TA}
/-- the left one of an own class, its == or != by the own __eq__ -/
def rEqO (neg : Bool) (K : PySem.W.Frag) (C : Addr) (sp : Sp) (E : XK) : R2 := fun x y H Q => ∃ a dx fs t, x = .ref a ∧ H a = some (.ins C dx fs) ∧ TyX K H y t ∧ PySem.W.notFirst K C t = true ∧ sp [.ref a, y] H (fun v H' => ∃ b, v = .bl b ∧ Q (.bl (if neg then !b else b)) H') E
theorem op_eqO (hs : PySem.W.findIn X.K (.ref C) "__eq__" = some (some (.ref g))) (hf : PySem.W.isFn X.K (.ref g) = true) (F : FnR X.prog X.w X.K X.mg X.base CX k g sp) (hr : Room k X.A) (hx : Passes CX X E) : OpR X (compareOp .Eq) (rEqO false X.K C sp E) := by
  intro pins s σ H x y v u Q I rx ry h
  obtain ⟨a, dx, fs, t, rfl, ea, ty, hn, q⟩ := h
  cases (show v = Value.ref a from rx)
  obtain ⟨mA, O, _, _, _, _⟩ := ins_get I.hok ea
  obtain ⟨od, J, _⟩ := O.look
  obtain ⟨m, hF⟩ := I.fr
  obtain ⟨P, kx, hP, _⟩ := kit_of I ry ty
  refine PySem.W.cmp_K (op := .Eq) (tb := t) hr.units0 hF I.ok.mod.kin J (kx.ty _ _ I.kIn hP) hn hs hf ?_
  refine wpAny_mono (wpAny_call (run_fnR (us := [.ref a, u]) (vs := [.ref a, y]) F hr hx I (.cons rfl (.cons ry .nil)) q)) (fun w s' z => ?_) fun _ _ x => x
  obtain ⟨z', H', I', rz, b, rfl, qz⟩ := z
  cases (show w = Value.bool b from rz)
  exact ⟨.bl b, H', I', rfl, qz⟩
theorem ne_try {A : Around} {s : Shared} {E' : Value → Shared → Prop} {xa : Addr} {ox : Obj} {od : Option Obj} {bv : Value} {Q : Option Value → Shared → Prop} (hu : A.units + 1 < cLine) (KX : X.K.In s.heap) (J : PySem.W.InstAt s.heap xa ox C od)
    (hne : PySem.W.findIn X.K (.ref C) "__ne__" = some (some (.builtin "object.__ne__"))) (hsub : PySem.W.mroIn X.K C (.type "object") = some true)
    (hs : PySem.W.findIn X.K (.ref C) "__eq__" = some (some (.ref g))) (hf : PySem.W.isFn X.K (.ref g) = true)
    (h : codeAny (model X.prog X.w) A.in1 (.call (.ref g) ⟨[.ref xa, bv], []⟩) (fun r s' => match r with | .ok (.ret v) => ∃ b, v = .bool b ∧ Q (some (.bool (!b))) s' | .ok _ => False | .error e => E' e s') s) : wpAny (model X.prog X.w) A (tryCompare (.ref xa) "__ne__" bv) Q E' s := by
  have FB := PySem.F.cmp_object
  have fin : wpAny (model X.prog X.w) A (call (.builtin "object.__ne__") ([.ref xa] ++ [bv])) (fun v s' => ∃ b, v = .bool b ∧ Q (some (.bool b)) s') E' s := by
    have hi : PySem.W.Looks (model X.prog X.w) s.heap (isInstance (.ref xa) (.type "object")) true := J.type.andThen (PySem.W.looks_mroIn KX hsub)
    refine wpAny_call (codeAny_call_builtin FB.ne.plain F.cmpEntry_ne (PySem.W.check_slot F.cmpKind_ne F.cmpSplit_ne hi (F.cmpArgs_ne _ _) ?_))
    unfold Builtin.«object.__ne__»
    repeat (first | with_reducible refine wpAny_cRoomFor hu ?_ | with_reducible refine PySem.W.ifBound_K KX J hs hf ?_ | wp_step)
    refine codeAny_mono h fun r s' hv => ?_
    cases r with
    | error e => exact hv
    | ok fl =>
      cases fl with
      | ret v =>
        obtain ⟨b, rfl, q⟩ := hv
        refine wpAny_bind (wpAny_truthy_bool ?_)
        exact wpAny_pure ⟨_, rfl, q⟩
      | next => exact hv
      | brk => exact hv
      | cont => exact hv
  unfold tryCompare
  simp only [callSpecialIfBound?, bindSpecialIfBound?]
  refine wpAny_bind (wpAny_holding (wpAny_bind (wpAny_bind (wpAny_bind (J.type.here ((PySem.W.looks_findIn KX hne).here ?_))))))
  simp only [FB.ne.bind]
  refine wpAny_bind (wpAny_askSetting (wpAny_ite ?_))
  have fin2 : wpAny (model X.prog X.w) A (call (.builtin "object.__ne__") ([.ref xa] ++ [bv]) >>= fun v => pure (some v)) (fun r s' => ∃ b, r = some (.bool b) ∧ Q (some (.bool b)) s') E' s :=
    wpAny_bind (wpAny_mono fin (fun v s' ⟨b, e, q⟩ => wpAny_pure ⟨b, by rw [e], q⟩) fun _ _ z => z)
  have go : ∀ {r : Option Value} {s' : Shared}, (∃ b, r = some (.bool b) ∧ Q (some (.bool b)) s') → wpAny (model X.prog X.w) A (match r with | some .notImplemented | none => pure none | some v => pure (some v)) Q E' s' := fun {r s'} ⟨b, e, q⟩ => by
    subst e
    exact wpAny_pure q
  split
  · refine wpAny_bind (wpAny_pure (wpAny_pure ?_))
    exact wpAny_mono fin2 (fun r s' z => go z) fun _ _ z => z
  · refine wpAny_tryCatch (wpAny_bind (wpAny_pure (wpAny_pure ?_)))
    exact wpAny_mono fin2 (fun r s' z => go z) fun _ _ z => z
theorem op_neO (hne : PySem.W.findIn X.K (.ref C) "__ne__" = some (some (.builtin "object.__ne__"))) (hsub : PySem.W.mroIn X.K C (.type "object") = some true) (hs : PySem.W.findIn X.K (.ref C) "__eq__" = some (some (.ref g))) (hf : PySem.W.isFn X.K (.ref g) = true)
    (F : FnR X.prog X.w X.K X.mg X.base CX k g sp) (hr : Room (k + 1) X.A) (hx : Passes CX X E) : OpR X (compareOp .NotEq) (rEqO true X.K C sp E) := by
  intro pins s σ H x y v u Q I rx ry h
  obtain ⟨a, dx, fs, t, rfl, ea, ty, hn, q⟩ := h
  cases (show v = Value.ref a from rx)
  obtain ⟨mA, O, _, _, _, _⟩ := ins_get I.hok ea
  obtain ⟨od, J, _⟩ := O.look
  obtain ⟨P, kx, hP, _⟩ := kit_of I ry ty
  have one : wpAny (model X.prog X.w) X.A (tryCompare (.ref a) "__ne__" u) (fun r s' => ∃ b, r = some b ∧ EP X pins σ Q b s') X.xe s := by
    refine ne_try (hu_of hr) I.kIn J hne hsub hs hf ?_
    refine codeAny_mono (SlX.run_at (us := [.ref a, u]) (ws := [.ref a, y]) F hr.in1 I.env0.in1 hx I (.cons rfl (.cons ry .nil)) q) fun r s' z => ?_
    cases r with
    | error e => exact z
    | ok fl =>
      cases fl with
      | ret w =>
        obtain ⟨z', H', I', rz, b, rfl, qz⟩ := z
        cases (show w = Value.bool b from rz)
        exact ⟨b, rfl, _, rfl, .bl (!b), H', I', rfl, qz⟩
      | next => exact z
      | brk => exact z
      | cont => exact z
  show wpAny (model X.prog X.w) X.A (richCompare .NotEq (.ref a) u) (EP X pins σ Q) X.xe s
  unfold richCompare
  simp only [oneThing_ref]
  refine wpAny_holding (wpAny_bind (wpAny_cRoomFor hr.units0 ?_))
  refine wpAny_bind (J.type.here (wpAny_bind ((kx.ty _ _ I.kIn hP).here ?_)))
  split
  · rename_i q
    have e : PySem.W.subIn X.K t (.ref C) = some false := by
      rcases Bool.or_eq_true_iff.mp hn with e | e
      · rw [beq_iff_eq.mp e] at q; simp at q
      · exact beq_iff_eq.mp e
    refine wpAny_bind ((PySem.W.looks_subIn I.kIn e).here ?_)
    simp only [Bool.false_eq_true, if_false]
    refine wpAny_bind (wpAny_mono one (fun r s' z => ?_) fun _ _ e => e)
    obtain ⟨v, rfl, hq⟩ := z
    exact wpAny_pure hq
  · refine wpAny_bind (wpAny_pure ?_)
    simp only [Bool.false_eq_true, if_false]
    refine wpAny_bind (wpAny_mono one (fun r s' z => ?_) fun _ _ e => e)
    obtain ⟨v, rfl, hq⟩ := z
    exact wpAny_pure hq
/-- a op b, both of an own class -/
def rBinO (C : Addr) (sp : Sp) (E : XK) : R2 := fun x y H Q => ∃ a dx fs b dy gs, x = .ref a ∧ y = .ref b ∧ H a = some (.ins C dx fs) ∧ H b = some (.ins C dy gs) ∧ sp [.ref a, .ref b] H Q E
theorem op_binO {op : Operator} (hc : PySem.W.selfFirst X.K C = true) (hs : PySem.W.findIn X.K (.ref C) (PySem.dunder op.info.2) = some (some (.ref g))) (hf : PySem.W.isFn X.K (.ref g) = true)
    (F : FnR X.prog X.w X.K X.mg X.base CX k g sp) (hr : Room k X.A) (hx : Passes CX X E) : OpR X (binaryOp op) (rBinO C sp E) := by
  intro pins s σ H x y v u Q I rx ry h
  obtain ⟨a, dx, fs, b, dy, gs, rfl, rfl, ea, eb, q⟩ := h
  cases (show v = Value.ref a from rx)
  cases (show u = Value.ref b from ry)
  obtain ⟨mA, O, _, _, _, _⟩ := ins_get I.hok ea
  obtain ⟨od, J, _⟩ := O.look
  obtain ⟨mB, O', _, _, _, _⟩ := ins_get I.hok eb
  obtain ⟨od', J', _⟩ := O'.look
  obtain ⟨m, hF⟩ := I.fr
  refine PySem.W.binop_K hF I.ok.mod.kin J J'.type hc hs hf ?_
  refine wpAny_mono (wpAny_call (run_fnR (us := [.ref a, .ref b]) (vs := [.ref a, .ref b]) F hr hx I (.cons rfl (.cons rfl .nil)) q)) (fun w s' z => ?_) fun _ _ x => x
  obtain ⟨z', H', I', rz, qz⟩ := z
  exact SlX.cmpback rz ⟨z', H', I', rz, qz⟩
end
end Z
namespace Z
open PySem PySem.Spec PyProof.Rows L2
abbrev Frg := PySem.W.Frag
/-- what is asked of the written part: Bools, defs, tables with text keys, the defs whose tables of code objects are left out -/
structure Ask where
  fs : List (Frg → Bool)
  fn : List He5.DefA
  ts : List He.Tab
  tf : List (Frg → Addr)
def cdAt (K : Frg) (f : Addr) : Addr := match K.lookup f with
  | some ⟨_, _, .func fd, _⟩ => (match fd.code with
    | .ref c => c
    | _ => 0)
  | _ => 0
def tabsB (g : Addr → Option Obj) (tf : List (Frg → Addr)) (K : Frg) : Bool := tf.all fun p => PySem.W.codeHdIn K (cdAt K (p K)) (He.tabOf K (cdAt K (p K))) && (match g (He.tabOf K (cdAt K (p K))) with
  | some o => He.emptyTab o
  | none => false)
abbrev AlZ : Type := (Bool × List He.FnW) × (List (Option (List (Option (Str × Int)))) × Bool)
def obsZ (q : Ask) (K : Frg) (b : Bool) : AlZ := (((q.fs.all fun f => f K) && q.fn.all fun d => d.ok K, q.fn.map fun d => He5.fnA K (d.at_ K)), (q.ts.map fun t => He.dicW K (t.1 K), b))
def valZ (q : Ask) (w : World) : AlZ := ((true, q.fn.map He5.DefA.val), (q.ts.map fun t => some (He.keysIn w.params t.2), true))
structure Says (q : Ask) (w : World) (h : Heap) (K : Frg) : Prop where
  fact : ∀ f ∈ q.fs, f K = true
  dok : ∀ d ∈ q.fn, d.ok K = true
  dval : q.fn.map (fun d => He5.fnA K (d.at_ K)) = q.fn.map He5.DefA.val
  tval : q.ts.map (fun t => He.dicW K (t.1 K)) = q.ts.map fun t => some (He.keysIn w.params t.2)
  hd : ∀ p ∈ q.tf, PySem.W.codeHdIn K (cdAt K (p K)) (He.tabOf K (cdAt K (p K))) = true
  out : ∀ p ∈ q.tf, K.lookup (He.tabOf K (cdAt K (p K))) = none
  empty : ∀ p ∈ q.tf, h.get? (He.tabOf K (cdAt K (p K))) = some { cls := .none, data := .fields #[] }
def KZ (g : Addr → Option Obj) (n : Nat) : Frg := He.frT g (He5.asA g n)
def obsG (n : Nat) (q : Ask) (g : Addr → Option Obj) : AlZ := obsZ q (KZ g n) (tabsB g q.tf (KZ g n))
theorem says_of {n : Nat} {q : Ask} {w : World} {h : Heap} (e : obsG n q h.get? = valZ q w) : Says q w h (KZ h.get? n) := by
  have e1 : ((q.fs.all fun f => f (KZ h.get? n)) && q.fn.all fun d => d.ok (KZ h.get? n)) = true := congrArg (fun z : AlZ => z.1.1) e
  have e2 : q.fn.map (fun d => He5.fnA (KZ h.get? n) (d.at_ (KZ h.get? n))) = q.fn.map He5.DefA.val := congrArg (fun z : AlZ => z.1.2) e
  have e3 : q.ts.map (fun t => He.dicW (KZ h.get? n) (t.1 (KZ h.get? n))) = q.ts.map fun t => some (He.keysIn w.params t.2) := congrArg (fun z : AlZ => z.2.1) e
  have e4 : tabsB h.get? q.tf (KZ h.get? n) = true := congrArg (fun z : AlZ => z.2.2) e
  obtain ⟨h1, h2⟩ := He.ba e1
  have key : ∀ p ∈ q.tf, PySem.W.codeHdIn (KZ h.get? n) (cdAt (KZ h.get? n) (p (KZ h.get? n))) (He.tabOf (KZ h.get? n) (cdAt (KZ h.get? n) (p (KZ h.get? n)))) = true ∧ ∃ o, h.get? (He.tabOf (KZ h.get? n) (cdAt (KZ h.get? n) (p (KZ h.get? n)))) = some o ∧ He.emptyTab o = true := fun p hp => by
    obtain ⟨h3, h4⟩ := He.ba (List.all_eq_true.mp e4 p hp)
    refine ⟨h3, ?_⟩
    cases z : h.get? (He.tabOf (KZ h.get? n) (cdAt (KZ h.get? n) (p (KZ h.get? n)))) with
    | none => rw [z] at h4; cases h4
    | some o => rw [z] at h4; exact ⟨o, rfl, h4⟩
  exact ⟨fun f hf => List.all_eq_true.mp h1 f hf, fun d hd => List.all_eq_true.mp h2 d hd, e2, e3, fun p hp => (key p hp).1, fun p hp => by
    obtain ⟨_, o, z, y⟩ := key p hp
    exact He.frT_none z y, fun p hp => by
    obtain ⟨_, o, z, y⟩ := key p hp
    rw [z, He.emptyTab_eq y]⟩
def hookZ (n : Nat) (q : Ask) : PySem.W.Hook where
  α := AlZ
  obs := fun s => obsG n q s.heap.get?
  val := fun w => valZ q w
  says := fun w h => ∃ K : Frg, K.In h ∧ Says q w h K
  of := fun _ _ e => ⟨_, He.frT_in, says_of e⟩
  keeps := fun _ _ _ ⟨K, hK, c⟩ k => ⟨K, PySem.W.Frag.In.keeps hK k, ⟨c.fact, c.dok, c.dval, c.tval, c.hd, c.out, fun p hp => k _ _ (c.empty p hp)⟩⟩
theorem obsG_eq {n : Nat} {q : Ask} {g : Addr → Option Obj} {s : Shared} (h : ∀ a, g a = s.heap.get? a) : obsG n q g = (hookZ n q).obs s := by
  have e : g = s.heap.get? := funext h
  rw [e] <;> rfl
section
variable {q : Ask} {w : World} {h : Heap} {K : Frg}
theorem Says.at (c : Says q w h K) (i : Nat) {f : Frg → Bool} (e : q.fs[i]? = some f := by rfl) : f K = true := c.fact f (List.mem_of_getElem? e)
theorem Says.df (c : Says q w h K) (i : Nat) {d : He5.DefA} (e : q.fn[i]? = some d := by rfl) : ∃ fd, L2.FunD K d.name d.qual d.params d.body d.scope (d.dvs K) (d.kws K) (d.at_ K) fd := by
  have e2 : (q.fn.map fun d => He5.fnA K (d.at_ K))[i]? = (q.fn.map He5.DefA.val)[i]? := by rw [c.dval]
  rw [List.getElem?_map, List.getElem?_map, e] at e2
  exact He5.DefA.funD (Option.some.inj e2) (c.dok d (List.mem_of_getElem? e))
theorem Says.tb (c : Says q w h K) (i : Nat) {t : He.Tab} (e : q.ts[i]? = some t := by rfl) : ∃ es n, KDict K w (t.1 K) es n := by
  have e2 : (q.ts.map fun t => He.dicW K (t.1 K))[i]? = (q.ts.map fun t => some (He.keysIn w.params t.2))[i]? := by rw [c.tval]
  rw [List.getElem?_map, List.getElem?_map, e] at e2
  exact He.dicW_ok (Option.some.inj e2)
end
/-! ### Bools and what they tell -/
def bGlo (x : Str) : Frg → Bool := fun K => (He.Fa.glo x).ok K
def bFree (x : Str) : Frg → Bool := fun K => (He.Fa.free x).ok K
def bInt (x : Str) (i : Int) : Frg → Bool := fun K => (He.Fa.int x i).ok K
def bStr (x z : Str) : Frg → Bool := fun K => (He.Fa.str x z).ok K
def bCls (x : Str) : Frg → Bool := fun K => (He.Fa.cls x).ok K
def bNo (x f : Str) : Frg → Bool := fun K => (He.Fa.noat x f).ok K
def bMeth (x m : Str) : Frg → Bool := fun K => (He.Fa.meth x m).ok K
def bMk (x : Str) : Frg → Bool := fun K => (He.Fa.mkr x).ok K
def bKeep (x : Str) : Frg → Bool := fun K => (He.Fa.keep x).ok K
/-- what == and isinstance ask of an own class -/
structure Own (K : Frg) (C : Addr) : Prop where
  sf : PySem.W.selfFirst K C = true
  ne : PySem.W.findIn K (.ref C) "__ne__" = some (some (.builtin "object.__ne__"))
  ob : PySem.W.mroIn K C (.type "object") = some true
  ha : PySem.W.findIn K (.ref C) "__class__" = some (some (.builtin "object.__class__"))
  hn : PySem.W.specialIn K (.builtin "object.__class__") "__get__" = some (some (.builtin "getset_descriptor.__get__"))
  ht : PySem.W.takesIn K (.builtin "object.__class__") = some true
  ki : PySem.W.kitOne K (.ref C) (.ref C) = some true
  kb : ∀ t ∈ ["NoneType", "bool", "int", "str", "list", "tuple", "dict"], PySem.W.kitOne K (.type t) (.ref C) = some false
  kt : ∀ t ∈ ["bool", "int", "str", "list", "tuple", "dict"], PySem.W.kitOne K (.ref C) (.type t) = some false
  nf : ∀ t ∈ ["NoneType", "bool", "int", "str", "list", "tuple", "dict"], PySem.W.notFirst K C (.type t) = true
  cv : PySem.W.isClsIn K C = true
def bOwn (x : Str) : Frg → Bool := fun K => PySem.W.selfFirst K (He.ga K x) && (He.eqO (PySem.W.findIn K (.ref (He.ga K x)) "__ne__") (some (some (.builtin "object.__ne__"))) && (decide (PySem.W.mroIn K (He.ga K x) (.type "object") = some true) &&
  (He.eqO (PySem.W.findIn K (.ref (He.ga K x)) "__class__") (some (some (.builtin "object.__class__"))) && (He.eqO (PySem.W.specialIn K (.builtin "object.__class__") "__get__") (some (some (.builtin "getset_descriptor.__get__"))) &&
  (decide (PySem.W.takesIn K (.builtin "object.__class__") = some true) && (decide (PySem.W.kitOne K (.ref (He.ga K x)) (.ref (He.ga K x)) = some true) &&
  ((["NoneType", "bool", "int", "str", "list", "tuple", "dict"].all fun t => decide (PySem.W.kitOne K (.type t) (.ref (He.ga K x)) = some false)) && ((["bool", "int", "str", "list", "tuple", "dict"].all fun t => decide (PySem.W.kitOne K (.ref (He.ga K x)) (.type t) = some false)) &&
  ((["NoneType", "bool", "int", "str", "list", "tuple", "dict"].all fun t => PySem.W.notFirst K (He.ga K x) (.type t)) && PySem.W.isClsIn K (He.ga K x))))))))))
theorem own_of {K : Frg} {x : Str} (h : bOwn x K = true) : Own K (He.ga K x) := by
  obtain ⟨h1, h⟩ := He.ba h
  obtain ⟨h2, h⟩ := He.ba h
  obtain ⟨h3, h⟩ := He.ba h
  obtain ⟨h4, h⟩ := He.ba h
  obtain ⟨h5, h⟩ := He.ba h
  obtain ⟨h6, h⟩ := He.ba h
  obtain ⟨h7, h⟩ := He.ba h
  obtain ⟨h8, h⟩ := He.ba h
  obtain ⟨h9, h⟩ := He.ba h
  obtain ⟨h10, h11⟩ := He.ba h
  exact ⟨h1, He.eqO_ok h2, of_decide_eq_true h3, He.eqO_ok h4, He.eqO_ok h5, of_decide_eq_true h6, of_decide_eq_true h7, fun t ht => of_decide_eq_true (List.all_eq_true.mp h8 t ht), fun t ht => of_decide_eq_true (List.all_eq_true.mp h9 t ht), fun t ht => List.all_eq_true.mp h10 t ht, h11⟩
/-- a property -/
def bProp (x f : Str) : Frg → Bool := fun K => He.eqO (PySem.W.findIn K (.ref (He.ga K x)) f) (some (some (.ref (He.ma K (He.ga K x) f)))) && (He.eqO (PySem.W.specialIn K (.ref (He.ma K (He.ga K x) f)) "__get__") (some (some (.builtin "property.__get__"))) &&
  (decide (PySem.W.takesIn K (.ref (He.ma K (He.ga K x) f)) = some true) && (match PySem.W.recIn K (He.ma K (He.ga K x) f) "property" with
    | some (.ref _ :: _) => true
    | _ => false)))
theorem prop_of {K : Frg} {x f : Str} (h : bProp x f K = true) : PropOf K (He.ga K x) f (He.ma K (He.ga K x) f) (He5.wf K (He.ga K x) "property" f) := by
  obtain ⟨h1, h⟩ := He.ba h
  obtain ⟨h2, h⟩ := He.ba h
  obtain ⟨h3, h4⟩ := He.ba h
  refine ⟨He.eqO_ok h1, He.eqO_ok h2, of_decide_eq_true h3, ?_⟩
  unfold He5.wf
  split at h4
  · rename_i f r e
    exact ⟨r, by rw [e]⟩
  · cases h4
section
variable {K : Frg} {h : Heap} {mg : Str → Option Value}
theorem glo_of (X : K.In h) (G : h.Ns mainGlobals mg) {x : Str} (c : bGlo x K = true) : mg x = some (.ref (He.ga K x)) := He.glo_ok X G c
theorem free_of (X : K.In h) (G : h.Ns mainGlobals mg) {x : Str} (c : bFree x K = true) : mg x = none := He.free_ok X G c
theorem int_of (X : K.In h) (G : h.Ns mainGlobals mg) {x : Str} {i : Int} (c : bInt x i K = true) : ∃ t, mg x = some (.int i t) := He.int_ok X G c
theorem str_of (X : K.In h) (G : h.Ns mainGlobals mg) {x z : Str} (c : bStr x z K = true) : ∃ t, mg x = some (.str z t) := He.str_ok X G c
theorem cls_of {x : Str} (c : bCls x K = true) : Cls K (He.ga K x) := He.cls_ok c
theorem no_of {x f : Str} (c : bNo x f K = true) : NoAttr K (He.ga K x) f := He.noat_ok c
theorem meth_of {x m : Str} (c : bMeth x m K = true) : Meth K (He.ga K x) m (He.ma K (He.ga K x) m) := He.meth_ok c
theorem mk_of {x : Str} (c : bMk x K = true) : Mk K (He.ga K x) (He.ma K (He.ga K x) "__init__") := He.mkr_ok c
theorem keep_of {x : Str} (c : bKeep x K = true) : PySem.W.keepIn K (.ref (He.ga K x)) = true := He.keep_ok c
end
/-! ### a def by its text -/
section
variable {P : Program} {w : World} {K : Frg} {mg : Str → Option Value} {base : Heap}
abbrev DefAt (K : Frg) (x qual : Str) (st : Stmt) (f : Addr) : Prop := ∃ fd, L2.FunD K x qual (defArgs st) (defBody st) (defScope st) [] [] f fd
theorem zfn {x qual : Str} {st : Stmt} {f : Addr} {N ps : List Str} {k : Nat} {sp : Sp} (F : DefAt K x qual st f) (S : FnScope N ps (defScope st)) (len : ∀ vs H Q E, sp vs H Q E → vs.length = ps.length)
    (hb : ∀ (kV doc pm : Value) (an : Option Addr) (cdv ct : Value) (us : List Value), us.length = ps.length → bindArgs (PySem.W.fnOf x qual (defArgs st) (defBody st) (defScope st) .none kV doc pm an cdv ct) ⟨us, []⟩ = pure (ps.zip us))
    (hbody : ∀ (cdv : Value) (A : Around) (outer : List Env) (s : Shared) (H : Hp) (vs : List V) (Q : VK) (E : XK), Room k (A.deeper (envOfC qual (defScope st) s.heap.objs.size f cdv)) → sp vs H Q E →
      ∃ t, PSs (cxOf (L2.CX P w) P w K mg base N qual (defScope st) f cdv A outer s H E) (defBody st) t ∧ t { nx := fun _ H' => Q .non H', rt := Q } (start N vs) H) : FnR P w K mg base (L2.CX P w) (k + 1) f sp := by
  obtain ⟨fd, F⟩ := F
  have B : Binds K fd ps [] := F.bindsN hb
  exact ((FunD.ok F S len hbody).raw B .nil).imp fun vs H Q E h => by rw [List.append_nil]; exact h
end
def Sp0 (P : Hp → VK → XK → Prop) : Sp := fun vs H Q E => vs = [] ∧ P H Q E
def Sp1 (P : V → Hp → VK → XK → Prop) : Sp := fun vs H Q E => ∃ a, vs = [a] ∧ P a H Q E
def Sp2 (P : V → V → Hp → VK → XK → Prop) : Sp := fun vs H Q E => ∃ a b, vs = [a, b] ∧ P a b H Q E
def Sp3 (P : V → V → V → Hp → VK → XK → Prop) : Sp := fun vs H Q E => ∃ a b c, vs = [a, b, c] ∧ P a b c H Q E
def Sp4 (P : V → V → V → V → Hp → VK → XK → Prop) : Sp := fun vs H Q E => ∃ a b c d, vs = [a, b, c, d] ∧ P a b c d H Q E
theorem len0 {P} : ∀ vs H Q E, Sp0 P vs H Q E → vs.length = 0 := fun _ _ _ _ ⟨e, _⟩ => by rw [e]; rfl
theorem len1 {P} : ∀ vs H Q E, Sp1 P vs H Q E → vs.length = 1 := fun _ _ _ _ ⟨_, e, _⟩ => by rw [e]; rfl
theorem len2 {P} : ∀ vs H Q E, Sp2 P vs H Q E → vs.length = 2 := fun _ _ _ _ ⟨_, _, e, _⟩ => by rw [e]; rfl
theorem len3 {P} : ∀ vs H Q E, Sp3 P vs H Q E → vs.length = 3 := fun _ _ _ _ ⟨_, _, _, e, _⟩ => by rw [e]; rfl
theorem len4 {P} : ∀ vs H Q E, Sp4 P vs H Q E → vs.length = 4 := fun _ _ _ _ ⟨_, _, _, _, e, _⟩ => by rw [e]; rfl
end Z
namespace Z
open PySem PySem.Spec PyProof.Rows L2
/-- a new object at p: what is behind -/
def New (H : Hp) (o : HO) (Q : Addr → Hp → Prop) : Prop := ∀ p H2, H p = none → H2 = upd H p o → Q p H2
theorem New.run {H : Hp} {o : HO} {Q : Addr → Hp → Prop} (h : New H o Q) : ∀ p, H p = none → Q p (upd H p o) := fun p hp => h p _ hp rfl
/-- a store -/
def Put (H : Hp) (p : Addr) (o : HO) (Q : Hp → Prop) : Prop := ∀ H2, H2 = upd H p o → Q H2
theorem Put.run {H : Hp} {p : Addr} {o : HO} {Q : Hp → Prop} (h : Put H p o Q) : Q (upd H p o) := h _ rfl
section
variable {ms : List Addr} {F H H2 : Hp} {p : Addr} {o : HO}
theorem newE (hs : Same F H) (hp : H p = none) (e : H2 = upd H p o) : ∃ F2, Go [] F H F2 H2 ∧ F2 p = some o ∧ H2 p = some o := ⟨upd F p o, by rw [e]; exact Go.new hs hp, upd_same, by rw [e]; exact upd_same⟩
theorem newM (hs : Same F H) (hp : H p = none) (e : H2 = upd H p o) : Go [] F H F H2 ∧ F p = none ∧ H2 p = some o := ⟨by rw [e]; exact Go.newM hs hp, same_none hs hp, by rw [e]; exact upd_same⟩
theorem putM (hs : Same F H) (hp : F p = none) (e : H2 = upd H p o) : Go [p] F H F H2 ∧ H2 p = some o := ⟨by rw [e]; exact Go.put hs hp, by rw [e]; exact upd_same⟩
end
section
variable {X : Cx} {e a b : Expr} {es : List Expr} {t t' te tb : TE} {ta : TA} {pos : Pos}
theorem pe_imp (h : PE X e t) (f : ∀ σ H Q, t' σ H Q → t σ H Q) : PE X e t' := ⟨fun pins s σ H Q I z => h.run pins s σ H Q I (f σ H Q z)⟩
def wkA (t : TA) : TA := fun σ H Q => ∃ Q0, t σ H Q0 ∧ ∀ xs H1, Q0 xs H1 → Q xs H1
theorem pa_wk (h : PA X es ta) : PA X es (wkA ta) := ⟨fun pos pins s σ H Q I ⟨Q0, z, f⟩ => thn (h.run pos pins s σ H Q0 I z) fun us s1 ⟨xs, H1, I1, r, q⟩ => ⟨xs, H1, I1, r, f xs H1 q⟩⟩
def wkE (t : TE) : TE := fun σ H Q => ∃ Q0, t σ H Q0 ∧ ∀ x H1, Q0 x H1 → Q x H1
theorem pe_wk (h : PE X e t) : PE X e (wkE t) := ⟨fun pins s σ H Q I ⟨Q0, z, f⟩ => thn (h.run pins s σ H Q0 I z) fun us s1 ⟨xs, H1, I1, r, q⟩ => ⟨xs, H1, I1, r, f xs H1 q⟩⟩
def tTupZ (t : TA) : TE := fun σ H Q => t σ H fun xs H1 => xs.length ≤ sizeLine ∧ New H1 (.tup xs) fun p H2 => Q (.ref p) H2
def tLstZ (t : TA) : TE := fun σ H Q => t σ H fun xs H1 => xs.length ≤ sizeLine ∧ New H1 (.lst xs) fun p H2 => Q (.ref p) H2
theorem pe_tupZ {x1} (h : PA X es ta) : PE X (.Tuple es x1 pos) (tTupZ ta) := pe_imp (pe_tup (pa_wk h)) fun _ _ _ z => ⟨_, z, fun _ _ q => ⟨q.1, q.2.run⟩⟩
theorem pe_lstZ (h : PA X es ta) : PE X (.List es pos) (tLstZ ta) := pe_imp (pe_lst (pa_wk h)) fun _ _ _ z => ⟨_, z, fun _ _ q => ⟨q.1, q.2.run⟩⟩
theorem op_imp {f : Value → Value → Sem Value} {r r' : R2} (h : OpR X f r) (g : ∀ x y H Q, r' x y H Q → r x y H Q) : OpR X f r' := fun pins s σ H x y v u Q I rx ry z => h pins s σ H x y v u Q I rx ry (g x y H Q z)
theorem call_imp {f : Value} {r r' : List V → Hp → VK → Prop} (h : CallR X f r) (g : ∀ xs H Q, r' xs H Q → r xs H Q) : CallR X f r' := fun pins s σ H xs us Q I rx z => h pins s σ H xs us Q I rx (g xs H Q z)
theorem mt_imp {id : String} {r r' : V → List V → Hp → VK → Prop} (h : MtR X id r) (g : ∀ x xs H Q, r' x xs H Q → r x xs H Q) : MtR X id r' := fun pins s σ H x xs v us Q I rx rs z => h pins s σ H x xs v us Q I rx rs (g x xs H Q z)
def rCatZ : R2 := fun x y H Q => ∃ l b xs zs, x = .ref l ∧ y = .ref b ∧ H l = some (.lst xs) ∧ H b = some (.lst zs) ∧ xs.length + zs.length ≤ sizeLine ∧ New H (.lst (xs ++ zs)) fun p H2 => Q (.ref p) H2
theorem op_catZ : OpR X (binaryOp .Add) rCatZ := op_imp op_cat fun _ _ _ _ ⟨l, b, xs, zs, e1, e2, h1, h2, hz, n⟩ => ⟨l, b, xs, zs, e1, e2, h1, h2, hz, n.run⟩
def rRepZ : R2 := fun x y H Q => ∃ l k xs, x = .ref l ∧ y = .int k ∧ H l = some (.lst xs) ∧ -(2 ^ 63) ≤ k ∧ k < 2 ^ 63 ∧ xs.length * k.toNat ≤ sizeLine ∧ New H (.lst (List.replicate k.toNat xs).flatten) fun p H2 => Q (.ref p) H2
def rListZ (K : Frg) : List V → Hp → VK → Prop := fun xs H Q => ∃ p ys, xs = [.ref p] ∧ (SqL K H p ys ∨ SqT K H p ys) ∧ New H (.lst ys) fun l H2 => Q (.ref l) H2
theorem call_listZ : CallR X (.type "list") (rListZ X.K) := call_imp call_list_of fun _ _ _ ⟨p, ys, e, h, n⟩ => ⟨p, ys, e, h, n.run⟩
/-- tuple(xs), xs a list -/
def rTupleZ (K : Frg) : List V → Hp → VK → Prop := fun xs H Q => ∃ p ys, xs = [.ref p] ∧ SqL K H p ys ∧ New H (.tup ys) fun l H2 => Q (.ref l) H2
theorem call_tupleZ : CallR X (.type "tuple") (rTupleZ X.K) := call_imp call_tuple_of fun _ _ _ ⟨p, ys, e, h, n⟩ => ⟨p, ys, e, .inl ⟨h, n.run⟩⟩
def rSlLZ (K : Frg) : V → Option Int → Option Int → Hp → VK → Prop := fun x lo hi H Q => ∃ a xs, x = .ref a ∧ SqL K H a xs ∧ New H (.lst (cutV xs lo hi)) fun p H2 => Q (.ref p) H2
theorem sl_listZ : L2.SlR X (rSlLZ X.K) := fun pins s σ H x v vl vu lo hi sl Q I rx hs pl pu ⟨a, xs, e, h, n⟩ => sl_list pins s σ H x v vl vu lo hi sl Q I rx hs pl pu ⟨a, xs, e, h, n.run⟩
def rAppZ : V → List V → Hp → VK → Prop := fun x vs H Q => ∃ l xs y, x = .ref l ∧ vs = [y] ∧ H l = some (.lst xs) ∧ xs.length < sizeLine ∧ Put H l (.lst (xs ++ [y])) fun H2 => Q .non H2
theorem mt_appZ : MtR X "list.append" rAppZ := mt_imp mt_append fun _ _ _ _ ⟨l, xs, y, e1, e2, h, hz, n⟩ => ⟨l, xs, y, e1, e2, h, hz, n.run⟩
def rSetLZ : TSet := fun o i v H Q => ∃ p xs k j, o = .ref p ∧ i = .int k ∧ H p = some (.lst xs) ∧ ixN xs.length k = some j ∧ Put H p (.lst (xs.set j v)) Q
theorem set_listZ : PSet X rSetLZ := fun pins s σ H o i v ov iv vv Q I ro ri rv ⟨p, xs, k, j, e1, e2, h, hj, n⟩ => set_list pins s σ H o i v ov iv vv Q I ro ri rv ⟨p, xs, k, j, e1, e2, h, hj, n.run⟩
theorem pe_globI {x : Str} {i : Int} (hg : Gl X x) (h : ∃ t, X.mg x = some (.int i t)) (hd : (x == ("__debug__" : Str)) = false := by decide) : PE X (.Name x pos) (tC (.int i)) := let ⟨t, q⟩ := h; pe_glob hg q ⟨t, rfl⟩ hd
theorem pe_globS {x z : Str} (hg : Gl X x) (h : ∃ t, X.mg x = some (.str z t)) (hd : (x == ("__debug__" : Str)) = false := by decide) : PE X (.Name x pos) (tC (.str z)) := let ⟨t, q⟩ := h; pe_glob hg q ⟨t, rfl⟩ hd
/-- making an instance, by what the maker promises -/
theorem zmake {CX : CXT} {k : Nat} {f C : Addr} {x : Str} {p : Pos} {spI spM : Sp} {E : XK} (mk : ∀ vs H Q, spM vs H Q E → ∀ x dx, H x = none → H dx = none → dx ≠ x → spI (.ref x :: vs) (upd (upd H dx (.own x)) x (.ins C dx [])) (fun v H2 => v = .non ∧ Q (.ref x) H2) E)
    (M : Mk X.K C f) (F : FnR X.prog X.w X.K X.mg X.base CX k f spI) (hr : Room (k + 1) X.A) (hg : Gl X x) (hm : X.mg x = some (.ref C)) (hx : Passes CX X E) (ha : PA X (e :: es) ta) (hdb : (x == ("__debug__" : Str)) = false := by decide)
    (he : starEach (e :: es) X.env = (false, eval e X.env) :: starEach es X.env := by rfl) (hpl : (backTo pos (starEach es X.env)).any (·.1) = false := by rfl) : PE X (.Call (.Name x p) (e :: es) [] pos) (tFn spM E ta) :=
  pe_imp (StX.pe_makeR M F hr hg hm hx (pa_wk ha) hdb he hpl) fun _ _ Q z => ⟨_, z, fun vs H1 q => mk vs H1 Q q⟩
end
/-- a statement and what follows, with a word between them -/
def tCutZ (t u : TS) : TS := fun D σ H => ∃ Mid : L2.St → Hp → Prop, t { D with nx := Mid } σ H ∧ ∀ σ' H', Mid σ' H' → u D σ' H'
theorem zcut {X : Cx} {st : Stmt} {rest : List Stmt} {t u : TS} (h1 : PS X st t) (h2 : PSs X rest u) : PSs X (st :: rest) (tCutZ t u) := by
  have w : PS X st (fun D σ H => ∃ Mid : L2.St → Hp → Prop, t { D with nx := Mid } σ H ∧ ∀ σ' H', Mid σ' H' → D.nx σ' H') := ⟨fun pins s σ H D I ⟨Mid, z, f⟩ => thn (h1.run pins s σ H _ I z) fun fl s' q => by
    cases fl with
    | next => obtain ⟨σ', H', I', q'⟩ := q; exact ⟨σ', H', I', f _ _ q'⟩
    | brk => exact q
    | cont => exact q
    | ret v => exact q⟩
  exact ⟨fun pins s σ H D I ⟨Mid, z, f⟩ => (pss_cons w h2).run pins s σ H D I ⟨Mid, z, f⟩⟩
theorem lenOk {α : Type} {xs : List α} (h : Nat.ble xs.length 1000 = true) : xs.length ≤ sizeLine := Nat.le_trans (Nat.le_of_ble_eq_true h) (by decide)
end Z
namespace Z
open PySem PySem.Spec PyProof.Rows L2
theorem tyT {K : Frg} {H : Hp} {a : Addr} {xs : List V} (h : SqT K H a xs) : TyX K H (.ref a) (.type "tuple") := by
  rcases h with (h | ⟨o, h⟩) | ⟨o, its, n, h1, h2, _⟩
  · exact .base (.tup h)
  · exact .fTuple h
  · exact .kTuple h1 h2
theorem tyL {K : Frg} {H : Hp} {a : Addr} {xs : List V} (h : SqL K H a xs) : TyX K H (.ref a) (.type "list") := by
  rcases h with (h | ⟨o, h⟩) | ⟨o, its, n, h1, h2, _⟩
  · exact .base (.lst h)
  · exact .base (.frz h)
  · exact .kList h1 h2
theorem tyI {K : Frg} {H : Hp} (i : Int) : TyX K H (.int i) (.type "int") := .base (.int i)
theorem tyO {K : Frg} {H : Hp} {C a dx : Addr} {fs : List (Str × V)} (c : Cls K C) (o : Own K C) (h : H a = some (.ins C dx fs)) : TyX K H (.ref a) (.ref C) := .base (.ins h c o.ha o.hn o.ht o.ob)
/-- the reading of a comprehension behind its source -/
def LcR (J : It) (g : TG) (tt : TT) (te : TE) (vs : List Nat) (σ : L2.St) (H1 : Hp) (Q : VK) : Prop := ∀ D, H1 D = none → ∃ W : Nat → Nat → Hp → Prop, (∃ m, W 0 m (upd H1 D (.lst []))) ∧ ∀ i m H, W i m H →
  (J.stop i H ∧ Q (.ref D) H) ∨ (J.go i H ∧ ∃ Nx : Hp → Prop, (∀ H', Nx H' → ∃ m', m' < m ∧ W (i + 1) m' H') ∧ ∀ x H', J.yld i H x H' → g x (wipe σ vs) H' fun σ2 H2 => wipe σ2 vs = wipe σ vs ∧ tt σ2 H2 fun b H3 =>
    if b = true then te σ2 H3 fun y H4 => ∃ acc, H4 D = some (.lst acc) ∧ acc.length < sizeLine ∧ Nx (upd H4 D (.lst (acc ++ [y]))) else Nx H3)
def tLcZ (wi : TI) (g : TG) (tt : TT) (te : TE) (vs : List Nat) : TE := fun σ H Q => wi σ H fun J H1 => LcR J g tt te vs σ H1 Q
theorem tLcZ_eq : @tLcZ = @tLc := rfl
theorem pe_lcZ {X : Cx} {e : Expr} {wi : TI} {g : TG} {tt : TT} {te : TE} {vs : List Nat} (h : PE X e (tLc wi g tt te vs)) : PE X e (tLcZ wi g tt te vs) := h
theorem ps_lcZ {X : Cx} {s : Stmt} {wi : TI} {g g2 : TG} {tt : TT} {te : TE} {vs : List Nat} (h : PS X s (tAsg (tLc wi g tt te vs) g2)) : PS X s (tAsg (tLcZ wi g tt te vs) g2) := h
/-- a comprehension, by what holds of the items made so far -/
theorem lc_go {J : It} {n : Nat} {G : Hp → Prop} {Y : Nat → Hp → V → Hp → Prop} (w : Walk J n G Y) {g : TG} {tt : TT} {te : TE} {vs : List Nat} {σ : L2.St} {F H : Hp} {ms : List Addr} {Q : VK} (hs : Same F H) (hm : ∀ a ∈ ms, H a ≠ none) (M : Hp → Hp → Prop) (m0 : M F H)
    (mst : ∀ D F1 H1 F2 H2, H D = none → M F1 H1 → Go [D] F1 H1 F2 H2 → M F2 H2) (hG : ∀ F1 H1, Go ms F H F1 H1 → M F1 H1 → G H1) (I : Nat → List V → Hp → Prop) (i0 : I 0 [] F) (im : ∀ i acc F1 F2, Same F1 F2 → I i acc F1 → I i acc F2) (hn : n ≤ 100000)
    (turn : ∀ i x acc F1 H1 H1', i < n → acc.length ≤ i → I i acc F1 → Go ms F H F1 H1 → M F1 H1 → Y i H1 x H1' → ∀ (Kp : V → Hp → Prop) (Sk : Hp → Prop), (∀ y F2 H2, Go ms F1 H1 F2 H2 → M F2 H2 → I (i + 1) (acc ++ [y]) F2 → Kp y H2) →
      (∀ F2 H2, Go ms F1 H1 F2 H2 → M F2 H2 → I (i + 1) acc F2 → Sk H2) → g x (wipe σ vs) H1' fun σ2 H2 => wipe σ2 vs = wipe σ vs ∧ tt σ2 H2 fun b H3 => if b = true then te σ2 H3 Kp else Sk H3)
    (fin : ∀ D ys F' H', Go ms F H F' H' → M F' H' → F' D = some (.lst ys) → ys.length ≤ n → I n ys F' → Q (.ref D) H') :
    LcR J g tt te vs σ H Q := by
  intro D hD
  have hsz : (100000 : Nat) < sizeLine := by decide
  have dm : D ∉ ms := fun z => hm D z hD
  have st : ∀ {F2 H2 : Hp} {acc : List V}, Go ms F H F2 H2 → M F2 H2 → F2 D = none → ∀ o, Go ms F H F2 (upd H2 D o) ∧ M F2 (upd H2 D o) := fun {F2 H2 acc} gg m fd o => by
    have p : Go [D] F2 H2 F2 (upd H2 D o) := Go.put gg.fh fd
    have p2 : Go (D :: ms) F2 H2 F2 (upd H2 D o) := p.sub fun a ha => by
      rcases List.mem_cons.mp ha with e | e
      · rw [e]; exact List.mem_cons_self
      · cases e
    have g2 : Go (D :: ms) F H F2 H2 := gg.sub fun a ha => List.mem_cons_of_mem _ ha
    exact ⟨(g2.trans p2).drop hD, mst D _ _ _ _ hD m p⟩
  refine lc_it w (fun i H' => ∃ F' acc, Go ms F H F' H' ∧ M F' H' ∧ F' D = none ∧ H' D = some (.lst acc) ∧ acc.length ≤ i ∧ I i acc F') ?_ (fun i H' _ ⟨F', acc, g1, m1, _⟩ => hG F' H' g1 m1) ?_ ?_
  · have fd := same_none hs hD
    obtain ⟨a, b⟩ := st (acc := []) (Go.refl hs) m0 fd (.lst [])
    exact ⟨F, [], a, b, fd, upd_same, Nat.le_refl _, i0⟩
  · rintro i x H1 H1' hi ⟨F1, acc, g1, m1, fd, hd, hl, hI⟩ hy
    refine turn i x acc F1 H1 H1' hi hl hI g1 m1 hy _ _ (fun y F2 H2 g2 m2 I2 => ?_) fun F2 H2 g2 m2 I2 => ?_
    · have key : F2 D = none ∧ H2 D = some (.lst acc) := g2.mu D _ dm fd hd
      obtain ⟨a, b⟩ := st (acc := acc) (g1.trans g2) m2 key.1 (.lst (acc ++ [y]))
      refine ⟨acc, key.2, by omega, F2, acc ++ [y], a, b, key.1, upd_same, ?_, I2⟩
      rw [List.length_append]
      show acc.length + 1 ≤ i + 1
      omega
    · have key : F2 D = none ∧ H2 D = some (.lst acc) := g2.mu D _ dm fd hd
      exact ⟨F2, acc, g1.trans g2, m2, key.1, key.2, by omega, I2⟩
  · rintro H' ⟨F', acc, g1, m1, fd, hd, hl, hI⟩
    have fz : Go [D] F' H' (upd F' D (.lst acc)) H' := Go.freeze g1.fh fd hd
    have g2 : Go (D :: ms) F H (upd F' D (.lst acc)) H' := (g1.sub fun a ha => List.mem_cons_of_mem _ ha).trans (fz.sub fun a ha => by
      rcases List.mem_cons.mp ha with e | e
      · rw [e]; exact List.mem_cons_self
      · cases e)
    exact fin D acc _ H' (g2.drop hD) (mst D _ _ _ _ hD m1 fz) upd_same hl (im _ _ _ _ fz.ff hI)
/-- law's promise -/
def spLaw (K : Frg) : Sp := Sp1 fun a H Q _ => ∃ (s : Addr) (ns : List Int), a = .ref s ∧ ns.length ≤ 63 ∧ SqL K H s (ns.map V.int) ∧ ∀ H', Q (.bl true) H'
def LawOk (P : Program) (w : World) (K : Frg) (mg : Str → Option Value) (k : Nat) (f : Addr) (x : Str) (sp : Sp) : Prop :=
  ∃ fd : FuncData, (∀ (s : Shared) (u : Value), BindsTo s fd ⟨[u], []⟩ [(x, u)]) ∧ ∀ base : Heap, FnOk P w K mg base (L2.CX P w) k f fd [x] sp
theorem zlaw {P : Program} {w : World} {K : Frg} {mg : Str → Option Value} {x qual px : Str} {st : Stmt} {f : Addr} {N : List Str} {k : Nat} {sp : Sp} (F : DefAt K x qual st f) (S : FnScope N [px] (defScope st)) (len : ∀ vs H Q E, sp vs H Q E → vs.length = 1)
    (hb : ∀ (kV doc pm : Value) (an : Option Addr) (cdv ct : Value) (us : List Value), us.length = 1 → bindArgs (PySem.W.fnOf x qual (defArgs st) (defBody st) (defScope st) .none kV doc pm an cdv ct) ⟨us, []⟩ = pure ([px].zip us))
    (hbody : ∀ (base : Heap) (cdv : Value) (A : Around) (outer : List Env) (s : Shared) (H : Hp) (vs : List V) (Q : VK) (E : XK), Room k (A.deeper (envOfC qual (defScope st) s.heap.objs.size f cdv)) → sp vs H Q E →
      ∃ t, PSs (cxOf (L2.CX P w) P w K mg base N qual (defScope st) f cdv A outer s H E) (defBody st) t ∧ t { nx := fun _ H' => Q .non H', rt := Q } (start N vs) H) : LawOk P w K mg (k + 1) f px sp := by
  obtain ⟨fd, F⟩ := F
  exact ⟨fd, fun s v => FunD.bindsA (ps := [px]) F hb s [v] rfl, fun base => FunD.ok F S len (hbody base)⟩
theorem cx_no {P : World → Program} (w : World) (H : Hp) (s : Shared) (e : Value) (s' : Shared) (h : L2.CX (P w) w [] H s (fun _ _ _ => False) e s') : False := by
  obtain ⟨_, _, _, _, _, _, _, _, _, _, _, _, z⟩ := h
  exact z
end Z
namespace Z
open PySem PySem.Spec PyProof.Rows L2
theorem blF {c : Prop} [Decidable c] (h : ¬ c) : V.bl (decide c) = .bl false := by rw [decide_eq_false h]
theorem blT {c : Prop} [Decidable c] (h : c) : V.bl (decide c) = .bl true := by rw [decide_eq_true h]
/-! ### what is_integer, is_place tell -/
theorem tyX_mono {K : Frg} {F H : Hp} (s : Same F H) {x : V} {t : Value} (h : TyX K F x t) : TyX K H x t := by
  cases h with
  | base b =>
    refine .base ?_
    cases b with
    | non => exact .non
    | bl y => exact .bl y
    | int i => exact .int i
    | str y => exact .str y
    | flt y => exact .flt y
    | lst e => exact .lst (s _ _ e)
    | frz e => exact .frz (s _ _ e)
    | tup e => exact .tup (s _ _ e)
    | dK e => exact .dK (s _ _ e)
    | dT e => exact .dT (s _ _ e)
    | ins e a b c d f => exact .ins (s _ _ e) a b c d f
  | byt b => exact .byt b
  | set e => exact .set (s _ _ e)
  | kList e c => exact .kList e c
  | kTuple e c => exact .kTuple e c
  | kDict e c => exact .kDict e c
  | fTuple e => exact .fTuple (s _ _ e)
  | fDict e => exact .fDict (s _ _ e)
def IntQ (K : Frg) (H : Hp) (v : V) (b : Bool) : Prop := ∃ t b1 b2, TyX K H v t ∧ PySem.W.kitOne K t (.type "int") = some b1 ∧ (b1 = true → PySem.W.kitOne K t (.type "bool") = some b2) ∧ b = (b1 && !b2)
theorem intQ_mono {K : Frg} {F H : Hp} (s : Same F H) {v : V} {b : Bool} (h : IntQ K F v b) : IntQ K H v b := by
  obtain ⟨t, b1, b2, ty, r⟩ := h
  exact ⟨t, b1, b2, tyX_mono s ty, r⟩
theorem intQ_int {K : Frg} {H : Hp} (i : Int) : IntQ K H (.int i) true := ⟨_, true, false, tyI i, kit_ty (by decide +kernel), fun _ => kit_ty (by decide +kernel), rfl⟩
def PlaceQ (K : Frg) (F : Hp) (a : V) (b : Bool) : Prop := (∃ t, TyX K F a t ∧ PySem.W.kitOne K t (.type "tuple") = some false ∧ b = false) ∨ (∃ p xs, a = .ref p ∧ SqT K F p xs ∧ xs.length ≠ 2 ∧ b = false) ∨
  (∃ p u v bu bv, a = .ref p ∧ SqT K F p [u, v] ∧ IntQ K F u bu ∧ IntQ K F v bv ∧ b = (bu && bv))
theorem placeQ {K : Frg} {F : Hp} {p : Addr} {x y : Int} (h : SqT K F p [.int x, .int y]) : PlaceQ K F (.ref p) true := .inr (.inr ⟨p, _, _, true, true, rfl, h, intQ_int x, intQ_int y, rfl⟩)
def spIsInt (K : Frg) : Sp := Sp1 fun a H Q _ => ∃ b, IntQ K H a b ∧ Q (.bl b) H
def spIsPlace (K : Frg) : Sp := Sp1 fun a H Q _ => ∃ F b, Same F H ∧ PlaceQ K F a b ∧ ∀ F' H', Go [] F H F' H' → Q (.bl b) H'
def spChkPlace (K : Frg) : Sp := Sp1 fun a H Q _ => ∃ F, Same F H ∧ PlaceQ K F a true ∧ ∀ F' H', Go [] F H F' H' → Q .non H'
def optV : Option Int → V
  | none => .non
  | some m => .int m
def spChkNum (K : Frg) : Sp := Sp3 fun a b c H Q _ => ∃ (v lo : Int) (hi : Option Int), a = .int v ∧ b = .int lo ∧ c = optV hi ∧ lo ≤ v ∧ (∀ m, hi = some m → v ≤ m) ∧ Q .non H
def spGcd : Sp := Sp2 fun a b H Q _ => ∃ x y : Int, a = .int x ∧ b = .int y ∧ Q (.int (Int.gcd x y)) H
theorem gcd_emod (x y : Int) : Int.gcd y x = Int.gcd y (x % y) := by
  have h := Int.gcd_add_mul_right_right y (x % y) (x / y)
  rw [show x % y + x / y * y = x from by rw [Int.mul_comm]; exact Int.emod_add_mul_ediv x y] at h
  exact h
def numsOk : V → V → V → Bool
  | .int a, .int b, .int c => decide (1 ≤ c) && (decide (0 ≤ b) && decide (b < a))
  | _, _, _ => false
def spAreNum (K : Frg) : Sp := Sp1 fun q H Q _ => ∃ F p u v x bu bv bx, q = .ref p ∧ Same F H ∧ SqT K F p [u, v, x] ∧ IntQ K F u bu ∧ IntQ K F v bv ∧ IntQ K F x bx ∧ ((bu && (bv && bx)) = true → ∃ a b c : Int, u = .int a ∧ v = .int b ∧ x = .int c) ∧
  ∀ F' H', Go [] F H F' H' → Q (.bl ((bu && (bv && bx)) && numsOk u v x)) H'
end Z
namespace MN
/-- the place of the cell -/
def low (a b c x y : Int) : Int × Int := ((x - y / c * b) % a, y - y / c * c)
/-- a shift of the net -/
def InN (a b c x y : Int) : Prop := ∃ m k : Int, x = m * a + k * b ∧ y = k * c
theorem inN_add {a b c x y x' y' : Int} (h : InN a b c x y) (h' : InN a b c x' y') : InN a b c (x + x') (y + y') := by
  obtain ⟨m, k, h1, h2⟩ := h
  obtain ⟨m', k', h3, h4⟩ := h'
  exact ⟨m + m', k + k', by grind, by grind⟩
theorem inN_neg {a b c x y : Int} (h : InN a b c x y) : InN a b c (-x) (-y) := by
  obtain ⟨m, k, h1, h2⟩ := h
  exact ⟨-m, -k, by grind, by grind⟩
theorem inN_sub {a b c x y x' y' : Int} (h : InN a b c x y) (h' : InN a b c x' y') : InN a b c (x - x') (y - y') := by
  obtain ⟨m, k, h1, h2⟩ := h
  obtain ⟨m', k', h3, h4⟩ := h'
  exact ⟨m - m', k - k', by grind, by grind⟩
theorem inN_zero {a b c : Int} : InN a b c 0 0 := ⟨0, 0, by grind, by grind⟩
theorem inN_mul {a b c x y : Int} (n : Int) (h : InN a b c x y) : InN a b c (n * x) (n * y) := by
  obtain ⟨m, k, h1, h2⟩ := h
  exact ⟨n * m, n * k, by grind, by grind⟩
theorem low_in (a b c x y : Int) : InN a b c (x - (low a b c x y).1) (y - (low a b c x y).2) := by
  refine ⟨(x - y / c * b) / a, y / c, ?_, ?_⟩
  · show x - (x - y / c * b) % a = _
    have := Int.emod_add_mul_ediv (x - y / c * b) a
    grind
  · show y - (y - y / c * c) = _
    grind
theorem low_rng {a b c x y : Int} (ha : 0 < a) (hc : 0 < c) : 0 ≤ (low a b c x y).1 ∧ (low a b c x y).1 < a ∧ 0 ≤ (low a b c x y).2 ∧ (low a b c x y).2 < c := by
  have h1 := Int.emod_nonneg (x - y / c * b) (show a ≠ 0 by omega)
  have h2 := Int.emod_lt_of_pos (x - y / c * b) ha
  have h3 := Int.emod_nonneg y (show c ≠ 0 by omega)
  have h4 := Int.emod_lt_of_pos y hc
  have h5 := Int.emod_add_mul_ediv y c
  have e : y - y / c * c = y % c := by grind
  refine ⟨h1, h2, ?_, ?_⟩
  · show 0 ≤ y - y / c * c
    omega
  · show y - y / c * c < c
    omega
/-- within the cell only (0, 0) belongs to the net -/
theorem in_cell {a b c x y : Int} (ha : 0 < a) (hc : 0 < c) (h : InN a b c x y) (hx : -a < x ∧ x < a) (hy : -c < y ∧ y < c) : x = 0 ∧ y = 0 := by
  obtain ⟨m, k, h1, h2⟩ := h
  have hk : k = 0 := by
    rcases Int.lt_trichotomy k 0 with z | z | z
    · have : k * c ≤ -1 * c := Int.mul_le_mul_of_nonneg_right (by omega) (by omega)
      omega
    · exact z
    · have : 1 * c ≤ k * c := Int.mul_le_mul_of_nonneg_right (by omega) (by omega)
      omega
  subst hk
  have hm : m = 0 := by
    rcases Int.lt_trichotomy m 0 with z | z | z
    · have : m * a ≤ -1 * a := Int.mul_le_mul_of_nonneg_right (by omega) (by omega)
      omega
    · exact z
    · have : 1 * a ≤ m * a := Int.mul_le_mul_of_nonneg_right (by omega) (by omega)
      omega
  subst hm
  exact ⟨by omega, by omega⟩
/-- two places have the same place of the cell exactly if they differ by a shift -/
theorem low_eq {a b c x y x' y' : Int} (ha : 0 < a) (hc : 0 < c) : low a b c x y = low a b c x' y' ↔ InN a b c (x - x') (y - y') := by
  have h1 := low_in a b c x y
  have h2 := low_in a b c x' y'
  have r1 := low_rng (b := b) (x := x) (y := y) ha hc
  have r2 := low_rng (b := b) (x := x') (y := y') ha hc
  constructor
  · intro e
    rw [e] at h1
    have := inN_sub h1 h2
    have e1 : x - (low a b c x' y').1 - (x' - (low a b c x' y').1) = x - x' := by omega
    have e2 : y - (low a b c x' y').2 - (y' - (low a b c x' y').2) = y - y' := by omega
    rw [e1, e2] at this
    exact this
  · intro h
    have h3 := inN_sub (inN_sub h h1) (inN_neg h2)
    have e1 : x - x' - (x - (low a b c x y).1) - -(x' - (low a b c x' y').1) = (low a b c x y).1 - (low a b c x' y').1 := by omega
    have e2 : y - y' - (y - (low a b c x y).2) - -(y' - (low a b c x' y').2) = (low a b c x y).2 - (low a b c x' y').2 := by omega
    rw [e1, e2] at h3
    obtain ⟨z1, z2⟩ := in_cell ha hc h3 (by omega) (by omega)
    exact Prod.ext (by omega) (by omega)
theorem low_zero {a b c x y : Int} (ha : 0 < a) (hc : 0 < c) : low a b c x y = (0, 0) ↔ InN a b c x y := by
  have e : low a b c 0 0 = (0, 0) := by simp [low]
  rw [← e, low_eq ha hc]
  simp
theorem low_self {a b c x y : Int} (hx : 0 ≤ x ∧ x < a) (hy : 0 ≤ y ∧ y < c) : low a b c x y = (x, y) := by
  have h : y / c = 0 := Int.ediv_eq_zero_of_lt hy.1 hy.2
  unfold low
  rw [h]
  have : (x - 0 * b) % a = x := by rw [show x - 0 * b = x by omega]; exact Int.emod_eq_of_lt hx.1 hx.2
  rw [this]
  simp
/-! ### the order of a shift -/
theorem dvd_gcd {c y n : Int} (hc : 0 < c) : c ∣ n * y ↔ (c / (Int.gcd c y : Int)) ∣ n := by
  have g0 : (Int.gcd c y : Int) ≠ 0 := by
    have := Int.gcd_pos_of_ne_zero_left y (show c ≠ 0 by omega)
    omega
  have e : (Int.gcd c y : Int) * (c / (Int.gcd c y : Int)) = c := Int.mul_ediv_cancel' (Int.gcd_dvd_left c y)
  have h := Int.mul_dvd_mul_iff_left (b := c / (Int.gcd c y : Int)) (c := n) g0
  rw [e] at h
  rw [Int.mul_comm n y, ← Int.dvd_gcd_mul_iff_dvd_mul, h]
def rowsZ (c y : Int) : Int := c / (Int.gcd c y : Int)
def rightZ (b c x y : Int) : Int := rowsZ c y * x - rowsZ c y * y / c * b
def orderZ (a b c x y : Int) : Int := rowsZ c y * (a / (Int.gcd a (rightZ b c x y) : Int))
theorem rows_pos {c y : Int} (hc : 0 < c) : 0 < rowsZ c y := by
  have g0 := Int.gcd_pos_of_ne_zero_left y (show c ≠ 0 by omega)
  have e : (Int.gcd c y : Int) * (c / (Int.gcd c y : Int)) = c := Int.mul_ediv_cancel' (Int.gcd_dvd_left c y)
  unfold rowsZ
  rcases Int.lt_trichotomy (c / (Int.gcd c y : Int)) 0 with z | z | z
  · have : (Int.gcd c y : Int) * (c / (Int.gcd c y : Int)) < 0 := Int.mul_neg_of_pos_of_neg (by omega) z
    omega
  · rw [z] at e; omega
  · exact z
theorem order_pos {a b c x y : Int} (ha : 0 < a) (hc : 0 < c) : 0 < orderZ a b c x y := Int.mul_pos (rows_pos hc) (rows_pos (y := rightZ b c x y) ha)
theorem rows_dvd {c y : Int} (hc : 0 < c) : rowsZ c y ∣ c := ⟨(Int.gcd c y : Int), (Int.ediv_mul_cancel (Int.gcd_dvd_left c y)).symm⟩
theorem order_dvd {a b c x y : Int} (ha : 0 < a) (hc : 0 < c) : orderZ a b c x y ∣ a * c := by
  rw [Int.mul_comm a c]
  exact Int.mul_dvd_mul (rows_dvd hc) (rows_dvd (y := rightZ b c x y) ha)
theorem inN_iff {a b c x y : Int} (hc : 0 < c) : InN a b c x y ↔ c ∣ y ∧ a ∣ x - y / c * b := by
  constructor
  · rintro ⟨m, k, h1, h2⟩
    have : y / c = k := by rw [h2]; exact Int.mul_ediv_cancel k (by omega)
    refine ⟨⟨k, by rw [h2, Int.mul_comm]⟩, m, ?_⟩
    rw [this]
    grind
  · rintro ⟨⟨k, h1⟩, m, h2⟩
    have : y / c = k := by rw [h1]; exact Int.mul_ediv_cancel_left k (by omega)
    rw [this] at h2
    exact ⟨m, k, by grind, by grind⟩
theorem order_iff {a b c x y : Int} (ha : 0 < a) (hc : 0 < c) (n : Int) : InN a b c (n * x) (n * y) ↔ orderZ a b c x y ∣ n := by
  have r0 := rows_pos (y := y) hc
  have key : ∀ m : Int, a ∣ rowsZ c y * m * x - rowsZ c y * m * y / c * b ↔ (a / (Int.gcd a (rightZ b c x y) : Int)) ∣ m := by
    intro m
    have hr : c ∣ rowsZ c y * y := (dvd_gcd hc).mpr (Int.dvd_refl _)
    have e : rowsZ c y * m * x - rowsZ c y * m * y / c * b = m * rightZ b c x y := by
      have e1 : rowsZ c y * m * y / c = m * (rowsZ c y * y / c) := by
        rw [show rowsZ c y * m * y = m * (rowsZ c y * y) by grind]
        exact Int.mul_ediv_assoc m hr
      rw [e1]
      unfold rightZ
      grind
    rw [e]
    exact dvd_gcd ha
  rw [inN_iff hc]
  constructor
  · rintro ⟨h1, h2⟩
    obtain ⟨m, rfl⟩ := (dvd_gcd hc).mp h1
    have h3 : a ∣ rowsZ c y * m * x - rowsZ c y * m * y / c * b := h2
    exact Int.mul_dvd_mul (Int.dvd_refl _) ((key m).mp h3)
  · rintro ⟨m, rfl⟩
    have hm : orderZ a b c x y * m = rowsZ c y * (a / (Int.gcd a (rightZ b c x y) : Int) * m) := by unfold orderZ; grind
    rw [hm]
    exact ⟨(dvd_gcd hc).mpr ⟨_, rfl⟩, (key _).mpr ⟨m, rfl⟩⟩
theorem order_neg {a b c x y : Int} (ha : 0 < a) (hc : 0 < c) : orderZ a b c (-x) (-y) = orderZ a b c x y := by
  have p1 := order_pos (b := b) (x := x) (y := y) ha hc
  have p2 := order_pos (b := b) (x := -x) (y := -y) ha hc
  have key : ∀ n : Int, orderZ a b c (-x) (-y) ∣ n ↔ orderZ a b c x y ∣ n := by
    intro n
    rw [← order_iff ha hc, ← order_iff ha hc]
    constructor
    · intro h
      have := inN_neg h
      rw [show -(n * -x) = n * x by grind, show -(n * -y) = n * y by grind] at this
      exact this
    · intro h
      have := inN_neg h
      rw [show -(n * x) = n * -x by grind, show -(n * y) = n * -y by grind] at this
      exact this
  have h1 := Int.le_of_dvd p1 ((key _).mpr (Int.dvd_refl _))
  have h2 := Int.le_of_dvd p2 ((key _).mp (Int.dvd_refl _))
  omega
theorem scaled_in {a b c f : Int} (ha : 0 < a) (hc : 0 < c) (hf : 0 < f) (h1 : 1 < a) : ¬ InN (a * f) (b * f) (c * f) f 0 := by
  rintro ⟨m, k, e1, e2⟩
  have h0 : 0 < c * f := Int.mul_pos hc hf
  have k0 : k = 0 := by
    rcases Int.mul_eq_zero.mp e2.symm with h | h
    · exact h
    · omega
  subst k0
  have e3 : (m * a) * f = 1 * f := by grind
  have e4 := Int.eq_of_mul_eq_mul_right (by omega) e3
  have := Int.le_of_dvd (by omega) (⟨m, by grind⟩ : a ∣ 1)
  omega
theorem scaled_order {a b c f : Int} (ha : 0 < a) (hc : 0 < c) (hf : 0 < f) : orderZ (a * f) (b * f) (c * f) a 0 = f := by
  have h0 : 0 < c * f := Int.mul_pos hc hf
  have h1 : 0 < a * f := Int.mul_pos ha hf
  have key : ∀ n, orderZ (a * f) (b * f) (c * f) a 0 ∣ n ↔ f ∣ n := by
    intro n
    rw [← order_iff h1 h0]
    constructor
    · rintro ⟨m, k, e1, e2⟩
      have k0 : k = 0 := by
        rcases Int.mul_eq_zero.mp (show k * (c * f) = 0 by omega) with h | h
        · exact h
        · omega
      subst k0
      have e3 : n * a = (f * m) * a := by grind
      exact ⟨m, Int.eq_of_mul_eq_mul_right (by omega) e3⟩
    · rintro ⟨m, rfl⟩
      exact ⟨m, 0, by grind, by grind⟩
  exact Int.dvd_antisymm (Int.le_of_lt (order_pos h1 h0)) (Int.le_of_lt hf) ((key f).mpr (Int.dvd_refl f)) ((key _).mp (Int.dvd_refl _))
end MN
namespace Z
open PySem PySem.Spec PyProof.Rows L2
/-! ### sizes -/
def Sz (n : Nat) (x : Int) : Prop := x.natAbs < 2 ^ n
theorem Sz.mono {a b : Nat} {x : Int} (h : Sz a x) (hl : a ≤ b) : Sz b x := Nat.lt_of_lt_of_le h (Nat.pow_le_pow_right (by decide) hl)
theorem sz_mul {a b : Nat} {x y : Int} (h : Sz a x) (h' : Sz b y) : Sz (a + b) (x * y) := wide_lt h h'
theorem sz_add {a : Nat} {x y : Int} (h : Sz a x) (h' : Sz a y) : Sz (a + 1) (x + y) := by
  have h1 := Int.natAbs_add_le x y
  have h2 : x.natAbs < 2 ^ a := h
  have h3 : y.natAbs < 2 ^ a := h'
  show (x + y).natAbs < 2 ^ (a + 1)
  rw [Nat.pow_succ]
  omega
theorem sz_neg {a : Nat} {x : Int} (h : Sz a x) : Sz a (-x) := by
  show (-x).natAbs < 2 ^ a
  rw [Int.natAbs_neg]
  exact h
theorem sz_sub {a : Nat} {x y : Int} (h : Sz a x) (h' : Sz a y) : Sz (a + 1) (x - y) := by
  rw [Int.sub_eq_add_neg]
  exact sz_add h (sz_neg h')
theorem sz_div {a : Nat} {x : Int} (y : Int) (h : Sz a x) : Sz a (x / y) := Nat.lt_of_le_of_lt (Int.natAbs_ediv_le_natAbs x y) h
theorem sz_le {a : Nat} {x y : Int} (h0 : 0 ≤ x) (h1 : x ≤ y) (h : Sz a y) : Sz a x := Nat.lt_of_le_of_lt (by omega) h
theorem sz_mod {a : Nat} {x y : Int} (h : Sz a y) (hy : 0 < y) : Sz a (x % y) := sz_le (Int.emod_nonneg x (by omega)) (Int.le_of_lt (Int.emod_lt_of_pos x hy)) h
theorem mulOk {x y : Int} (h : Sz 5000 x) (h' : Sz 5000 y) : CMulW x y := wide_mul h h' (by decide) (by decide) (by decide)
theorem divOk {x y : Int} (h : 0 < y) (h' : Sz 5000 y) : CDivW x y := wide_div h h' (by decide) (by decide)
theorem sz_of {x b : Int} {n : Nat} (h0 : -b < x) (h1 : x < b) (hb : Sz n b) : Sz n x := Nat.lt_of_le_of_lt (by omega) hb
/-! ### tuples of ints compared -/
section
variable {K : Frg} {H : Hp} {p q : Addr} {a b c d e f : Int} {Q : VK}
theorem eq_T2 : PyData.eqv (.tuple [.int a, .int b]) (.tuple [.int c, .int d]) = decide (a = c ∧ b = d) := by
  simp only [PyData.eqv, PyData.eqvAll, Bool.and_true]
  by_cases h1 : a = c <;> by_cases h2 : b = d <;> simp [h1, h2]
theorem eq_T3 : PyData.eqv (.tuple [.int a, .int b, .int c]) (.tuple [.int d, .int e, .int f]) = decide (a = d ∧ b = e ∧ c = f) := by
  simp only [PyData.eqv, PyData.eqvAll, Bool.and_true]
  by_cases h1 : a = d <;> by_cases h2 : b = e <;> by_cases h3 : c = f <;> simp [h1, h2, h3]
theorem dp2 (h : SqT K H p [.int a, .int b]) : Dp K H (.ref p) (.tuple [.int a, .int b]) := .tup h (.cons (.int a) (.cons (.int b) .nil))
theorem dp3 (h : SqT K H p [.int a, .int b, .int c]) : Dp K H (.ref p) (.tuple [.int a, .int b, .int c]) := .tup h (.cons (.int a) (.cons (.int b) (.cons (.int c) .nil)))
theorem sh2 : SeqAt.shaped (.tuple [.int a, .int b]) = true := by rfl
theorem sh3 : SeqAt.shaped (.tuple [.int a, .int b, .int c]) = true := by rfl
theorem rEqT2 (h : SqT K H p [.int a, .int b]) (h' : SqT K H q [.int c, .int d]) (k : Q (.bl (decide (a = c ∧ b = d))) H) : rEqD K (.ref p) (.ref q) H Q := ⟨_, _, dp2 h, dp2 h', sh2, sh2, by rw [eq_T2]; exact k⟩
theorem rNeT2 (h : SqT K H p [.int a, .int b]) (h' : SqT K H q [.int c, .int d]) (k : Q (.bl (!decide (a = c ∧ b = d))) H) : rNeD K (.ref p) (.ref q) H Q := ⟨_, _, dp2 h, dp2 h', sh2, sh2, by rw [eq_T2]; exact k⟩
theorem rEqT3 (h : SqT K H p [.int a, .int b, .int c]) (h' : SqT K H q [.int d, .int e, .int f]) (k : Q (.bl (decide (a = d ∧ b = e ∧ c = f))) H) : rEqD K (.ref p) (.ref q) H Q := ⟨_, _, dp3 h, dp3 h', sh3, sh3, by rw [eq_T3]; exact k⟩
theorem rNeT3 (h : SqT K H p [.int a, .int b, .int c]) (h' : SqT K H q [.int d, .int e, .int f]) (k : Q (.bl (!decide (a = d ∧ b = e ∧ c = f))) H) : rNeD K (.ref p) (.ref q) H Q := ⟨_, _, dp3 h, dp3 h', sh3, sh3, by rw [eq_T3]; exact k⟩
end
/-! ### nets -/
def netF (q : Addr) : List (Str × V) := [("own_numbers", .ref q)]
structure NetIs (C : Addr) (F : Hp) (x : Addr) (a b c : Int) : Prop where
  at_ : ∃ dx q, F x = some (.ins C dx (netF q)) ∧ F q = some (.tup [.int a, .int b, .int c])
  hc : 1 ≤ c
  hb : 0 ≤ b
  ba : b < a
  sa : Sz 1000 a
  sc : Sz 1000 c
theorem NetIs.mono {C : Addr} {F H : Hp} {x : Addr} {a b c : Int} (n : NetIs C F x a b c) (s : Same F H) : NetIs C H x a b c := by
  obtain ⟨⟨dx, q, h1, h2⟩, r1, r2, r3, r4, r5⟩ := n
  exact ⟨⟨dx, q, s _ _ h1, s _ _ h2⟩, r1, r2, r3, r4, r5⟩
theorem NetIs.sb {C : Addr} {F : Hp} {x : Addr} {a b c : Int} (n : NetIs C F x a b c) : Sz 1000 b := sz_le n.hb (Int.le_of_lt n.ba) n.sa
theorem NetIs.ha {C : Addr} {F : Hp} {x : Addr} {a b c : Int} (n : NetIs C F x a b c) : 0 < a := by have := n.hb; have := n.ba; omega
def spNetInit (C : Addr) : Sp := Sp4 fun s u v w H Q _ => ∃ F x dx a b c, s = .ref x ∧ u = .int a ∧ v = .int b ∧ w = .int c ∧ Same F H ∧ F x = none ∧ H x = some (.ins C dx []) ∧ 1 ≤ c ∧ 0 ≤ b ∧ b < a ∧
  ∀ F' H' q, Go [x] F H F' H' → F' x = none → H' x = some (.ins C dx (netF q)) → F' q = some (.tup [.int a, .int b, .int c]) → Q .non H'
def spNetMk (C : Addr) : Sp := Sp3 fun u v w H Q _ => ∃ F a b c, u = .int a ∧ v = .int b ∧ w = .int c ∧ Same F H ∧ 1 ≤ c ∧ 0 ≤ b ∧ b < a ∧ Sz 1000 a ∧ Sz 1000 c ∧ ∀ x F' H', Go [] F H F' H' → NetIs C F' x a b c → Q (.ref x) H'
theorem mkNet {C : Addr} {E : XK} (vs : List V) (H : Hp) (Q : VK) (h : spNetMk C vs H Q E) : ∀ x dx, H x = none → H dx = none → dx ≠ x → spNetInit C (.ref x :: vs) (upd (upd H dx (.own x)) x (.ins C dx [])) (fun v H2 => v = .non ∧ Q (.ref x) H2) E := by
  obtain ⟨_, _, _, rfl, F, a, b, c, rfl, rfl, rfl, hs, hc, hb, ba, sa, sc, k⟩ := h
  intro x dx nx nd ne
  have g1 : Go [] F H F (upd H dx (.own x)) := Go.newM hs nd
  have nx1 : (upd H dx (.own x)) x = none := by rw [upd_ne (Ne.symm ne)]; exact nx
  have g2 : Go [] F (upd H dx (.own x)) F (upd (upd H dx (.own x)) x (.ins C dx [])) := Go.newM g1.fh nx1
  have fx : F x = none := same_none hs nx
  refine ⟨_, _, _, _, rfl, F, x, dx, a, b, c, rfl, rfl, rfl, rfl, g2.fh, fx, upd_same, hc, hb, ba, fun F' H' q g3 fx' hx' hq => ⟨rfl, ?_⟩⟩
  have g4 : Go [x] F' H' (upd F' x (.ins C dx (netF q))) H' := Go.freeze g3.fh fx' hx'
  have g5 : Go [x] F H (upd F' x (.ins C dx (netF q))) H' := ((g1.trans g2).nil.trans g3).trans g4
  exact k x _ H' (g5.drop nx) ⟨⟨dx, q, upd_same, g4.ff _ _ hq⟩, hc, hb, ba, sa, sc⟩
def spNumbers (C : Addr) : Sp := Sp1 fun s H Q _ => ∃ F x a b c, s = .ref x ∧ Same F H ∧ NetIs C F x a b c ∧ ∀ q, F q = some (.tup [.int a, .int b, .int c]) → Q (.ref q) H
def spSize (C : Addr) : Sp := Sp1 fun s H Q _ => ∃ x a b c, s = .ref x ∧ NetIs C H x a b c ∧ Q (.int (a * c)) H
def spSpan (C : Addr) : Sp := Sp1 fun s H Q _ => ∃ F x a b c, s = .ref x ∧ Same F H ∧ NetIs C F x a b c ∧ ∀ l p1 p2 F' H', Go [] F H F' H' → F' l = some (.lst [.ref p1, .ref p2]) → F' p1 = some (.tup [.int a, .int 0]) → F' p2 = some (.tup [.int b, .int c]) → Q (.ref l) H'
def spCell (K : Frg) (C : Addr) : Sp := Sp2 fun s p H Q _ => ∃ F x a b c pl px py, s = .ref x ∧ p = .ref pl ∧ Same F H ∧ NetIs C F x a b c ∧ SqT K F pl [.int px, .int py] ∧ Sz 2000 px ∧ Sz 2000 py ∧
  ∀ r F' H', Go [] F H F' H' → F' r = some (.tup [.int (MN.low a b c px py).1, .int (MN.low a b c px py).2]) → Q (.ref r) H'
def InQ (K : Frg) (F : Hp) (a b c : Int) (v : V) (r : Bool) : Prop := (PlaceQ K F v false ∧ r = false) ∨ ∃ p x y, v = .ref p ∧ SqT K F p [.int x, .int y] ∧ Sz 2000 x ∧ Sz 2000 y ∧ r = decide (MN.low a b c x y = (0, 0))
def spContains (K : Frg) (C : Addr) : Sp := Sp2 fun s v H Q _ => ∃ F x a b c r, s = .ref x ∧ Same F H ∧ NetIs C F x a b c ∧ InQ K F a b c v r ∧ ∀ F' H', Go [] F H F' H' → Q (.bl r) H'
def EqQ (K : Frg) (C : Addr) (H : Hp) (a b c : Int) (v : V) (r : Bool) : Prop := (∃ t, TyX K H v t ∧ PySem.W.kitOne K t (.ref C) = some false ∧ r = false) ∨ ∃ y a' b' c', v = .ref y ∧ NetIs C H y a' b' c' ∧ r = decide (a = a' ∧ b = b' ∧ c = c')
def spEqN (K : Frg) (C : Addr) : Sp := Sp2 fun s v H Q _ => ∃ x a b c r, s = .ref x ∧ NetIs C H x a b c ∧ EqQ K C H a b c v r ∧ Q (.bl r) H
def spOrder (K : Frg) (C : Addr) : Sp := Sp2 fun s p H Q _ => ∃ F x a b c pl px py, s = .ref x ∧ p = .ref pl ∧ Same F H ∧ NetIs C F x a b c ∧ SqT K F pl [.int px, .int py] ∧ Sz 1000 px ∧ Sz 1000 py ∧
  ∀ F' H', Go [] F H F' H' → Q (.int (MN.orderZ a b c px py)) H'
def spWithin (C : Addr) : Sp := Sp2 fun s o H Q _ => ∃ F x a b c y p q r, s = .ref x ∧ o = .ref y ∧ Same F H ∧ NetIs C F x a b c ∧ NetIs C F y p q r ∧
  ∀ F' H', Go [] F H F' H' → Q (.bl (decide (MN.low p q r a 0 = (0, 0)) && decide (MN.low p q r b c = (0, 0)))) H'
def spScaled (C : Addr) : Sp := Sp2 fun s v H Q _ => ∃ F x a b c f, s = .ref x ∧ v = .int f ∧ Same F H ∧ NetIs C F x a b c ∧ 1 ≤ f ∧ Sz 1000 (a * f) ∧ Sz 1000 (c * f) ∧ Sz 1000 f ∧
  ∀ y F' H', Go [] F H F' H' → NetIs C F' y (a * f) (b * f) (c * f) → Q (.ref y) H'
end Z
namespace Z
open PySem PySem.Spec PyProof.Rows L2
/-- the tape: a list that changes -/
def TapeV (K : Frg) (F : Hp) (xs : List V) : Prop := ∃ (c : Addr) (ns : List Int) (i b r : Int), xs = [.ref c, .int i, .int b, .int r] ∧ SqL K F c (ns.map V.int) ∧ 0 ≤ i ∧ 0 ≤ b ∧ 0 ≤ r ∧ r < 2147483647
structure Tape (K : Frg) (F H : Hp) (t : Addr) : Prop where
  fr : F t = none
  at_ : ∃ xs, H t = some (.lst xs) ∧ TapeV K F xs
theorem Tape.go {K : Frg} {F H F' H' : Hp} {t : Addr} {ms : List Addr} (x : Tape K F H t) (g : Go ms F H F' H') (hm : t ∉ ms) : Tape K F' H' t := by
  obtain ⟨h1, xs, h2, c, ns, i, b, r, e, h3, h4⟩ := x
  obtain ⟨a1, a2⟩ := g.mu t _ hm h1 h2
  exact ⟨a1, xs, a2, c, ns, i, b, r, e, sqL g.ff h3, h4⟩
theorem Tape.go0 {K : Frg} {F H F' H' : Hp} {t : Addr} (x : Tape K F H t) (g : Go [] F H F' H') : Tape K F' H' t := x.go g (by simp)
theorem Tape.ne {K : Frg} {F H : Hp} {t : Addr} (x : Tape K F H t) : H t ≠ none := by
  obtain ⟨_, xs, h, _⟩ := x
  rw [h]
  exact fun z => nomatch z
def spDraw (K : Frg) : Sp := Sp2 fun a b H Q _ => ∃ F t many, a = .ref t ∧ b = .int many ∧ Same F H ∧ Tape K F H t ∧ 0 < many ∧ many.natAbs.log2 < 9000 ∧
  ∀ d H', 0 ≤ d → d < many → Go [t] F H F H' → Tape K F H' t → Q (.int d) H'
def spTape (K : Frg) : Sp := Sp1 fun a H Q _ => ∃ (F : Hp) (s : Addr) (ns : List Int), a = .ref s ∧ Same F H ∧ SqL K F s (ns.map V.int) ∧ ∀ t F' H', Go [] F H F' H' → Tape K F' H' t → Q (.ref t) H'
def spGreat (K : Frg) : Sp := Sp2 fun a b H Q _ => ∃ F t size, a = .ref t ∧ b = .int size ∧ Same F H ∧ Tape K F H t ∧ 60 ≤ size ∧ Sz 1000 size ∧
  ∀ d F' H', -size < d → d < size → Go [t] F H F' H' → Tape K F' H' t → Q (.int d) H'
def spPlace (K : Frg) : Sp := Sp1 fun a H Q _ => ∃ F t, a = .ref t ∧ Same F H ∧ Tape K F H t ∧
  ∀ p x y F' H', Go [t] F H F' H' → Tape K F' H' t → F' p = some (.tup [.int x, .int y]) → Sz 100 x → Sz 100 y → Q (.ref p) H'
def spLow (K : Frg) : Sp := Sp2 fun n p H Q _ => ∃ F nl pl a b c x y, n = .ref nl ∧ p = .ref pl ∧ Same F H ∧ SqT K F nl [.int a, .int b, .int c] ∧ SqT K F pl [.int x, .int y] ∧ 1 ≤ c ∧ 0 ≤ b ∧ b < a ∧ Sz 1000 a ∧ Sz 1000 c ∧ Sz 2000 x ∧ Sz 2000 y ∧
  ∀ r F' H', Go [] F H F' H' → F' r = some (.tup [.int (MN.low a b c x y).1, .int (MN.low a b c x y).2]) → Q (.ref r) H'
def spNet (K : Frg) : Sp := Sp2 fun a b H Q _ => ∃ F t most, a = .ref t ∧ b = .int most ∧ Same F H ∧ Tape K F H t ∧ 0 < most ∧ Sz 1000 most ∧
  ∀ p a b c F' H', Go [t] F H F' H' → Tape K F' H' t → F' p = some (.tup [.int a, .int b, .int c]) → 0 ≤ b → b < a → 1 ≤ c → a * c ≤ most → Q (.ref p) H'
theorem sz_lit {n : Nat} {x : Int} (h : Nat.blt x.natAbs (2 ^ n) = true) : Sz n x := Nat.le_of_ble_eq_true h
theorem szLog {x : Int} (h : Sz 8000 x) : x.natAbs.log2 < 9000 := Nat.lt_of_lt_of_le (PySem.Flt.log2_lt_of (by decide) h) (by decide)
theorem atI_mem {xs : List V} {k : Int} (h0 : 0 ≤ k) (h1 : k < xs.length) : ∃ v, atI xs k = some v ∧ v ∈ xs := by
  obtain ⟨j, rfl⟩ := Int.eq_ofNat_of_zero_le h0
  have hj : j < xs.length := by omega
  exact ⟨xs[j], atI_nat (List.getElem?_eq_getElem hj), List.getElem_mem hj⟩
theorem cut_ints (ns : List Int) (lo hi : Option Int) : ∃ ms : List Int, cutV (ns.map V.int) lo hi = ms.map V.int := by
  unfold cutV
  rw [← List.map_drop, ← List.map_take]
  exact ⟨_, rfl⟩
def spSteps (K : Frg) : Sp := Sp2 fun n p H Q _ => ∃ F nl pl a b c x y, n = .ref nl ∧ p = .ref pl ∧ Same F H ∧ SqT K F nl [.int a, .int b, .int c] ∧ SqT K F pl [.int x, .int y] ∧ 1 ≤ c ∧ 0 ≤ b ∧ b < a ∧ Sz 1000 a ∧ Sz 1000 c ∧ Sz 2000 x ∧ Sz 2000 y ∧
  ∀ F' H', Go [] F H F' H' → Q (.int (MN.orderZ a b c x y)) H'
theorem ixT {K : Frg} {H : Hp} {p : Addr} {xs : List V} {i : Int} {v : V} {Q : VK} (h : SqT K H p xs) (e : atI xs i = some v) (k : Q v H) : rIxT K (.ref p) (.int i) H Q := ⟨p, xs, i, v, rfl, rfl, h, e, k⟩
theorem ixL {K : Frg} {H : Hp} {p : Addr} {xs : List V} {i : Int} {v : V} {Q : VK} (h : SqL K H p xs) (e : atI xs i = some v) (k : Q v H) : rIxL K (.ref p) (.int i) H Q := ⟨p, xs, i, v, rfl, rfl, h, e, k⟩
end Z
namespace Z
open PySem PySem.Spec PyProof.Rows L2
/-! ### room, with nothing being shown above -/
structure RoomG (k : Nat) (A : Around) : Prop where
  rm : Room k A
  gd : A.guards = some []
theorem RoomG.mono {j k : Nat} {A : Around} (r : RoomG k A) (h : j ≤ k) : RoomG j A := ⟨r.rm.mono h, r.gd⟩
theorem RoomG.deeper {k : Nat} {A : Around} (r : RoomG (k + 1) A) (env : Env) : RoomG k (A.deeper env) := ⟨r.rm.deeper env, r.gd⟩
theorem RoomG.in1 {k : Nat} {A : Around} (r : RoomG (k + 1) A) : RoomG k A.in1 := ⟨r.rm.in1, r.gd⟩
theorem guards_make {A : Around} {C : Addr} {us : List Value} : (A.under (.builtin "type.__call__" ⟨.ref C :: us, []⟩)).guards = A.guards := by
  show pushGuards (Code.guards (.builtin "type.__call__" ⟨.ref C :: us, []⟩)) A.guards = A.guards
  have e : Code.guards (.builtin "type.__call__" ⟨.ref C :: us, []⟩) = [] := by
    unfold Code.guards
    first | rfl | decide +kernel | simp
  rw [e]
  cases A.guards <;> rfl
theorem RoomG.make {k : Nat} {A : Around} (r : RoomG (k + 1) A) (C : Addr) (us : List Value) : RoomG k (A.under (.builtin "type.__call__" ⟨.ref C :: us, []⟩)) := ⟨r.rm.make C us [], by rw [guards_make]; exact r.gd⟩
theorem RoomG.units {k : Nat} {A : Around} (r : RoomG k A) : A.units + 64 < cLine := r.rm.units
/-- a def, called where nothing is being shown -/
def FnG (P : Program) (w : World) (K : Frg) (mg : Str → Option Value) (base : Heap) (CX : CXT) (k : Nat) (f : Addr) (sp : Sp) : Prop :=
  ∀ (A : Around) (outer : List Env) (s : Shared) (H : Hp) (us : List Value) (vs : List V) (Q : VK) (E : XK), RoomG k A → Env0 P w K mg base A outer s H → Vals vs us → sp vs H Q E → codeAny (model P w) A (.call (.ref f) ⟨us, []⟩) (CR CX outer P w H s Q E) s
/-- .. at one such place -/
def FnA (A : Around) (P : Program) (w : World) (K : Frg) (mg : Str → Option Value) (base : Heap) (CX : CXT) (f : Addr) (sp : Sp) : Prop :=
  ∀ (outer : List Env) (s : Shared) (H : Hp) (us : List Value) (vs : List V) (Q : VK) (E : XK), Env0 P w K mg base A outer s H → Vals vs us → sp vs H Q E → codeAny (model P w) A (.call (.ref f) ⟨us, []⟩) (CR CX outer P w H s Q E) s
section
variable {P : Program} {w : World} {K : Frg} {mg : Str → Option Value} {base : Heap} {CX : CXT} {k : Nat} {f : Addr} {sp sp' : Sp} {A : Around}
theorem FnG.at (F : FnG P w K mg base CX k f sp) (hr : RoomG k A) : FnA A P w K mg base CX f sp := fun outer s H us vs Q E => F A outer s H us vs Q E hr
theorem FnG.of (F : FnR P w K mg base CX k f sp) : FnG P w K mg base CX k f sp := fun A outer s H us vs Q E hr => F A outer s H us vs Q E hr.rm
theorem FnG.imp (F : FnG P w K mg base CX k f sp) (h : ∀ vs H Q E, sp' vs H Q E → sp vs H Q E) : FnG P w K mg base CX k f sp' := fun A outer s H us vs Q E hr e0 r hs => F A outer s H us vs Q E hr e0 r (h _ _ _ _ hs)
end
section
variable {X : Cx} {CX : CXT} {k : Nat} {f C p g : Addr} {sp : Sp} {E : XK} {x m : Str} {p0 pos apos : Pos} {e o a b : Expr} {es : List Expr} {ta tb : TE} {t : TA} {pins : List (Addr × Obj)} {σ : L2.St} {H : Hp} {s : Shared}
theorem run_A {A : Around} {Q : VK} {us : List Value} {vs : List V} (F : FnA A X.prog X.w X.K X.mg X.base CX f sp) (e0 : Env0 X.prog X.w X.K X.mg X.base A X.stack s H) (hx : Passes CX X E) (I : L2.Inv X pins σ H s) (r : Vals vs us) (h : sp vs H Q E) :
    codeAny (model X.prog X.w) A (.call (.ref f) ⟨us, []⟩) (fun r s' => match r with | .ok (.ret v) => EP X pins σ Q v s' | .ok _ => False | .error e => X.xe e s') s :=
  codeAny_mono (F X.stack s H us vs Q E e0 r h) fun q s' hq => match q, hq with
    | .error er, hq => hx pins σ H s er s' I hq
    | .ok (.ret _), hq => I.after hq
    | .ok .next, hq => False.elim hq
    | .ok .brk, hq => False.elim hq
    | .ok .cont, hq => False.elim hq
theorem run_fnA {Q : VK} {us : List Value} {vs : List V} (F : FnA X.A X.prog X.w X.K X.mg X.base CX f sp) (hx : Passes CX X E) (I : L2.Inv X pins σ H s) (r : Vals vs us) (h : sp vs H Q E) :
    codeAny (model X.prog X.w) X.A (.call (.ref f) ⟨us, []⟩) (fun r s' => match r with | .ok (.ret v) => EP X pins σ Q v s' | .ok _ => False | .error e => X.xe e s') s := run_A F I.env0 hx I r h
theorem gcall (F : FnA X.A X.prog X.w X.K X.mg X.base CX f sp) (hg : Gl X x) (hm : X.mg x = some (.ref f)) (hk : PySem.W.keepIn X.K (.ref f) = true) (hx : Passes CX X E)
    (ha : PA X (e :: es) t) (hdb : (x == ("__debug__" : Str)) = false := by decide) (he : starEach (e :: es) X.env = (false, eval e X.env) :: starEach es X.env := by rfl) (hpl : (backTo pos (starEach es X.env)).any (·.1) = false := by rfl) :
    PE X (.Call (.Name x p0) (e :: es) [] pos) (tFn sp E t) := by
  refine ⟨fun pins s σ H Q I h => ?_⟩
  refine wpAny_Call_Name_kw (ld_glob I hg hm ?_ hdb)
  refine PySem.W.callWith_K (h₀ := X.base) I.ok.mod.kin hk (thn (ha.run pos pins s σ H _ I h) fun us s1 ⟨vs, H1, I1, r, q⟩ => ⟨I1.kIn, ?_⟩) he hpl
  exact wpAny_call (run_fnA F hx I1 r q)
theorem gcall0 (F : FnA X.A X.prog X.w X.K X.mg X.base CX f sp) (hg : Gl X x) (hm : X.mg x = some (.ref f)) (hk : PySem.W.keepIn X.K (.ref f) = true) (hx : Passes CX X E)
    (hdb : (x == ("__debug__" : Str)) = false := by decide) : PE X (.Call (.Name x p0) [] [] pos) (tFn sp E tNil) := by
  refine ⟨fun pins s σ H Q I h => ?_⟩
  refine wpAny_Call_Name_kw (ld_glob I hg hm ?_ hdb)
  exact PySem.W.callWith_K0 I.kIn hk (wpAny_call (run_fnA (us := []) F hx I .nil h))
theorem gop_in (hs : PySem.W.findIn X.K (.ref C) "__contains__" = some (some (.ref g))) (hf : PySem.W.isFn X.K (.ref g) = true) (F : FnA X.A X.prog X.w X.K X.mg X.base CX g sp) (hx : Passes CX X E) : OpR X (compareOp .In) (rInO false C sp E) := by
  intro pins s σ H x y v u Q I rx ry h
  obtain ⟨a, dx, fs, rfl, ea, q⟩ := h
  cases (show u = Value.ref a from ry)
  obtain ⟨mA, O, _, _, _, _⟩ := ins_get I.hok ea
  obtain ⟨od, J, _⟩ := O.look
  obtain ⟨m, hF⟩ := I.fr
  refine PySem.W.in_K hF I.ok.mod.kin J hs hf ?_
  refine wpAny_mono (wpAny_call (run_fnA (us := [.ref a, v]) (vs := [.ref a, x]) F hx I (.cons rfl (.cons rx .nil)) q)) (fun w s' z => ?_) fun _ _ x => x
  obtain ⟨z', H', I', rz, b, rfl, qz⟩ := z
  cases (show w = Value.bool b from rz)
  exact wpAny_truthy_bool ⟨.bl b, H', I', rfl, qz⟩
theorem gop_nin (hs : PySem.W.findIn X.K (.ref C) "__contains__" = some (some (.ref g))) (hf : PySem.W.isFn X.K (.ref g) = true) (F : FnA X.A X.prog X.w X.K X.mg X.base CX g sp) (hx : Passes CX X E) : OpR X (compareOp .NotIn) (rInO true C sp E) := by
  intro pins s σ H x y v u Q I rx ry h
  obtain ⟨a, dx, fs, rfl, ea, q⟩ := h
  cases (show u = Value.ref a from ry)
  obtain ⟨mA, O, _, _, _, _⟩ := ins_get I.hok ea
  obtain ⟨od, J, _⟩ := O.look
  obtain ⟨m, hF⟩ := I.fr
  refine PySem.W.notIn_K hF I.ok.mod.kin J hs hf ?_
  refine wpAny_mono (wpAny_call (run_fnA (us := [.ref a, v]) (vs := [.ref a, x]) F hx I (.cons rfl (.cons rx .nil)) q)) (fun w s' z => ?_) fun _ _ x => x
  obtain ⟨z', H', I', rz, b, rfl, qz⟩ := z
  cases (show w = Value.bool b from rz)
  exact wpAny_truthy_bool ⟨.bl (!b), H', I', rfl, qz⟩
theorem gop_eq (hs : PySem.W.findIn X.K (.ref C) "__eq__" = some (some (.ref g))) (hf : PySem.W.isFn X.K (.ref g) = true) (F : FnA X.A X.prog X.w X.K X.mg X.base CX g sp) (hu : X.A.units + 64 < cLine) (hx : Passes CX X E) : OpR X (compareOp .Eq) (rEqO false X.K C sp E) := by
  intro pins s σ H x y v u Q I rx ry h
  obtain ⟨a, dx, fs, t, rfl, ea, ty, hn, q⟩ := h
  cases (show v = Value.ref a from rx)
  obtain ⟨mA, O, _, _, _, _⟩ := ins_get I.hok ea
  obtain ⟨od, J, _⟩ := O.look
  obtain ⟨m, hF⟩ := I.fr
  obtain ⟨P, kx, hP, _⟩ := kit_of I ry ty
  refine PySem.W.cmp_K (op := .Eq) (tb := t) (by omega) hF I.ok.mod.kin J (kx.ty _ _ I.kIn hP) hn hs hf ?_
  refine wpAny_mono (wpAny_call (run_fnA (us := [.ref a, u]) (vs := [.ref a, y]) F hx I (.cons rfl (.cons ry .nil)) q)) (fun w s' z => ?_) fun _ _ x => x
  obtain ⟨z', H', I', rz, b, rfl, qz⟩ := z
  cases (show w = Value.bool b from rz)
  exact ⟨.bl b, H', I', rfl, qz⟩
theorem gop_ne (hne : PySem.W.findIn X.K (.ref C) "__ne__" = some (some (.builtin "object.__ne__"))) (hsub : PySem.W.mroIn X.K C (.type "object") = some true) (hs : PySem.W.findIn X.K (.ref C) "__eq__" = some (some (.ref g))) (hf : PySem.W.isFn X.K (.ref g) = true)
    (F : FnA X.A.in1 X.prog X.w X.K X.mg X.base CX g sp) (hu : X.A.units + 64 < cLine) (hx : Passes CX X E) : OpR X (compareOp .NotEq) (rEqO true X.K C sp E) := by
  intro pins s σ H x y v u Q I rx ry h
  obtain ⟨a, dx, fs, t, rfl, ea, ty, hn, q⟩ := h
  cases (show v = Value.ref a from rx)
  obtain ⟨mA, O, _, _, _, _⟩ := ins_get I.hok ea
  obtain ⟨od, J, _⟩ := O.look
  obtain ⟨P, kx, hP, _⟩ := kit_of I ry ty
  have one : wpAny (model X.prog X.w) X.A (tryCompare (.ref a) "__ne__" u) (fun r s' => ∃ b, r = some b ∧ EP X pins σ Q b s') X.xe s := by
    refine ne_try (by omega) I.kIn J hne hsub hs hf ?_
    refine codeAny_mono (run_A (us := [.ref a, u]) (vs := [.ref a, y]) F I.env0.in1 hx I (.cons rfl (.cons ry .nil)) q) fun r s' z => ?_
    cases r with
    | error e => exact z
    | ok fl =>
      cases fl with
      | ret w =>
        obtain ⟨z', H', I', rz, b, rfl, qz⟩ := z
        cases (show w = Value.bool b from rz)
        exact ⟨b, rfl, _, rfl, .bl (!b), H', I', rfl, qz⟩
      | next => exact z
      | brk => exact z
      | cont => exact z
  show wpAny (model X.prog X.w) X.A (richCompare .NotEq (.ref a) u) (EP X pins σ Q) X.xe s
  unfold richCompare
  simp only [oneThing_ref]
  refine wpAny_holding (wpAny_bind (wpAny_cRoomFor (by omega) ?_))
  refine wpAny_bind (J.type.here (wpAny_bind ((kx.ty _ _ I.kIn hP).here ?_)))
  split
  · rename_i q
    have e : PySem.W.subIn X.K t (.ref C) = some false := by
      rcases Bool.or_eq_true_iff.mp hn with e | e
      · rw [beq_iff_eq.mp e] at q; simp at q
      · exact beq_iff_eq.mp e
    refine wpAny_bind ((PySem.W.looks_subIn I.kIn e).here ?_)
    simp only [Bool.false_eq_true, if_false]
    refine wpAny_bind (wpAny_mono one (fun r s' z => ?_) fun _ _ e => e)
    obtain ⟨v, rfl, hq⟩ := z
    exact wpAny_pure hq
  · refine wpAny_bind (wpAny_pure ?_)
    simp only [Bool.false_eq_true, if_false]
    refine wpAny_bind (wpAny_mono one (fun r s' z => ?_) fun _ _ e => e)
    obtain ⟨v, rfl, hq⟩ := z
    exact wpAny_pure hq
theorem gop_bin {op : Operator} (hc : PySem.W.selfFirst X.K C = true) (hs : PySem.W.findIn X.K (.ref C) (PySem.dunder op.info.2) = some (some (.ref g))) (hf : PySem.W.isFn X.K (.ref g) = true)
    (F : FnA X.A X.prog X.w X.K X.mg X.base CX g sp) (hx : Passes CX X E) : OpR X (binaryOp op) (rBinO C sp E) := by
  intro pins s σ H x y v u Q I rx ry h
  obtain ⟨a, dx, fs, b, dy, gs, rfl, rfl, ea, eb, q⟩ := h
  cases (show v = Value.ref a from rx)
  cases (show u = Value.ref b from ry)
  obtain ⟨mA, O, _, _, _, _⟩ := ins_get I.hok ea
  obtain ⟨od, J, _⟩ := O.look
  obtain ⟨mB, O', _, _, _, _⟩ := ins_get I.hok eb
  obtain ⟨od', J', _⟩ := O'.look
  obtain ⟨m, hF⟩ := I.fr
  refine PySem.W.binop_K hF I.ok.mod.kin J J'.type hc hs hf ?_
  refine wpAny_mono (wpAny_call (run_fnA (us := [.ref a, .ref b]) (vs := [.ref a, .ref b]) F hx I (.cons rfl (.cons rfl .nil)) q)) (fun w s' z => ?_) fun _ _ x => x
  obtain ⟨z', H', I', rz, qz⟩ := z
  exact SlX.cmpback rz ⟨z', H', I', rz, qz⟩
/-- making an instance -/
theorem run_makeG {Q : VK} {us : List Value} {vs : List V} (M : Mk X.K C f) (F : FnG X.prog X.w X.K X.mg X.base CX k f sp) (hr : RoomG (k + 1) X.A) (hx : Passes CX X E) (I : L2.Inv X pins σ H s) (r : Vals vs us)
    (h : ∀ x dx, H x = none → H dx = none → dx ≠ x → sp (V.ref x :: vs) (upd (upd H dx (.own x)) x (.ins C dx [])) (fun v H2 => v = .non ∧ Q (.ref x) H2) E) :
    wpAny (model X.prog X.w) X.A (call (.ref C) us) (EP X pins σ Q) X.xe s := by
  have J := Inv.made (C := C) I
  have hq := h (s.heap.objs.size + 1) s.heap.objs.size (I.hok.fresh (Nat.le_succ _)) (I.hok.fresh (Nat.le_refl _)) (Nat.ne_of_lt (Nat.lt_succ_self _))
  have run := F _ X.stack _ _ (.ref (s.heap.objs.size + 1) :: us) (.ref (s.heap.objs.size + 1) :: vs) _ E (hr.make C us) (J.env0.make C us []) (.cons rfl r) hq
  exact wpAny_call (make_map (f := f) I.kIn M.makes M.init (beq_iff_eq.mp M.fn) (codeAny_mono run fun q s' z => match q, z with
    | .error er, z => hx pins σ _ _ er s' J z
    | .ok (.ret _), z => by
      obtain ⟨v, H', J3, rv, ev, q3⟩ := J.after z
      subst ev
      exact ⟨rv, V.ref (s.heap.objs.size + 1), H', J3, rfl, q3⟩
    | .ok .next, z => False.elim z
    | .ok .brk, z => False.elim z
    | .ok .cont, z => False.elim z))
theorem gmake {x : Str} {spI spM : Sp} (mk : ∀ vs H Q, spM vs H Q E → ∀ x dx, H x = none → H dx = none → dx ≠ x → spI (.ref x :: vs) (upd (upd H dx (.own x)) x (.ins C dx [])) (fun v H2 => v = .non ∧ Q (.ref x) H2) E)
    (M : Mk X.K C f) (F : FnG X.prog X.w X.K X.mg X.base CX k f spI) (hr : RoomG (k + 1) X.A) (hg : Gl X x) (hm : X.mg x = some (.ref C)) (hx : Passes CX X E) (ha : PA X (e :: es) t) (hdb : (x == ("__debug__" : Str)) = false := by decide)
    (he : starEach (e :: es) X.env = (false, eval e X.env) :: starEach es X.env := by rfl) (hpl : (backTo pos (starEach es X.env)).any (·.1) = false := by rfl) : PE X (.Call (.Name x p0) (e :: es) [] pos) (tFn spM E t) := by
  refine ⟨fun pins s σ H Q I h => ?_⟩
  refine wpAny_Call_Name_kw (ld_glob I hg hm ?_ hdb)
  refine PySem.W.callWith_K (h₀ := X.base) I.ok.mod.kin M.kp (thn (ha.run pos pins s σ H _ I h) fun us s1 ⟨vs, H1, I1, r, q⟩ => ⟨I1.kIn, ?_⟩) he hpl
  exact run_makeG M F hr hx I1 r (mk vs H1 Q q)
end
end Z
namespace Z
open PySem PySem.Spec PyProof.Rows L2
section
variable {P : Program} {w : World} {K : Frg} {mg : Str → Option Value} {base : Heap}
/-- a def by its text, where nothing is being shown -/
theorem zfnG {x qual : Str} {st : Stmt} {f : Addr} {N ps : List Str} {k : Nat} {sp : Sp} (F : DefAt K x qual st f) (S : FnScope N ps (defScope st)) (len : ∀ vs H Q E, sp vs H Q E → vs.length = ps.length)
    (hb : ∀ (kV doc pm : Value) (an : Option Addr) (cdv ct : Value) (us : List Value), us.length = ps.length → bindArgs (PySem.W.fnOf x qual (defArgs st) (defBody st) (defScope st) .none kV doc pm an cdv ct) ⟨us, []⟩ = pure (ps.zip us))
    (hbody : ∀ (cdv : Value) (A : Around) (outer : List Env) (s : Shared) (H : Hp) (vs : List V) (Q : VK) (E : XK), RoomG k (A.deeper (envOfC qual (defScope st) s.heap.objs.size f cdv)) → sp vs H Q E →
      ∃ t, PSs (cxOf (L2.CX P w) P w K mg base N qual (defScope st) f cdv A outer s H E) (defBody st) t ∧ t { nx := fun _ H' => Q .non H', rt := Q } (start N vs) H) : FnG P w K mg base (L2.CX P w) (k + 1) f sp := by
  obtain ⟨fd, F⟩ := F
  obtain ⟨oc, od, dV, kV, doc, pm, an, cdv, ct, osl, rfl, lk, hcd, hD, hK⟩ := F.ex
  have hD' : dV = .none := by
    rcases hD with ⟨_, z⟩ | ⟨z, _⟩
    · exact z
    · exact absurd rfl z
  subst hD'
  intro A outer s H us vs Q E hr e0 r hs
  have hl := len _ _ _ _ hs
  have hu : us.length = ps.length := r.length.symm.trans hl
  refine StX.run_bnd lk hcd S hr.rm e0 (G := fun xs H2 => xs = vs ∧ H2 = H) (fun A' Ex Q' h => ?_) fun s2 H2 xs g hr' => ?_
  · rw [hb kV doc pm an cdv ct us hu]
    exact wpAny_pure (h s H vs us e0 .refl rfl (fun _ _ z => z) r hl ⟨rfl, rfl⟩)
  · obtain ⟨rfl, rfl⟩ := g
    exact hbody cdv A outer s2 H2 xs Q E ⟨hr', hr.gd⟩ hs
/-- def f(*v) -/
theorem zfnSG {x qual pv : Str} {st : Stmt} {f : Addr} {N : List Str} {k : Nat} {sp : Sp} (F : DefAt K x qual st f) (S : FnScope N [pv] (defScope st))
    (hb : ∀ (kV doc pm : Value) (an : Option Addr) (cdv ct : Value) (rest : List Value), bindArgs (PySem.W.fnOf x qual (defArgs st) (defBody st) (defScope st) .none kV doc pm an cdv ct) ⟨rest, []⟩ = (newTuple rest >>= fun t => pure [(pv, t)]))
    (hbody : ∀ (cdv : Value) (A : Around) (outer : List Env) (s : Shared) (H : Hp) (vs : List V) (Q : VK) (E : XK), RoomG k (A.deeper (envOfC qual (defScope st) s.heap.objs.size f cdv)) → sp vs H Q E →
      ∃ t, PSs (cxOf (L2.CX P w) P w K mg base N qual (defScope st) f cdv A outer s H E) (defBody st) t ∧ t { nx := fun _ H' => Q .non H', rt := Q } (start N vs) H) :
    FnG P w K mg base (L2.CX P w) (k + 1) f (fun vs H Q E => vs.length ≤ sizeLine ∧ ∀ p, H p = none → sp [V.ref p] (upd H p (.tup vs)) Q E) := by
  obtain ⟨fd, F⟩ := F
  obtain ⟨oc, od, dV, kV, doc, pm, an, cdv, ct, osl, rfl, lk, hcd, hD, hK⟩ := F.ex
  have hD' : dV = .none := by
    rcases hD with ⟨_, z⟩ | ⟨z, _⟩
    · exact z
    · exact absurd rfl z
  subst hD'
  intro A outer s H us vs Q E hr e0 r ⟨hz, hs⟩
  have hn : H s.heap.objs.size = none := e0.hok.fresh (Nat.le_refl _)
  have hu : us.length ≤ sizeLine := by rw [← r.length]; exact hz
  refine StX.run_bnd lk hcd S hr.rm e0 (G := fun xs H2 => ∃ p, H p = none ∧ xs = [V.ref p] ∧ H2 = upd H p (.tup vs)) (fun A' Ex Q' h => ?_) fun s2 H2 xs g hr' => ?_
  · rw [hb kV doc pm an cdv ct us]
    refine wpAny_bind (wpAny_newTuple (wpAny_pure ?_) hu)
    have laid : ObjOk P w (upd H s.heap.objs.size (.tup vs)) (s.heap.push ({ cls := .type "tuple", data := .seq us.toArray } : Obj)) s.heap.objs.size (.tup vs) := ⟨hz, us, r, _, Heap.get?_push_size _ rfl, rfl, _, rfl⟩
    have un := StX.un_laid (fs := frs outer) (s := s) (o := ({ cls := .type "tuple", data := .seq us.toArray } : Obj)) (u := HO.tup vs) hn
    refine h _ _ [V.ref s.heap.objs.size] [Value.ref s.heap.objs.size] (StX.env0_laid e0 laid) un rfl (fun e s' => ?_) (.cons rfl .nil) rfl ⟨_, hn, rfl, rfl⟩
    exact StX.cxUp outer s H _ _ E e s' un (fun b o q => Heap.get?_push_of_some _ q) rfl
  · obtain ⟨p, hp, rfl, rfl⟩ := g
    exact hbody cdv A outer s2 _ _ Q E ⟨hr', hr.gd⟩ (hs p hp)
end
theorem run_cmA {X : Cx} {C g q : Addr} {pins : List (Addr × Obj)} {σ : L2.St} {H : Hp} {s : Shared} {CX : CXT} {sp : Sp} {E : XK} {Q : VK} {us : List Value} {vs : List V} (F : FnA X.A X.prog X.w X.K X.mg X.base CX g sp) (hx : Passes CX X E) (I : L2.Inv X ((q, PySem.W.methodObj (.ref g) (.ref C)) :: pins) σ H s)
    (r : Vals vs us) (h : sp (.ref C :: vs) H Q E) : wpAny (model X.prog X.w) X.A (call (.ref q) us) (EP X pins σ Q) X.xe s :=
  thn (wpAny_call (PySem.W.method_call (ClX.pin_at I) (run_fnA (vs := V.ref C :: vs) F hx I (.cons rfl r) h))) fun _ _ y => ClX.unpinE y
section
variable {P : Program} {w : World} {K : Frg} {mg : Str → Option Value} {base : Heap}
/-! ### the end -/
/-- what is tracked where the law begins: the tables ts and the script (if it is not the module's) -/
def atLaw (K : Frg) (ts : List Addr) (a : Addr) (o : Obj) (xs : List V) : Hp := fun b =>
  if b ∈ ts then some (.tbl #[]) else if b = a then (match K.lookup a with | none => some (.frz o (.lst xs)) | some _ => none) else none
theorem atLaw_inv {ts : List Addr} {a b : Addr} {o : Obj} {xs : List V} {u : HO} (h : atLaw K ts a o xs b = some u) : (b ∈ ts ∧ u = .tbl #[]) ∨ (b ∉ ts ∧ b = a ∧ K.lookup a = none ∧ u = .frz o (.lst xs)) := by
  unfold atLaw at h
  split at h
  · rename_i m
    cases h
    exact .inl ⟨m, rfl⟩
  · rename_i m
    split at h
    · rename_i e
      split at h
      · rename_i n
        cases h
        exact .inr ⟨m, e, n, rfl⟩
      · cases h
    · cases h
theorem atLaw_t {ts : List Addr} {a b : Addr} {o : Obj} {xs : List V} (h : b ∈ ts) : atLaw K ts a o xs b = some (.tbl #[]) := if_pos h
theorem law_run {mb : Str → Option Value} {CX : CXT} {k : Nat} {fa a : Addr} {cs : List (Addr × Addr)} {sp : Sp} {s₁ : Shared} {vs : List Value} {ns : List Int}
    (KX : K.In s₁.heap) (hns : s₁.heap.Ns mainGlobals mg) (hb : s₁.heap.Ns builtinsNs mb) (hbb : ∀ x : Str, x ≠ "__name__" → mb x = bootBuiltins x) (hlim : s₁.heap.NoLimit) (hg : s₁.gens = #[])
    (hT : ∀ p ∈ cs, s₁.heap.get? p.2 = some { cls := .none, data := .fields #[] }) (nT : ∀ p ∈ cs, K.lookup p.2 = none) (C : ∀ p ∈ cs, PySem.W.CodeHd s₁.heap p.1 p.2)
    (hbm : ∃ (bm : Addr) (ob : Obj), mg "__builtins__" = some (.ref bm) ∧ bm ≠ builtinsNs ∧ s₁.heap.get? bm = some ob ∧ ob.cls = .type "module" ∧ ob.dict = some builtinsNs ∧ ob.data = .plain)
    (ha : s₁.heap.get? a = some { cls := .type "list", data := .seq vs.toArray }) (hi : IntsAre vs ns) (hl : ns.length ≤ sizeLine) (hr : RoomG k callerA)
    (F : ∀ base : Heap, K.In base → base.Ns mainGlobals mg → (∀ p ∈ cs, LamX.TabB base mg p.1 p.2) → FnG P w K mg base CX k fa sp)
    (hsp : ∀ H : Hp, (∀ p ∈ cs, H p.2 = some (.tbl #[])) → SqL K H a (ns.map V.int) → sp [.ref a] H (fun v _ => v = .bl true) fun _ _ _ => False)
    (hCX : ∀ H e s', CX [] H s₁ (fun _ _ _ => False) e s' → False) :
    codeAny (model P w) callerA (.call (.ref fa) ⟨[.ref a], []⟩) (fun r s' => r = .ok (.ret (.bool true)) ∧ OldK s₁.heap s'.heap ∧ s'.os = s₁.os ∧ AllBare s'.gens) s₁ := by
  have rv := vals_ints hi
  let ts := cs.map (·.2)
  let o1 : Obj := { cls := .type "list", data := .seq vs.toArray }
  let H0 : Hp := atLaw K ts a o1 (ns.map V.int)
  have inT : ∀ p ∈ cs, p.2 ∈ ts := fun p hp => List.mem_map.mpr ⟨p, hp, rfl⟩
  have ofT : ∀ b ∈ ts, ∃ p ∈ cs, p.2 = b := fun b m => List.mem_map.mp m
  have getT : ∀ b ∈ ts, s₁.heap.get? b = some { cls := .none, data := .fields #[] } := fun b m => by
    obtain ⟨p, hp, rfl⟩ := ofT b m
    exact hT p hp
  have aT : a ∉ ts := fun m => by
    have q := (getT a m).symm.trans ha
    cases q
  -- an object that is neither a list nor an empty table is not tracked
  have un0 : ∀ {b : Addr} {o : Obj}, s₁.heap.get? b = some o → (∀ ws n, o.data ≠ .seq ws n) → o.data ≠ .fields #[] → H0 b = none := fun {b o} e n1 n2 => by
    match q : H0 b with
    | none => rfl
    | some u =>
      rcases atLaw_inv q with ⟨m, _⟩ | ⟨_, rfl, _⟩
      · have e' := (getT b m).symm.trans e
        cases e'
        exact absurd rfl n2
      · have e' := ha.symm.trans e
        cases e'
        exact absurd rfl (n1 _ _)
  have see : ∀ {b : Addr} {o : Obj}, s₁.heap.get? b = some o → H0 b = none → (hidT s₁.heap H0).get? b = some o := fun e n => hidT_get e n
  have seeN : ∀ {b : Addr} {m : Str → Option Value}, s₁.heap.Ns b m → (hidT s₁.heap H0).Ns b m := fun {b m} ⟨o, es, ep, e, hd, r⟩ => by
    refine ⟨o, es, ep, see e (un0 e (fun ws n z => ?_) fun z => ?_), hd, r⟩
    · exact nomatch hd.symm.trans z
    · exact nomatch hd.symm.trans z
  have KB : K.In (hidT s₁.heap H0) := fun b o e => by
    refine see (KX b o e) ?_
    match q : H0 b with
    | none => rfl
    | some u =>
      rcases atLaw_inv q with ⟨m, _⟩ | ⟨_, rfl, z, _⟩
      · obtain ⟨p, hp, rfl⟩ := ofT b m
        exact nomatch (nT p hp).symm.trans e
      · exact nomatch z.symm.trans e
  have M0 : L2.Mod K mg (hidT s₁.heap H0) := by
    obtain ⟨mc, l1, l2⟩ := hlim
    exact ⟨KB, seeN hns, ⟨mb, seeN hb, hbb⟩, mc, seeN l1, l2⟩
  have tabs : ∀ p ∈ cs, LamX.TabB (hidT s₁.heap H0) mg p.1 p.2 := fun p hp => by
    refine ⟨?_, ?_, fun z => ?_⟩
    · obtain ⟨o, us, file, tf, flags, tg, inF, text, tt, e1, r1, r2, r3, rr⟩ := C p hp
      refine ⟨o, us, file, tf, flags, tg, inF, text, tt, see e1 (un0 e1 (fun ws n z => nomatch r2.symm.trans z) fun z => ?_), r1, r2, r3, rr⟩
      have q := r2.symm.trans z
      cases q
      simp at r3
    · obtain ⟨bm, ob, b1, b2, b3, b4, b5, b6⟩ := hbm
      refine ⟨bm, ob, b1, b2, fun q => ?_, fun q => ?_, see b3 (un0 b3 (fun ws n z => nomatch b6.symm.trans z) fun z => nomatch b6.symm.trans z), b4, b5, b6⟩
      · obtain ⟨o, es, ep, e, hd, _⟩ := hns
        subst q
        have q := b3.symm.trans e
        cases q
        exact nomatch b6.symm.trans hd
      · subst q
        have q := b3.symm.trans (hT p hp)
        cases q
        cases b6
    · obtain ⟨o, es, ep, e, hd, _⟩ := hns
      rw [z] at e
      have q := (hT p hp).symm.trans e
      cases q
      cases hd
  have ok0 : HOk P w H0 s₁.heap := fun b u q => by
    rcases atLaw_inv q with ⟨m, rfl⟩ | ⟨_, rfl, _, rfl⟩
    · exact getT b m
    · exact ⟨ha, by rw [List.length_map]; exact hl, vs, _, rv, ha⟩
  have sq : SqL K H0 a (ns.map V.int) := by
    match hk : K.lookup a with
    | none =>
      refine .inl (.inr ⟨o1, ?_⟩)
      show atLaw K ts a o1 (ns.map V.int) a = _
      unfold atLaw
      rw [if_neg aT, if_pos rfl, hk]
    | some o =>
      have e := (KX a o hk).symm.trans ha
      cases e
      exact .inr ⟨_, vs.toArray, _, hk, rfl, rfl, rfl, by rw [List.size_toArray, hi.length]; exact hl, by simpa using rv⟩
  have e0 : Env0 P w K mg (hidT s₁.heap H0) callerA [] s₁ H0 :=
    { frames := rfl, mod := M0, bs := fun b o e => of_hidT e, bsz := Nat.le_of_eq (hidT_size _ _), funs := trivial, frf := fun b m => (List.not_mem_nil m).elim, hok := ok0, bare := .of_eq hg }
  refine codeAny_mono (F _ KB (seeN hns) tabs callerA [] s₁ H0 [.ref a] [.ref a] _ _ hr e0 (.cons rfl .nil) (hsp H0 (fun p hp => atLaw_t (inT p hp)) sq)) fun r s' h => ?_
  match r, h with
  | .error e, h => exact (hCX H0 e s' h).elim
  | .ok .next, h => exact False.elim h
  | .ok .brk, h => exact False.elim h
  | .ok .cont, h => exact False.elim h
  | .ok (.ret u), ⟨v, H2, os, bare, un, ok2, rr, q⟩ =>
    have ev : v = .bl true := q
    subst ev
    have eu : u = Value.bool true := rr
    subst eu
    have rest : ∀ b o, b ∉ ts → s₁.heap.get? b = some o → s'.heap.get? b = some o := fun b o nb e => by
      match z : H0 b with
      | none => exact un.keep b o e z (fun m => (List.not_mem_nil m).elim) (fun m => (List.not_mem_nil m).elim)
      | some u =>
        rcases atLaw_inv z with ⟨m, _⟩ | ⟨_, _, _, rfl⟩
        · exact absurd m nb
        · have e1 := (ok0 b _ z).1
          have e2 := (ok2 b _ (un.frzs b _ _ z)).1
          exact e2.trans (e1.symm.trans e)
    have grew : ∀ b ∈ ts, ∃ more : Array Value, s'.heap.get? b = some { cls := .none, data := .fields more } := fun b m => by
      obtain ⟨more, z⟩ := un.tbls b #[] (atLaw_t m)
      exact ⟨_, ok2 b _ z⟩
    refine ⟨rfl, ⟨fun b o e => ?_, fun b o e => ?_⟩, os, bare⟩
    · by_cases m : b ∈ ts
      · obtain ⟨p, hp, rfl⟩ := ofT b m
        obtain ⟨more, hm⟩ := grew _ m
        have q := (hT p hp).symm.trans e
        cases q
        exact .inr (.inl ⟨((C p hp).tab (hT p hp)).isCodeTable, rfl, #[], more, rfl, by rw [Array.empty_append]; exact hm⟩)
      · exact .inl (rest b o m e)
    · by_cases m : b ∈ ts
      · obtain ⟨more, hm⟩ := grew b m
        exact ⟨_, hm⟩
      · exact ⟨o, rest b o m e⟩
end
/-- what a law's def keeps -/
def LawG (l : PySem.W.OpenLaw) (w : World) (K : Frg) (CX : CXT) (k n : Nat) (mg : Str → Option Value) (fa : Addr) (h : Heap) : Prop :=
  ∃ (cs : List (Addr × Addr)) (sp : Sp), (∀ p ∈ cs, h.get? p.2 = some { cls := .none, data := .fields #[] }) ∧ (∀ p ∈ cs, K.lookup p.2 = none) ∧ (∀ p ∈ cs, PySem.W.CodeHd h p.1 p.2) ∧
    (∀ (H : Hp) (a : Addr) (ns : List Int), ns.length ≤ n → (∀ p ∈ cs, H p.2 = some (.tbl #[])) → SqL K H a (ns.map V.int) → sp [.ref a] H (fun v _ => v = .bl true) fun _ _ _ => False) ∧
    ∀ base : Heap, K.In base → base.Ns mainGlobals mg → (∀ p ∈ cs, LamX.TabB base mg p.1 p.2) → FnG l.prog w K mg base CX k fa sp
theorem walk_G {l : PySem.W.OpenLaw} {n k : Nat} {q : Program} {loose : List Str} {XP : (Str → Option Value) → Heap → Prop} {YP : World → Heap → Prop} {d : DefRec} {CX : World → CXT}
    (hn : l.most = some n) (hn2 : n ≤ sizeLine) (hdf : d.params.defaults = []) (hr : Room k callerA)
    (F : ∀ (w : World) (mg : Str → Option Value) (fa : Addr) (h : Heap), YP w h → h.Ns mainGlobals mg → mg d.name = some (.ref fa) → ∃ K : Frg, K.In h ∧ LawG l w K (CX w) k n mg fa h)
    (hCX : ∀ (w : World) (H : Hp) (s : Shared) (e : Value) (s' : Shared), CX w [] H s (fun _ _ _ => False) e s' → False) :
    PySem.W.WalkO q loose XP YP l.row.toRowW d [] (fun f vs => PySem.call f vs) :=
  Att.attach_callB hn hdf fun w s₀ s₁ mg mb fa o pm cd doc a vs ns G Y ho hd hcd hmg hobj hints hlen hbits hg => by
    obtain ⟨K, KX, cs, sp, t1, t2, t3, t4, t5⟩ := F w mg fa _ Y G.T.g hmg
    exact law_run KX G.T.g G.T.b G.T.builtins G.T.nolimit hg t1 t2 t3 G.T.bmain hobj hints (Nat.le_trans hlen hn2) ⟨hr, rfl⟩ t5 (fun H h1 h2 => t4 H a ns hlen h1 h2) fun H e s' => hCX w H s₁ e s'
end Z
namespace Y
open PySem PySem.Spec PyProof.Rows L2 Z
/-! ### plain data, and the values that bear it in a frozen heap -/
inductive D where
  | non | bl (b : Bool) | int (i : Int) | str (s : Str) | lst (ds : List D) | tup (ds : List D) | obj (c : Str) (ns : List Str) (ds : List D) | ty (n : String) | glob (x : Str) | tape
mutual
inductive Rp (K : Frg) (ms : List Addr) (F : Hp) : V → D → Prop
  | non : Rp K ms F .non .non
  | bl (b : Bool) : Rp K ms F (.bl b) (.bl b)
  | int (i : Int) : Rp K ms F (.int i) (.int i)
  | str (s : Str) : Rp K ms F (.str s) (.str s)
  | ty (n : String) : Rp K ms F (.ty n) (.ty n)
  | glob (x : Str) : Rp K ms F (.ref (He.ga K x)) (.glob x)
  | tape {t : Addr} : t ∈ ms → Rp K ms F (.ref t) .tape
  | lst {a : Addr} {vs : List V} {ds : List D} : F a = some (.lst vs) → Rps K ms F vs ds → Rp K ms F (.ref a) (.lst ds)
  | tup {a : Addr} {vs : List V} {ds : List D} : SqT K F a vs → Rps K ms F vs ds → Rp K ms F (.ref a) (.tup ds)
  | obj {a dx : Addr} {c : Str} {ns : List Str} {vs : List V} {ds : List D} : F a = some (.ins (He.ga K c) dx (ns.zip vs)) → ns.length = vs.length → Rps K ms F vs ds → Rp K ms F (.ref a) (.obj c ns ds)
inductive Rps (K : Frg) (ms : List Addr) (F : Hp) : List V → List D → Prop
  | nil : Rps K ms F [] []
  | cons {v : V} {d : D} {vs : List V} {ds : List D} : Rp K ms F v d → Rps K ms F vs ds → Rps K ms F (v :: vs) (d :: ds)
end
section
variable {K : Frg} {ms : List Addr} {F F' H : Hp}
mutual
theorem Rp.mono (s : Same F F') : ∀ (d : D) (v : V), Rp K ms F v d → Rp K ms F' v d
  | .non, _, h => by cases h; exact .non
  | .bl b, _, h => by cases h; exact .bl b
  | .int i, _, h => by cases h; exact .int i
  | .str x, _, h => by cases h; exact .str x
  | .ty x, _, h => by cases h; exact .ty x
  | .glob x, _, h => by cases h; exact .glob x
  | .tape, _, h => by cases h with | tape m => exact .tape m
  | .lst ds, _, h => by cases h with | lst h1 h2 => exact .lst (s _ _ h1) (Rps.mono s ds _ h2)
  | .tup ds, _, h => by cases h with | tup h1 h2 => exact .tup (sqT s h1) (Rps.mono s ds _ h2)
  | .obj c ns ds, _, h => by cases h with | obj h1 h2 h3 => exact .obj (s _ _ h1) h2 (Rps.mono s ds _ h3)
theorem Rps.mono (s : Same F F') : ∀ (ds : List D) (vs : List V), Rps K ms F vs ds → Rps K ms F' vs ds
  | [], _, h => by cases h; exact .nil
  | d :: ds, _, h => by cases h with | cons h1 h2 => exact .cons (Rp.mono s d _ h1) (Rps.mono s ds _ h2)
end
theorem Rp.up {v : V} {d : D} (h : Rp K ms F v d) (s : Same F F') : Rp K ms F' v d := Rp.mono s d v h
theorem Rps.up {v : List V} {d : List D} (h : Rps K ms F v d) (s : Same F F') : Rps K ms F' v d := Rps.mono s d v h
theorem Rps.len : ∀ {vs : List V} {ds : List D}, Rps K ms F vs ds → vs.length = ds.length
  | [], [], _ => rfl
  | _ :: _, _ :: _, h => by
    cases h with
    | cons _ h => simp only [List.length_cons]; rw [Rps.len h]
  | [], _ :: _, h => by cases h
  | _ :: _, [], h => by cases h
theorem Rps.app : ∀ {vs ws : List V} {ds es : List D}, Rps K ms F vs ds → Rps K ms F ws es → Rps K ms F (vs ++ ws) (ds ++ es)
  | [], _, [], _, _, h => h
  | _ :: _, _, _ :: _, _, h, h' => by
    cases h with
    | cons h1 h2 => exact .cons h1 (Rps.app h2 h')
  | [], _, _ :: _, _, h, _ => by cases h
  | _ :: _, _, [], _, h, _ => by cases h
theorem Rps.get : ∀ {vs : List V} {ds : List D} {i : Nat} {d : D}, Rps K ms F vs ds → ds[i]? = some d → ∃ v, vs[i]? = some v ∧ Rp K ms F v d
  | [], [], _, _, _, e => by simp at e
  | v :: _, _ :: _, 0, _, h, e => by
    cases h with
    | cons h1 _ => simp at e; subst e; exact ⟨v, rfl, h1⟩
  | _ :: vs, _ :: ds, i + 1, d, h, e => by
    cases h with
    | cons _ h2 =>
      obtain ⟨v, h3, h4⟩ := Rps.get (i := i) h2 (by simpa using e)
      exact ⟨v, by simpa using h3, h4⟩
  | [], _ :: _, _, _, h, _ => by cases h
  | _ :: _, [], _, _, h, _ => by cases h
theorem Rps.getV : ∀ {vs : List V} {ds : List D} {i : Nat} {v : V}, Rps K ms F vs ds → vs[i]? = some v → ∃ d, ds[i]? = some d ∧ Rp K ms F v d := fun {vs ds i v} h e => by
  have hi : i < vs.length := by
    rcases Nat.lt_or_ge i vs.length with z | z
    · exact z
    · rw [List.getElem?_eq_none z] at e; cases e
  have hd : i < ds.length := by rw [← h.len]; exact hi
  obtain ⟨w, h1, h2⟩ := h.get (i := i) (d := ds[i]) (List.getElem?_eq_getElem hd)
  rw [e] at h1
  cases h1
  exact ⟨_, List.getElem?_eq_getElem hd, h2⟩
theorem Rps.take : ∀ {vs : List V} {ds : List D} (n : Nat), Rps K ms F vs ds → Rps K ms F (vs.take n) (ds.take n)
  | _, _, 0, _ => .nil
  | [], [], _ + 1, _ => .nil
  | _ :: _, _ :: _, n + 1, h => by
    cases h with
    | cons h1 h2 => exact .cons h1 (Rps.take n h2)
  | [], _ :: _, _ + 1, h => by cases h
  | _ :: _, [], _ + 1, h => by cases h
theorem Rps.drop : ∀ {vs : List V} {ds : List D} (n : Nat), Rps K ms F vs ds → Rps K ms F (vs.drop n) (ds.drop n)
  | _, _, 0, h => h
  | [], [], _ + 1, _ => .nil
  | _ :: _, _ :: _, n + 1, h => by
    cases h with
    | cons h1 h2 => exact Rps.drop n h2
  | [], _ :: _, _ + 1, h => by cases h
  | _ :: _, [], _ + 1, h => by cases h
theorem Rps.rep {v : V} {d : D} (h : Rp K ms F v d) : ∀ n : Nat, Rps K ms F (List.replicate n v) (List.replicate n d)
  | 0 => .nil
  | n + 1 => .cons h (Rps.rep h n)
theorem Rps.flat {vs : List V} {ds : List D} (h : Rps K ms F vs ds) : ∀ n : Nat, Rps K ms F (List.replicate n vs).flatten (List.replicate n ds).flatten
  | 0 => .nil
  | n + 1 => by
    rw [List.replicate_succ, List.replicate_succ, List.flatten_cons, List.flatten_cons]
    exact h.app (Rps.flat h n)
theorem Rps.one {v : V} {d : D} (h : Rp K ms F v d) : Rps K ms F [v] [d] := .cons h .nil
theorem Rps.two {v w : V} {d e : D} (h : Rp K ms F v d) (h' : Rp K ms F w e) : Rps K ms F [v, w] [d, e] := .cons h (.cons h' .nil)
theorem Rps.ints : ∀ {vs : List V} {is : List Int}, Rps K ms F vs (is.map D.int) → vs = is.map V.int
  | [], [], _ => rfl
  | _ :: _, _ :: _, h => by
    cases h with
    | cons h1 h2 => cases h1; rw [Rps.ints h2]; rfl
  | [], _ :: _, h => by cases h
  | _ :: _, [], h => by cases h
theorem Rps.bls : ∀ {vs : List V} {is : List Bool}, Rps K ms F vs (is.map D.bl) → vs = is.map V.bl
  | [], [], _ => rfl
  | _ :: _, _ :: _, h => by
    cases h with
    | cons h1 h2 => cases h1; rw [Rps.bls h2]; rfl
  | [], _ :: _, h => by cases h
  | _ :: _, [], h => by cases h
theorem Rps.strs : ∀ {vs : List V} {is : List Str}, Rps K ms F vs (is.map D.str) → vs = is.map V.str
  | [], [], _ => rfl
  | _ :: _, _ :: _, h => by
    cases h with
    | cons h1 h2 => cases h1; rw [Rps.strs h2]; rfl
  | [], _ :: _, h => by cases h
  | _ :: _, [], h => by cases h
end
/-! ### as data of the library -/
mutual
def pd : D → Option PyData
  | .non => some .none
  | .bl b => some (.bool b)
  | .int i => some (.int i)
  | .str s => some (.str s)
  | .lst ds => (pds ds).map PyData.list
  | .tup ds => (pds ds).map PyData.tuple
  | .obj _ _ _ => none
  | .ty _ => none
  | .glob _ => none
  | .tape => none
def pds : List D → Option (List PyData)
  | [] => some []
  | d :: ds => match pd d, pds ds with
    | some a, some b => some (a :: b)
    | _, _ => none
end
mutual
/-- == of plain data -/
def eqD : D → D → Bool
  | .non, .non => true
  | .bl a, .bl b => a == b
  | .bl a, .int j => (if a then 1 else 0) == j
  | .int i, .bl b => i == (if b then 1 else 0)
  | .int i, .int j => i == j
  | .str x, .str y => x == y
  | .lst xs, .lst ys => eqDs xs ys
  | .tup xs, .tup ys => eqDs xs ys
  | _, _ => false
def eqDs : List D → List D → Bool
  | [], [] => true
  | x :: xs, y :: ys => eqD x y && eqDs xs ys
  | _, _ => false
end
/-- data of at most so many layers, with texts of real signs -/
def okD : Nat → D → Bool
  | _, .non | _, .bl _ | _, .int _ => true
  | _, .str s => PyData.strOk s
  | n + 1, .lst ds => ds.all (okD n)
  | n + 1, .tup ds => ds.all (okD n)
  | _, _ => false
theorem okD_pd : ∀ (n : Nat) (d : D), okD n d = true → ∃ e, pd d = some e ∧ e.canLay0 = true ∧ e.depth ≤ n := by
  have key : ∀ (n : Nat) (P : D → Prop), (∀ d, okD n d = true → ∃ e, pd d = some e ∧ e.canLay0 = true ∧ e.depth ≤ n) → ∀ ds : List D, ds.all (okD n) = true → ∃ es, pds ds = some es ∧ PyData.canLayAll0 es = true ∧ PyData.depthAll es ≤ n := by
    intro n P ih ds
    induction ds with
    | nil => intro _; exact ⟨[], rfl, rfl, Nat.zero_le _⟩
    | cons d ds ih2 =>
      intro h
      rw [List.all_cons, Bool.and_eq_true] at h
      obtain ⟨e, h1, h2, h3⟩ := ih d h.1
      obtain ⟨es, h4, h5, h6⟩ := ih2 h.2
      refine ⟨e :: es, by simp [pds, h1, h4], by simp [PyData.canLayAll0, h2, h5], ?_⟩
      simp only [PyData.depthAll]
      omega
  intro n
  induction n with
  | zero =>
    intro d h
    cases d with
    | non => exact ⟨_, rfl, rfl, Nat.le_refl _⟩
    | bl b => exact ⟨_, rfl, rfl, Nat.le_refl _⟩
    | int i => exact ⟨_, rfl, rfl, Nat.le_refl _⟩
    | str s => exact ⟨_, rfl, by simpa [okD, PyData.canLay0] using h, Nat.le_refl _⟩
    | _ => simp [okD] at h
  | succ n ih =>
    intro d h
    cases d with
    | non => exact ⟨_, rfl, rfl, by simp [PyData.depth]⟩
    | bl b => exact ⟨_, rfl, rfl, by simp [PyData.depth]⟩
    | int i => exact ⟨_, rfl, rfl, by simp [PyData.depth]⟩
    | str s => exact ⟨_, rfl, by simpa [okD, PyData.canLay0] using h, by simp [PyData.depth]⟩
    | lst ds =>
      simp only [okD] at h
      obtain ⟨es, h1, h2, h3⟩ := key n (fun _ => True) ih ds h
      exact ⟨.list es, by simp [pd, h1], by simpa [PyData.canLay0] using h2, by simp only [PyData.depth]; omega⟩
    | tup ds =>
      simp only [okD] at h
      obtain ⟨es, h1, h2, h3⟩ := key n (fun _ => True) ih ds h
      exact ⟨.tuple es, by simp [pd, h1], by simpa [PyData.canLay0] using h2, by simp only [PyData.depth]; omega⟩
    | _ => simp [okD] at h
theorem pds_cons {x : D} {xs : List D} {as : List PyData} (h : pds (x :: xs) = some as) : ∃ a r, pd x = some a ∧ pds xs = some r ∧ as = a :: r := by
  unfold pds at h
  split at h
  · rename_i a r h1 h2
    cases h
    exact ⟨a, r, h1, h2, rfl⟩
  · cases h
mutual
theorem eqD_pd : ∀ (x y : D) (a b : PyData), pd x = some a → pd y = some b → eqD x y = PyData.eqv a b
  | .non, y, a, b, h1, h2 => by
    cases h1
    cases y <;> simp [pd] at h2 <;> first | (subst h2; simp [eqD, PyData.eqv]) | (obtain ⟨_, _, rfl⟩ := h2; simp [eqD, PyData.eqv])
  | .bl c, y, a, b, h1, h2 => by
    cases h1
    cases y <;> simp [pd] at h2 <;> first | (subst h2; simp [eqD, PyData.eqv]) | (obtain ⟨_, _, rfl⟩ := h2; simp [eqD, PyData.eqv])
  | .int c, y, a, b, h1, h2 => by
    cases h1
    cases y <;> simp [pd] at h2 <;> first | (subst h2; simp [eqD, PyData.eqv]) | (obtain ⟨_, _, rfl⟩ := h2; simp [eqD, PyData.eqv])
  | .str c, y, a, b, h1, h2 => by
    cases h1
    cases y <;> simp [pd] at h2 <;> first | (subst h2; simp [eqD, PyData.eqv]) | (obtain ⟨_, _, rfl⟩ := h2; simp [eqD, PyData.eqv])
  | .lst xs, y, a, b, h1, h2 => by
    simp [pd] at h1
    obtain ⟨as, h1, rfl⟩ := h1
    cases y with
    | lst ys =>
      simp [pd] at h2
      obtain ⟨bs, h2, rfl⟩ := h2
      simp only [eqD, PyData.eqv]
      exact eqDs_pd xs ys as bs h1 h2
    | _ => simp [pd] at h2 <;> first | (subst h2; simp [eqD, PyData.eqv]) | (obtain ⟨_, _, rfl⟩ := h2; simp [eqD, PyData.eqv])
  | .tup xs, y, a, b, h1, h2 => by
    simp [pd] at h1
    obtain ⟨as, h1, rfl⟩ := h1
    cases y with
    | tup ys =>
      simp [pd] at h2
      obtain ⟨bs, h2, rfl⟩ := h2
      simp only [eqD, PyData.eqv]
      exact eqDs_pd xs ys as bs h1 h2
    | _ => simp [pd] at h2 <;> first | (subst h2; simp [eqD, PyData.eqv]) | (obtain ⟨_, _, rfl⟩ := h2; simp [eqD, PyData.eqv])
  | .obj _ _ _, _, _, _, h1, _ => by simp [pd] at h1
  | .ty _, _, _, _, h1, _ => by simp [pd] at h1
  | .glob _, _, _, _, h1, _ => by simp [pd] at h1
  | .tape, _, _, _, h1, _ => by simp [pd] at h1
theorem eqDs_pd : ∀ (xs ys : List D) (as bs : List PyData), pds xs = some as → pds ys = some bs → eqDs xs ys = PyData.eqvAll as bs
  | [], [], _, _, h1, h2 => by cases h1; cases h2; simp [eqDs, PyData.eqvAll]
  | [], _ :: _, _, _, h1, h2 => by
    cases h1
    obtain ⟨_, _, _, _, rfl⟩ := pds_cons h2
    simp [eqDs, PyData.eqvAll]
  | _ :: _, [], _, _, h1, h2 => by
    cases h2
    obtain ⟨_, _, _, _, rfl⟩ := pds_cons h1
    simp [eqDs, PyData.eqvAll]
  | x :: xs, y :: ys, _, _, h1, h2 => by
    obtain ⟨a, r, p1, p2, rfl⟩ := pds_cons h1
    obtain ⟨b, t, q1, q2, rfl⟩ := pds_cons h2
    simp only [eqDs, PyData.eqvAll]
    rw [eqD_pd x y a b p1 q1, eqDs_pd xs ys r t p2 q2]
end
section
variable {K : Frg} {ms : List Addr} {F : Hp}
mutual
theorem dp_of : ∀ (d : D) (v : V) (e : PyData), pd d = some e → Rp K ms F v d → Dp K F v e
  | .non, _, _, h, r => by cases h; cases r; exact .non
  | .bl b, _, _, h, r => by cases h; cases r; exact .bl b
  | .int i, _, _, h, r => by cases h; cases r; exact .int i
  | .str x, _, _, h, r => by cases h; cases r; exact .str x
  | .lst ds, _, _, h, r => by
    simp [pd] at h
    obtain ⟨es, h, rfl⟩ := h
    cases r with
    | lst h1 h2 => exact .lst (SqL.of h1) (dps_of ds _ es h h2)
  | .tup ds, _, _, h, r => by
    simp [pd] at h
    obtain ⟨es, h, rfl⟩ := h
    cases r with
    | tup h1 h2 => exact .tup h1 (dps_of ds _ es h h2)
  | .obj _ _ _, _, _, h, _ => by simp [pd] at h
  | .ty _, _, _, h, _ => by simp [pd] at h
  | .glob _, _, _, h, _ => by simp [pd] at h
  | .tape, _, _, h, _ => by simp [pd] at h
theorem dps_of : ∀ (ds : List D) (vs : List V) (es : List PyData), pds ds = some es → Rps K ms F vs ds → DpAll K F vs es
  | [], _, _, h, r => by cases h; cases r; exact .nil
  | d :: ds, _, _, h, r => by
    obtain ⟨a, t, h1, h2, rfl⟩ := pds_cons h
    cases r with
    | cons r1 r2 => exact .cons (dp_of d _ a h1 r1) (dps_of ds _ t h2 r2)
end
end
end Y
namespace Y
open PySem PySem.Spec PyProof.Rows L2 Z
/-- an error: its class (.glob or .ty), the names of its fields, their values -/
structure Ex where
  c : D
  ns : List Str
  ds : List D
def clsV (K : Frg) : D → Option Value
  | .glob x => some (.ref (He.ga K x))
  | .ty n => some (.type n)
  | _ => none
def XR (K : Frg) (ms : List Addr) (F : Hp) (cls : Value) (d : Option Addr) (x : Ex) : Prop :=
  clsV K x.c = some cls ∧ (x.ns ≠ [] → ∃ a vs, d = some a ∧ F a = some (.xd (x.ns.zip vs)) ∧ x.ns.length = vs.length ∧ Rps K ms F vs x.ds)
/-- a thing that only one slot holds: a list that grows, an instance that is being made -/
inductive Mo where
  | lst (ds : List D) | ins (x : Addr) (c : Str) (ns : List Str) (ds : List D)
/-- a slot: not known, a plain value, a thing that only this slot holds -/
inductive Sl where
  | no | val (d : D) | mu (m : Mo)
def MoR (K : Frg) (ms : List Addr) (F : Hp) (a : Addr) : Mo → HO → Prop
  | .lst ds, o => ∃ vs, o = .lst vs ∧ Rps K ms F vs ds
  | .ins x c ns ds, o => x = a ∧ ∃ dx vs, o = .ins (He.ga K c) dx (ns.zip vs) ∧ ns.length = vs.length ∧ Rps K ms F vs ds
theorem MoR.up {K : Frg} {ms : List Addr} {F F' : Hp} {a : Addr} {m : Mo} {o : HO} (h : MoR K ms F a m o) (s : Same F F') : MoR K ms F' a m o := by
  cases m with
  | lst ds => obtain ⟨vs, e, r⟩ := h; exact ⟨vs, e, r.up s⟩
  | ins x c ns ds => obtain ⟨ex, dx, vs, e, l, r⟩ := h; exact ⟨ex, dx, vs, e, l, r.up s⟩
abbrev Ev := List Sl
/-- the base of a def: the tapes, the heaps at its entry, what is wanted of an error -/
structure Bs where
  ms : List Addr
  F0 : Hp
  H0 : Hp
  Ed : Ex → Prop
def Tp (K : Frg) (ms : List Addr) (F H : Hp) : Prop := Same F H ∧ ∀ t ∈ ms, Tape K F H t
theorem Tp.go0 {K : Frg} {ms : List Addr} {F H F' H' : Hp} (h : Tp K ms F H) (g : Go [] F H F' H') : Tp K ms F' H' := ⟨g.fh, fun t m => (h.2 t m).go0 g⟩
structure Iv (K : Frg) (B : Bs) (F H : Hp) (σ : L2.St) (ρ : Ev) : Prop where
  go : Go B.ms B.F0 B.H0 F H
  tp : Tp K B.ms F H
  len : σ.length = ρ.length
  val : ∀ (i : Nat) (d : D), ρ[i]? = some (.val d) → ∃ v, σ[i]? = some (some v) ∧ Rp K B.ms F v d
  own : ∀ (i : Nat) (m : Mo), ρ[i]? = some (.mu m) → ∃ a o, σ[i]? = some (some (.ref a)) ∧ F a = none ∧ a ∉ B.ms ∧ B.H0 a = none ∧ H a = some o ∧ MoR K B.ms F a m o
  sep : ∀ (i j : Nat) (m n : Mo) (a : Addr), i ≠ j → ρ[i]? = some (.mu m) → ρ[j]? = some (.mu n) → σ[i]? = some (some (.ref a)) → σ[j]? ≠ some (some (.ref a))
section
variable {K : Frg} {B : Bs} {F H F' H' : Hp} {σ : L2.St} {ρ : Ev}
theorem Iv.same (I : Iv K B F H σ ρ) : Same F H := I.tp.1
theorem Iv.step (I : Iv K B F H σ ρ) (g : Go B.ms F H F' H') (t : Tp K B.ms F' H') : Iv K B F' H' σ ρ where
  go := I.go.trans g
  tp := t
  len := I.len
  val := fun i d e => let ⟨v, h1, h2⟩ := I.val i d e; ⟨v, h1, h2.up g.ff⟩
  own := fun i ds e => by
    obtain ⟨a, vs, h1, h2, h3, h4, h5, h6⟩ := I.own i ds e
    obtain ⟨p1, p2⟩ := g.mu a _ h3 h2 h5
    exact ⟨a, vs, h1, p1, h3, h4, p2, h6.up g.ff⟩
  sep := I.sep
theorem Iv.step0 (I : Iv K B F H σ ρ) (g : Go [] F H F' H') : Iv K B F' H' σ ρ := I.step g.nil (I.tp.go0 g)
/-- store a plain value -/
theorem Iv.set (I : Iv K B F H σ ρ) {v : V} {d : D} (i : Nat) (r : Rp K B.ms F v d) : Iv K B F H (σ.set i (some v)) (ρ.set i (.val d)) where
  go := I.go
  tp := I.tp
  len := by rw [List.length_set, List.length_set]; exact I.len
  val := fun j e h => by
    have hj := I.len
    by_cases hij : i = j
    · subst hij
      rcases Nat.lt_or_ge i ρ.length with z | z
      · rw [List.getElem?_set_self z] at h
        cases h
        exact ⟨v, List.getElem?_set_self (by omega), r⟩
      · rw [List.getElem?_eq_none (by rw [List.length_set]; exact z)] at h; cases h
    · rw [List.getElem?_set_ne hij] at h
      rw [List.getElem?_set_ne hij]
      exact I.val j e h
  own := fun j ds h => by
    have hj := I.len
    by_cases hij : i = j
    · subst hij
      rcases Nat.lt_or_ge i ρ.length with z | z
      · rw [List.getElem?_set_self z] at h; cases h
      · rw [List.getElem?_eq_none (by rw [List.length_set]; exact z)] at h; cases h
    · rw [List.getElem?_set_ne hij] at h
      rw [List.getElem?_set_ne hij]
      exact I.own j ds h
  sep := fun j k ds es a hjk h1 h2 h3 => by
    have key : ∀ (m : Nat) (ds : Mo), (ρ.set i (.val d))[m]? = some (.mu ds) → i ≠ m := fun m ds h e => by
      subst e
      rcases Nat.lt_or_ge i ρ.length with z | z
      · rw [List.getElem?_set_self z] at h; cases h
      · rw [List.getElem?_eq_none (by rw [List.length_set]; exact z)] at h; cases h
    have e1 := key j _ h1
    have e2 := key k _ h2
    rw [List.getElem?_set_ne e1] at h1 h3
    rw [List.getElem?_set_ne e2] at h2 ⊢
    exact I.sep j k ds es a hjk h1 h2 h3
/-- forget a slot -/
theorem Iv.wipe (I : Iv K B F H σ ρ) (i : Nat) : Iv K B F H (σ.set i none) (ρ.set i .no) where
  go := I.go
  tp := I.tp
  len := by rw [List.length_set, List.length_set]; exact I.len
  val := fun j e h => by
    have hj := I.len
    by_cases hij : i = j
    · subst hij
      rcases Nat.lt_or_ge i ρ.length with z | z
      · rw [List.getElem?_set_self z] at h; cases h
      · rw [List.getElem?_eq_none (by rw [List.length_set]; exact z)] at h; cases h
    · rw [List.getElem?_set_ne hij] at h
      rw [List.getElem?_set_ne hij]
      exact I.val j e h
  own := fun j ds h => by
    have hj := I.len
    by_cases hij : i = j
    · subst hij
      rcases Nat.lt_or_ge i ρ.length with z | z
      · rw [List.getElem?_set_self z] at h; cases h
      · rw [List.getElem?_eq_none (by rw [List.length_set]; exact z)] at h; cases h
    · rw [List.getElem?_set_ne hij] at h
      rw [List.getElem?_set_ne hij]
      exact I.own j ds h
  sep := fun j k ds es a hjk h1 h2 h3 => by
    have hj := I.len
    have key : ∀ (m : Nat) (ds : Mo), (ρ.set i .no)[m]? = some (.mu ds) → i ≠ m := fun m ds h e => by
      subst e
      rcases Nat.lt_or_ge i ρ.length with z | z
      · rw [List.getElem?_set_self z] at h; cases h
      · rw [List.getElem?_eq_none (by rw [List.length_set]; exact z)] at h; cases h
    have e1 := key j _ h1
    have e2 := key k _ h2
    rw [List.getElem?_set_ne e1] at h1 h3
    rw [List.getElem?_set_ne e2] at h2 ⊢
    exact I.sep j k ds es a hjk h1 h2 h3
end
def wipeR (ρ : Ev) : List Nat → Ev
  | [] => ρ
  | v :: vs => (wipeR ρ vs).set v .no
theorem Iv.wipes {K : Frg} {B : Bs} {F H : Hp} {σ : L2.St} {ρ : Ev} (I : Iv K B F H σ ρ) : ∀ vs : List Nat, Iv K B F H (L2.wipe σ vs) (wipeR ρ vs)
  | [] => I
  | v :: vs => (Iv.wipes I vs).wipe v
/-! ### a choice that nothing opens by itself -/
@[irreducible] def ifB (b : Bool) (p q : Prop) : Prop := if b = true then p else q
theorem ifB_eq (b : Bool) (p q : Prop) : ifB b p q = if b = true then p else q := by unfold ifB; rfl
theorem ifB_t {p q : Prop} (h : ifB true p q) : p := by rw [ifB_eq] at h; exact h
theorem ifB_f {p q : Prop} (h : ifB false p q) : q := by rw [ifB_eq] at h; exact h
theorem ifB_T {b : Bool} {p q : Prop} (e : b = true) (h : p) : ifB b p q := by rw [ifB_eq, if_pos e]; exact h
theorem ifB_F {b : Bool} {p q : Prop} (e : b = false) (h : q) : ifB b p q := by rw [ifB_eq, e]; exact h
theorem ifB_2 {b : Bool} {p q : Prop} (h : b = true → p) (h' : b = false → q) : ifB b p q := by
  cases b with
  | true => exact ifB_T rfl (h rfl)
  | false => exact ifB_F rfl (h' rfl)
theorem ifB_d {c : Prop} [Decidable c] {p q : Prop} (h : c → p) (h' : ¬ c → q) : ifB (decide c) p q := ifB_2 (fun e => h (of_decide_eq_true e)) (fun e => h' (of_decide_eq_false e))
theorem ifB_nd {c : Prop} [Decidable c] {p q : Prop} (h : ¬ c → p) (h' : c → q) : ifB (!decide c) p q := ifB_2 (fun e => h (by simpa using e)) (fun e => h' (by simpa using e))
/-! ### readings -/
abbrev Rd := Ev → (D → Prop) → Prop
abbrev RdT := Ev → (Bool → Prop) → Prop
abbrev RdA := Ev → (List D → Prop) → Prop
structure En where
  nx : Ev → Prop
  rt : D → Prop
  bk : Ev → Prop := fun _ => False
  ct : Ev → Prop := fun _ => False
abbrev RdS := Ev → En → Prop
def tE (K : Frg) (B : Bs) (r : Rd) : TE := fun σ H Q => ∃ F ρ Qd, Iv K B F H σ ρ ∧ r ρ Qd ∧ ∀ v F' H' d, Go B.ms F H F' H' → Tp K B.ms F' H' → Rp K B.ms F' v d → Qd d → Q v H'
def tT (K : Frg) (B : Bs) (r : RdT) : TT := fun σ H Q => ∃ F ρ Qd, Iv K B F H σ ρ ∧ r ρ Qd ∧ ∀ b F' H', Go B.ms F H F' H' → Tp K B.ms F' H' → Qd b → Q b H'
def tA (K : Frg) (B : Bs) (r : RdA) : TA := fun σ H Q => ∃ F ρ Qd, Iv K B F H σ ρ ∧ r ρ Qd ∧ ∀ vs F' H' ds, Go B.ms F H F' H' → Tp K B.ms F' H' → Rps K B.ms F' vs ds → Qd ds → Q vs H'
def tS (K : Frg) (B : Bs) (r : RdS) : TS := fun Dd σ H => ∃ F ρ En, Iv K B F H σ ρ ∧ r ρ En ∧ (∀ σ' ρ' F' H', Same F F' → Iv K B F' H' σ' ρ' → En.nx ρ' → Dd.nx σ' H') ∧
  (∀ v d F' H', Go B.ms B.F0 B.H0 F' H' → Tp K B.ms F' H' → Rp K B.ms F' v d → En.rt d → Dd.rt v H') ∧
  (∀ σ' ρ' F' H', Same F F' → Iv K B F' H' σ' ρ' → En.bk ρ' → Dd.bk σ' H') ∧ (∀ σ' ρ' F' H', Same F F' → Iv K B F' H' σ' ρ' → En.ct ρ' → Dd.ct σ' H')
def PEp (X : Cx) (B : Bs) (e : Expr) (r : Rd) : Prop := PE X e (tE X.K B r)
def PTp (X : Cx) (B : Bs) (e : Expr) (r : RdT) : Prop := PT X e (tT X.K B r)
def PWp (X : Cx) (B : Bs) (e : Expr) (r : RdT) : Prop := PW X e (tT X.K B r)
def PAp (X : Cx) (B : Bs) (es : List Expr) (r : RdA) : Prop := PA X es (tA X.K B r)
def PSp (X : Cx) (B : Bs) (st : Stmt) (r : RdS) : Prop := PS X st (tS X.K B r)
def PSsp (X : Cx) (B : Bs) (st : List Stmt) (r : RdS) : Prop := PSs X st (tS X.K B r)
theorem pt_imp {X : Cx} {e : Expr} {t t' : TT} (h : PT X e t) (f : ∀ σ H Q, t' σ H Q → t σ H Q) : PT X e t' := ⟨fun pins s σ H Q I z => h.run pins s σ H Q I (f σ H Q z)⟩
theorem pw_imp {X : Cx} {e : Expr} {t t' : TT} (h : PW X e t) (f : ∀ σ H Q, t' σ H Q → t σ H Q) : PW X e t' := ⟨fun w pins s σ H Q I z => h.run w pins s σ H Q I (f σ H Q z)⟩
theorem pa_imp {X : Cx} {e : List Expr} {t t' : TA} (h : PA X e t) (f : ∀ σ H Q, t' σ H Q → t σ H Q) : PA X e t' := ⟨fun p pins s σ H Q I z => h.run p pins s σ H Q I (f σ H Q z)⟩
theorem ps_imp {X : Cx} {e : Stmt} {t t' : TS} (h : PS X e t) (f : ∀ σ H Q, t' Q σ H → t Q σ H) : PS X e t' := ⟨fun pins s σ H Q I z => h.run pins s σ H Q I (f σ H Q z)⟩
theorem pss_imp {X : Cx} {e : List Stmt} {t t' : TS} (h : PSs X e t) (f : ∀ σ H Q, t' Q σ H → t Q σ H) : PSs X e t' := ⟨fun pins s σ H Q I z => h.run pins s σ H Q I (f σ H Q z)⟩
section
variable {X : Cx} {B : Bs} {a b c e : Expr} {es : List Expr} {ra rb rc r : Rd} {rt ru : RdT} {rl : RdA} {pos : Pos}
/-! ### names, constants -/
def rVar (i : Nat) : Rd := fun ρ Q => match ρ[i]? with
  | some (.val d) => Q d
  | _ => False
def rC (d : D) : Rd := fun _ Q => Q d
theorem y_var {i : Nat} {x : Str} (h : PE X (.Name x pos) (tVar i)) : PEp X B (.Name x pos) (rVar i) := pe_imp h fun σ H Q ⟨F, ρ, Qd, I, z, k⟩ => by
  unfold rVar at z
  split at z
  · rename_i d e
    obtain ⟨v, h1, h2⟩ := I.val i d e
    exact ⟨v, h1, k v F H d (Go.refl I.same) I.tp h2 z⟩
  · exact z.elim
theorem y_c {v : V} {d : D} (h : PE X e (tC v)) (hr : ∀ K ms F, Rp K ms F v d) : PEp X B e (rC d) := pe_imp h fun σ H Q ⟨F, ρ, Qd, I, z, k⟩ => k v F H d (Go.refl I.same) I.tp (hr _ _ _) z
theorem y_int {i j} : PEp X B (.Constant (.int i) j pos) (rC (.int i)) := y_c pe_int fun _ _ _ => .int i
theorem y_bl {b j} : PEp X B (.Constant (.bool b) j pos) (rC (.bl b)) := y_c pe_bl fun _ _ _ => .bl b
theorem y_non {j} : PEp X B (.Constant .none j pos) (rC .non) := y_c pe_non fun _ _ _ => .non
theorem y_str {x j} : PEp X B (.Constant (.str x) j pos) (rC (.str x)) := y_c pe_str fun _ _ _ => .str x
theorem y_globI {x : Str} {i : Int} (hg : Gl X x) (h : ∃ t, X.mg x = some (.int i t)) (hd : (x == ("__debug__" : Str)) = false := by decide) : PEp X B (.Name x pos) (rC (.int i)) := y_c (pe_globI hg h hd) fun _ _ _ => .int i
theorem y_globS {x z : Str} (hg : Gl X x) (h : ∃ t, X.mg x = some (.str z t)) (hd : (x == ("__debug__" : Str)) = false := by decide) : PEp X B (.Name x pos) (rC (.str z)) := y_c (pe_globS hg h hd) fun _ _ _ => .str z
theorem y_glob {x : Str} (hg : Gl X x) (h : X.mg x = some (.ref (He.ga X.K x))) (hd : (x == ("__debug__" : Str)) = false := by decide) : PEp X B (.Name x pos) (rC (.glob x)) :=
  pe_imp (pe_glob (v := .ref (He.ga X.K x)) hg h rfl hd) fun σ H Q ⟨F, ρ, Qd, I, z, k⟩ => k _ F H _ (Go.refl I.same) I.tp (.glob x) z
theorem y_ty {x : Str} {n : String} (hg : Gl X x) (hm : X.mg x = none) (hv : bootBuiltins x = some (.type n)) (hn : x ≠ "__name__" := by decide) (hd : (x == ("__debug__" : Str)) = false := by decide) : PEp X B (.Name x pos) (rC (.ty n)) := y_c (pe_bltn (v := .ty n) hg hm hv rfl hn hd) fun _ _ _ => .ty n
/-! ### two-place operations -/
def OpL (K : Frg) (ms : List Addr) (r : R2) (g : D → D → (D → Prop) → Prop) : Prop := ∀ (F H : Hp) (x y : V) (dx dy : D) (Qd : D → Prop) (Q : VK), Same F H → Rp K ms F x dx → Rp K ms F y dy → g dx dy Qd → (∀ v F' H' d, Go [] F H F' H' → Rp K ms F' v d → Qd d → Q v H') → r x y H Q
theorem tOp_of {g : D → D → (D → Prop) → Prop} {o : R2} (hl : OpL X.K B.ms o g) (σ : L2.St) (H : Hp) (Q : VK) (h : tE X.K B (fun ρ Q => ra ρ fun x => rb ρ fun y => g x y Q) σ H Q) : tOp o (tE X.K B ra) (tE X.K B rb) σ H Q := by
  obtain ⟨F, ρ, Qd, I, z, k⟩ := h
  refine ⟨F, ρ, _, I, z, fun v F1 H1 d g1 t1 r1 z1 => ⟨F1, ρ, _, I.step g1 t1, z1, fun u F2 H2 e g2 t2 r2 z2 => ?_⟩⟩
  exact hl F2 H2 v u d e Qd Q t2.1 (r1.up g2.ff) r2 z2 fun w F3 H3 d3 g3 r3 q3 => k w F3 H3 d3 ((g1.trans g2).trans g3.nil) (t2.go0 g3) r3 q3
theorem y_op {op : Operator} {g : D → D → (D → Prop) → Prop} {o : R2} (ho : OpR X (binaryOp op) o) (hl : OpL X.K B.ms o g) (ha : PEp X B a ra) (hb : PEp X B b rb) : PEp X B (.BinOp a op b pos) (fun ρ Q => ra ρ fun x => rb ρ fun y => g x y Q) :=
  pe_imp (pe_op ho ha hb) (tOp_of hl)
theorem y_cmp {op : CmpOp} {g : D → D → (D → Prop) → Prop} {o : R2} (ho : OpR X (compareOp op) o) (hl : OpL X.K B.ms o g) (ha : PEp X B a ra) (hb : PEp X B b rb) (hm : behindInMarks op b = false) : PEp X B (.Compare a [op] [b] pos) (fun ρ Q => ra ρ fun x => rb ρ fun y => g x y Q) :=
  pe_imp (pe_cmpR ho ha hb hm) (tOp_of hl)
def tst (d : D) (Q : Bool → Prop) : Prop := match d with
  | .bl b => Q b
  | _ => False
theorem tTest_of {t : TE} (h0 : ∀ σ H Q, tE X.K B r σ H Q → t σ H Q) (σ : L2.St) (H : Hp) (Q : Bool → Hp → Prop) (h : tT X.K B (fun ρ Q => r ρ fun d => tst d Q) σ H Q) : tTest t σ H Q := by
  obtain ⟨F, ρ, Qd, I, z, k⟩ := h
  refine h0 _ _ _ ⟨F, ρ, _, I, z, fun v F1 H1 d g1 t1 r1 z1 => ?_⟩
  unfold tst at z1
  split at z1
  · rename_i b
    cases r1
    exact ⟨b, rfl, k b F1 H1 g1 t1 z1⟩
  · exact z1.elim
theorem z_cmp {op : CmpOp} {g : D → D → (D → Prop) → Prop} {o : R2} (ho : OpR X (compareOp op) o) (hl : OpL X.K B.ms o g) (ha : PEp X B a ra) (hb : PEp X B b rb) (hm : behindInMarks op b = false) : PTp X B (.Compare a [op] [b] pos) (fun ρ Q => ra ρ fun x => rb ρ fun y => g x y fun d => tst d Q) :=
  pt_imp (pt_cmpR ho ha hb hm) (tTest_of (tOp_of hl))
theorem z_val (h : PEp X B e r) (he : ∀ whole, isTrue e X.env whole = (do let v ← whole; standAt e.pos; holding [v] (truthy v)) := by intro _; rfl) : PTp X B e (fun ρ Q => r ρ fun d => tst d Q) :=
  pt_imp (pt_val h he) (tTest_of fun _ _ _ z => z)
/-- a op b op' c -/
def chn (g g' : D → D → (D → Prop) → Prop) (ra rb rc : Rd) : Rd := fun ρ Q => ra ρ fun x => rb ρ fun y => g x y fun z => tst z fun k => ifB k (rc ρ fun w => g' y w Q) (Q (.bl false))
theorem tChain_of {g g' : D → D → (D → Prop) → Prop} {o o' : R2} (hl : OpL X.K B.ms o g) (hl' : OpL X.K B.ms o' g') (σ : L2.St) (H : Hp) (Q : VK) (h : tE X.K B (chn g g' ra rb rc) σ H Q) : tChain o o' (tE X.K B ra) (tE X.K B rb) (tE X.K B rc) σ H Q := by
  obtain ⟨F, ρ, Qd, I, z, k⟩ := h
  refine ⟨F, ρ, _, I, z, fun v F1 H1 d g1 t1 r1 z1 => ⟨F1, ρ, _, I.step g1 t1, z1, fun u F2 H2 e g2 t2 r2 z2 => ?_⟩⟩
  refine hl F2 H2 v u d e _ _ t2.1 (r1.up g2.ff) r2 z2 fun w F3 H3 d3 g3 r3 q3 => ?_
  have t3 := t2.go0 g3
  unfold tst at q3
  split at q3
  · rename_i b
    cases r3
    refine ⟨b, rfl, ?_⟩
    cases b with
    | false => exact k _ F3 H3 _ ((g1.trans g2).trans g3.nil) t3 (.bl false) (ifB_f q3)
    | true => exact ⟨F3, ρ, _, ((I.step g1 t1).step g2 t2).step g3.nil t3, ifB_t q3, fun w4 F4 H4 d4 g4 t4 r4 z4 => hl' F4 H4 u w4 e d4 Qd Q t4.1 ((r2.up g3.ff).up g4.ff) r4 z4 fun w5 F5 H5 d5 g5 r5 q5 => k w5 F5 H5 d5 (((g1.trans g2).trans g3.nil).trans (g4.trans g5.nil)) (t4.go0 g5) r5 q5⟩
  · exact q3.elim
theorem y_chain {op op' : CmpOp} {g g' : D → D → (D → Prop) → Prop} {o o' : R2} (ho : OpR X (compareOp op) o) (hl : OpL X.K B.ms o g) (ho' : OpR X (compareOp op') o') (hl' : OpL X.K B.ms o' g') (ha : PEp X B a ra) (hb : PEp X B b rb) (hc : PEp X B c rc)
    (hm : lastMarks [op, op'] [b, c] = false := by with_unfolding_all rfl) : PEp X B (.Compare a [op, op'] [b, c] pos) (chn g g' ra rb rc) := pe_imp (pe_chain ho ho' ha hb hc hm) (tChain_of hl hl')
theorem z_chain {op op' : CmpOp} {g g' : D → D → (D → Prop) → Prop} {o o' : R2} (ho : OpR X (compareOp op) o) (hl : OpL X.K B.ms o g) (ho' : OpR X (compareOp op') o') (hl' : OpL X.K B.ms o' g') (ha : PEp X B a ra) (hb : PEp X B b rb) (hc : PEp X B c rc)
    (hm : lastMarks [op, op'] [b, c] = false := by with_unfolding_all rfl) : PTp X B (.Compare a [op, op'] [b, c] pos) (fun ρ Q => chn g g' ra rb rc ρ fun d => tst d Q) := pt_imp (pt_chain ho ho' ha hb hc hm) (tTest_of (tChain_of hl hl'))
/-! ### and, or, not, if -/
theorem z_and1 (ha : PTp X B a rt) : PWp X B (.BoolOp .And [a] pos) rt := pw_and1 ha
theorem z_or1 (ha : PTp X B a rt) : PWp X B (.BoolOp .Or [a] pos) rt := pw_or1 ha
theorem z_and {rest : List Expr} (ha : PTp X B a rt) (hb : PWp X B (.BoolOp .And (b :: rest) pos) ru) : PWp X B (.BoolOp .And (a :: b :: rest) pos) (fun ρ Q => rt ρ fun c => ifB c (ru ρ Q) (Q false)) :=
  pw_imp (pw_and ha hb) fun σ H Q ⟨F, ρ, Qd, I, z, k⟩ => ⟨F, ρ, _, I, z, fun b F1 H1 g1 t1 z1 => by
    cases b with
    | false => exact k false F1 H1 g1 t1 (ifB_f z1)
    | true => exact ⟨F1, ρ, _, I.step g1 t1, ifB_t z1, fun b F2 H2 g2 t2 z2 => k b F2 H2 (g1.trans g2) t2 z2⟩⟩
theorem z_or {rest : List Expr} (ha : PTp X B a rt) (hb : PWp X B (.BoolOp .Or (b :: rest) pos) ru) : PWp X B (.BoolOp .Or (a :: b :: rest) pos) (fun ρ Q => rt ρ fun c => ifB c (Q true) (ru ρ Q)) :=
  pw_imp (pw_or ha hb) fun σ H Q ⟨F, ρ, Qd, I, z, k⟩ => ⟨F, ρ, _, I, z, fun b F1 H1 g1 t1 z1 => by
    cases b with
    | true => exact k true F1 H1 g1 t1 (ifB_t z1)
    | false => exact ⟨F1, ρ, _, I.step g1 t1, ifB_f z1, fun b F2 H2 g2 t2 z2 => k b F2 H2 (g1.trans g2) t2 z2⟩⟩
theorem z_pt (h : PWp X B a rt) : PTp X B a rt := PW.pt h
theorem z_not (ha : PTp X B a rt) : PTp X B (.UnaryOp .Not a pos) (fun ρ Q => rt ρ fun c => Q (!c)) :=
  pt_imp (pt_not ha) fun σ H Q ⟨F, ρ, Qd, I, z, k⟩ => ⟨F, ρ, _, I, z, fun b F1 H1 g1 t1 z1 => k (!b) F1 H1 g1 t1 z1⟩
theorem y_one {op} (h : PEp X B a ra) : PEp X B (.BoolOp op [a] pos) ra := pe_one h
theorem y_and {rest : List Expr} (ha : PEp X B a ra) (hb : PEp X B (.BoolOp .And (b :: rest) pos) rb) : PEp X B (.BoolOp .And (a :: b :: rest) pos) (fun ρ Q => ra ρ fun d => tst d fun c => ifB c (rb ρ Q) (Q (.bl false))) :=
  pe_imp (pe_and ha hb) fun σ H Q ⟨F, ρ, Qd, I, z, k⟩ => ⟨F, ρ, _, I, z, fun v F1 H1 d g1 t1 r1 z1 => by
    unfold tst at z1
    split at z1
    · rename_i b
      cases r1
      refine ⟨b, rfl, ?_⟩
      cases b with
      | false => exact k _ F1 H1 _ g1 t1 (.bl false) (ifB_f z1)
      | true => exact ⟨F1, ρ, _, I.step g1 t1, ifB_t z1, fun w F2 H2 d g2 t2 r2 z2 => k w F2 H2 d (g1.trans g2) t2 r2 z2⟩
    · exact z1.elim⟩
theorem y_or {rest : List Expr} (ha : PEp X B a ra) (hb : PEp X B (.BoolOp .Or (b :: rest) pos) rb) : PEp X B (.BoolOp .Or (a :: b :: rest) pos) (fun ρ Q => ra ρ fun d => tst d fun c => ifB c (Q (.bl true)) (rb ρ Q)) :=
  pe_imp (pe_or ha hb) fun σ H Q ⟨F, ρ, Qd, I, z, k⟩ => ⟨F, ρ, _, I, z, fun v F1 H1 d g1 t1 r1 z1 => by
    unfold tst at z1
    split at z1
    · rename_i b
      cases r1
      refine ⟨b, rfl, ?_⟩
      cases b with
      | true => exact k _ F1 H1 _ g1 t1 (.bl true) (ifB_t z1)
      | false => exact ⟨F1, ρ, _, I.step g1 t1, ifB_f z1, fun w F2 H2 d g2 t2 r2 z2 => k w F2 H2 d (g1.trans g2) t2 r2 z2⟩
    · exact z1.elim⟩
theorem y_not (ha : PEp X B a ra) : PEp X B (.UnaryOp .Not a pos) (fun ρ Q => ra ρ fun d => tst d fun c => Q (.bl (!c))) :=
  pe_imp (pe_not ha) fun σ H Q ⟨F, ρ, Qd, I, z, k⟩ => ⟨F, ρ, _, I, z, fun v F1 H1 d g1 t1 r1 z1 => by
    unfold tst at z1
    split at z1
    · rename_i b
      cases r1
      exact ⟨b, rfl, k _ F1 H1 _ g1 t1 (.bl (!b)) z1⟩
    · exact z1.elim⟩
theorem y_if (hc : PTp X B c rt) (ha : PEp X B a ra) (hb : PEp X B b rb) : PEp X B (.IfExp c a b pos) (fun ρ Q => rt ρ fun c => ifB c (ra ρ Q) (rb ρ Q)) :=
  pe_imp (pe_ifExp hc ha hb) fun σ H Q ⟨F, ρ, Qd, I, z, k⟩ => ⟨F, ρ, _, I, z, fun c F1 H1 g1 t1 z1 => by
    cases c with
    | true => exact ⟨F1, ρ, _, I.step g1 t1, ifB_t z1, fun w F2 H2 d g2 t2 r2 z2 => k w F2 H2 d (g1.trans g2) t2 r2 z2⟩
    | false => exact ⟨F1, ρ, _, I.step g1 t1, ifB_f z1, fun w F2 H2 d g2 t2 r2 z2 => k w F2 H2 d (g1.trans g2) t2 r2 z2⟩⟩
/-- a one-place operation -/
def UnL (K : Frg) (ms : List Addr) (r : V → Hp → VK → Prop) (g : D → (D → Prop) → Prop) : Prop := ∀ (F H : Hp) (x : V) (dx : D) (Qd : D → Prop) (Q : VK), Same F H → Rp K ms F x dx → g dx Qd → (∀ v F' H' d, Go [] F H F' H' → Rp K ms F' v d → Qd d → Q v H') → r x H Q
theorem y_un {op : UnaryOp} {g : D → (D → Prop) → Prop} {o : V → Hp → VK → Prop} (ho : UnR X (unaryOp op) o) (hl : UnL X.K B.ms o g) (ha : PEp X B a ra) : PEp X B (.UnaryOp op a pos) (fun ρ Q => ra ρ fun x => g x Q) :=
  pe_imp (pe_un ho ha) fun σ H Q ⟨F, ρ, Qd, I, z, k⟩ => ⟨F, ρ, _, I, z, fun v F1 H1 d g1 t1 r1 z1 => hl F1 H1 v d Qd Q t1.1 r1 z1 fun w F2 H2 e g2 r2 z2 => k w F2 H2 e (g1.trans g2.nil) (t1.go0 g2) r2 z2⟩
/-! ### arguments, displays -/
def aNil : RdA := fun _ Q => Q []
def aCons (ra : Rd) (rl : RdA) : RdA := fun ρ Q => ra ρ fun x => rl ρ fun xs => Q (x :: xs)
theorem a_nil : PAp X B [] aNil := pa_imp pa_nil fun σ H Q ⟨F, ρ, Qd, I, z, k⟩ => k [] F H [] (Go.refl I.same) I.tp .nil z
theorem a_cons (ha : PEp X B e ra) (hr : PAp X B es rl) (hs : starEach (e :: es) X.env = (false, eval e X.env) :: starEach es X.env := by rfl) : PAp X B (e :: es) (aCons ra rl) :=
  pa_imp (pa_cons ha hr hs) fun σ H Q ⟨F, ρ, Qd, I, z, k⟩ => ⟨F, ρ, _, I, z, fun v F1 H1 d g1 t1 r1 z1 => ⟨F1, ρ, _, I.step g1 t1, z1, fun vs F2 H2 ds g2 t2 r2 z2 => k (v :: vs) F2 H2 (d :: ds) (g1.trans g2) t2 (.cons (r1.up g2.ff) r2) z2⟩⟩
theorem y_tup {x1} (h : PAp X B es rl) : PEp X B (.Tuple es x1 pos) (fun ρ Q => rl ρ fun ds => ds.length ≤ 100000 ∧ Q (.tup ds)) :=
  pe_imp (pe_tupZ h) fun σ H Q ⟨F, ρ, Qd, I, z, k⟩ => ⟨F, ρ, _, I, z, fun vs F1 H1 ds g1 t1 r1 z1 => ⟨Nat.le_trans (by rw [r1.len]; exact z1.1) (by decide), fun p H2 hp e2 => by
    obtain ⟨F2, g2, q2, _⟩ := newE g1.fh hp e2
    exact k _ F2 H2 _ (g1.trans g2.nil) (t1.go0 g2) (.tup (SqT.of q2) (r1.up g2.ff)) z1.2⟩⟩
theorem y_lst (h : PAp X B es rl) : PEp X B (.List es pos) (fun ρ Q => rl ρ fun ds => ds.length ≤ 100000 ∧ Q (.lst ds)) :=
  pe_imp (pe_lstZ h) fun σ H Q ⟨F, ρ, Qd, I, z, k⟩ => ⟨F, ρ, _, I, z, fun vs F1 H1 ds g1 t1 r1 z1 => ⟨Nat.le_trans (by rw [r1.len]; exact z1.1) (by decide), fun p H2 hp e2 => by
    obtain ⟨F2, g2, q2, _⟩ := newE g1.fh hp e2
    exact k _ F2 H2 _ (g1.trans g2.nil) (t1.go0 g2) (.lst q2 (r1.up g2.ff)) z1.2⟩⟩
end
end Y
namespace Y
open PySem PySem.Spec PyProof.Rows L2 Z
/-! ### statements -/
section
variable {X : Cx} {B : Bs} {a b c e : Expr} {es : List Expr} {ra rb rc r : Rd} {rt ru : RdT} {rl : RdA} {pos : Pos} {st : Stmt} {rest : List Stmt} {s1 s2 : RdS}
theorem s_nil : PSsp X B [] (fun ρ E => E.nx ρ) := pss_imp pss_nil fun σ H Dd ⟨F, ρ, E, I, z, kn, _⟩ => kn σ ρ F H (Same.refl _) I z
theorem s_cons (h1 : PSp X B st s1) (h2 : PSsp X B rest s2) : PSsp X B (st :: rest) (fun ρ E => s1 ρ { E with nx := fun ρ' => s2 ρ' E }) :=
  pss_imp (pss_cons h1 h2) fun σ H Dd ⟨F, ρ, E, I, z, kn, kr, kb, kc⟩ => ⟨F, ρ, _, I, z, fun σ' ρ' F' H' s I' z' => ⟨F', ρ', E, I', z', fun σ2 ρ2 F2 H2 s' I2 z2 => kn σ2 ρ2 F2 H2 (s.trans s') I2 z2, kr, fun σ2 ρ2 F2 H2 s' I2 z2 => kb σ2 ρ2 F2 H2 (s.trans s') I2 z2, fun σ2 ρ2 F2 H2 s' I2 z2 => kc σ2 ρ2 F2 H2 (s.trans s') I2 z2⟩, kr, kb, kc⟩
theorem s_one (h1 : PSp X B st s1) : PSsp X B [st] s1 := pss_one h1
theorem s_ret (he : PEp X B e r) : PSp X B (.Return (some e) pos) (fun ρ E => r ρ E.rt) :=
  ps_imp (ps_ret he) fun σ H Dd ⟨F, ρ, E, I, z, kn, kr, kb, kc⟩ => ⟨F, ρ, _, I, z, fun v F' H' d g t r q => kr v d F' H' (I.go.trans g) t r q⟩
theorem s_retN : PSp X B (.Return none pos) (fun _ E => E.rt .non) := ps_imp ps_retN fun σ H Dd ⟨F, ρ, E, I, z, kn, kr, kb, kc⟩ => kr .non .non F H I.go I.tp .non z
theorem s_pass : PSp X B (.Pass pos) (fun ρ E => E.nx ρ) := ps_imp ps_pass fun σ H Dd ⟨F, ρ, E, I, z, kn, kr, kb, kc⟩ => kn σ ρ F H (Same.refl _) I z
theorem s_brk : PSp X B (.Break pos) (fun ρ E => E.bk ρ) := ps_imp ps_break fun σ H Dd ⟨F, ρ, E, I, z, kn, kr, kb, kc⟩ => kb σ ρ F H (Same.refl _) I z
theorem s_cnt : PSp X B (.Continue pos) (fun ρ E => E.ct ρ) := ps_imp ps_continue fun σ H Dd ⟨F, ρ, E, I, z, kn, kr, kb, kc⟩ => kc σ ρ F H (Same.refl _) I z
theorem s_never : PSp X B st (fun _ _ => False) := ps_imp ps_never fun σ H Dd ⟨F, ρ, E, I, z, _⟩ => z
theorem s_doc {x j pos'} : PSp X B (.Expr (.Constant (.str x) j pos) pos') (fun ρ E => E.nx ρ) := ps_imp ps_doc fun σ H Dd ⟨F, ρ, E, I, z, kn, kr, kb, kc⟩ => kn σ ρ F H (Same.refl _) I z
theorem s_expr (he : PEp X B e r) (hs : swapsWith e none pos.line X.env = pure false := by rfl) : PSp X B (.Expr e pos) (fun ρ E => r ρ fun _ => E.nx ρ) :=
  ps_imp (ps_expr he hs) fun σ H Dd ⟨F, ρ, E, I, z, kn, kr, kb, kc⟩ => ⟨F, ρ, _, I, z, fun v F' H' d g t r q => kn σ ρ F' H' g.ff (I.step g t) q⟩
theorem s_if {bs cs : List Stmt} (hc : PTp X B c rt) (ha : PSsp X B bs s1) (hb : PSsp X B cs s2) : PSp X B (.If c bs cs pos) (fun ρ E => rt ρ fun k => ifB k (s1 ρ E) (s2 ρ E)) :=
  ps_imp (ps_if hc ha hb) fun σ H Dd ⟨F, ρ, E, I, z, kn, kr, kb, kc⟩ => ⟨F, ρ, _, I, z, fun k F1 H1 g1 t1 z1 => by
    have J := I.step g1 t1
    cases k with
    | true => exact ⟨F1, ρ, E, J, ifB_t z1, fun σ2 ρ2 F2 H2 s' I2 z2 => kn σ2 ρ2 F2 H2 (g1.ff.trans s') I2 z2, kr, fun σ2 ρ2 F2 H2 s' I2 z2 => kb σ2 ρ2 F2 H2 (g1.ff.trans s') I2 z2, fun σ2 ρ2 F2 H2 s' I2 z2 => kc σ2 ρ2 F2 H2 (g1.ff.trans s') I2 z2⟩
    | false => exact ⟨F1, ρ, E, J, ifB_f z1, fun σ2 ρ2 F2 H2 s' I2 z2 => kn σ2 ρ2 F2 H2 (g1.ff.trans s') I2 z2, kr, fun σ2 ρ2 F2 H2 s' I2 z2 => kb σ2 ρ2 F2 H2 (g1.ff.trans s') I2 z2, fun σ2 ρ2 F2 H2 s' I2 z2 => kc σ2 ρ2 F2 H2 (g1.ff.trans s') I2 z2⟩⟩
/-! ### targets -/
inductive Tg where
  | nm (i : Nat) | tp (is : List Nat)
def stN : List Nat → List D → Ev → (Ev → Prop) → Prop
  | [], [], ρ, Q => Q ρ
  | i :: is, d :: ds, ρ, Q => stN is ds (ρ.set i (.val d)) Q
  | _, _, _, _ => False
def tgD : Tg → D → Ev → (Ev → Prop) → Prop
  | .nm i, d, ρ, Q => Q (ρ.set i (.val d))
  | .tp is, .tup ds, ρ, Q => stN is ds ρ Q
  | .tp is, .lst ds, ρ, Q => stN is ds ρ Q
  | _, _, _, _ => False
def gNs : List Nat → TGs
  | [] => gNil
  | i :: is => gCons (gName i) (gNs is)
def tgV (K : Frg) : Tg → TG
  | .nm i => gName i
  | .tp is => fun v σ H Q => gTup K is.length (gNs is) v σ H Q ∨ gLst K is.length (gNs is) v σ H Q
theorem g_nm {i : Nat} {x : Str} (h : PG X (.Name x pos) (gName i)) : PG X (.Name x pos) (tgV X.K (.nm i)) := h
theorem g_tp {is : List Nat} {k : Nat} (hc : X.calm = true) (h : PGs X es (gNs is)) (hl : is.length = (assignEach es X.env).length := by rfl) (hst : (assignEach es X.env).findIdx? (·.1) = none := by rfl) : PG X (.Tuple es k pos) (tgV X.K (.tp is)) := by
  have h1 := pg_tup (pos := pos) (k := k) hc h hl.symm hst
  have h2 := pg_lst (pos := pos) (k := k) hc h hl.symm hst
  exact ⟨fun pins s σ H v u Q I r z => z.elim (h1.run pins s σ H v u Q I r) (h2.run pins s σ H v u Q I r)⟩
theorem stN_run {K : Frg} : ∀ {is : List Nat} {vs : List V} {ds : List D} {F H : Hp} {σ : L2.St} {ρ : Ev} {Qd : Ev → Prop} {Q : L2.St → Hp → Prop}, Iv K B F H σ ρ → Rps K B.ms F vs ds → stN is ds ρ Qd → (∀ σ' ρ', Iv K B F H σ' ρ' → Qd ρ' → Q σ' H) → gNs is vs σ H Q
  | [], [], [], F, H, σ, ρ, Qd, Q, I, _, z, k => ⟨rfl, k σ ρ I z⟩
  | i :: is, v :: vs, d :: ds, F, H, σ, ρ, Qd, Q, I, r, z, k => by
    cases r with
    | cons r1 r2 => exact ⟨v, vs, rfl, stN_run (I.set i r1) r2 z k⟩
  | [], _ :: _, [], _, _, _, _, _, _, _, r, _, _ => by cases r
  | [], _, _ :: _, _, _, _, _, _, _, _, _, z, _ => z.elim
  | _ :: _, _, [], _, _, _, _, _, _, _, _, z, _ => z.elim
  | _ :: _, [], _ :: _, _, _, _, _, _, _, _, r, _, _ => by cases r
theorem stN_len : ∀ {is : List Nat} {ds : List D} {ρ : Ev} {Qd : Ev → Prop}, stN is ds ρ Qd → ds.length = is.length
  | [], [], _, _, _ => rfl
  | _ :: is, _ :: ds, _, _, z => by simp only [List.length_cons]; rw [stN_len (is := is) (ds := ds) z]
  | [], _ :: _, _, _, z => z.elim
  | _ :: _, [], _, _, z => z.elim
theorem tg_run {K : Frg} {tg : Tg} {v : V} {d : D} {F H : Hp} {σ : L2.St} {ρ : Ev} {Qd : Ev → Prop} {Q : L2.St → Hp → Prop} (I : Iv K B F H σ ρ) (r : Rp K B.ms F v d) (z : tgD tg d ρ Qd) (k : ∀ σ' ρ', Iv K B F H σ' ρ' → Qd ρ' → Q σ' H) : tgV K tg v σ H Q := by
  cases tg with
  | nm i => exact k _ _ (I.set i r) z
  | tp is =>
    cases d with
    | tup ds =>
      cases r with
      | tup h1 h2 => exact .inl ⟨_, _, rfl, sqT I.same h1, by rw [h2.len]; exact stN_len z, stN_run I h2 z k⟩
    | lst ds =>
      cases r with
      | lst h1 h2 => exact .inr ⟨_, _, rfl, SqL.of (I.same _ _ h1), by rw [h2.len]; exact stN_len z, stN_run I h2 z k⟩
    | _ => exact z.elim
/-- a target touches its own slots alone -/
def Tg.slots : Tg → List Nat
  | .nm i => [i]
  | .tp is => is
theorem wipe_get (σ : L2.St) : ∀ (vs : List Nat) (j : Nat), (L2.wipe σ vs)[j]? = if j ∈ vs then (if j < σ.length then some none else none) else σ[j]?
  | [], j => by simp [L2.wipe]
  | v :: vs, j => by
    unfold L2.wipe
    rw [List.getElem?_set, L2.wipe_length, wipe_get σ vs j]
    by_cases hv : v = j
    · subst hv; simp
    · rw [if_neg hv]
      have : (j ∈ v :: vs) = (j ∈ vs) := by simp [Ne.symm hv]
      simp only [this]
theorem wipe_set (σ : L2.St) {i : Nat} {x : Option V} {vs : List Nat} (h : i ∈ vs) : L2.wipe (σ.set i x) vs = L2.wipe σ vs := by
  apply List.ext_getElem?
  intro j
  rw [wipe_get, wipe_get, List.length_set]
  by_cases hj : j ∈ vs
  · rw [if_pos hj, if_pos hj]
  · rw [if_neg hj, if_neg hj, List.getElem?_set_ne (fun (e : i = j) => hj (e ▸ h))]
theorem gNs_wipe {vs0 : List Nat} {H : Hp} {Q : L2.St → Hp → Prop} : ∀ {is : List Nat} {vs : List V} {σ : L2.St}, (∀ i ∈ is, i ∈ vs0) → gNs is vs σ H Q → gNs is vs σ H fun σ2 H2 => L2.wipe σ2 vs0 = L2.wipe σ vs0 ∧ Q σ2 H2
  | [], _, _, _, h => ⟨h.1, rfl, h.2⟩
  | i :: is, vs, σ, hm, ⟨v, r, e, h⟩ => by
    refine ⟨v, r, e, ?_⟩
    have := gNs_wipe (is := is) (fun j hj => hm j (List.mem_cons_of_mem _ hj)) h
    rw [wipe_set σ (hm i List.mem_cons_self)] at this
    exact this
theorem tg_wipe {K : Frg} {tg : Tg} {vs0 : List Nat} {v : V} {σ : L2.St} {H : Hp} {Q : L2.St → Hp → Prop} (hm : ∀ i ∈ tg.slots, i ∈ vs0) (h : tgV K tg v σ H Q) : tgV K tg v σ H fun σ2 H2 => L2.wipe σ2 vs0 = L2.wipe σ vs0 ∧ Q σ2 H2 := by
  cases tg with
  | nm i => exact ⟨wipe_set σ (hm i List.mem_cons_self), h⟩
  | tp is =>
    rcases h with ⟨a, xs, e, h1, h2, h3⟩ | ⟨a, xs, e, h1, h2, h3⟩
    · exact .inl ⟨a, xs, e, h1, h2, gNs_wipe hm h3⟩
    · exact .inr ⟨a, xs, e, h1, h2, gNs_wipe hm h3⟩
/-! ### assignments -/
theorem asg_of {te : TE} {tg : Tg} (h0 : ∀ σ H Q, tE X.K B r σ H Q → te σ H Q) (σ : L2.St) (H : Hp) (Dd : Ends) (h : tS X.K B (fun ρ E => r ρ fun d => tgD tg d ρ E.nx) Dd σ H) : tAsg te (tgV X.K tg) Dd σ H := by
  obtain ⟨F, ρ, E, I, z, kn, kr, kb, kc⟩ := h
  exact h0 _ _ _ ⟨F, ρ, _, I, z, fun v F' H' d g t r q => tg_run (I.step g t) r q fun σ' ρ' I' z' => kn σ' ρ' F' H' g.ff I' z'⟩
theorem s_set {i : Nat} {x : Str} {pos' : Pos} (hN : X.N.Nodup) (hi : X.N[i]? = some x) (hx : Loc X.env.scope x) (he : PEp X B e r) (hs : swapsWith e (some (.Name x pos')) pos.line X.env = pure false := by rfl) (hf : X.fn x = true ∨ X.env.scope.names.lookup x = some .local := by first | exact .inl rfl | exact .inr rfl | assumption) :
    PSp X B (.Assign [.Name x pos'] e pos) (fun ρ E => r ρ fun d => E.nx (ρ.set i (.val d))) := ps_imp (ps_set hN hi hx he hs hf) (asg_of (tg := .nm i) fun _ _ _ z => z)
theorem s_asg {tg : Expr} {t : Tg} (he : PEp X B e r) (hg : PG X tg (tgV X.K t)) (hs : swapsWithSole [tg] e pos.line X.env = pure false := by rfl) (hw : swappedStores [tg] e X.env = pure none := by rfl)
    (h1 : (assignEach [tg] X.env).map (·.2) = [assign tg X.env] := by rfl) : PSp X B (.Assign [tg] e pos) (fun ρ E => r ρ fun d => tgD t d ρ E.nx) := ps_imp (ps_asg he hg hs hw h1) (asg_of (tg := t) fun _ _ _ z => z)
theorem s_par {i j : Nat} {x y : Str} {px py pt : Pos} {kt k2 pt2} (hc : X.calm = true) (hN : X.N.Nodup) (hi : X.N[i]? = some x) (hj : X.N[j]? = some y) (hij : i ≠ j)
    (hx : X.env.scope.names.lookup x = some .local) (hy : X.env.scope.names.lookup y = some .local) (ha : PAp X B [a, b] rl)
    (hw : swappedStores [.Tuple [.Name x px, .Name y py] kt pt] (.Tuple [a, b] k2 pt2) X.env = pure (some [x, y]))
    (hs : swapsWithSole [.Tuple [.Name x px, .Name y py] kt pt] (.Tuple [a, b] k2 pt2) pos.line X.env = pure false := by rfl) :
    PSp X B (.Assign [.Tuple [.Name x px, .Name y py] kt pt] (.Tuple [a, b] k2 pt2) pos) (fun ρ E => rl ρ fun ds => stN [i, j] ds ρ E.nx) :=
  ps_imp (ps_par hc hN hi hj hij hx hy ha hw hs) fun σ H Dd ⟨F, ρ, E, I, z, kn, kr, kb, kc⟩ => ⟨F, ρ, _, I, z, fun vs F' H' ds g t r q => by
    match vs, ds, r, q with
    | [v, w], [d, d'], r, q =>
      cases r with
      | cons r1 r2 =>
        cases r2 with
        | cons r2 r3 => exact ⟨v, w, rfl, kn _ _ F' H' g.ff (((I.step g t).set i r1).set j r2) q⟩
    | [], [], _, q => exact q.elim
    | [_], [_], _, q => exact q.elim
    | _ :: _ :: _ :: _, _ :: _ :: _ :: _, _, q => exact q.elim
    | [], _ :: _, r, _ => exact (nomatch r)
    | _ :: _, [], r, _ => exact (nomatch r)
    | [_], _ :: _ :: _, r, _ => cases r with | cons _ r => exact (nomatch r)
    | _ :: _ :: _, [_], r, _ => cases r with | cons _ r => exact (nomatch r)
    | [_, _], _ :: _ :: _ :: _, r, _ => cases r with | cons _ r => cases r with | cons _ r => exact (nomatch r)
    | _ :: _ :: _ :: _, [_, _], r, _ => cases r with | cons _ r => cases r with | cons _ r => exact (nomatch r)⟩
/-! ### loops -/
theorem s_while {body : List Stmt} (hp : PassesOwn (model X.prog X.w) X.A X.env X.xe) (hc : PTp X B c rt) (hb : PSsp X B body s1) : PSp X B (.While c body [] pos) (fun ρ E => ∃ Iw : Nat → Ev → Prop, (∃ m, Iw m ρ) ∧ ∀ m ρ, Iw m ρ →
    rt ρ fun k => ifB k (s1 ρ { E with nx := fun ρ' => ∃ m', m' < m ∧ Iw m' ρ', ct := fun ρ' => ∃ m', m' < m ∧ Iw m' ρ', bk := E.nx }) (E.nx ρ)) :=
  ps_imp (ps_while hp hc hb) fun σ H Dd ⟨F, ρ, E, I, ⟨Iw, ⟨m0, i0⟩, turn⟩, kn, kr, kb, kc⟩ => by
    refine ⟨fun m σ' H' => ∃ F' ρ', Same F F' ∧ Iv X.K B F' H' σ' ρ' ∧ Iw m ρ', ⟨m0, F, ρ, Same.refl _, I, i0⟩, ?_⟩
    rintro m σ' H' ⟨F', ρ', s', I', z'⟩
    refine ⟨F', ρ', _, I', turn m ρ' z', fun k F1 H1 g1 t1 z1 => ?_⟩
    have J := I'.step g1 t1
    have sF := s'.trans g1.ff
    cases k with
    | false => exact kn σ' ρ' F1 H1 sF J (ifB_f z1)
    | true =>
      refine ⟨fun σ2 H2 => ∃ m', m' < m ∧ ∃ F2 ρ2, Same F F2 ∧ Iv X.K B F2 H2 σ2 ρ2 ∧ Iw m' ρ2, fun σ2 H2 ⟨m', hm, F2, ρ2, s2, I2, z2⟩ => ⟨m', hm, F2, ρ2, s2, I2, z2⟩, F1, ρ', _, J, ifB_t z1, ?_, kr, ?_, ?_⟩
      · rintro σ2 ρ2 F2 H2 s2 I2 ⟨m', hm, z2⟩
        exact ⟨m', hm, F2, ρ2, sF.trans s2, I2, z2⟩
      · intro σ2 ρ2 F2 H2 s2 I2 z2
        exact kn σ2 ρ2 F2 H2 (sF.trans s2) I2 z2
      · rintro σ2 ρ2 F2 H2 s2 I2 ⟨m', hm, z2⟩
        exact ⟨m', hm, F2, ρ2, sF.trans s2, I2, z2⟩
end
/-- an iterator that hands out the data ds -/
def Sqs (K : Frg) (ms : List Addr) (F : Hp) (J : It) (ds : List D) : Prop := ∃ (G : Hp → Prop) (Yd : Nat → Hp → V → Hp → Prop), Walk J ds.length G Yd ∧ (∀ F1 H1, Same F F1 → Same F1 H1 → G H1) ∧
  ∀ (i : Nat) (F1 H1 : Hp) (x : V) (H1' : Hp) (d : D), Same F F1 → Same F1 H1 → Yd i H1 x H1' → ds[i]? = some d → ∃ F2, Go [] F1 H1 F2 H1' ∧ Rp K ms F2 x d
def tI (K : Frg) (B : Bs) (r : RdA) : L2.TI := fun σ H R => ∃ F ρ Qd, Iv K B F H σ ρ ∧ r ρ Qd ∧ ∀ J F' H' ds, Go B.ms F H F' H' → Tp K B.ms F' H' → Sqs K B.ms F' J ds → Qd ds → R J H'
def PIp (X : Cx) (B : Bs) (tg iter : Expr) (r : RdA) : Prop := PI X tg iter (tI X.K B r)
theorem pi_imp {X : Cx} {tg it : Expr} {t t' : L2.TI} (h : PI X tg it t) (f : ∀ σ H R, t' σ H R → t σ H R) : PI X tg it t' := ⟨fun pins s σ H R I z => h.run pins s σ H R I (f σ H R z)⟩
/-- a for, turn by turn -/
def forP (tg : Tg) (sb : RdS) (E : En) : List D → Ev → Prop
  | [], ρ => E.nx ρ
  | d :: ds, ρ => tgD tg d ρ fun ρ1 => sb ρ1 { E with nx := forP tg sb E ds, ct := forP tg sb E ds, bk := E.nx }
/-- a for, by what holds behind each turn -/
def forI (tg : Tg) (sb : RdS) (E : En) (ds : List D) (ρ : Ev) : Prop := ∃ I : Nat → Ev → Prop, I 0 ρ ∧ (∀ (i : Nat) (d : D) (ρ' : Ev), ds[i]? = some d → I i ρ' → tgD tg d ρ' fun ρ1 => sb ρ1 { E with nx := I (i + 1), ct := I (i + 1), bk := E.nx }) ∧ ∀ ρ', I ds.length ρ' → E.nx ρ'
theorem lt_of_get {α : Type} {ds : List α} {i : Nat} {d : α} (h : ds[i]? = some d) : i < ds.length := by
  rcases Nat.lt_or_ge i ds.length with z | z
  · exact z
  · rw [List.getElem?_eq_none z] at h; cases h
theorem drop_of_get {α : Type} {ds : List α} {i : Nat} {d : α} (h : ds[i]? = some d) : ds.drop i = d :: ds.drop (i + 1) := by
  have hi := lt_of_get h
  rw [List.getElem?_eq_getElem hi] at h
  cases h
  exact List.drop_eq_getElem_cons hi
theorem forI_of {tg : Tg} {sb : RdS} {E : En} {ds : List D} {ρ : Ev} (h : forP tg sb E ds ρ) : forI tg sb E ds ρ := by
  refine ⟨fun i ρ' => forP tg sb E (ds.drop i) ρ', h, fun i d ρ' hd z => ?_, fun ρ' z => ?_⟩
  · dsimp only at z
    rw [drop_of_get hd] at z
    exact z
  · dsimp only at z
    rw [List.drop_length] at z
    exact z
/-- a comprehension, item by item -/
def mapP (tg : Tg) (rt : RdT) (re : Rd) (ρ : Ev) : List D → (List D → Prop) → Prop
  | [], Q => Q []
  | d :: ds, Q => tgD tg d ρ fun ρ2 => rt ρ2 fun k => ifB k (re ρ2 fun y => mapP tg rt re ρ ds fun ys => Q (y :: ys)) (mapP tg rt re ρ ds Q)
/-- a comprehension, by what holds of the items made so far -/
def mapI (tg : Tg) (rt : RdT) (re : Rd) (ρ : Ev) (ds : List D) (Q : List D → Prop) : Prop := ∃ J : Nat → List D → Prop, J 0 [] ∧ (∀ (i : Nat) (d : D) (acc : List D), ds[i]? = some d → J i acc → tgD tg d ρ fun ρ2 => rt ρ2 fun k => ifB k (re ρ2 fun y => J (i + 1) (acc ++ [y])) (J (i + 1) acc)) ∧ ∀ out, J ds.length out → Q out
theorem mapI_of {tg : Tg} {rt : RdT} {re : Rd} {ρ : Ev} {ds : List D} {Q : List D → Prop} (h : mapP tg rt re ρ ds Q) : mapI tg rt re ρ ds Q := by
  refine ⟨fun i acc => mapP tg rt re ρ (ds.drop i) fun zs => Q (acc ++ zs), h, fun i d acc hd z => ?_, fun out z => ?_⟩
  · dsimp only at z
    rw [drop_of_get hd] at z
    simp only [List.append_assoc, List.singleton_append]
    exact z
  · dsimp only at z
    rw [List.drop_length] at z
    have z2 : Q (out ++ []) := z
    rw [List.append_nil] at z2
    exact z2
section
variable {X : Cx} {B : Bs} {a b c e : Expr} {es : List Expr} {ra rb rc r : Rd} {rt ru : RdT} {rl : RdA} {pos : Pos} {st : Stmt} {rest : List Stmt} {s1 s2 : RdS}
theorem drop_cons {α : Type} {ds : List α} {i : Nat} (h : i < ds.length) : ds.drop i = ds[i] :: ds.drop (i + 1) := List.drop_eq_getElem_cons h
theorem s_for {iter tg : Expr} {t : Tg} {body : List Stmt} (hp : PassesOwn (model X.prog X.w) X.A X.env X.xe) (hc : X.calm = true) (hi : PIp X B tg iter rl) (hg : PG X tg (tgV X.K t)) (hb : PSsp X B body s1) (hs : ∀ x, foldedSetIterable iter X.env x = pure x := by intro _; rfl) :
    PSp X B (.For tg iter body [] pos) (fun ρ E => rl ρ fun ds => forI t s1 E ds ρ) :=
  ps_imp (ps_for hp hc hi hg hb hs) fun σ H Dd ⟨F, ρ, E, I, z, kn, kr, kb, kc⟩ => ⟨F, ρ, _, I, z, fun J F1 H1 ds g1 t1 ⟨G, Yd, w, hG, hY⟩ ⟨Iw, z1, zs, zf⟩ => by
    refine for_it w (fun i σ' H' => ∃ F' ρ', Same F1 F' ∧ Iv X.K B F' H' σ' ρ' ∧ Iw i ρ') ⟨F1, ρ, Same.refl _, I.step g1 t1, z1⟩ (fun i σ' H' _ ⟨F', ρ', s', I', _⟩ => hG F' H' s' I'.same) ?_ ?_
    · rintro i x σ' H' H'' hi ⟨F', ρ', s', I', z'⟩ hy
      have z' := zs i ds[i] ρ' (List.getElem?_eq_getElem hi) z'
      obtain ⟨F2, g2, r2⟩ := hY i F' H' x H'' ds[i] s' I'.same hy (List.getElem?_eq_getElem hi)
      have J2 := I'.step0 g2
      refine tg_run J2 r2 z' fun σ3 ρ3 I3 z3 => ⟨F2, ρ3, _, I3, z3, ?_, kr, ?_, ?_⟩
      · exact fun σ4 ρ4 F4 H4 s4 I4 z4 => ⟨F4, ρ4, (s'.trans g2.ff).trans s4, I4, z4⟩
      · exact fun σ4 ρ4 F4 H4 s4 I4 z4 => kn σ4 ρ4 F4 H4 (((g1.ff.trans s').trans g2.ff).trans s4) I4 z4
      · exact fun σ4 ρ4 F4 H4 s4 I4 z4 => ⟨F4, ρ4, (s'.trans g2.ff).trans s4, I4, z4⟩
    · rintro σ' H' ⟨F', ρ', s', I', z'⟩
      exact kn σ' ρ' F' H' (g1.ff.trans s') I' (zf ρ' z')⟩
/-! ### iterables -/
theorem i_lst {tg l : Expr} (hl : PE X l (tE X.K B r)) : PI X tg l (tI X.K B (fun ρ Q => r ρ fun d => match d with | .lst ds => Q ds | _ => False)) :=
  pi_imp (pi_list hl) fun σ H R ⟨F, ρ, Qd, I, z, k⟩ => ⟨F, ρ, _, I, z, fun v F1 H1 d g1 t1 r1 z1 => by
    split at z1
    · rename_i ds
      cases r1 with
      | @lst a vs _ h1 h2 =>
        refine ⟨a, rfl, ⟨vs, SqL.of (t1.1 _ _ h1)⟩, k _ F1 H1 ds g1 t1 ⟨_, _, by rw [← h2.len]; exact walk_list (K := X.K) (a := a) (xs := vs), fun F2 H2 s s' => SqL.of (s' _ _ (s _ _ h1)), ?_⟩ z1⟩
        rintro i F2 H2 x H2' d s s' ⟨rfl, hx⟩ hd
        obtain ⟨v, hv, hr⟩ := h2.get hd
        rw [hx] at hv
        cases hv
        exact ⟨F2, Go.refl s', hr.up s⟩
    · exact z1.elim⟩
theorem i_tup {tg l : Expr} (hl : PE X l (tE X.K B r)) : PI X tg l (tI X.K B (fun ρ Q => r ρ fun d => match d with | .tup ds => Q ds | _ => False)) :=
  pi_imp (pi_tup hl) fun σ H R ⟨F, ρ, Qd, I, z, k⟩ => ⟨F, ρ, _, I, z, fun v F1 H1 d g1 t1 r1 z1 => by
    split at z1
    · rename_i ds
      cases r1 with
      | @tup a vs _ h1 h2 =>
        refine ⟨a, rfl, ⟨vs, sqT t1.1 h1⟩, k _ F1 H1 ds g1 t1 ⟨_, _, by rw [← h2.len]; exact walk_tup (K := X.K) (a := a) (xs := vs), fun F2 H2 s s' => sqT s' (sqT s h1), ?_⟩ z1⟩
        rintro i F2 H2 x H2' d s s' ⟨rfl, hx⟩ hd
        obtain ⟨v, hv, hr⟩ := h2.get hd
        rw [hx] at hv
        cases hv
        exact ⟨F2, Go.refl s', hr.up s⟩
    · exact z1.elim⟩
/-- lo, lo + 1, .. -/
def rngD (lo : Int) (n : Nat) : List D := (List.range n).map fun i => .int (lo + (i : Nat))
theorem rng_sqs {K : Frg} {ms : List Addr} {F : Hp} {lo : Int} {n : Nat} : Sqs K ms F (Itr lo n) (rngD lo n) := by
  refine ⟨_, _, by rw [show (rngD lo n).length = n by simp [rngD]]; exact walk_range, fun _ _ _ _ => trivial, ?_⟩
  rintro i F2 H2 x H2' d s s' ⟨rfl, rfl⟩ hd
  have hi : i < n := by
    rcases Nat.lt_or_ge i n with z | z
    · exact z
    · rw [List.getElem?_eq_none (by simp [rngD]; exact z)] at hd; cases hd
  simp [rngD, hi] at hd
  subst hd
  exact ⟨F2, Go.refl s', .int _⟩
def rng1 (ds : List D) (Q : List D → Prop) : Prop := match ds with
  | [.int j] => -(2 ^ 62) ≤ j ∧ j < 2 ^ 62 ∧ Q (rngD 0 j.toNat)
  | _ => False
def rng2 (ds : List D) (Q : List D → Prop) : Prop := match ds with
  | [.int i, .int j] => (-(2 ^ 62) ≤ i ∧ i < 2 ^ 62 ∧ -(2 ^ 62) ≤ j ∧ j < 2 ^ 62) ∧ Q (rngD i (j - i).toNat)
  | _ => False
theorem i_rng1 {tg a : Expr} {p : Pos} (hg : Gl X "range") (hm : X.mg "range" = none) (ha : PAp X B [a] rl) (hs : starEach [a] X.env = [(false, eval a X.env)] := by rfl) : PIp X B tg (.Call (.Name "range" p) [a] [] pos) (fun ρ Q => rl ρ fun ds => rng1 ds Q) :=
  pi_imp (pi_range1 hg hm ha hs) fun σ H R ⟨F, ρ, Qd, I, z, k⟩ => ⟨F, ρ, _, I, z, fun vs F1 H1 ds g1 t1 r1 z1 => by
    unfold rng1 at z1
    split at z1
    · cases r1 with
      | cons r1 r2 =>
        cases r1
        cases r2
        exact ⟨_, rfl, z1.1, z1.2.1, k _ F1 H1 _ g1 t1 rng_sqs z1.2.2⟩
    · exact z1.elim⟩
theorem i_rng2 {tg a b : Expr} {p : Pos} (hg : Gl X "range") (hm : X.mg "range" = none) (ha : PAp X B [a, b] rl) (hs : starEach [a, b] X.env = [(false, eval a X.env), (false, eval b X.env)] := by rfl) (hs2 : starEach [b] X.env = [(false, eval b X.env)] := by rfl) :
    PIp X B tg (.Call (.Name "range" p) [a, b] [] pos) (fun ρ Q => rl ρ fun ds => rng2 ds Q) :=
  pi_imp (pi_range2 hg hm ha hs hs2) fun σ H R ⟨F, ρ, Qd, I, z, k⟩ => ⟨F, ρ, _, I, z, fun vs F1 H1 ds g1 t1 r1 z1 => by
    unfold rng2 at z1
    split at z1
    · cases r1 with
      | cons r1 r2 =>
        cases r1
        cases r2 with
        | cons r2 r3 =>
          cases r2
          cases r3
          exact ⟨_, _, rfl, z1.1, k _ F1 H1 _ g1 t1 rng_sqs z1.2⟩
    · exact z1.elim⟩
end
end Y
namespace Y
open PySem PySem.Spec PyProof.Rows L2 Z
/-! ### comprehensions -/
def Bs.nox (B : Bs) : Bs := { B with Ed := fun _ => False }
theorem Iv.nox {K : Frg} {B : Bs} {F H : Hp} {σ : L2.St} {ρ : Ev} (I : Iv K B F H σ ρ) : Iv K B.nox F H σ ρ := ⟨I.go, I.tp, I.len, I.val, I.own, I.sep⟩
theorem Tp.put {K : Frg} {ms : List Addr} {F H F1 H1 F2 H2 : Hp} {d : Addr} (h0 : Tp K ms F H) (hd : H d = none) (h : Tp K ms F1 H1) (g : Go [d] F1 H1 F2 H2) : Tp K ms F2 H2 := ⟨g.fh, fun t m => (h.2 t m).go g (by
  intro z
  have e : t = d := by simpa using z
  subst e
  exact (h0.2 t m).ne hd)⟩
section
variable {X : Cx} {B : Bs} {a b c e : Expr} {es : List Expr} {ra rb rc r : Rd} {rt ru : RdT} {rl : RdA} {pos : Pos} {st : Stmt} {rest : List Stmt} {s1 s2 : RdS}
def rYes : RdT := fun _ Q => Q true
theorem c_nil : PTs X [] (tT X.K B rYes) := ⟨fun pins s σ H Q I ⟨F, ρ, Qd, J, z, k⟩ => (pts_nil (X := X)).run pins s σ H Q I (k true F H (Go.refl J.same) J.tp z)⟩
theorem c_one (h : PTp X B c rt) : PTs X [c] (tT X.K B rt) := pts_one h
theorem lc_of {K : Frg} {t : Tg} {wi : L2.TI} {vs : List Nat} {re : Rd} (hw : ∀ i ∈ t.slots, i ∈ vs) (h0 : ∀ σ H R, tI K B rl σ H R → wi σ H R) (σ : L2.St) (H : Hp) (Q : VK) (h : tE K B (fun ρ Q => rl ρ fun ds => ds.length ≤ 100000 ∧ mapI t rt re (wipeR ρ vs) ds fun ys => Q (.lst ys)) σ H Q) :
    tLcZ wi (tgV K t) (tT K B.nox rt) (tE K B.nox re) vs σ H Q := by
  obtain ⟨F, ρ, Qd, I, z, k⟩ := h
  refine h0 _ _ _ ⟨F, ρ, _, I, z, fun J F1 H1 ds g1 t1 ⟨G, Yd, w, hG, hY⟩ ⟨hn, Jw, z1, zs, zf⟩ => ?_⟩
  have I1 := (I.step g1 t1).nox.wipes vs
  refine lc_go w t1.1 (ms := B.ms) (fun t m => (t1.2 t m).ne) (fun F H => Tp K B.ms F H) t1 (fun D F1 H1 F2 H2 hD h g => t1.put hD h g) (fun F2 H2 g _ => hG F2 H2 g.ff g.fh)
    (fun i acc F2 => ∃ ys, Rps K B.ms F2 acc ys ∧ Jw i ys) ⟨[], .nil, z1⟩ (fun i acc F2 F3 s ⟨ys, h1, h2⟩ => ⟨ys, h1.up s, h2⟩) hn ?_ ?_
  · rintro i x acc F2 H2 H2' hi hl ⟨ys, hys, zz⟩ g2 t2 hy Kp Sk kp sk
    have zz := zs i ds[i] ys (List.getElem?_eq_getElem hi) zz
    obtain ⟨F3, g3, r3⟩ := hY i F2 H2 x H2' ds[i] g2.ff g2.fh hy (List.getElem?_eq_getElem hi)
    have I2 := (I1.step g2 t2).step0 g3
    have t3 := t2.go0 g3
    have e : L2.wipe (L2.wipe σ vs) vs = L2.wipe σ vs := by
      apply List.ext_getElem?
      intro j
      rw [wipe_get, L2.wipe_length, wipe_get]
      by_cases hj : j ∈ vs
      · rw [if_pos hj, if_pos hj]
      · rw [if_neg hj]
    have q := tg_wipe (K := K) (v := x) (σ := L2.wipe σ vs) (H := H2') (Q := fun σ2 H2 => tT K B.nox rt σ2 H2 fun b H3 => if b = true then tE K B.nox re σ2 H3 Kp else Sk H3) hw (tg_run I2 r3 zz fun σ4 ρ4 I4 z4 => by
      refine ⟨F3, ρ4, _, I4, z4, fun b F5 H5 g5 t5 z5 => ?_⟩
      cases b with
      | false => exact sk F5 H5 (g3.nil.trans g5) t5 ⟨ys, (hys.up g3.ff).up g5.ff, ifB_f z5⟩
      | true => exact ⟨F5, ρ4, _, I4.step g5 t5, ifB_t z5, fun v F6 H6 d g6 t6 r6 z6 => kp v F6 H6 (g3.nil.trans (g5.trans g6)) t6 ⟨ys ++ [d], (((hys.up g3.ff).up g5.ff).up g6.ff).app (.one r6), z6⟩⟩)
    rw [e] at q
    exact q
  · rintro D ys F2 H2 g2 t2 hD _ ⟨zs', hz, zz⟩
    exact k _ F2 H2 _ (g1.trans g2) t2 (.lst hD hz) (zf _ zz)
theorem y_lc {elt tg iter : Expr} {ifs : List Expr} {scope : Scope} {own : List (Str × Nat)} {t : Tg} {re : Rd} (hc : X.calm = true) (hN : X.N.Nodup) (hi : PIp X B tg iter rl) (ok : BlkOk X.N X.env.scope scope own)
    (hg : ∀ (s : Shared) (H : Hp) (C : Addr) (cl : List (Str × Addr)) (fp : List Addr), PG (X.blk s H scope (compEnvC scope cl C X.env) fp) tg (tgV X.K t)) (ht : ∀ (s : Shared) (H : Hp) (C : Addr) (cl : List (Str × Addr)) (fp : List Addr), PTs (X.blk s H scope (compEnvC scope cl C X.env) fp) ifs (tT X.K B.nox rt))
    (he : ∀ (s : Shared) (H : Hp) (C : Addr) (cl : List (Str × Addr)) (fp : List Addr), PEp (X.blk s H scope (compEnvC scope cl C X.env) fp) B.nox elt re) (hw : ∀ i ∈ t.slots, i ∈ own.map (·.2) := by decide) (hs : ∀ x, foldedSetIterable iter X.env x = pure x := by intro _; rfl) :
    PEp X B (.ListComp elt [⟨tg, iter, ifs, 0⟩] scope pos) (fun ρ Q => rl ρ fun ds => ds.length ≤ 100000 ∧ mapI t rt re (wipeR ρ (own.map (·.2))) ds fun ys => Q (.lst ys)) :=
  pe_imp (pe_lcZ (pe_lc (te := tE X.K B.nox re) hc hN hi ok hg ht he hs)) (lc_of hw fun _ _ _ z => z)
theorem s_lc {i : Nat} {y : Str} {py : Pos} {elt tg iter : Expr} {ifs : List Expr} {scope : Scope} {own : List (Str × Nat)} {spos : Pos} {t : Tg} {re : Rd} (hc : X.calm = true) (hN : X.N.Nodup) (hy : X.N[i]? = some y) (hyl : X.env.scope.names.lookup y = some .local)
    (hsw : swapsWith (.ListComp elt [⟨tg, iter, ifs, 0⟩] scope pos) (some (.Name y py)) spos.line X.env = pure true) (hi : PIp X B tg iter rl) (ok : BlkOk X.N X.env.scope scope own)
    (hg : ∀ (s : Shared) (H : Hp) (C : Addr) (cl : List (Str × Addr)) (fp : List Addr), PG (X.blk s H scope (compEnvC scope cl C X.env) fp) tg (tgV X.K t)) (ht : ∀ (s : Shared) (H : Hp) (C : Addr) (cl : List (Str × Addr)) (fp : List Addr), PTs (X.blk s H scope (compEnvC scope cl C X.env) fp) ifs (tT X.K B.nox rt))
    (he : ∀ (s : Shared) (H : Hp) (C : Addr) (cl : List (Str × Addr)) (fp : List Addr), PEp (X.blk s H scope (compEnvC scope cl C X.env) fp) B.nox elt re) (hw : ∀ i ∈ t.slots, i ∈ own.map (·.2) := by decide) (hs : ∀ x, foldedSetIterable iter X.env x = pure x := by intro _; rfl) :
    PSp X B (.Assign [.Name y py] (.ListComp elt [⟨tg, iter, ifs, 0⟩] scope pos) spos) (fun ρ E => rl ρ fun ds => ds.length ≤ 100000 ∧ mapI t rt re (wipeR ρ (own.map (·.2))) ds fun ys => E.nx (ρ.set i (.val (.lst ys)))) :=
  ps_imp (ps_lcZ (ps_setLc (te := tE X.K B.nox re) hc hN hy hyl hsw hi ok hg ht he hs)) (asg_of (tg := .nm i) (lc_of hw fun _ _ _ z => z))
end
/-! ### defs -/
abbrev RdF := List D → (D → Prop) → (Ex → Prop) → Prop
def spP (K : Frg) (R : RdF) : Sp := fun vs H Q E => ∃ ms F ds Qd Ed, Tp K ms F H ∧ Rps K ms F vs ds ∧ R ds Qd Ed ∧ (∀ v F' H' d, Go ms F H F' H' → Tp K ms F' H' → Rp K ms F' v d → Qd d → Q v H') ∧
  (∀ cls d F' H' x, Go ms F H F' H' → Tp K ms F' H' → XR K ms F' cls d x → Ed x → E cls d H')
def EE (K : Frg) (B : Bs) : XK := fun cls d H' => ∃ F' x, Go B.ms B.F0 B.H0 F' H' ∧ Tp K B.ms F' H' ∧ XR K B.ms F' cls d x ∧ B.Ed x
abbrev Px (X : Cx) (B : Bs) : Prop := Passes (L2.CX X.prog X.w) X (EE X.K B)
theorem px_nox {X : Cx} {B : Bs} : Px X B.nox := fun pins σ H s e s' I ⟨_, _, _, _, _, _, _, _, _, _, _, _, F', x, _, _, _, z⟩ => z.elim
def ar0 (P : (D → Prop) → (Ex → Prop) → Prop) : RdF := fun ds Q E => match ds with | [] => P Q E | _ => False
def ar1 (P : D → (D → Prop) → (Ex → Prop) → Prop) : RdF := fun ds Q E => match ds with | [a] => P a Q E | _ => False
def ar2 (P : D → D → (D → Prop) → (Ex → Prop) → Prop) : RdF := fun ds Q E => match ds with | [a, b] => P a b Q E | _ => False
def ar3 (P : D → D → D → (D → Prop) → (Ex → Prop) → Prop) : RdF := fun ds Q E => match ds with | [a, b, c] => P a b c Q E | _ => False
def ar4 (P : D → D → D → D → (D → Prop) → (Ex → Prop) → Prop) : RdF := fun ds Q E => match ds with | [a, b, c, d] => P a b c d Q E | _ => False
def ar5 (P : D → D → D → D → D → (D → Prop) → (Ex → Prop) → Prop) : RdF := fun ds Q E => match ds with | [a, b, c, d, e] => P a b c d e Q E | _ => False
theorem arl0 {P} : ∀ ds Q E, ar0 P ds Q E → ds.length = 0 := fun ds Q E h => by unfold ar0 at h; split at h; rfl; exact h.elim
theorem arl1 {P} : ∀ ds Q E, ar1 P ds Q E → ds.length = 1 := fun ds Q E h => by unfold ar1 at h; split at h; rfl; exact h.elim
theorem arl2 {P} : ∀ ds Q E, ar2 P ds Q E → ds.length = 2 := fun ds Q E h => by unfold ar2 at h; split at h; rfl; exact h.elim
theorem arl3 {P} : ∀ ds Q E, ar3 P ds Q E → ds.length = 3 := fun ds Q E h => by unfold ar3 at h; split at h; rfl; exact h.elim
theorem arl4 {P} : ∀ ds Q E, ar4 P ds Q E → ds.length = 4 := fun ds Q E h => by unfold ar4 at h; split at h; rfl; exact h.elim
theorem arl5 {P} : ∀ ds Q E, ar5 P ds Q E → ds.length = 5 := fun ds Q E h => by unfold ar5 at h; split at h; rfl; exact h.elim
section
variable {P : Program} {w : World} {K : Frg} {mg : Str → Option Value} {base : Heap}
def startE (n : Nat) (ds : List D) : Ev := ds.map Sl.val ++ List.replicate (n - ds.length) .no
theorem iv_start {B : Bs} {N : List Str} {vs : List V} {ds : List D} (t : Tp K B.ms B.F0 B.H0) (r : Rps K B.ms B.F0 vs ds) : Iv K B B.F0 B.H0 (L2.start N vs) (startE N.length ds) where
  go := Go.refl t.1
  tp := t
  len := by simp [L2.start, startE, r.len]
  val := fun i d h => by
    unfold startE at h
    have hi : i < ds.length := by
      rcases Nat.lt_or_ge i ds.length with z | z
      · exact z
      · rw [List.getElem?_append_right (by simpa using z), List.getElem?_replicate] at h
        split at h <;> cases h
    rw [List.getElem?_append_left (by simpa using hi), List.getElem?_map] at h
    have hd : ds[i]? = some d := by
      rw [List.getElem?_eq_getElem hi] at h ⊢
      simpa using h
    obtain ⟨v, h1, h2⟩ := r.get hd
    refine ⟨v, ?_, h2⟩
    unfold L2.start
    rw [List.getElem?_append_left (by simp [r.len]; exact hi), List.getElem?_map, h1]
    rfl
  own := fun i m h => by
    unfold startE at h
    rcases Nat.lt_or_ge i ds.length with z | z
    · rw [List.getElem?_append_left (by simpa using z), List.getElem?_map, List.getElem?_eq_getElem z] at h
      cases h
    · rw [List.getElem?_append_right (by simpa using z), List.getElem?_replicate] at h
      split at h <;> cases h
  sep := fun i j m n a _ h _ _ => by
    exfalso
    unfold startE at h
    rcases Nat.lt_or_ge i ds.length with z | z
    · rw [List.getElem?_append_left (by simpa using z), List.getElem?_map, List.getElem?_eq_getElem z] at h
      cases h
    · rw [List.getElem?_append_right (by simpa using z), List.getElem?_replicate] at h
      split at h <;> cases h
theorem px_of {N : List Str} {qual : Str} {scope : Scope} {f : Addr} {cdv : Value} {A : Around} {outer : List Env} {s : Shared} {H : Hp} {E : XK} {B : Bs} (h : ∀ cls d H', EE K B cls d H' → E cls d H') : Px (cxOf (L2.CX P w) P w K mg base N qual scope f cdv A outer s H E) B := by
  have tk : Takes (cxOf (L2.CX P w) P w K mg base N qual scope f cdv A outer s H E) (fun cls d _ H => E cls d H) := takes_of rfl rfl rfl rfl
  exact passes_call tk fun cls d σ H z => h cls d H z
theorem po_of {N : List Str} {qual : Str} {scope : Scope} {f : Addr} {cdv : Value} {A : Around} {outer : List Env} {s : Shared} {H : Hp} {E : XK} :
    PassesOwn (model P w) (cxOf (L2.CX P w) P w K mg base N qual scope f cdv A outer s H E).A (cxOf (L2.CX P w) P w K mg base N qual scope f cdv A outer s H E).env (cxOf (L2.CX P w) P w K mg base N qual scope f cdv A outer s H E).xe := passes_of rfl
/-- a def by its body -/
theorem y_fn {x qual : Str} {st : Stmt} {f : Addr} {N ps : List Str} {k : Nat} {R : RdF} (F : DefAt K x qual st f) (S : FnScope N ps (defScope st)) (len : ∀ ds Q E, R ds Q E → ds.length = ps.length)
    (hb : ∀ (kV doc pm : Value) (an : Option Addr) (cdv ct : Value) (us : List Value), us.length = ps.length → bindArgs (PySem.W.fnOf x qual (defArgs st) (defBody st) (defScope st) .none kV doc pm an cdv ct) ⟨us, []⟩ = pure (ps.zip us))
    (hbody : ∀ (cdv : Value) (A : Around) (outer : List Env) (s : Shared) (H : Hp) (E : XK) (B : Bs), Same B.F0 B.H0 → RoomG k (A.deeper (envOfC qual (defScope st) s.heap.objs.size f cdv)) → Px (cxOf (L2.CX P w) P w K mg base N qual (defScope st) f cdv A outer s H E) B →
      PassesOwn (model P w) (cxOf (L2.CX P w) P w K mg base N qual (defScope st) f cdv A outer s H E).A (cxOf (L2.CX P w) P w K mg base N qual (defScope st) f cdv A outer s H E).env (cxOf (L2.CX P w) P w K mg base N qual (defScope st) f cdv A outer s H E).xe →
      ∃ r, PSsp (cxOf (L2.CX P w) P w K mg base N qual (defScope st) f cdv A outer s H E) B (defBody st) r ∧ ∀ ds Q, R ds Q B.Ed → r (startE N.length ds) { nx := fun _ => Q .non, rt := Q }) : FnG P w K mg base (L2.CX P w) (k + 1) f (spP K R) := by
  refine zfnG F S (fun vs H Q E ⟨ms, F, ds, Qd, Ed, _, r, h, _⟩ => by rw [r.len]; exact len _ _ _ h) hb fun cdv A outer s H vs Q E hr h => ?_
  obtain ⟨ms, F, ds, Qd, Ed, t, r, h, kq, ke⟩ := h
  obtain ⟨rr, h1, h2⟩ := hbody cdv A outer s H E ⟨ms, F, H, Ed⟩ t.1 hr (px_of fun cls d H' ⟨F', x, g, t', xr, z⟩ => ke cls d F' H' x g t' xr z) po_of
  refine ⟨_, h1, F, _, _, iv_start (B := ⟨ms, F, H, Ed⟩) t r, h2 ds Qd h, ?_, ?_, ?_, ?_⟩
  · intro σ' ρ' F' H' _ I' z
    exact kq .non F' H' .non I'.go I'.tp .non z
  · intro v d F' H' g t' r' z
    exact kq v F' H' d g t' r' z
  · intro _ _ _ _ _ _ z; exact z
  · intro _ _ _ _ _ _ z; exact z
end
/-! ### calls -/
section
variable {X : Cx} {B : Bs} {a b c e o : Expr} {es : List Expr} {ra rb rc r ro : Rd} {rt ru : RdT} {rl : RdA} {pos p0 apos : Pos} {R : RdF} {k : Nat} {f C g p : Addr} {x m : Str}
theorem sp_call {K : Frg} {F H F1 H1 : Hp} {σ : L2.St} {ρ : Ev} {vs : List V} {ds : List D} {Qd : D → Prop} {Q : VK} (I : Iv K B F H σ ρ) (kk : ∀ v F' H' d, Go B.ms F H F' H' → Tp K B.ms F' H' → Rp K B.ms F' v d → Qd d → Q v H') (g1 : Go B.ms F H F1 H1) (t1 : Tp K B.ms F1 H1) (r1 : Rps K B.ms F1 vs ds) (h : R ds Qd B.Ed) : spP K R vs H1 Q (EE K B) :=
  ⟨B.ms, F1, ds, Qd, B.Ed, t1, r1, h, fun v F2 H2 d g2 t2 r2 q2 => kk v F2 H2 d (g1.trans g2) t2 r2 q2, fun cls d F2 H2 x g2 t2 xr q => ⟨F2, x, (I.go.trans g1).trans g2, t2, xr, q⟩⟩
theorem y_call (F : FnG X.prog X.w X.K X.mg X.base (L2.CX X.prog X.w) k f (spP X.K R)) (hr : RoomG k X.A) (hg : Gl X x) (hm : X.mg x = some (.ref f)) (hk : PySem.W.keepIn X.K (.ref f) = true) (hx : Px X B)
    (ha : PAp X B (e :: es) rl) (hdb : (x == ("__debug__" : Str)) = false := by decide) (he : starEach (e :: es) X.env = (false, eval e X.env) :: starEach es X.env := by rfl) (hpl : (backTo pos (starEach es X.env)).any (·.1) = false := by rfl) :
    PEp X B (.Call (.Name x p0) (e :: es) [] pos) (fun ρ Q => rl ρ fun ds => R ds Q B.Ed) :=
  pe_imp (gcall (F.at hr) hg hm hk hx ha hdb he hpl) fun σ H Q ⟨F, ρ, Qd, I, z, k⟩ => ⟨F, ρ, _, I, z, fun vs F1 H1 ds g1 t1 r1 z1 => sp_call I k g1 t1 r1 z1⟩
theorem y_call0 (F : FnG X.prog X.w X.K X.mg X.base (L2.CX X.prog X.w) k f (spP X.K R)) (hr : RoomG k X.A) (hg : Gl X x) (hm : X.mg x = some (.ref f)) (hk : PySem.W.keepIn X.K (.ref f) = true) (hx : Px X B) (hdb : (x == ("__debug__" : Str)) = false := by decide) :
    PEp X B (.Call (.Name x p0) [] [] pos) (fun ρ Q => R [] Q B.Ed) :=
  pe_imp (gcall0 (F.at hr) hg hm hk hx hdb) fun σ H Q ⟨F, ρ, Qd, I, z, k⟩ => sp_call (vs := []) (ds := []) I k (Go.refl I.same) I.tp .nil z
/-- an object of the classes cs with the fields ns -/
def asO (cs : List Str) (ns : List Str) (o : D) (k : Prop) : Prop := match o with
  | .obj c n _ => c ∈ cs ∧ n = ns ∧ k
  | _ => False
theorem look_none : ∀ {ns : List Str} {vs : List V} {m : Str}, (ns.all fun y => !(m == y)) = true → (ns.zip vs).lookup m = none
  | [], _, _, _ => rfl
  | _ :: _, [], _, _ => rfl
  | n :: ns, v :: vs, m, h => by
    rw [List.all_cons, Bool.and_eq_true] at h
    have h1 : (m == n) = false := by simpa using h.1
    rw [List.zip_cons_cons, List.lookup_cons, h1]
    exact look_none h.2
theorem y_meth {cs ns : List Str} {pl : Sem Bool} (ho : PEp X B o ro) (hc : ∀ c ∈ cs, Cls X.K (He.ga X.K c) ∧ Meth X.K (He.ga X.K c) m f) (F : FnG X.prog X.w X.K X.mg X.base (L2.CX X.prog X.w) k f (spP X.K R)) (hr : RoomG k X.A) (hx : Px X B) (ha : PAp X B (e :: es) rl)
    (hn : (ns.all fun y => !(m == y)) = true := by decide +kernel)
    (hst : starEach (e :: es) X.env = (false, eval e X.env) :: starEach es X.env := by rfl) (hpl : (backTo pos (starEach es X.env)).any (·.1) = false := by rfl)
    (ht : eval (.Call (.Attribute o m apos) (e :: es) [] pos) X.env = (do
      let ov ← eval o X.env
      standAt apos.atName
      let (f, first) ← holding [ov] (getMethod ov m pl)
      callWith pos f first (backTo pos (starEach (e :: es) X.env)) (backToKw pos (keywordEach [] X.env))) := by rfl) :
    PEp X B (.Call (.Attribute o m apos) (e :: es) [] pos) (fun ρ Q => ro ρ fun d => asO cs ns d (rl ρ fun ds => R (d :: ds) Q B.Ed)) := by
  refine ⟨fun pins s σ H Q I h => ?_⟩
  obtain ⟨F0, ρ, Qd, J, z, kk⟩ := h
  refine PySem.W.methodCall_KW (pl := pl) (thn (ho.run pins s σ H (fun v H1 => ∃ F1 d, Go B.ms F0 H F1 H1 ∧ Tp X.K B.ms F1 H1 ∧ Rp X.K B.ms F1 v d ∧ asO cs ns d (rl ρ fun ds => R (d :: ds) Qd B.Ed)) I ⟨F0, ρ, _, J, z, fun v F1 H1 d g1 t1 r1 z1 => ⟨F1, d, g1, t1, r1, z1⟩⟩) fun u s1 ⟨v, H1, I1, rx, F1, d, g1, t1, r1, z1⟩ => ?_) ht
  unfold asO at z1
  split at z1
  · obtain ⟨hcs, rfl, z2⟩ := z1
    cases r1 with
    | @obj a dx _ _ vs ds h1 h2 h3 =>
      obtain rfl : u = Value.ref a := rx
      obtain ⟨c1, m1⟩ := hc _ hcs
      refine getmeth_ok I1 (t1.1 _ _ h1) c1 m1 (look_none hn) ?_
      refine PySem.W.callWith_K (first := [.ref a]) (h₀ := X.base) I.ok.mod.kin m1.kp (thn (ha.run pos pins s1 σ H1 (fun vs H2 => ∃ F2 ds', Go B.ms F1 H1 F2 H2 ∧ Tp X.K B.ms F2 H2 ∧ Rps X.K B.ms F2 vs ds' ∧ R (_ :: ds') Qd B.Ed) I1 ⟨F1, ρ, _, J.step g1 t1, z2, fun vs F2 H2 ds g2 t2 r2 z3 => ⟨F2, ds, g2, t2, r2, z3⟩⟩) fun us s2 ⟨vs', H2, I2, rv, F2, ds', g2, t2, r2, z3⟩ => ⟨I2.kIn, ?_⟩) hst hpl
      exact wpAny_call (run_fnA (us := .ref a :: us) (vs := .ref a :: vs') (F.at hr) hx I2 (.cons rfl rv) (sp_call (vs := .ref a :: vs') J kk (g1.trans g2) t2 (.cons (.obj (g2.ff _ _ h1) h2 (h3.up g2.ff)) r2) z3))
  · exact z1.elim
theorem y_meth0 {cs ns : List Str} {pl : Sem Bool} (ho : PEp X B o ro) (hc : ∀ c ∈ cs, Cls X.K (He.ga X.K c) ∧ Meth X.K (He.ga X.K c) m f) (F : FnG X.prog X.w X.K X.mg X.base (L2.CX X.prog X.w) k f (spP X.K R)) (hr : RoomG k X.A) (hx : Px X B)
    (hn : (ns.all fun y => !(m == y)) = true := by decide +kernel)
    (ht : eval (.Call (.Attribute o m apos) [] [] pos) X.env = (do
      let ov ← eval o X.env
      standAt apos.atName
      let (f, first) ← holding [ov] (getMethod ov m pl)
      callWith pos f first (backTo pos (starEach [] X.env)) (backToKw pos (keywordEach [] X.env))) := by rfl) :
    PEp X B (.Call (.Attribute o m apos) [] [] pos) (fun ρ Q => ro ρ fun d => asO cs ns d (R [d] Q B.Ed)) := by
  refine ⟨fun pins s σ H Q I h => ?_⟩
  obtain ⟨F0, ρ, Qd, J, z, kk⟩ := h
  refine PySem.W.methodCall_KW (pl := pl) (thn (ho.run pins s σ H (fun v H1 => ∃ F1 d, Go B.ms F0 H F1 H1 ∧ Tp X.K B.ms F1 H1 ∧ Rp X.K B.ms F1 v d ∧ asO cs ns d (R [d] Qd B.Ed)) I ⟨F0, ρ, _, J, z, fun v F1 H1 d g1 t1 r1 z1 => ⟨F1, d, g1, t1, r1, z1⟩⟩) fun u s1 ⟨v, H1, I1, rx, F1, d, g1, t1, r1, z1⟩ => ?_) ht
  unfold asO at z1
  split at z1
  · obtain ⟨hcs, rfl, z2⟩ := z1
    cases r1 with
    | @obj a dx _ _ vs ds h1 h2 h3 =>
      obtain rfl : u = Value.ref a := rx
      obtain ⟨c1, m1⟩ := hc _ hcs
      refine getmeth_ok I1 (t1.1 _ _ h1) c1 m1 (look_none hn) ?_
      exact PySem.W.callWith_K0 (first := [.ref a]) I1.kIn m1.kp (wpAny_call (run_fnA (us := [.ref a]) (vs := [.ref a]) (F.at hr) hx I1 (.cons rfl .nil) (sp_call (vs := [.ref a]) J kk g1 t1 (.cons (.obj h1 h2 h3) .nil) z2)))
  · exact z1.elim
end
end Y
namespace Y
open PySem PySem.Spec PyProof.Rows L2 Z
section
variable {X : Cx} {B : Bs} {K : Frg} {ms : List Addr}
theorem line_ge : 100000 ≤ sizeLine := by decide
/-! ### + - * // % ** -/
def dAdd (x y : D) (Q : D → Prop) : Prop := match x, y with
  | .int i, .int j => Q (.int (i + j))
  | .str s, .str t => s.length + t.length ≤ 100000 ∧ Q (.str (s ++ t))
  | .lst xs, .lst ys => xs.length + ys.length ≤ 100000 ∧ Q (.lst (xs ++ ys))
  | .tup xs, .tup ys => xs ≠ [] ∧ ys ≠ [] ∧ xs.length + ys.length ≤ 100000 ∧ Q (.tup (xs ++ ys))
  | _, _ => False
theorem op_addY : OpR X (binaryOp .Add) (fun x y H Q => rI0 (fun i j => .int (i + j)) x y H Q ∨ (∃ i j, x = .str i ∧ y = .str j ∧ i.length + j.length ≤ sizeLine ∧ Q (.str (i ++ j)) H) ∨ rCatZ x y H Q ∨ rCatT X.K x y H Q) := op_add.or (op_add_str.or (op_catZ.or op_catT))
theorem addL : OpL K ms (fun x y H Q => rI0 (fun i j => .int (i + j)) x y H Q ∨ (∃ i j, x = .str i ∧ y = .str j ∧ i.length + j.length ≤ sizeLine ∧ Q (.str (i ++ j)) H) ∨ rCatZ x y H Q ∨ rCatT K x y H Q) dAdd := by
  intro F H x y dx dy Qd Q hs rx ry h k
  unfold dAdd at h
  split at h
  · cases rx; cases ry
    exact .inl ⟨_, _, rfl, rfl, k _ F H _ (Go.refl hs) (.int _) h⟩
  · cases rx; cases ry
    exact .inr (.inl ⟨_, _, rfl, rfl, Nat.le_trans h.1 line_ge, k _ F H _ (Go.refl hs) (.str _) h.2⟩)
  · cases rx with
    | lst h1 h2 =>
      cases ry with
      | lst h3 h4 =>
        refine .inr (.inr (.inl ⟨_, _, _, _, rfl, rfl, hs _ _ h1, hs _ _ h3, by rw [h2.len, h4.len]; exact Nat.le_trans h.1 line_ge, fun p H2 hp e2 => ?_⟩))
        obtain ⟨F2, g2, q2, _⟩ := newE hs hp e2
        exact k _ F2 H2 _ g2 (.lst q2 ((h2.app h4).up g2.ff)) h.2
  · cases rx with
    | tup h1 h2 =>
      cases ry with
      | tup h3 h4 =>
        obtain ⟨n1, n2, n3, h⟩ := h
        have m1 := h2.len
        have m2 := h4.len
        refine .inr (.inr (.inr ⟨_, _, _, _, rfl, rfl, sqT hs h1, sqT hs h3, fun e => n1 ?_, by rw [m1, m2]; exact Nat.le_trans n3 line_ge, fun e => (n2 ?_).elim, fun _ p hp => ?_⟩))
        · rw [e] at m1; exact List.length_eq_zero_iff.mp m1.symm
        · rw [e] at m2; exact List.length_eq_zero_iff.mp m2.symm
        · obtain ⟨F2, g2, q2, _⟩ := newE hs hp rfl
          exact k _ F2 _ _ g2 (.tup (SqT.of q2) ((h2.app h4).up g2.ff)) h
  · exact h.elim
def dSub (x y : D) (Q : D → Prop) : Prop := match x, y with
  | .int i, .int j => Q (.int (i - j))
  | _, _ => False
theorem subL : OpL K ms (rI0 fun i j => .int (i - j)) dSub := by
  intro F H x y dx dy Qd Q hs rx ry h k
  unfold dSub at h
  split at h
  · cases rx; cases ry
    exact ⟨_, _, rfl, rfl, k _ F H _ (Go.refl hs) (.int _) h⟩
  · exact h.elim
def dMul (x y : D) (Q : D → Prop) : Prop := match x, y with
  | .int i, .int j => (Sz 5000 i ∧ Sz 5000 j) ∧ Q (.int (i * j))
  | .lst xs, .int n => (-(2 ^ 62) ≤ n ∧ n < 2 ^ 62 ∧ xs.length * n.toNat ≤ 100000) ∧ Q (.lst (List.replicate n.toNat xs).flatten)
  | _, _ => False
theorem op_repZ : OpR X (binaryOp .Mult) rRepZ := op_imp op_rep fun _ _ _ _ ⟨l, k, xs, e1, e2, h, h1, h2, hz, n⟩ => ⟨l, k, xs, e1, e2, h, h1, h2, hz, n.run⟩
theorem mulL : OpL K ms (fun x y H Q => rI CMulW (fun i j => .int (i * j)) x y H Q ∨ rRepZ x y H Q) dMul := by
  intro F H x y dx dy Qd Q hs rx ry h k
  unfold dMul at h
  split at h
  · cases rx; cases ry
    exact .inl ⟨_, _, rfl, rfl, mulOk h.1.1 h.1.2, k _ F H _ (Go.refl hs) (.int _) h.2⟩
  · cases rx with
    | lst h1 h2 =>
      cases ry
      obtain ⟨⟨a1, a2, a3⟩, h⟩ := h
      refine .inr ⟨_, _, _, rfl, rfl, hs _ _ h1, by omega, by omega, by rw [h2.len]; exact Nat.le_trans a3 line_ge, fun p H2 hp e2 => ?_⟩
      obtain ⟨F2, g2, q2, _⟩ := newE hs hp e2
      exact k _ F2 H2 _ g2 (.lst q2 ((h2.flat _).up g2.ff)) h
  · exact h.elim
/-- // and % by what is above 0 -/
def dDiv (x y : D) (Q : D → Prop) : Prop := match x, y with
  | .int i, .int j => (0 < j ∧ Sz 5000 j) ∧ Q (.int (i / j))
  | _, _ => False
theorem divL : OpL K ms (rI CDivW fun i j => .int (i / j)) dDiv := by
  intro F H x y dx dy Qd Q hs rx ry h k
  unfold dDiv at h
  split at h
  · cases rx; cases ry
    exact ⟨_, _, rfl, rfl, divOk h.1.1 h.1.2, k _ F H _ (Go.refl hs) (.int _) h.2⟩
  · exact h.elim
def dMod (x y : D) (Q : D → Prop) : Prop := match x, y with
  | .int i, .int j => 0 < j ∧ Q (.int (i % j))
  | _, _ => False
theorem modL : OpL K ms (rI (fun _ j => 0 < j) fun i j => .int (i % j)) dMod := by
  intro F H x y dx dy Qd Q hs rx ry h k
  unfold dMod at h
  split at h
  · cases rx; cases ry
    exact ⟨_, _, rfl, rfl, h.1, k _ F H _ (Go.refl hs) (.int _) h.2⟩
  · exact h.elim
/-- // by what is not 0 -/
def dDivZ (x y : D) (Q : D → Prop) : Prop := match x, y with
  | .int i, .int j => (j ≠ 0 ∧ Sz 8000 j) ∧ Q (.int (i.fdiv j))
  | _, _ => False
theorem divZL : OpL K ms (rI CDivZ fun i j => .int (i.fdiv j)) dDivZ := by
  intro F H x y dx dy Qd Q hs rx ry h k
  unfold dDivZ at h
  split at h
  · cases rx; cases ry
    exact ⟨_, _, rfl, rfl, ⟨h.1.1, szLog h.1.2⟩, k _ F H _ (Go.refl hs) (.int _) h.2⟩
  · exact h.elim
def dPow (x y : D) (Q : D → Prop) : Prop := match x, y with
  | .int i, .int j => (0 ≤ j ∧ j ≤ 1000 ∧ i.natAbs < 18446744073709551616) ∧ Q (.int (i ^ j.toNat))
  | _, _ => False
theorem powL : OpL K ms (rI CPow fun i j => .int (i ^ j.toNat)) dPow := by
  intro F H x y dx dy Qd Q hs rx ry h k
  unfold dPow at h
  split at h
  · cases rx; cases ry
    exact ⟨_, _, rfl, rfl, ⟨h.1.1, by omega, by have := h.1.2.2; omega⟩, k _ F H _ (Go.refl hs) (.int _) h.2⟩
  · exact h.elim
def dNeg (x : D) (Q : D → Prop) : Prop := match x with
  | .int i => Q (.int (-i))
  | _ => False
theorem negL : UnL K ms (rU fun i => .int (-i)) dNeg := by
  intro F H x dx Qd Q hs rx h k
  unfold dNeg at h
  split at h
  · cases rx
    exact ⟨_, rfl, k _ F H _ (Go.refl hs) (.int _) h⟩
  · exact h.elim
/-! ### < <= > >= == != is in -/
def dCmp (f : Int → Int → Bool) (x y : D) (Q : D → Prop) : Prop := match x, y with
  | .int i, .int j => Q (.bl (f i j))
  | _, _ => False
theorem cmpL {f : Int → Int → Bool} : OpL K ms (rI0 fun i j => .bl (f i j)) (dCmp f) := by
  intro F H x y dx dy Qd Q hs rx ry h k
  unfold dCmp at h
  split at h
  · cases rx; cases ry
    exact ⟨_, _, rfl, rfl, k _ F H _ (Go.refl hs) (.bl _) h⟩
  · exact h.elim
def dEq (x y : D) (Q : D → Prop) : Prop := match x, y with
  | .int i, .int j => Q (.bl (decide (i = j)))
  | .str i, .str j => Q (.bl (decide (i = j)))
  | .bl i, .bl j => Q (.bl (decide (i = j)))
  | _, _ => (okD 8 x = true ∧ okD 8 y = true) ∧ Q (.bl (eqD x y))
def dNe (x y : D) (Q : D → Prop) : Prop := match x, y with
  | .int i, .int j => Q (.bl (!decide (i = j)))
  | .str i, .str j => Q (.bl (!decide (i = j)))
  | .bl i, .bl j => Q (.bl (!decide (i = j)))
  | _, _ => (okD 8 x = true ∧ okD 8 y = true) ∧ Q (.bl (!eqD x y))
theorem shaped_of {n : Nat} {e : PyData} (h1 : e.canLay0 = true) (h2 : e.depth ≤ n) (hn : n ≤ 64) : SeqAt.shaped e = true := by
  unfold SeqAt.shaped
  rw [h1, Bool.true_and]
  exact decide_eq_true (by omega)
theorem eqL : OpL K ms (fun x y H Q => rEq x y H Q ∨ rEqD K x y H Q) dEq := by
  intro F H x y dx dy Qd Q hs rx ry h k
  unfold dEq at h
  split at h
  · cases rx; cases ry
    refine .inl ⟨rfl, k _ F H _ (Go.refl hs) (.bl _) ?_⟩
    simpa using h
  · cases rx; cases ry
    refine .inl ⟨rfl, k _ F H _ (Go.refl hs) (.bl _) ?_⟩
    simpa using h
  · cases rx; cases ry
    refine .inl ⟨rfl, k _ F H _ (Go.refl hs) (.bl _) ?_⟩
    simpa using h
  · obtain ⟨⟨h1, h2⟩, h⟩ := h
    obtain ⟨e1, a1, a2, a3⟩ := okD_pd 8 _ h1
    obtain ⟨e2, b1, b2, b3⟩ := okD_pd 8 _ h2
    refine .inr ⟨e1, e2, dp_mono hs _ _ (dp_of _ _ _ a1 rx), dp_mono hs _ _ (dp_of _ _ _ b1 ry), shaped_of a2 a3 (by decide), shaped_of b2 b3 (by decide), k _ F H _ (Go.refl hs) (.bl _) ?_⟩
    rw [← eqD_pd _ _ _ _ a1 b1]
    exact h
theorem neL : OpL K ms (fun x y H Q => rNe x y H Q ∨ rNeD K x y H Q) dNe := by
  intro F H x y dx dy Qd Q hs rx ry h k
  unfold dNe at h
  split at h
  · cases rx; cases ry
    refine .inl ⟨rfl, k _ F H _ (Go.refl hs) (.bl _) ?_⟩
    simpa using h
  · cases rx; cases ry
    refine .inl ⟨rfl, k _ F H _ (Go.refl hs) (.bl _) ?_⟩
    simpa using h
  · cases rx; cases ry
    refine .inl ⟨rfl, k _ F H _ (Go.refl hs) (.bl _) ?_⟩
    simpa using h
  · obtain ⟨⟨h1, h2⟩, h⟩ := h
    obtain ⟨e1, a1, a2, a3⟩ := okD_pd 8 _ h1
    obtain ⟨e2, b1, b2, b3⟩ := okD_pd 8 _ h2
    refine .inr ⟨e1, e2, dp_mono hs _ _ (dp_of _ _ _ a1 rx), dp_mono hs _ _ (dp_of _ _ _ b1 ry), shaped_of a2 a3 (by decide), shaped_of b2 b3 (by decide), k _ F H _ (Go.refl hs) (.bl _) ?_⟩
    rw [← eqD_pd _ _ _ _ a1 b1]
    exact h
def isNon : D → Bool
  | .non => true
  | _ => false
theorem non_of {F : Hp} {x : V} {d : D} (r : Rp K ms F x d) : decide (x = V.non) = isNon d := by
  cases r <;> simp [isNon]
def dIsN (x y : D) (Q : D → Prop) : Prop := match y with
  | .non => Q (.bl (isNon x))
  | _ => False
def dNotN (x y : D) (Q : D → Prop) : Prop := match y with
  | .non => Q (.bl (!isNon x))
  | _ => False
theorem isNL : OpL K ms (fun x y H Q => y = .non ∧ Q (.bl (decide (x = .non))) H) dIsN := by
  intro F H x y dx dy Qd Q hs rx ry h k
  unfold dIsN at h
  split at h
  · cases ry
    exact ⟨rfl, by rw [non_of rx]; exact k _ F H _ (Go.refl hs) (.bl _) h⟩
  · exact h.elim
theorem notNL : OpL K ms (fun x y H Q => y = .non ∧ Q (.bl (!decide (x = .non))) H) dNotN := by
  intro F H x y dx dy Qd Q hs rx ry h k
  unfold dNotN at h
  split at h
  · cases ry
    exact ⟨rfl, by rw [non_of rx]; exact k _ F H _ (Go.refl hs) (.bl _) h⟩
  · exact h.elim
/-- x in a list of data, in a tuple of flat data, in a text -/
def flatD : D → Bool
  | .non | .bl _ | .int _ | .str _ => true
  | _ => false
def anyD (x : D) (ds : List D) : Bool := ds.any fun z => eqD z x
def dIn (neg : Bool) (x y : D) (Q : D → Prop) : Prop := match x, y with
  | .str s, .str t => Q (.bl (neg != !(Builtin.Str.occurrences t s 0 t.length 1).isEmpty))
  | x, .lst ds => (okD 8 x = true ∧ okD 8 (.lst ds) = true) ∧ Q (.bl (neg != anyD x ds))
  | x, .tup ds => (flatD x = true ∧ ds.all flatD = true) ∧ Q (.bl (neg != anyD x ds))
  | _, _ => False
theorem pds_any {x : D} {e : PyData} (hx : pd x = some e) : ∀ {ds : List D} {es : List PyData}, pds ds = some es → (es.any fun z => PyData.eqv z e) = anyD x ds
  | [], _, h => by cases h; rfl
  | d :: ds, _, h => by
    obtain ⟨a, r, h1, h2, rfl⟩ := pds_cons h
    have := pds_any hx h2
    simp only [anyD, List.any_cons] at this ⊢
    rw [← eqD_pd _ _ _ _ h1 hx, this]
theorem flat_of {F : Hp} {x : V} {d : D} (r : Rp K ms F x d) (h : flatD d = true) : flatV x = true := by
  cases r <;> first | rfl | simp [flatD] at h
theorem flats_of {F : Hp} : ∀ {xs : List V} {ds : List D}, Rps K ms F xs ds → ds.all flatD = true → xs.all flatV = true
  | [], [], _, _ => rfl
  | _ :: _, _ :: _, h, z => by
    cases h with
    | cons h1 h2 =>
      rw [List.all_cons, Bool.and_eq_true] at z ⊢
      exact ⟨flat_of h1 z.1, flats_of h2 z.2⟩
  | [], _ :: _, h, _ => by cases h
  | _ :: _, [], h, _ => by cases h
theorem eqV_of {F : Hp} {x y : V} {d e : D} (r : Rp K ms F x d) (r' : Rp K ms F y e) (h : flatD d = true) (h' : flatD e = true) : eqV x y = eqD d e := by
  cases r <;> cases r' <;> first | rfl | (simp [flatD] at h; done) | (simp [flatD] at h'; done) | (simp [eqV, eqD]; done)
theorem inV_of {F : Hp} {x : V} {d : D} (r : Rp K ms F x d) (h : flatD d = true) : ∀ {xs : List V} {ds : List D}, Rps K ms F xs ds → ds.all flatD = true → inV x xs = anyD d ds
  | [], [], _, _ => rfl
  | _ :: _, _ :: _, q, z => by
    cases q with
    | cons h1 h2 =>
      rw [List.all_cons, Bool.and_eq_true] at z
      have := inV_of r h h2 z.2
      simp only [inV, anyD, List.any_cons] at this ⊢
      rw [eqV_of h1 r z.1 h, this]
  | [], _ :: _, h, _ => by cases h
  | _ :: _, [], h, _ => by cases h
theorem inL : OpL K ms (fun x y H Q => (∃ i j, x = .str i ∧ y = .str j ∧ Q (.bl (!(Builtin.Str.occurrences j i 0 j.length 1).isEmpty)) H) ∨ rInD K x y H Q ∨ rIn K false x y H Q) (dIn false) := by
  intro F H x y dx dy Qd Q hs rx ry h k
  unfold dIn at h
  split at h
  · cases rx; cases ry
    refine .inl ⟨_, _, rfl, rfl, k _ F H _ (Go.refl hs) (.bl _) ?_⟩
    simpa using h
  · obtain ⟨⟨h1, h2⟩, h⟩ := h
    obtain ⟨e1, a1, a2, a3⟩ := okD_pd 8 _ h1
    obtain ⟨e2, b1, b2, b3⟩ := okD_pd 8 _ h2
    simp [pd] at b1
    obtain ⟨es, b1, rfl⟩ := b1
    refine .inr (.inl ⟨e1, es, dp_mono hs _ _ (dp_of _ _ _ a1 rx), dp_mono hs _ _ (dp_of (K := K) (ms := ms) _ _ _ (by simp [pd, b1]) ry), shaped_of a2 a3 (by decide), shaped_of b2 b3 (by decide), k _ F H _ (Go.refl hs) (.bl _) ?_⟩)
    rw [pds_any a1 b1]
    simpa using h
  · cases ry with
    | tup h1 h2 =>
      obtain ⟨⟨f1, f2⟩, h⟩ := h
      refine .inr (.inr ⟨_, _, rfl, .inr (sqT hs h1), flat_of rx f1, flats_of h2 f2, k _ F H _ (Go.refl hs) (.bl _) ?_⟩)
      rw [if_neg (by decide), inV_of rx f1 h2 f2]
      simpa using h
  · exact h.elim
theorem op_inY (hu : X.A.units + 65 < cLine) : OpR X (compareOp .In) (fun x y H Q => (∃ i j, x = .str i ∧ y = .str j ∧ Q (.bl (!(Builtin.Str.occurrences j i 0 j.length 1).isEmpty)) H) ∨ rInD X.K x y H Q ∨ rIn X.K false x y H Q) := op_in_str.or ((op_inD hu).or op_in_seq)
theorem ninL : OpL K ms (fun x y H Q => (∃ i j, x = .str i ∧ y = .str j ∧ Q (.bl (!(!(Builtin.Str.occurrences j i 0 j.length 1).isEmpty))) H) ∨ rNotInD K x y H Q ∨ rIn K true x y H Q) (dIn true) := by
  intro F H x y dx dy Qd Q hs rx ry h k
  unfold dIn at h
  split at h
  · cases rx; cases ry
    refine .inl ⟨_, _, rfl, rfl, k _ F H _ (Go.refl hs) (.bl _) ?_⟩
    simpa using h
  · obtain ⟨⟨h1, h2⟩, h⟩ := h
    obtain ⟨e1, a1, a2, a3⟩ := okD_pd 8 _ h1
    obtain ⟨e2, b1, b2, b3⟩ := okD_pd 8 _ h2
    simp [pd] at b1
    obtain ⟨es, b1, rfl⟩ := b1
    refine .inr (.inl ⟨e1, es, dp_mono hs _ _ (dp_of _ _ _ a1 rx), dp_mono hs _ _ (dp_of (K := K) (ms := ms) _ _ _ (by simp [pd, b1]) ry), shaped_of a2 a3 (by decide), shaped_of b2 b3 (by decide), k _ F H _ (Go.refl hs) (.bl _) ?_⟩)
    rw [pds_any a1 b1]
    simpa using h
  · cases ry with
    | tup h1 h2 =>
      obtain ⟨⟨f1, f2⟩, h⟩ := h
      refine .inr (.inr ⟨_, _, rfl, .inr (sqT hs h1), flat_of rx f1, flats_of h2 f2, k _ F H _ (Go.refl hs) (.bl _) ?_⟩)
      rw [if_pos rfl, inV_of rx f1 h2 f2]
      simpa using h
  · exact h.elim
theorem op_ninY (hu : X.A.units + 65 < cLine) : OpR X (compareOp .NotIn) (fun x y H Q => (∃ i j, x = .str i ∧ y = .str j ∧ Q (.bl (!(!(Builtin.Str.occurrences j i 0 j.length 1).isEmpty))) H) ∨ rNotInD X.K x y H Q ∨ rIn X.K true x y H Q) := op_notIn_str.or ((op_notInD hu).or op_notIn_seq)
theorem op_eqY (hu : X.A.units + 64 < cLine) : OpR X (compareOp .Eq) (fun x y H Q => rEq x y H Q ∨ rEqD X.K x y H Q) := op_eq.or (op_eqD hu)
theorem op_neY (hu : X.A.units + 64 < cLine) : OpR X (compareOp .NotEq) (fun x y H Q => rNe x y H Q ∨ rNeD X.K x y H Q) := op_ne.or (op_neD hu)
theorem op_mulY : OpR X (binaryOp .Mult) (fun x y H Q => rI CMulW (fun i j => .int (i * j)) x y H Q ∨ rRepZ x y H Q) := op_mulW.or op_repZ
end
end Y
namespace Y
open PySem PySem.Spec PyProof.Rows L2 Z
section
variable {X : Cx} {B : Bs} {K : Frg} {ms : List Addr} {a b c e o : Expr} {es : List Expr} {ra rb rc r ro : Rd} {rt ru : RdT} {rl : RdA} {pos p0 apos : Pos} {R : RdF} {k : Nat} {f C g p : Addr} {x m : Str} {s1 s2 : RdS}
/-! ### xs[i], xs[i:j] -/
def dIx (x y : D) (Q : D → Prop) : Prop := match x, y with
  | .lst ds, .int i => (match atI ds i with | some d => Q d | none => False)
  | .tup ds, .int i => (match atI ds i with | some d => Q d | none => False)
  | .str s, .int i => s.length ≤ 100000 ∧ (match atI s.cps.toList i with | some c => Q (.str ⟨#[c]⟩) | none => False)
  | _, _ => False
theorem atI_rps {F : Hp} {vs : List V} {ds : List D} {i : Int} {d : D} (r : Rps K ms F vs ds) (h : atI ds i = some d) : ∃ v, atI vs i = some v ∧ Rp K ms F v d := by
  unfold atI at h ⊢
  rw [r.len]
  cases e : ixN ds.length i with
  | none => rw [e] at h; cases h
  | some j =>
    rw [e] at h
    obtain ⟨v, h1, h2⟩ := r.get (i := j) (d := d) h
    exact ⟨v, h1, h2⟩
theorem ixL' : OpL K ms (rIx K) dIx := by
  intro F H x y dx dy Qd Q hs rx ry h k
  unfold dIx at h
  split at h
  · split at h
    · rename_i d e
      cases rx with
      | lst h1 h2 =>
        cases ry
        obtain ⟨v, e1, e2⟩ := atI_rps h2 e
        exact .inl ⟨_, _, _, v, rfl, rfl, SqL.of (hs _ _ h1), e1, k v F H d (Go.refl hs) e2 h⟩
    · exact h.elim
  · split at h
    · rename_i d e
      cases rx with
      | tup h1 h2 =>
        cases ry
        obtain ⟨v, e1, e2⟩ := atI_rps h2 e
        exact .inr (.inl ⟨_, _, _, v, rfl, rfl, sqT hs h1, e1, k v F H d (Go.refl hs) e2 h⟩)
    · exact h.elim
  · obtain ⟨hz, h⟩ := h
    split at h
    · rename_i d e
      cases rx
      cases ry
      exact .inr (.inr ⟨_, _, _, rfl, rfl, Nat.le_trans hz line_ge, e, k _ F H _ (Go.refl hs) (.str _) h⟩)
    · exact h.elim
  · exact h.elim
theorem y_ix (ha : PEp X B a ra) (hb : PEp X B b rb) (hs : PlainIx b) : PEp X B (.Subscript a b pos) (fun ρ Q => ra ρ fun x => rb ρ fun y => dIx x y Q) := pe_imp (pe_ix ix_seq ha hb hs) (tOp_of ixL')
def cutD {α : Type} (xs : List α) (lo hi : Option Int) : List α := (xs.drop (HT.sIx xs.length 0 lo)).take (HT.sIx xs.length xs.length hi - HT.sIx xs.length 0 lo)
theorem cut_rps {F : Hp} {vs : List V} {ds : List D} (r : Rps K ms F vs ds) (lo hi : Option Int) : Rps K ms F (cutV vs lo hi) (cutD ds lo hi) := by
  unfold cutV cutD
  rw [r.len]
  exact (r.drop _).take _
@[irreducible] def dSl (x : D) (lo hi : Option Int) (Q : D → Prop) : Prop := match x with
  | .lst ds => Q (.lst (cutD ds lo hi))
  | .str s => s.length ≤ 100000 ∧ Q (.str (cutS s lo hi))
  | .tup ds => ¬ (HT.sIx ds.length 0 lo = 0 ∧ HT.sIx ds.length ds.length hi = ds.length) ∧ Q (.tup (cutD ds lo hi))
  | _ => False
abbrev RdO := Ev → (Option Int → Prop) → Prop
def tO (K : Frg) (B : Bs) (r : RdO) : TO := fun σ H Q => ∃ F ρ Qd, Iv K B F H σ ρ ∧ r ρ Qd ∧ ∀ o F' H', Go B.ms F H F' H' → Tp K B.ms F' H' → Qd o → Q o H'
theorem po_imp {X : Cx} {e : Option Expr} {t t' : TO} (h : PO X e t) (f : ∀ σ H Q, t' σ H Q → t σ H Q) : PO X e t' := ⟨fun pins s σ H Q I z => h.run pins s σ H Q I (f σ H Q z)⟩
theorem o_none : PO X none (tO X.K B fun _ Q => Q none) := po_imp po_none fun σ H Q ⟨F, ρ, Qd, I, z, k⟩ => k none F H (Go.refl I.same) I.tp z
def asI (d : D) (Q : Int → Prop) : Prop := match d with
  | .int i => Q i
  | _ => False
theorem o_some (h : PEp X B e r) : PO X (some e) (tO X.K B fun ρ Q => r ρ fun d => asI d fun i => Q (some i)) := po_imp (po_some h) fun σ H Q ⟨F, ρ, Qd, I, z, k⟩ => ⟨F, ρ, _, I, z, fun v F1 H1 d g1 t1 r1 z1 => by
  unfold asI at z1
  split at z1
  · cases r1
    exact ⟨_, rfl, k _ F1 H1 g1 t1 z1⟩
  · exact z1.elim⟩
theorem y_sl {lo hi : Option Expr} {rlo rhi : RdO} {p2 : Pos} (he : PEp X B e r) (hl : PO X lo (tO X.K B rlo)) (hh : PO X hi (tO X.K B rhi)) : PEp X B (.Subscript e (.Slice lo hi none p2) pos) (fun ρ Q => r ρ fun d => rlo ρ fun l => rhi ρ fun h => dSl d l h Q) :=
  pe_imp (pe_slice (sl_listZ.or (sl_str.or sl_tup)) he hl hh) fun σ H Q ⟨F, ρ, Qd, I, z, k⟩ => ⟨F, ρ, _, I, z, fun v F1 H1 d g1 t1 r1 z1 => ⟨F1, ρ, _, I.step g1 t1, z1, fun l F2 H2 g2 t2 z2 => ⟨F2, ρ, _, (I.step g1 t1).step g2 t2, z2, fun h F3 H3 g3 t3 z3 => by
    have g13 := (g1.trans g2).trans g3
    have r3 := (r1.up g2.ff).up g3.ff
    unfold dSl at z3
    split at z3
    · cases r3 with
      | lst h1 h2 =>
        refine .inl ⟨_, _, rfl, SqL.of (t3.1 _ _ h1), fun p H4 hp e4 => ?_⟩
        obtain ⟨F4, g4, q4, _⟩ := newE t3.1 hp e4
        exact k _ F4 H4 _ (g13.trans g4.nil) (t3.go0 g4) (.lst q4 ((cut_rps h2 l h).up g4.ff)) z3
    · cases r3
      exact .inr (.inl ⟨_, rfl, Nat.le_trans z3.1 line_ge, k _ F3 H3 _ g13 t3 (.str _) z3.2⟩)
    · cases r3 with
      | tup h1 h2 =>
        refine .inr (.inr ⟨_, _, rfl, sqT t3.1 h1, by rw [h2.len]; exact z3.1, fun p hp => ?_⟩)
        obtain ⟨F4, g4, q4, _⟩ := newE t3.1 hp rfl
        exact k _ F4 _ _ (g13.trans g4.nil) (t3.go0 g4) (.tup (SqT.of q4) ((cut_rps h2 l h).up g4.ff)) z3.2
    · exact z3.elim⟩⟩⟩
/-! ### fields, properties -/
def ixOf : List Str → Str → Option Nat
  | [], _ => none
  | n :: ns, f => if (f == n) = true then some 0 else (ixOf ns f).map (· + 1)
theorem look_ix : ∀ {ns : List Str} {vs : List V} {f : Str} {j : Nat}, ns.length = vs.length → ixOf ns f = some j → (ns.zip vs).lookup f = vs[j]?
  | [], _, _, _, _, h => by simp [ixOf] at h
  | _ :: _, [], _, _, h, _ => by simp at h
  | n :: ns, v :: vs, f, j, hl, h => by
    unfold ixOf at h
    rw [List.zip_cons_cons, List.lookup_cons]
    by_cases e : (f == n) = true
    · rw [if_pos e] at h
      cases h
      rw [e]
      rfl
    · rw [if_neg e] at h
      obtain ⟨i, h1, rfl⟩ := Option.map_eq_some_iff.mp h
      have e2 : (f == n) = false := by simpa using e
      rw [e2, List.getElem?_cons_succ]
      exact look_ix (by simpa using hl) h1
def fldD (cs ns : List Str) (j : Nat) (o : D) (Q : D → Prop) : Prop := match o with
  | .obj c n ds => (c ∈ cs ∧ n = ns) ∧ (match ds[j]? with | some d => Q d | none => False)
  | _ => False
theorem y_fld {cs ns : List Str} {fl : Str} {j : Nat} (he : PEp X B e r) (hc : ∀ c ∈ cs, Cls X.K (He.ga X.K c) ∧ NoAttr X.K (He.ga X.K c) fl) (hj : ixOf ns fl = some j := by decide +kernel) (hb : attributeBase e fl X.env (eval e X.env) = eval e X.env := by rfl) :
    PEp X B (.Attribute e fl pos) (fun ρ Q => r ρ fun o => fldD cs ns j o Q) :=
  pe_imp (pe_fld he hb) fun σ H Q ⟨F, ρ, Qd, I, z, k⟩ => ⟨F, ρ, _, I, z, fun v F1 H1 d g1 t1 r1 z1 => by
    unfold fldD at z1
    split at z1
    · obtain ⟨⟨h1, rfl⟩, z1⟩ := z1
      split at z1
      · rename_i dd e
        cases r1 with
        | @obj a dx _ _ vs _ h2 h3 h4 =>
          obtain ⟨v, e1, e2⟩ := h4.get e
          exact ⟨_, _, dx, _, v, rfl, t1.1 _ _ h2, (hc _ h1).1, (hc _ h1).2, by rw [look_ix h3 hj, e1], k v F1 H1 dd g1 t1 e2 z1⟩
      · exact z1.elim
    · exact z1.elim⟩
theorem cls_some {C : Addr} (c1 : Cls K C) : (PySem.W.clsIn K C).isSome = true := by
  obtain ⟨cd, hc, _⟩ := PySem.W.any_some c1.hd
  rw [hc]
  rfl
theorem y_prop {cs ns : List Str} (he : PEp X B e r) (hc : ∀ c ∈ cs, Cls X.K (He.ga X.K c) ∧ ∃ p, PropOf X.K (He.ga X.K c) m p g) (F : FnG X.prog X.w X.K X.mg X.base (L2.CX X.prog X.w) k g (spP X.K R)) (hr : RoomG (k + 1) X.A) (hx : Passes (L2.CX X.prog X.w) X.nox (EE X.K B.nox))
    (hab : attributeBase e m X.env (eval e X.env) = eval e X.env := by rfl) : PEp X B (.Attribute e m pos) (fun ρ Q => r ρ fun o => asO cs ns o (R [o] Q fun _ => False)) := by
  refine ⟨fun pins s σ H Q I h => ?_⟩
  obtain ⟨F0, ρ, Qd, J, z, kk⟩ := h
  refine attr_of hab (thn (he.run pins s σ H (fun v H1 => ∃ F1 d, Go B.ms F0 H F1 H1 ∧ Tp X.K B.ms F1 H1 ∧ Rp X.K B.ms F1 v d ∧ asO cs ns d (R [d] Qd fun _ => False)) I ⟨F0, ρ, _, J, z, fun v F1 H1 d g1 t1 r1 z1 => ⟨F1, d, g1, t1, r1, z1⟩⟩) fun u s1 ⟨v, H1, I1, rx, F1, d, g1, t1, r1, z1⟩ => ?_)
  unfold asO at z1
  split at z1
  · obtain ⟨hcs, rfl, z2⟩ := z1
    cases r1 with
    | @obj a dx _ _ vs ds h1 h2 h3 =>
      obtain rfl : u = Value.ref a := rx
      obtain ⟨c1, p, hp⟩ := hc _ hcs
      have ea := t1.1 _ _ h1
      obtain ⟨mA, O, _, _, _, _⟩ := ins_get I1.hok ea
      obtain ⟨od, J1, _⟩ := O.look
      obtain ⟨rest, hrec⟩ := hp.rec_
      have I2 := I1.tok (s1.toks + 1)
      have hcl := cls_some c1
      refine PySem.W.get_bind I1.kIn J1 (PySem.W.plainGet_of (c1.get m)).1 (PySem.W.findObj_data hcl hp.at_ hp.get hp.tak) (PySem.W.plainGet_of (c1.get m)).2 (wpAny_call (PySem.W.prop_get (s := { s1 with toks := s1.toks + 1 }) I1.kIn hrec ?_))
      have q : spP X.K R [.ref a] H1 Q (EE X.K B.nox) := sp_call (B := B.nox) (vs := [.ref a]) J.nox kk g1 t1 (.cons (.obj h1 h2 h3) .nil) z2
      refine codeAny_mono (F X.A.in1 X.stack { s1 with toks := s1.toks + 1 } H1 [.ref a] [.ref a] Q _ hr.in1 I2.env0.in1 (.cons rfl .nil) q) fun r s' hq => ?_
      cases r with
      | error er => exact False.elim (hx pins σ H1 { s1 with toks := s1.toks + 1 } er s' (I2.wish _) hq)
      | ok fl =>
        cases fl with
        | ret u =>
          obtain ⟨v, H', I3, rv, q3⟩ := I2.after hq
          show wpAny _ _ (handedOut u) _ _ _
          rw [PySem.W.handedOut_of (handed_of rv)]
          exact wpAny_pure ⟨v, H', I3, rv, q3⟩
        | next => exact False.elim hq
        | brk => exact False.elim hq
        | cont => exact False.elim hq
  · exact z1.elim
/-! ### builtins -/
def CalL (K : Frg) (ms : List Addr) (r : List V → Hp → VK → Prop) (g : List D → (D → Prop) → Prop) : Prop := ∀ (F H : Hp) (xs : List V) (ds : List D) (Qd : D → Prop) (Q : VK), Same F H → Rps K ms F xs ds → g ds Qd → (∀ v F' H' d, Go [] F H F' H' → Rp K ms F' v d → Qd d → Q v H') → r xs H Q
theorem tCB_of {q : List V → Hp → VK → Prop} {g : List D → (D → Prop) → Prop} (hl : CalL X.K B.ms q g) (σ : L2.St) (H : Hp) (Q : VK) (h : tE X.K B (fun ρ Q => rl ρ fun ds => g ds Q) σ H Q) : tCB q (tA X.K B rl) σ H Q := by
  obtain ⟨F, ρ, Qd, I, z, k⟩ := h
  exact ⟨F, ρ, _, I, z, fun vs F1 H1 ds g1 t1 r1 z1 => hl F1 H1 vs ds Qd Q t1.1 r1 z1 fun w F2 H2 e g2 r2 z2 => k w F2 H2 e (g1.trans g2.nil) (t1.go0 g2) r2 z2⟩
theorem y_callB {id : String} {q : List V → Hp → VK → Prop} {g : List D → (D → Prop) → Prop} (hc : CallR X (.builtin id) q) (hl : CalL X.K B.ms q g) (hg : Gl X x) (hm : X.mg x = none) (hv : bootBuiltins x = some (.builtin id)) (ha : PAp X B (e :: es) rl) (hn : x ≠ "__name__" := by decide) (hdb : (x == ("__debug__" : Str)) = false := by decide)
    (he : starEach (e :: es) X.env = (false, eval e X.env) :: starEach es X.env := by rfl) (hpl : (backTo pos (starEach es X.env)).any (·.1) = false := by rfl) : PEp X B (.Call (.Name x p0) (e :: es) [] pos) (fun ρ Q => rl ρ fun ds => g ds Q) := pe_imp (pe_callB hc hg hm hv ha hn hdb he hpl) (tCB_of hl)
theorem y_callT {id : String} {q : List V → Hp → VK → Prop} {g : List D → (D → Prop) → Prop} (hc : CallR X (.type id) q) (hl : CalL X.K B.ms q g) (hg : Gl X x) (hm : X.mg x = none) (hv : bootBuiltins x = some (.type id)) (ha : PAp X B (e :: es) rl) (hn : x ≠ "__name__" := by decide) (hdb : (x == ("__debug__" : Str)) = false := by decide)
    (he : starEach (e :: es) X.env = (false, eval e X.env) :: starEach es X.env := by rfl) (hpl : (backTo pos (starEach es X.env)).any (·.1) = false := by rfl) : PEp X B (.Call (.Name x p0) (e :: es) [] pos) (fun ρ Q => rl ρ fun ds => g ds Q) := pe_imp (pe_callTy hc hg hm hv ha hn hdb he hpl) (tCB_of hl)
theorem rps1 {F : Hp} {xs : List V} {d : D} (r : Rps K ms F xs [d]) : ∃ x, xs = [x] ∧ Rp K ms F x d := by
  cases r with
  | cons r1 r2 => cases r2; exact ⟨_, rfl, r1⟩
theorem rps2 {F : Hp} {xs : List V} {d e : D} (r : Rps K ms F xs [d, e]) : ∃ x y, xs = [x, y] ∧ Rp K ms F x d ∧ Rp K ms F y e := by
  cases r with
  | cons r1 r2 =>
    obtain ⟨y, rfl, r3⟩ := rps1 r2
    exact ⟨_, _, rfl, r1, r3⟩
def dLen (ds : List D) (Q : D → Prop) : Prop := match ds with
  | [.lst xs] => Q (.int (xs.length : Int))
  | [.tup xs] => Q (.int (xs.length : Int))
  | [.str s] => s.length ≤ 100000 ∧ Q (.int (s.length : Int))
  | _ => False
theorem call_lenY : CallR X (.builtin "len") (fun xs H Q => (∃ p ys, xs = [.ref p] ∧ (SqL X.K H p ys ∨ SqT X.K H p ys) ∧ Q (.int ys.length) H) ∨ (∃ z, xs = [.str z] ∧ z.length ≤ sizeLine ∧ Q (.int z.length) H)) := call_len_seq.or call_len_str
theorem lenL : CalL K ms (fun xs H Q => (∃ p ys, xs = [.ref p] ∧ (SqL K H p ys ∨ SqT K H p ys) ∧ Q (.int ys.length) H) ∨ (∃ z, xs = [.str z] ∧ z.length ≤ sizeLine ∧ Q (.int z.length) H)) dLen := by
  intro F H xs ds Qd Q hs r h k
  unfold dLen at h
  split at h
  · obtain ⟨x, rfl, r1⟩ := rps1 r
    cases r1 with
    | lst h1 h2 => exact .inl ⟨_, _, rfl, .inl (SqL.of (hs _ _ h1)), by rw [h2.len]; exact k _ F H _ (Go.refl hs) (.int _) h⟩
  · obtain ⟨x, rfl, r1⟩ := rps1 r
    cases r1 with
    | tup h1 h2 => exact .inl ⟨_, _, rfl, .inr (sqT hs h1), by rw [h2.len]; exact k _ F H _ (Go.refl hs) (.int _) h⟩
  · obtain ⟨x, rfl, r1⟩ := rps1 r
    cases r1
    exact .inr ⟨_, rfl, Nat.le_trans h.1 line_ge, k _ F H _ (Go.refl hs) (.int _) h.2⟩
  · exact h.elim
def dAbs (ds : List D) (Q : D → Prop) : Prop := match ds with
  | [.int i] => Q (.int (if i < 0 then -i else i))
  | _ => False
theorem absL : CalL K ms (fun xs H Q => ∃ i, xs = [.int i] ∧ Q (.int (if i < 0 then -i else i)) H) dAbs := by
  intro F H xs ds Qd Q hs r h k
  unfold dAbs at h
  split at h
  · obtain ⟨x, rfl, r1⟩ := rps1 r
    cases r1
    exact ⟨_, rfl, k _ F H _ (Go.refl hs) (.int _) h⟩
  · exact h.elim
def blsOf : List D → Option (List Bool)
  | [] => some []
  | .bl b :: ds => (blsOf ds).map (b :: ·)
  | _ => none
theorem blsOf_map : ∀ {ds : List D} {bs : List Bool}, blsOf ds = some bs → ds = bs.map D.bl
  | [], _, h => by cases h; rfl
  | .bl b :: ds, _, h => by
    unfold blsOf at h
    obtain ⟨r, h1, rfl⟩ := Option.map_eq_some_iff.mp h
    rw [blsOf_map h1]
    rfl
  | .non :: _, _, h => by simp [blsOf] at h
  | .int _ :: _, _, h => by simp [blsOf] at h
  | .str _ :: _, _, h => by simp [blsOf] at h
  | .lst _ :: _, _, h => by simp [blsOf] at h
  | .tup _ :: _, _, h => by simp [blsOf] at h
  | .obj _ _ _ :: _, _, h => by simp [blsOf] at h
  | .ty _ :: _, _, h => by simp [blsOf] at h
  | .glob _ :: _, _, h => by simp [blsOf] at h
  | .tape :: _, _, h => by simp [blsOf] at h
def dAll (f : List Bool → Bool) (ds : List D) (Q : D → Prop) : Prop := match ds with
  | [.lst xs] => (match blsOf xs with | some bs => Q (.bl (f bs)) | none => False)
  | _ => False
theorem allL {f : List Bool → Bool} : CalL K ms (fun vs H Q => ∃ (a : Addr) (bs : List Bool), vs = [V.ref a] ∧ SqL K H a (bs.map V.bl) ∧ Q (.bl (f bs)) H) (dAll f) := by
  intro F H xs ds Qd Q hs r h k
  unfold dAll at h
  split at h
  · obtain ⟨x, rfl, r1⟩ := rps1 r
    split at h
    · rename_i ds bs e
      obtain rfl := blsOf_map e
      cases r1 with
      | lst h1 h2 =>
        rw [h2.bls] at h1
        exact ⟨_, bs, rfl, SqL.of (hs _ _ h1), k _ F H _ (Go.refl hs) (.bl _) h⟩
    · exact h.elim
  · exact h.elim
def dList (ds : List D) (Q : D → Prop) : Prop := match ds with
  | [.lst xs] => Q (.lst xs)
  | [.tup xs] => Q (.lst xs)
  | _ => False
theorem listL : CalL K ms (rListZ K) dList := by
  intro F H xs ds Qd Q hs r h k
  unfold dList at h
  split at h
  · obtain ⟨x, rfl, r1⟩ := rps1 r
    cases r1 with
    | lst h1 h2 =>
      refine ⟨_, _, rfl, .inl (SqL.of (hs _ _ h1)), fun p H2 hp e2 => ?_⟩
      obtain ⟨F2, g2, q2, _⟩ := newE hs hp e2
      exact k _ F2 H2 _ g2 (.lst q2 (h2.up g2.ff)) h
  · obtain ⟨x, rfl, r1⟩ := rps1 r
    cases r1 with
    | tup h1 h2 =>
      refine ⟨_, _, rfl, .inr (sqT hs h1), fun p H2 hp e2 => ?_⟩
      obtain ⟨F2, g2, q2, _⟩ := newE hs hp e2
      exact k _ F2 H2 _ g2 (.lst q2 (h2.up g2.ff)) h
  · exact h.elim
def dTuple (ds : List D) (Q : D → Prop) : Prop := match ds with
  | [.lst xs] => Q (.tup xs)
  | [.tup xs] => Q (.tup xs)
  | _ => False
theorem tupleL : CalL K ms (fun xs H Q => ∃ p ys, xs = [.ref p] ∧ ((SqL K H p ys ∧ ∀ l, H l = none → Q (.ref l) (upd H l (.tup ys))) ∨ (SqT K H p ys ∧ Q (.ref p) H))) dTuple := by
  intro F H xs ds Qd Q hs r h k
  unfold dTuple at h
  split at h
  · obtain ⟨x, rfl, r1⟩ := rps1 r
    cases r1 with
    | lst h1 h2 =>
      refine ⟨_, _, rfl, .inl ⟨SqL.of (hs _ _ h1), fun p hp => ?_⟩⟩
      obtain ⟨F2, g2, q2, _⟩ := newE hs hp rfl
      exact k _ F2 _ _ g2 (.tup (SqT.of q2) (h2.up g2.ff)) h
  · obtain ⟨x, rfl, r1⟩ := rps1 r
    cases r1 with
    | tup h1 h2 => exact ⟨_, _, rfl, .inr ⟨sqT hs h1, k _ F H _ (Go.refl hs) (.tup h1 h2) h⟩⟩
  · exact h.elim
/-! ### isinstance -/
def OwnC (K : Frg) (c : Str) : Prop := Cls K (He.ga K c) ∧ Own K (He.ga K c)
def tyD (K : Frg) : D → Option Value
  | .non => some (.type "NoneType")
  | .bl _ => some (.type "bool")
  | .int _ => some (.type "int")
  | .str _ => some (.type "str")
  | .lst _ => some (.type "list")
  | .tup _ => some (.type "tuple")
  | .obj c _ _ => some (.ref (He.ga K c))
  | _ => none
theorem tyX_of {F H : Hp} {v : V} {d : D} {t : Value} (r : Rp K ms F v d) (hs : Same F H) (h : tyD K d = some t) (ho : ∀ c ns ds, d = .obj c ns ds → OwnC K c) : TyX K H v t := by
  cases r with
  | non => cases h; exact .base .non
  | bl b => cases h; exact .base (.bl b)
  | int i => cases h; exact tyI i
  | str s => cases h; exact .base (.str s)
  | ty n => cases h
  | glob x => cases h
  | tape m => cases h
  | lst h1 h2 => cases h; exact tyL (SqL.of (K := K) (hs _ _ h1))
  | tup h1 h2 => cases h; exact tyT (sqT hs h1)
  | obj h1 h2 h3 => cases h; exact tyO (ho _ _ _ rfl).1 (ho _ _ _ rfl).2 (hs _ _ h1)
def dIsB (cs : List Str) (T : String) (d : D) (Q : D → Prop) : Prop := match d with
  | .non => Q (.bl false)
  | .bl _ => Q (.bl (T == "bool" || T == "int"))
  | .int _ => Q (.bl (T == "int"))
  | .str _ => Q (.bl (T == "str"))
  | .lst _ => Q (.bl (T == "list"))
  | .tup _ => Q (.bl (T == "tuple"))
  | .obj c _ _ => c ∈ cs ∧ Q (.bl false)
  | _ => False
def dIs2 (g : D → (D → Prop) → Prop) (c : D) (ds : List D) (Q : D → Prop) : Prop := match ds with
  | [x, y] => y = c ∧ g x Q
  | _ => False
theorem isBL {cs : List Str} {T : String} (hT : T ∈ ["bool", "int", "str", "list", "tuple", "dict"]) (hc : ∀ c ∈ cs, OwnC K c) : CalL K ms (rIsi K) (dIs2 (dIsB cs T) (.ty T)) := by
  intro F H xs ds Qd Q hs r h k
  unfold dIs2 at h
  split at h
  · obtain ⟨x, y, rfl, r1, r2⟩ := rps2 r
    obtain ⟨rfl, h⟩ := h
    cases r2
    have fin : ∀ (t : Value) (b : Bool), TyX K H x t → PySem.W.kitOne K t (.type T) = some b → Qd (.bl b) → rIsi K [x, V.ty T] H Q := fun t b ty e q => ⟨_, _, t, _, b, rfl, .ty T, ty, e, k _ F H _ (Go.refl hs) (.bl _) q⟩
    have kb : ∀ (a : String) (b : Bool), (∀ T ∈ ["bool", "int", "str", "list", "tuple", "dict"], kitB a T = some (if a = "bool" then (T == "bool" || T == "int") else (T == a))) → b = (if a = "bool" then (T == "bool" || T == "int") else (T == a)) → PySem.W.kitOne K (.type a) (.type T) = some b := fun a b h e => by
      rw [e]
      exact kit_ty (h T hT)
    unfold dIsB at h
    split at h
    · refine fin _ false (tyX_of r1 hs rfl (fun _ _ _ z => nomatch z)) (kb "NoneType" _ (by decide +kernel) ?_) h
      simp at hT; rcases hT with rfl | rfl | rfl | rfl | rfl | rfl <;> decide
    · exact fin _ _ (tyX_of r1 hs rfl (fun _ _ _ z => nomatch z)) (kb "bool" _ (by decide +kernel) rfl) h
    · exact fin _ _ (tyX_of r1 hs rfl (fun _ _ _ z => nomatch z)) (kb "int" _ (by decide +kernel) rfl) h
    · exact fin _ _ (tyX_of r1 hs rfl (fun _ _ _ z => nomatch z)) (kb "str" _ (by decide +kernel) rfl) h
    · exact fin _ _ (tyX_of r1 hs rfl (fun _ _ _ z => nomatch z)) (kb "list" _ (by decide +kernel) rfl) h
    · exact fin _ _ (tyX_of r1 hs rfl (fun _ _ _ z => nomatch z)) (kb "tuple" _ (by decide +kernel) rfl) h
    · exact fin _ false (tyX_of r1 hs rfl (fun c _ _ z => by cases z; exact hc _ h.1)) ((hc _ h.1).2.kt T hT) h.2
    · exact h.elim
  · exact h.elim
def dIsO (cs cs' : List Str) (d : D) (Q : D → Prop) : Prop := match d with
  | .obj c _ _ => (c ∈ cs ∧ Q (.bl true)) ∨ (c ∈ cs' ∧ Q (.bl false))
  | .non | .bl _ | .int _ | .str _ | .lst _ | .tup _ => Q (.bl false)
  | _ => False
theorem isOL {cs cs' : List Str} {C : Str} (hC : OwnC K C) (hc : ∀ c ∈ cs, OwnC K c ∧ PySem.W.kitOne K (.ref (He.ga K c)) (.ref (He.ga K C)) = some true) (hc' : ∀ c ∈ cs', OwnC K c ∧ PySem.W.kitOne K (.ref (He.ga K c)) (.ref (He.ga K C)) = some false) : CalL K ms (rIsi K) (dIs2 (dIsO cs cs') (.glob C)) := by
  intro F H xs ds Qd Q hs r h k
  unfold dIs2 at h
  split at h
  · obtain ⟨x, y, rfl, r1, r2⟩ := rps2 r
    obtain ⟨rfl, h⟩ := h
    cases r2
    have fin : ∀ (t : Value) (b : Bool), TyX K H x t → PySem.W.kitOne K t (.ref (He.ga K C)) = some b → Qd (.bl b) → rIsi K [x, V.ref (He.ga K C)] H Q := fun t b ty e q => ⟨_, _, t, _, b, rfl, .own _, ty, e, k _ F H _ (Go.refl hs) (.bl _) q⟩
    unfold dIsO at h
    split at h
    · rcases h with ⟨h1, h⟩ | ⟨h1, h⟩
      · exact fin _ true (tyX_of r1 hs rfl (fun c _ _ z => by cases z; exact (hc _ h1).1)) (hc _ h1).2 h
      · exact fin _ false (tyX_of r1 hs rfl (fun c _ _ z => by cases z; exact (hc' _ h1).1)) (hc' _ h1).2 h
    · exact fin _ false (tyX_of r1 hs rfl (fun _ _ _ z => nomatch z)) (hC.2.kb "NoneType" (by decide)) h
    · exact fin _ false (tyX_of r1 hs rfl (fun _ _ _ z => nomatch z)) (hC.2.kb "bool" (by decide)) h
    · exact fin _ false (tyX_of r1 hs rfl (fun _ _ _ z => nomatch z)) (hC.2.kb "int" (by decide)) h
    · exact fin _ false (tyX_of r1 hs rfl (fun _ _ _ z => nomatch z)) (hC.2.kb "str" (by decide)) h
    · exact fin _ false (tyX_of r1 hs rfl (fun _ _ _ z => nomatch z)) (hC.2.kb "list" (by decide)) h
    · exact fin _ false (tyX_of r1 hs rfl (fun _ _ _ z => nomatch z)) (hC.2.kb "tuple" (by decide)) h
    · exact h.elim
  · exact h.elim
end
end Y
namespace Y
open PySem PySem.Spec PyProof.Rows L2 Z
/-! ### things that one slot holds -/
section
variable {K : Frg} {B : Bs} {F H F' H' : Hp} {σ : L2.St} {ρ : Ev}
theorem Tp.nms {ms : List Addr} {p : Addr} (t : Tp K ms F H) (hp : H p = none) : p ∉ ms := fun m => (t.2 p m).ne hp
theorem go_none {ms : List Addr} {F0 H0 F H : Hp} {p : Addr} (g : Go ms F0 H0 F H) (hf : Same F0 H0) (hp : H p = none) (hm : p ∉ ms) : H0 p = none := by
  cases e : H0 p with
  | none => rfl
  | some o =>
    cases e2 : F0 p with
    | some o' => have := g.fh p o' (g.ff p o' e2); rw [hp] at this; cases this
    | none => have := (g.mu p o hm e2 e).2; rw [hp] at this; cases this
/-- a new thing comes into a slot -/
theorem Iv.newM (I : Iv K B F H σ ρ) (h0 : Same B.F0 B.H0) {p : Addr} {o : HO} {m : Mo} {H2 : Hp} (i : Nat) (hp : H p = none) (e : H2 = upd H p o) (r : MoR K B.ms F p m o) : Iv K B F H2 (σ.set i (some (.ref p))) (ρ.set i (.mu m)) := by
  have nm := I.tp.nms hp
  have g : Go [] F H F H2 := by rw [e]; exact Go.newM I.same hp
  have I2 := I.step0 g
  have hn : ∀ (j : Nat) (n : Mo), ρ[j]? = some (.mu n) → σ[j]? ≠ some (some (.ref p)) := fun j n h z => by
    obtain ⟨a, o', h1, h2, h3, h4, h5, h6⟩ := I.own j n h
    rw [z] at h1
    cases h1
    rw [hp] at h5
    cases h5
  have hl := I.len
  refine ⟨I2.go, I2.tp, by rw [List.length_set, List.length_set]; exact I.len, fun j d h => ?_, fun j n h => ?_, fun j k n n' a hjk h1 h2 h3 => ?_⟩
  · by_cases hij : i = j
    · subst hij
      rcases Nat.lt_or_ge i ρ.length with z | z
      · rw [List.getElem?_set_self z] at h; cases h
      · rw [List.getElem?_eq_none (by rw [List.length_set]; exact z)] at h; cases h
    · rw [List.getElem?_set_ne hij] at h ⊢
      exact I2.val j d h
  · by_cases hij : i = j
    · subst hij
      rcases Nat.lt_or_ge i ρ.length with z | z
      · rw [List.getElem?_set_self z] at h
        cases h
        exact ⟨p, o, List.getElem?_set_self (by omega), same_none I.same hp, nm, go_none I.go h0 hp nm, by rw [e]; exact upd_same, r⟩
      · rw [List.getElem?_eq_none (by rw [List.length_set]; exact z)] at h; cases h
    · rw [List.getElem?_set_ne hij] at h ⊢
      exact I2.own j n h
  · by_cases hij : i = j
    · subst hij
      have hik : i ≠ k := hjk
      rw [List.getElem?_set_ne hik] at h2 ⊢
      rcases Nat.lt_or_ge i σ.length with z | z
      · rw [List.getElem?_set_self z] at h3
        cases h3
        exact hn k n' h2
      · rw [List.getElem?_eq_none (by rw [List.length_set]; exact z)] at h3; cases h3
    · rw [List.getElem?_set_ne hij] at h1 h3
      by_cases hik : i = k
      · subst hik
        rcases Nat.lt_or_ge i σ.length with z | z
        · rw [List.getElem?_set_self z]
          intro q
          cases q
          exact hn j n h1 h3
        · rw [List.getElem?_eq_none (by rw [List.length_set]; exact z)]
          intro q; cases q
      · rw [List.getElem?_set_ne hik] at h2 ⊢
        exact I.sep j k n n' a hjk h1 h2 h3
/-- a thing changes in its place -/
theorem Iv.put (I : Iv K B F H σ ρ) {a : Addr} {o : HO} {m m' : Mo} {H2 : Hp} (i : Nat) (hi : ρ[i]? = some (.mu m)) (ha : σ[i]? = some (some (.ref a))) (e : H2 = upd H a o) (r : MoR K B.ms F a m' o) : Iv K B F H2 σ (ρ.set i (.mu m')) := by
  obtain ⟨a', o', h1, fa, nm, h0, h5, _⟩ := I.own i m hi
  rw [ha] at h1
  cases h1
  have gp : Go [a] F H F H2 := by rw [e]; exact Go.put I.same fa
  have go : Go B.ms B.F0 B.H0 F H2 := ((I.go.sub (ms' := a :: B.ms) fun x hx => List.mem_cons_of_mem _ hx).trans (gp.sub fun x hx => by
    have : x = a := by simpa using hx
    rw [this]; exact List.mem_cons_self)).drop h0
  have ho : ∀ b, b ≠ a → H2 b = H b := fun b hb => by rw [e]; exact upd_ne hb
  refine ⟨go, ⟨gp.fh, fun t mt => (I.tp.2 t mt).go gp (by
    intro z
    have : t = a := by simpa using z
    exact nm (this ▸ mt))⟩, by rw [List.length_set]; exact I.len, fun j d h => ?_, fun j n h => ?_, fun j k n n' b hjk h1 h2 h3 => ?_⟩
  · by_cases hij : i = j
    · subst hij
      rcases Nat.lt_or_ge i ρ.length with z | z
      · rw [List.getElem?_set_self z] at h; cases h
      · rw [List.getElem?_eq_none (by rw [List.length_set]; exact z)] at h; cases h
    · rw [List.getElem?_set_ne hij] at h
      exact I.val j d h
  · by_cases hij : i = j
    · subst hij
      rcases Nat.lt_or_ge i ρ.length with z | z
      · rw [List.getElem?_set_self z] at h
        cases h
        exact ⟨a, o, ha, fa, nm, h0, by rw [e]; exact upd_same, r⟩
      · rw [List.getElem?_eq_none (by rw [List.length_set]; exact z)] at h; cases h
    · rw [List.getElem?_set_ne hij] at h
      obtain ⟨b, u, b1, b2, b3, b4, b5, b6⟩ := I.own j n h
      have hb : b ≠ a := fun q => by
        subst q
        exact I.sep i j m n b hij hi h ha b1
      exact ⟨b, u, b1, b2, b3, b4, by rw [ho b hb]; exact b5, b6⟩
  · have w : ∀ (q : Nat) (n : Mo), (ρ.set i (.mu m'))[q]? = some (.mu n) → ∃ n' : Mo, ρ[q]? = some (.mu n') := fun q n h => by
      by_cases hq : i = q
      · subst hq; exact ⟨m, hi⟩
      · rw [List.getElem?_set_ne hq] at h; exact ⟨n, h⟩
    obtain ⟨n1, w1⟩ := w j n h1
    obtain ⟨n2, w2⟩ := w k n' h2
    exact I.sep j k n1 n2 b hjk w1 w2 h3
/-- a list that grew is plain data from now on -/
theorem Iv.freeze (I : Iv K B F H σ ρ) {ds : List D} (i : Nat) (hi : ρ[i]? = some (.mu (.lst ds))) : ∃ F2, Same F F2 ∧ Iv K B F2 H σ (ρ.set i (.val (.lst ds))) := by
  obtain ⟨a, o, ha, fa, nm, h0, h5, vs, rfl, hr⟩ := I.own i _ hi
  have gp : Go [a] F H (upd F a (.lst vs)) H := Go.freeze I.same fa h5
  have go : Go B.ms B.F0 B.H0 (upd F a (.lst vs)) H := ((I.go.sub (ms' := a :: B.ms) fun x hx => List.mem_cons_of_mem _ hx).trans (gp.sub fun x hx => by
    have : x = a := by simpa using hx
    rw [this]; exact List.mem_cons_self)).drop h0
  refine ⟨upd F a (.lst vs), gp.ff, go, ⟨gp.fh, fun t mt => (I.tp.2 t mt).go gp (by
    intro z
    have : t = a := by simpa using z
    exact nm (this ▸ mt))⟩, by rw [List.length_set]; exact I.len, fun j d h => ?_, fun j n h => ?_, fun j k n n' b hjk h1 h2 h3 => ?_⟩
  · by_cases hij : i = j
    · subst hij
      rcases Nat.lt_or_ge i ρ.length with z | z
      · rw [List.getElem?_set_self z] at h
        cases h
        exact ⟨.ref a, ha, .lst upd_same (hr.up gp.ff)⟩
      · rw [List.getElem?_eq_none (by rw [List.length_set]; exact z)] at h; cases h
    · rw [List.getElem?_set_ne hij] at h
      obtain ⟨v, h1, h2⟩ := I.val j d h
      exact ⟨v, h1, h2.up gp.ff⟩
  · by_cases hij : i = j
    · subst hij
      rcases Nat.lt_or_ge i ρ.length with z | z
      · rw [List.getElem?_set_self z] at h; cases h
      · rw [List.getElem?_eq_none (by rw [List.length_set]; exact z)] at h; cases h
    · rw [List.getElem?_set_ne hij] at h
      obtain ⟨b, u, b1, b2, b3, b4, b5, b6⟩ := I.own j n h
      have hb : b ≠ a := fun q => by
        subst q
        exact I.sep i j _ n b hij hi h ha b1
      exact ⟨b, u, b1, by rw [upd_ne hb]; exact b2, b3, b4, b5, b6.up gp.ff⟩
  · have w : ∀ (q : Nat) (n : Mo), (ρ.set i (.val (.lst ds)))[q]? = some (.mu n) → ρ[q]? = some (.mu n) := fun q n h => by
      by_cases hq : i = q
      · subst hq
        rcases Nat.lt_or_ge i ρ.length with z | z
        · rw [List.getElem?_set_self z] at h; cases h
        · rw [List.getElem?_eq_none (by rw [List.length_set]; exact z)] at h; cases h
      · rw [List.getElem?_set_ne hq] at h; exact h
    exact I.sep j k n n' b hjk (w _ _ h1) (w _ _ h2) h3
end
section
variable {X : Cx} {B : Bs} {K : Frg} {ms : List Addr} {a b c e o : Expr} {es : List Expr} {ra rb rc r ro : Rd} {rt ru : RdT} {rl : RdA} {pos p0 apos : Pos} {R : RdF} {k : Nat} {f C g p : Addr} {x m : Str} {s1 s2 : RdS}
/-- x = [..], a list that grows -/
theorem s_own (h0 : Same B.F0 B.H0) {i : Nat} {x : Str} {pos' : Pos} (hN : X.N.Nodup) (hi : X.N[i]? = some x) (hx : Loc X.env.scope x) (ha : PAp X B es rl) (hs : swapsWith (.List es p0) (some (.Name x pos')) pos.line X.env = pure false := by rfl) (hf : X.fn x = true ∨ X.env.scope.names.lookup x = some .local := by first | exact .inl rfl | exact .inr rfl | assumption) :
    PSp X B (.Assign [.Name x pos'] (.List es p0) pos) (fun ρ E => rl ρ fun ds => ds.length ≤ 100000 ∧ E.nx (ρ.set i (.mu (.lst ds)))) :=
  ps_imp (ps_set hN hi hx (pe_lstZ ha) hs hf) fun σ H Dd ⟨F, ρ, E, I, z, kn, kr, kb, kc⟩ => ⟨F, ρ, _, I, z, fun vs F1 H1 ds g1 t1 r1 z1 => ⟨Nat.le_trans (by rw [r1.len]; exact z1.1) line_ge, fun p H2 hp e2 => kn _ _ F1 H2 g1.ff ((I.step g1 t1).newM (m := .lst ds) h0 i hp e2 ⟨vs, rfl, r1⟩) z1.2⟩⟩
def appM (i : Nat) (ρ : Ev) (d : D) (Q : Ev → Prop) : Prop := match ρ[i]? with
  | some (.mu (.lst ds)) => ds.length < 100000 ∧ Q (ρ.set i (.mu (.lst (ds ++ [d]))))
  | _ => False
/-- x.append(e) -/
theorem s_app {i : Nat} {x : Str} {pv cpos : Pos} (hv : PE X (.Name x pv) (tVar i)) (he : PEp X B e r)
    (hc : ∀ t : TA, PA X [e] t → PE X (.Call (.Attribute (.Name x pv) "append" apos) [e] [] cpos) (tBM X.K "list" rAppZ (tVar i) t)) (h1 : starEach [e] X.env = (false, eval e X.env) :: starEach [] X.env := by rfl)
    (hs : swapsWith (.Call (.Attribute (.Name x pv) "append" apos) [e] [] cpos) none pos.line X.env = pure false := by rfl) : PSp X B (.Expr (.Call (.Attribute (.Name x pv) "append" apos) [e] [] cpos) pos) (fun ρ E => (∃ ds, ρ[i]? = some (.mu (.lst ds))) ∧ r ρ fun d => appM i ρ d E.nx) :=
  ps_imp (ps_expr (hc _ (pa_cons he pa_nil h1)) hs) fun σ H Dd ⟨F, ρ, E, I, ⟨⟨ds, hds⟩, z⟩, kn, kr, kb, kc⟩ => by
    obtain ⟨a, oo, ha, fa, nm, h0, h5, vs, rfl, hr⟩ := I.own i _ hds
    refine ⟨.ref a, ha, .inl ⟨rfl, _, SqL.of h5⟩, F, ρ, _, I, z, fun v F1 H1 d g1 t1 r1 z1 => ?_⟩
    have I1 := I.step g1 t1
    unfold appM at z1
    rw [hds] at z1
    obtain ⟨a', o', b1, b2, b3, b4, b5, vs', rfl, b6⟩ := I1.own i _ hds
    rw [ha] at b1
    cases b1
    refine ⟨a, vs', v, rfl, rfl, b5, by rw [b6.len]; exact Nat.lt_of_lt_of_le z1.1 line_ge, fun H2 e2 => ?_⟩
    exact kn σ _ F1 H2 g1.ff (I1.put (m' := .lst (ds ++ [d])) i hds ha e2 ⟨_, rfl, b6.app (.one r1)⟩) z1.2
theorem pe_app {t : TA} {pv cpos : Pos} {x : Str} {i : Nat} (hv : PE X (.Name x pv) (tVar i)) (ha : PA X [e] t) (hbase : attributeBase (.Name x pv) "append" X.env (eval (.Name x pv) X.env) = eval (.Name x pv) X.env := by rfl)
    (h2 : PE X (.Call (.Attribute (.Name x pv) "append" apos) [e] [] cpos) (tBM X.K "list" rAppZ (tVar i) t) := by exact pe_bm PySem.F.plainAttrs_list PySem.F.slot_list_append PySem.F.type_list_append mt_appZ (by assumption) (by assumption)) : PE X (.Call (.Attribute (.Name x pv) "append" apos) [e] [] cpos) (tBM X.K "list" rAppZ (tVar i) t) := h2
def frzM (i : Nat) (ρ : Ev) (Q : Ev → Prop) : Prop := match ρ[i]? with
  | some (.mu (.lst ds)) => Q (ρ.set i (.val (.lst ds)))
  | _ => False
theorem s_frz (i : Nat) {rest : List Stmt} (h : PSsp X B rest s1) : PSsp X B rest (fun ρ E => frzM i ρ fun ρ' => s1 ρ' E) :=
  pss_imp h fun σ H Dd ⟨F, ρ, E, I, z, kn, kr, kb, kc⟩ => by
    have z' : frzM i ρ fun ρ' => s1 ρ' E := z
    clear z
    unfold frzM at z'
    split at z'
    · rename_i ds e
      obtain ⟨F2, s2, I2⟩ := I.freeze i e
      exact ⟨F2, _, E, I2, z', fun σ' ρ' F' H' s I' z' => kn σ' ρ' F' H' (s2.trans s) I' z', kr, fun σ' ρ' F' H' s I' z' => kb σ' ρ' F' H' (s2.trans s) I' z', fun σ' ρ' F' H' s I' z' => kc σ' ρ' F' H' (s2.trans s) I' z'⟩
    · exact z'.elim
/-! ### operators of own classes -/
theorem sp_callG {K : Frg} {F1 H1 : Hp} {vs : List V} {ds : List D} {Qd : D → Prop} {Q : VK} (g0 : Go B.ms B.F0 B.H0 F1 H1) (t1 : Tp K B.ms F1 H1) (r1 : Rps K B.ms F1 vs ds) (kk : ∀ v F' H' d, Go B.ms F1 H1 F' H' → Tp K B.ms F' H' → Rp K B.ms F' v d → Qd d → Q v H') (h : R ds Qd B.Ed) : spP K R vs H1 Q (EE K B) :=
  ⟨B.ms, F1, ds, Qd, B.Ed, t1, r1, h, fun v F2 H2 d g2 t2 r2 q2 => kk v F2 H2 d g2 t2 r2 q2, fun cls d F2 H2 x g2 t2 xr q => ⟨F2, x, g0.trans g2, t2, xr, q⟩⟩
def OpI (K : Frg) (B : Bs) (r : R2) (g : D → D → (D → Prop) → Prop) : Prop := ∀ (F H : Hp) (x y : V) (dx dy : D) (Qd : D → Prop) (Q : VK), Go B.ms B.F0 B.H0 F H → Tp K B.ms F H → Rp K B.ms F x dx → Rp K B.ms F y dy → g dx dy Qd → (∀ v F' H' d, Go B.ms F H F' H' → Tp K B.ms F' H' → Rp K B.ms F' v d → Qd d → Q v H') → r x y H Q
theorem tOpI_of {g : D → D → (D → Prop) → Prop} {o : R2} (hl : OpI X.K B o g) (σ : L2.St) (H : Hp) (Q : VK) (h : tE X.K B (fun ρ Q => ra ρ fun x => rb ρ fun y => g x y Q) σ H Q) : tOp o (tE X.K B ra) (tE X.K B rb) σ H Q := by
  obtain ⟨F, ρ, Qd, I, z, k⟩ := h
  refine ⟨F, ρ, _, I, z, fun v F1 H1 d g1 t1 r1 z1 => ⟨F1, ρ, _, I.step g1 t1, z1, fun u F2 H2 e g2 t2 r2 z2 => ?_⟩⟩
  exact hl F2 H2 v u d e Qd Q ((I.go.trans g1).trans g2) t2 (r1.up g2.ff) r2 z2 fun w F3 H3 d3 g3 t3 r3 q3 => k w F3 H3 d3 ((g1.trans g2).trans g3) t3 r3 q3
theorem y_opI {op : Operator} {g : D → D → (D → Prop) → Prop} {o : R2} (ho : OpR X (binaryOp op) o) (hl : OpI X.K B o g) (ha : PEp X B a ra) (hb : PEp X B b rb) : PEp X B (.BinOp a op b pos) (fun ρ Q => ra ρ fun x => rb ρ fun y => g x y Q) := pe_imp (pe_op ho ha hb) (tOpI_of hl)
theorem y_cmpI {op : CmpOp} {g : D → D → (D → Prop) → Prop} {o : R2} (ho : OpR X (compareOp op) o) (hl : OpI X.K B o g) (ha : PEp X B a ra) (hb : PEp X B b rb) (hm : behindInMarks op b = false) : PEp X B (.Compare a [op] [b] pos) (fun ρ Q => ra ρ fun x => rb ρ fun y => g x y Q) := pe_imp (pe_cmpR ho ha hb hm) (tOpI_of hl)
theorem z_cmpI {op : CmpOp} {g : D → D → (D → Prop) → Prop} {o : R2} (ho : OpR X (compareOp op) o) (hl : OpI X.K B o g) (ha : PEp X B a ra) (hb : PEp X B b rb) (hm : behindInMarks op b = false) : PTp X B (.Compare a [op] [b] pos) (fun ρ Q => ra ρ fun x => rb ρ fun y => g x y fun d => tst d Q) :=
  pt_imp (pt_cmpR ho ha hb hm) (tTest_of (tOpI_of hl))
/-- both of the own class C -/
def dBinO (B : Bs) (R : RdF) (C : Str) (ns : List Str) (x y : D) (Q : D → Prop) : Prop := asO [C] ns x (asO [C] ns y (R [x, y] Q B.Ed))
theorem asO_of {K : Frg} {ms : List Addr} {F : Hp} {cs ns : List Str} {v : V} {d : D} {k : Prop} (r : Rp K ms F v d) (h : asO cs ns d k) : ∃ a dx fs c, v = .ref a ∧ c ∈ cs ∧ F a = some (.ins (He.ga K c) dx fs) ∧ k := by
  unfold asO at h
  split at h
  · obtain ⟨h1, rfl, h2⟩ := h
    cases r with
    | obj h3 h4 h5 => exact ⟨_, _, _, _, rfl, h1, h3, h2⟩
  · exact h.elim
theorem binOL {C : Str} {ns : List Str} : OpI K B (rBinO (He.ga K C) (spP K R) (EE K B)) (dBinO B R C ns) := by
  intro F H x y dx dy Qd Q g0 t0 rx ry h k
  obtain ⟨a, d1, f1, c1, rfl, hc1, h1, hh⟩ := asO_of rx h
  obtain ⟨b, d2, f2, c2, rfl, hc2, h2, hhh⟩ := asO_of ry hh
  have e1 : c1 = C := by simpa using hc1
  have e2 : c2 = C := by simpa using hc2
  subst e1
  subst e2
  exact ⟨a, d1, f1, b, d2, f2, rfl, rfl, t0.1 _ _ h1, t0.1 _ _ h2, sp_callG g0 t0 (.cons rx (.cons ry .nil)) k hhh⟩
/-- == and != of an own class: the right one any value with a type that is known -/
def dEqO (B : Bs) (R : RdF) (neg : Bool) (C : Str) (ns cs : List Str) (x y : D) (Q : D → Prop) : Prop := asO [C] ns x ((match y with | .obj c _ _ => c ∈ cs | .ty _ | .glob _ | .tape => False | _ => True) ∧ R [x, y] (fun d => tst d fun b => Q (.bl (neg != b))) B.Ed)
theorem eqOL {C : Str} {ns cs : List Str} {neg : Bool} (hC : OwnC K C) (hc : ∀ c ∈ cs, OwnC K c ∧ PySem.W.notFirst K (He.ga K C) (.ref (He.ga K c)) = true) : OpI K B (rEqO neg K (He.ga K C) (spP K R) (EE K B)) (dEqO B R neg C ns cs) := by
  intro F H x y dx dy Qd Q g0 t0 rx ry h k
  obtain ⟨a, d1, f1, c1, rfl, hc1, h1, ht, hh⟩ := asO_of rx h
  obtain rfl : c1 = C := by simpa using hc1
  have ty : ∃ t, TyX K H y t ∧ PySem.W.notFirst K (He.ga K c1) t = true := by
    cases dy with
    | obj c _ _ => exact ⟨_, tyX_of ry t0.1 rfl (fun _ _ _ z => by cases z; exact (hc _ ht).1), (hc _ ht).2⟩
    | non => exact ⟨_, tyX_of ry t0.1 rfl (fun _ _ _ z => nomatch z), hC.2.nf _ (by decide)⟩
    | bl _ => exact ⟨_, tyX_of ry t0.1 rfl (fun _ _ _ z => nomatch z), hC.2.nf _ (by decide)⟩
    | int _ => exact ⟨_, tyX_of ry t0.1 rfl (fun _ _ _ z => nomatch z), hC.2.nf _ (by decide)⟩
    | str _ => exact ⟨_, tyX_of ry t0.1 rfl (fun _ _ _ z => nomatch z), hC.2.nf _ (by decide)⟩
    | lst _ => exact ⟨_, tyX_of ry t0.1 rfl (fun _ _ _ z => nomatch z), hC.2.nf _ (by decide)⟩
    | tup _ => exact ⟨_, tyX_of ry t0.1 rfl (fun _ _ _ z => nomatch z), hC.2.nf _ (by decide)⟩
    | _ => exact ht.elim
  obtain ⟨t, ty1, ty2⟩ := ty
  refine ⟨a, d1, f1, t, rfl, t0.1 _ _ h1, ty1, ty2, sp_callG g0 t0 (.cons rx (.cons ry .nil)) (fun v F' H' d g t r q => ?_) hh⟩
  unfold tst at q
  split at q
  · cases r
    refine ⟨_, rfl, k _ F' H' _ g t (.bl _) ?_⟩
    cases neg <;> simpa using q
  · exact q.elim
/-- x in o -/
def dInO (B : Bs) (R : RdF) (neg : Bool) (C : Str) (ns : List Str) (x y : D) (Q : D → Prop) : Prop := asO [C] ns y (R [y, x] (fun d => tst d fun b => Q (.bl (neg != b))) B.Ed)
theorem inOL {C : Str} {ns : List Str} {neg : Bool} : OpI K B (rInO neg (He.ga K C) (spP K R) (EE K B)) (dInO B R neg C ns) := by
  intro F H x y dx dy Qd Q g0 t0 rx ry h k
  obtain ⟨a, d1, f1, c1, rfl, hc1, h1, hh⟩ := asO_of ry h
  obtain rfl : c1 = C := by simpa using hc1
  refine ⟨a, d1, f1, rfl, t0.1 _ _ h1, sp_callG g0 t0 (.cons ry (.cons rx .nil)) (fun v F' H' d g t r q => ?_) hh⟩
  unfold tst at q
  split at q
  · cases r
    refine ⟨_, rfl, k _ F' H' _ g t (.bl _) ?_⟩
    cases neg <;> simpa using q
  · exact q.elim
end
end Y
namespace Y
open PySem PySem.Spec PyProof.Rows L2 Z
/-! ### making instances -/
def spI (K : Frg) (C : Str) (R : RdF) : Sp := fun vs H Q E => ∃ ms F Hb x args ds Qd Ed, vs = .ref x :: args ∧ Go ms F Hb F H ∧ Same F Hb ∧ Hb x = none ∧ Tp K ms F H ∧ (∃ dx, H x = some (.ins (He.ga K C) dx [])) ∧ Rps K ms F args ds ∧ R ds Qd Ed ∧
  (∀ F' H' o ns fs, Go ms F Hb F' H' → Tp K ms F' H' → F' x = none → H' x = some o → MoR K ms F' x (.ins x C ns fs) o → Qd (.obj C ns fs) → Q .non H') ∧ (∀ cls d F' H' y, Go ms F Hb F' H' → Tp K ms F' H' → XR K ms F' cls d y → Ed y → E cls d H')
theorem spI_of {K : Frg} {C : Str} {R : RdF} {E : XK} (vs : List V) (H : Hp) (Q : VK) (h : spP K R vs H Q E) : ∀ x dx, H x = none → H dx = none → dx ≠ x → spI K C R (.ref x :: vs) (upd (upd H dx (.own x)) x (.ins (He.ga K C) dx [])) (fun v H2 => v = .non ∧ Q (.ref x) H2) E := by
  obtain ⟨ms, F, ds, Qd, Ed, t, r, h, kq, ke⟩ := h
  intro x dx nx nd ne
  have g1 : Go [] F H F (upd H dx (.own x)) := Go.newM t.1 nd
  have nx1 : (upd H dx (.own x)) x = none := by rw [upd_ne (Ne.symm ne)]; exact nx
  have g2 : Go [] F (upd H dx (.own x)) F (upd (upd H dx (.own x)) x (.ins (He.ga K C) dx [])) := Go.newM g1.fh nx1
  have g12 := g1.trans g2
  have nm := t.nms nx
  refine ⟨ms, F, H, x, vs, ds, Qd, Ed, rfl, g12.nil, t.1, nx, t.go0 g12, ⟨dx, upd_same⟩, r, h, fun F' H' o ns fs g3 t3 fx hx mo q => ⟨rfl, ?_⟩, fun cls d F' H' y g3 t3 xr q => ke cls d F' H' y g3 t3 xr q⟩
  obtain ⟨_, dx', ws, rfl, hl, hr⟩ := mo
  have g4 : Go [x] F' H' (upd F' x (.ins (He.ga K C) dx' (ns.zip ws))) H' := Go.freeze t3.1 fx hx
  have g5 : Go ms F H (upd F' x (.ins (He.ga K C) dx' (ns.zip ws))) H' := ((g3.sub (ms' := x :: ms) fun y hy => List.mem_cons_of_mem _ hy).trans (g4.sub fun y hy => by
    have : y = x := by simpa using hy
    rw [this]; exact List.mem_cons_self)).drop nx
  exact kq _ _ H' _ g5 ⟨g4.fh, fun y m => (t3.2 y m).go g4 (by
    intro z
    have : y = x := by simpa using z
    exact nm (this ▸ m))⟩ (.obj upd_same hl (hr.up g4.ff)) q
def finI (x : Addr) (C : Str) (Q : D → Prop) (ρ : Ev) : Prop := match ρ[0]? with
  | some (Sl.mu (Mo.ins y c ns fs)) => (y = x ∧ c = C) ∧ Q (.obj c ns fs)
  | _ => False
section
variable {P : Program} {w : World} {K : Frg} {mg : Str → Option Value} {base : Heap}
theorem startI_get {N : List Str} {ds : List D} {m : Mo} {j : Nat} : (Sl.mu m :: startE (N.length - 1) ds)[j + 1]? = (startE (N.length - 1) ds)[j]? := List.getElem?_cons_succ
theorem y_initB {C qual : Str} {st : Stmt} {f : Addr} {N ps : List Str} {k : Nat} {R : RdF} (S : FnScope N ps (defScope st)) (len : ∀ ds Q E, R ds Q E → ds.length + 1 = ps.length)
    (hbody : ∀ (cdv : Value) (A : Around) (outer : List Env) (s : Shared) (H : Hp) (E : XK) (B : Bs), Same B.F0 B.H0 → RoomG k (A.deeper (envOfC qual (defScope st) s.heap.objs.size f cdv)) → Px (cxOf (L2.CX P w) P w K mg base N qual (defScope st) f cdv A outer s H E) B →
      PassesOwn (model P w) (cxOf (L2.CX P w) P w K mg base N qual (defScope st) f cdv A outer s H E).A (cxOf (L2.CX P w) P w K mg base N qual (defScope st) f cdv A outer s H E).env (cxOf (L2.CX P w) P w K mg base N qual (defScope st) f cdv A outer s H E).xe →
      ∃ r, PSsp (cxOf (L2.CX P w) P w K mg base N qual (defScope st) f cdv A outer s H E) B (defBody st) r ∧ ∀ x ds Q, R ds Q B.Ed → r (.mu (.ins x C [] []) :: startE (N.length - 1) ds) { nx := finI x C Q, rt := fun _ => False }) (cdv : Value) (A : Around) (outer : List Env) (s : Shared) (H : Hp) (vs : List V) (Q : VK) (E : XK) (hr : RoomG k (A.deeper (envOfC qual (defScope st) s.heap.objs.size f cdv))) (h : spI K C R vs H Q E) :
    ∃ t, PSs (cxOf (L2.CX P w) P w K mg base N qual (defScope st) f cdv A outer s H E) (defBody st) t ∧ t { nx := fun _ H' => Q .non H', rt := Q } (start N vs) H := by
  obtain ⟨ms, F, Hb, x, args, ds, Qd, Ed, rfl, g0, sb, nx, t, ⟨dx, hx⟩, r, h, kq, ke⟩ := h
  obtain ⟨rr, h1, h2⟩ := hbody cdv A outer s H E ⟨ms, F, Hb, Ed⟩ sb hr (px_of fun cls d H' ⟨F', y, g, t', xr, z⟩ => ke cls d F' H' y g t' xr z) po_of
  have hN : 1 ≤ N.length := by
    have e1 := len _ _ _ h
    have e2 := congrArg List.length S.pre
    rw [List.length_take] at e2
    omega
  have nm : x ∉ ms := fun m => by
    have h1 := (t.2 x m).fr
    obtain ⟨_, xs, h2, _⟩ := t.2 x m
    rw [hx] at h2
    cases h2
  have iv : Iv K ⟨ms, F, Hb, Ed⟩ F H (L2.start N (.ref x :: args)) (.mu (.ins x C [] []) :: startE (N.length - 1) ds) := by
    refine ⟨g0, t, ?_, fun i d h => ?_, fun i m h => ?_, fun i j m n a hij h1 h2 h3 => ?_⟩
    · simp [L2.start, startE, r.len]
      omega
    · cases i with
      | zero => cases h
      | succ i =>
        rw [List.getElem?_cons_succ] at h
        unfold startE at h
        have hi : i < ds.length := by
          rcases Nat.lt_or_ge i ds.length with z | z
          · exact z
          · rw [List.getElem?_append_right (by simpa using z), List.getElem?_replicate] at h
            split at h <;> cases h
        rw [List.getElem?_append_left (by simpa using hi), List.getElem?_map, List.getElem?_eq_getElem hi] at h
        have hd : ds[i]? = some d := by
          rw [List.getElem?_eq_getElem hi]
          simpa using h
        obtain ⟨v, h1, h2⟩ := r.get hd
        refine ⟨v, ?_, h2⟩
        unfold L2.start
        rw [List.getElem?_append_left (by simp [r.len]; omega), List.getElem?_map, List.getElem?_cons_succ, h1]
        rfl
    · cases i with
      | zero =>
        cases h
        exact ⟨x, _, rfl, same_none sb nx, nm, nx, hx, rfl, dx, [], rfl, rfl, .nil⟩
      | succ i =>
        exfalso
        rw [List.getElem?_cons_succ] at h
        unfold startE at h
        rcases Nat.lt_or_ge i ds.length with z | z
        · rw [List.getElem?_append_left (by simpa using z), List.getElem?_map, List.getElem?_eq_getElem z] at h
          cases h
        · rw [List.getElem?_append_right (by simpa using z), List.getElem?_replicate] at h
          split at h <;> cases h
    · have key : ∀ (i : Nat) (m : Mo), (Sl.mu (.ins x C [] []) :: startE (N.length - 1) ds)[i]? = some (.mu m) → i = 0 := fun i m h => by
        cases i with
        | zero => rfl
        | succ i =>
          exfalso
          rw [List.getElem?_cons_succ] at h
          unfold startE at h
          rcases Nat.lt_or_ge i ds.length with z | z
          · rw [List.getElem?_append_left (by simpa using z), List.getElem?_map, List.getElem?_eq_getElem z] at h
            cases h
          · rw [List.getElem?_append_right (by simpa using z), List.getElem?_replicate] at h
            split at h <;> cases h
      exact absurd ((key i m h1).trans (key j n h2).symm) hij
  refine ⟨_, h1, F, _, _, iv, h2 x ds Qd h, ?_, ?_, ?_, ?_⟩
  · intro σ' ρ' F' H' _ I' z
    have z' : finI x C Qd ρ' := z
    clear z
    unfold finI at z'
    split at z'
    · rename_i y c ns fs e
      obtain ⟨⟨rfl, rfl⟩, z'⟩ := z'
      obtain ⟨a, o, b1, b2, b3, b4, b5, b6⟩ := I'.own 0 _ e
      obtain ⟨ea, _⟩ := id b6
      subst ea
      exact kq F' H' o ns fs I'.go I'.tp b2 b5 b6 z'
    · exact z'.elim
  · intro v d F' H' g t' r' z
    exact z.elim
  · intro _ _ _ _ _ _ z; exact z
  · intro _ _ _ _ _ _ z; exact z
theorem y_init {C x qual : Str} {st : Stmt} {f : Addr} {N ps : List Str} {k : Nat} {R : RdF} (F : DefAt K x qual st f) (S : FnScope N ps (defScope st)) (len : ∀ ds Q E, R ds Q E → ds.length + 1 = ps.length)
    (hb : ∀ (kV doc pm : Value) (an : Option Addr) (cdv ct : Value) (us : List Value), us.length = ps.length → bindArgs (PySem.W.fnOf x qual (defArgs st) (defBody st) (defScope st) .none kV doc pm an cdv ct) ⟨us, []⟩ = pure (ps.zip us))
    (hbody : ∀ (cdv : Value) (A : Around) (outer : List Env) (s : Shared) (H : Hp) (E : XK) (B : Bs), Same B.F0 B.H0 → RoomG k (A.deeper (envOfC qual (defScope st) s.heap.objs.size f cdv)) → Px (cxOf (L2.CX P w) P w K mg base N qual (defScope st) f cdv A outer s H E) B →
      PassesOwn (model P w) (cxOf (L2.CX P w) P w K mg base N qual (defScope st) f cdv A outer s H E).A (cxOf (L2.CX P w) P w K mg base N qual (defScope st) f cdv A outer s H E).env (cxOf (L2.CX P w) P w K mg base N qual (defScope st) f cdv A outer s H E).xe →
      ∃ r, PSsp (cxOf (L2.CX P w) P w K mg base N qual (defScope st) f cdv A outer s H E) B (defBody st) r ∧ ∀ x ds Q, R ds Q B.Ed → r (.mu (.ins x C [] []) :: startE (N.length - 1) ds) { nx := finI x C Q, rt := fun _ => False }) : FnG P w K mg base (L2.CX P w) (k + 1) f (spI K C R) := by
  exact zfnG F S (fun vs H Q E ⟨ms, F, Hb, x, args, ds, Qd, Ed, e, _, _, _, _, _, r, h, _⟩ => by rw [e, List.length_cons, r.len]; exact len _ _ _ h) hb (y_initB S len hbody)
/-! ### a def with one default -/
def DefAtD (K : Frg) (x qual : Str) (st : Stmt) (f : Addr) (d : D) : Prop := ∃ fd v, L2.FunD K x qual (defArgs st) (defBody st) (defScope st) [v] [] f fd ∧ ∀ ms F, Rp K ms F v d
theorem zfnGD {x qual : Str} {st : Stmt} {f : Addr} {N ps : List Str} {k : Nat} {sp : Sp} {v : V} (F : ∃ fd, L2.FunD K x qual (defArgs st) (defBody st) (defScope st) [v] [] f fd) (S : FnScope N ps (defScope st)) (len : ∀ vs H Q E, sp vs H Q E → vs.length = ps.length)
    (hb0 : ∀ (T : Addr) (kV doc pm : Value) (an : Option Addr) (cdv ct : Value) (us : List Value) (u : Value), us.length + 1 = ps.length → ∃ k, bindArgs (PySem.W.fnOf x qual (defArgs st) (defBody st) (defScope st) (.ref T) kV doc pm an cdv ct) ⟨us, []⟩ = seqItems? (.ref T) >>= k ∧ k (some #[u]) = pure (ps.zip (us ++ [u])))
    (hb1 : ∀ (T : Addr) (kV doc pm : Value) (an : Option Addr) (cdv ct : Value) (us : List Value) (u : Value), us.length = ps.length → ∃ k, bindArgs (PySem.W.fnOf x qual (defArgs st) (defBody st) (defScope st) (.ref T) kV doc pm an cdv ct) ⟨us, []⟩ = seqItems? (.ref T) >>= k ∧ k (some #[u]) = pure (ps.zip us))
    (hbody : ∀ (cdv : Value) (A : Around) (outer : List Env) (s : Shared) (H : Hp) (vs : List V) (Q : VK) (E : XK), RoomG k (A.deeper (envOfC qual (defScope st) s.heap.objs.size f cdv)) → sp vs H Q E →
      ∃ t, PSs (cxOf (L2.CX P w) P w K mg base N qual (defScope st) f cdv A outer s H E) (defBody st) t ∧ t { nx := fun _ H' => Q .non H', rt := Q } (start N vs) H) : FnG P w K mg base (L2.CX P w) (k + 1) f (fun vs H Q E => sp (vs ++ [v]) H Q E ∨ sp vs H Q E) := by
  obtain ⟨fd, F⟩ := F
  obtain ⟨oc, od, dV, kV, doc, pm, an, cdv, ct, osl, rfl, lk, hcd, hD, hK⟩ := F.ex
  rcases hD with ⟨e, _⟩ | ⟨_, T, o, its, m, rfl, lT, oT, rT⟩
  · cases e
  · obtain ⟨u, rfl⟩ : ∃ u, its = [u] := by
      have := rT.length
      match its, this with
      | [u], _ => exact ⟨u, rfl⟩
    intro A outer s H us vs Q E hr e0 r hs
    have KX : K.In s.heap := e0.mod.kin.keeps fun b o e => (e0.bs b o e).1
    rcases hs with hs | hs
    · have hl := len _ _ _ _ hs
      refine StX.run_bnd lk hcd S hr.rm e0 (G := fun xs H2 => xs = vs ++ [v] ∧ H2 = H) (fun A' Ex Q' h => ?_) fun s2 H2 xs g hr' => ?_
      · have hu : us.length + 1 = ps.length := by
          have := r.length
          rw [List.length_append] at hl
          simp only [List.length_cons, List.length_nil] at hl
          omega
        obtain ⟨k, e1, e2⟩ := hb0 T kV doc pm an cdv ct us u hu
        rw [e1]
        refine wpAny_bind (wpAny_seqItems (KX _ _ lT) oT ?_)
        rw [e2]
        exact wpAny_pure (h s H _ _ e0 .refl rfl (fun _ _ z => z) (r.append rT) hl ⟨rfl, rfl⟩)
      · obtain ⟨rfl, rfl⟩ := g
        exact hbody cdv A outer s2 H2 _ Q E ⟨hr', hr.gd⟩ hs
    · have hl := len _ _ _ _ hs
      refine StX.run_bnd lk hcd S hr.rm e0 (G := fun xs H2 => xs = vs ∧ H2 = H) (fun A' Ex Q' h => ?_) fun s2 H2 xs g hr' => ?_
      · have hu : us.length = ps.length := r.length.symm.trans hl
        obtain ⟨k, e1, e2⟩ := hb1 T kV doc pm an cdv ct us u hu
        rw [e1]
        refine wpAny_bind (wpAny_seqItems (KX _ _ lT) oT ?_)
        rw [e2]
        exact wpAny_pure (h s H vs us e0 .refl rfl (fun _ _ z => z) r hl ⟨rfl, rfl⟩)
      · obtain ⟨rfl, rfl⟩ := g
        exact hbody cdv A outer s2 H2 xs Q E ⟨hr', hr.gd⟩ hs
/-- R0 with the default d of its last place -/
def dflR (R0 : RdF) (n : Nat) (d : D) : RdF := fun ds Q E => cond (Nat.beq ds.length n) (R0 (ds ++ [d]) Q E) (R0 ds Q E)
theorem y_initD {C x qual : Str} {st : Stmt} {f : Addr} {N ps : List Str} {k n : Nat} {R : RdF} {d : D} (F : DefAtD K x qual st f d) (S : FnScope N ps (defScope st)) (len : ∀ ds Q E, R ds Q E → ds.length + 1 = ps.length)
    (hb0 : ∀ (T : Addr) (kV doc pm : Value) (an : Option Addr) (cdv ct : Value) (us : List Value) (u : Value), us.length + 1 = ps.length → ∃ k, bindArgs (PySem.W.fnOf x qual (defArgs st) (defBody st) (defScope st) (.ref T) kV doc pm an cdv ct) ⟨us, []⟩ = seqItems? (.ref T) >>= k ∧ k (some #[u]) = pure (ps.zip (us ++ [u])))
    (hb1 : ∀ (T : Addr) (kV doc pm : Value) (an : Option Addr) (cdv ct : Value) (us : List Value) (u : Value), us.length = ps.length → ∃ k, bindArgs (PySem.W.fnOf x qual (defArgs st) (defBody st) (defScope st) (.ref T) kV doc pm an cdv ct) ⟨us, []⟩ = seqItems? (.ref T) >>= k ∧ k (some #[u]) = pure (ps.zip us))
    (hbody : ∀ (cdv : Value) (A : Around) (outer : List Env) (s : Shared) (H : Hp) (E : XK) (B : Bs), Same B.F0 B.H0 → RoomG k (A.deeper (envOfC qual (defScope st) s.heap.objs.size f cdv)) → Px (cxOf (L2.CX P w) P w K mg base N qual (defScope st) f cdv A outer s H E) B →
      PassesOwn (model P w) (cxOf (L2.CX P w) P w K mg base N qual (defScope st) f cdv A outer s H E).A (cxOf (L2.CX P w) P w K mg base N qual (defScope st) f cdv A outer s H E).env (cxOf (L2.CX P w) P w K mg base N qual (defScope st) f cdv A outer s H E).xe →
      ∃ r, PSsp (cxOf (L2.CX P w) P w K mg base N qual (defScope st) f cdv A outer s H E) B (defBody st) r ∧ ∀ x ds Q, R ds Q B.Ed → r (.mu (.ins x C [] []) :: startE (N.length - 1) ds) { nx := finI x C Q, rt := fun _ => False }) : FnG P w K mg base (L2.CX P w) (k + 1) f (spI K C (dflR R n d)) := by
  obtain ⟨fd, v, F, hv⟩ := F
  refine FnG.imp (zfnGD ⟨fd, F⟩ S (fun vs H Q E ⟨ms, F, Hb, x, args, ds, Qd, Ed, e, _, _, _, _, _, r, h, _⟩ => by rw [e, List.length_cons, r.len]; exact len _ _ _ h) hb0 hb1 (y_initB S len hbody)) ?_
  rintro vs H Q E ⟨ms, F, Hb, x, args, ds, Qd, Ed, rfl, h1, h2, h3, h4, h5, h6, h7, h8⟩
  unfold dflR at h7
  cases hb : Nat.beq ds.length n
  · rw [hb] at h7
    exact .inr ⟨ms, F, Hb, x, args, ds, Qd, Ed, rfl, h1, h2, h3, h4, h5, h6, h7, h8⟩
  · rw [hb] at h7
    exact .inl ⟨ms, F, Hb, x, args ++ [v], ds ++ [d], Qd, Ed, rfl, h1, h2, h3, h4, h5, h6.app (.one (hv ms F)), h7, h8⟩
end
end Y
namespace Y
open PySem PySem.Spec PyProof.Rows L2 Z
section
variable {X : Cx} {B : Bs} {K : Frg} {ms : List Addr} {a b c e o : Expr} {es : List Expr} {ra rb rc r ro : Rd} {rt ru : RdT} {rl : RdA} {pos p0 apos : Pos} {R : RdF} {k : Nat} {f g p : Addr} {x m : Str} {s1 s2 : RdS}
theorem y_make {C : Str} (M : Mk X.K (He.ga X.K C) f) (F : FnG X.prog X.w X.K X.mg X.base (L2.CX X.prog X.w) k f (spI X.K C R)) (hr : RoomG (k + 1) X.A) (hg : Gl X C) (hm : X.mg C = some (.ref (He.ga X.K C))) (hx : Px X B) (ha : PAp X B (e :: es) rl) (hdb : (C == ("__debug__" : Str)) = false := by decide)
    (he : starEach (e :: es) X.env = (false, eval e X.env) :: starEach es X.env := by rfl) (hpl : (backTo pos (starEach es X.env)).any (·.1) = false := by rfl) : PEp X B (.Call (.Name C p0) (e :: es) [] pos) (fun ρ Q => rl ρ fun ds => R ds Q B.Ed) :=
  pe_imp (gmake (spM := spP X.K R) (fun vs H Q h x dx h1 h2 h3 => spI_of vs H Q h x dx h1 h2 h3) M F hr hg hm hx ha hdb he hpl) fun σ H Q ⟨F, ρ, Qd, I, z, k⟩ => ⟨F, ρ, _, I, z, fun vs F1 H1 ds g1 t1 r1 z1 => sp_call I k g1 t1 r1 z1⟩
def putM (C : Str) (ns : List Str) (fl : Str) (i : Nat) (ρ : Ev) (d : D) (Q : Ev → Prop) : Prop := match ρ[i]? with
  | some (Sl.mu (Mo.ins y c n ds)) => (c = C ∧ n = ns) ∧ Q (ρ.set i (.mu (.ins y C (ns ++ [fl]) (ds ++ [d]))))
  | _ => False
theorem putF_new {f : Str} {v : V} : ∀ {ns : List Str} {vs : List V}, ns.length = vs.length → (ns.all fun y => !(f == y)) = true → putF f v (ns.zip vs) = (ns ++ [f]).zip (vs ++ [v])
  | [], [], _, _ => rfl
  | n :: ns, u :: vs, hl, h => by
    rw [List.all_cons, Bool.and_eq_true] at h
    have h1 : ¬ n = f := fun e => by
      have := h.1
      rw [e] at this
      simp at this
    show putF f v ((n, u) :: ns.zip vs) = (n, u) :: (ns ++ [f]).zip (vs ++ [v])
    unfold putF
    rw [if_neg h1, putF_new (by simpa using hl) h.2]
  | [], _ :: _, hl, _ => by simp at hl
  | _ :: _, [], hl, _ => by simp at hl
/-- self.f = v in the making -/
def gFld (K : Frg) (ta : TE) (f : Str) : TG := fun v σ H Q => ta σ H fun x H2 => ∃ a C dx fs, x = .ref a ∧ H2 a = some (.ins C dx fs) ∧ Cls K C ∧ NoAttr K C f ∧ fs.length < 1000 ∧ Q σ (upd H2 a (.ins C dx (putF f v fs)))
theorem pg_fld {ta : TE} {fl : Str} (ha : PE X o ta) : PG X (.Attribute o fl pos) (gFld X.K ta fl) := by
  refine ⟨fun pins s σ H v u Q I r h => ?_⟩
  refine PySem.W.kas_attr (thn (ha.run pins s σ H _ I h) fun ov s2 ⟨x, H2, I2, rx, a, C, dx, fs, ex, ea, c, n, l, q2⟩ => ?_)
  subst ex
  obtain rfl : ov = Value.ref a := rx
  exact setattr_ok I2 ea c n l r fun s3 I3 => ⟨σ, _, I3, q2⟩
theorem fld_run {C fl : Str} {ns : List Str} {i : Nat} {F H : Hp} {σ : L2.St} {ρ : Ev} {v : V} {d : D} {Qd : Ev → Prop} {Q : L2.St → Hp → Prop} (hc : Cls K (He.ga K C)) (hn : NoAttr K (He.ga K C) fl) (hf : (ns.all fun y => !(fl == y)) = true) (hl : ns.length < 1000) (I : Iv K B F H σ ρ) (r : Rp K B.ms F v d) (z : putM C ns fl i ρ d Qd)
    (kk : ∀ ρ' H', Iv K B F H' σ ρ' → Qd ρ' → Q σ H') : gFld K (tVar i) fl v σ H Q := by
  unfold putM at z
  split at z
  · rename_i y c n ds e
    obtain ⟨⟨rfl, rfl⟩, z⟩ := z
    obtain ⟨a, oo, h1, fa, nm, h0, h5, ey, dx, vs, rfl, h6, h7⟩ := I.own i _ e
    subst ey
    refine ⟨.ref y, h1, y, _, dx, _, rfl, h5, hc, hn, ?_, kk _ _ (I.put (m' := .ins y c (n ++ [fl]) (ds ++ [d])) i e h1 rfl ⟨rfl, dx, vs ++ [v], by rw [putF_new h6 hf], by simp [h6], h7.app (.one r)⟩) z⟩
    rw [List.length_zip]
    omega
  · exact z.elim
theorem s_fld {C fl : Str} {ns : List Str} {i : Nat} {ox : Str} {op pos' : Pos} (hc : Cls X.K (He.ga X.K C)) (hn : NoAttr X.K (He.ga X.K C) fl) (hv : PE X (.Name ox op) (tVar i)) (he : PEp X B e r) (hs : swapsWith e (some (.Attribute (.Name ox op) fl pos')) pos.line X.env = pure false := by rfl)
    (hf : (ns.all fun y => !(fl == y)) = true := by decide +kernel) (hl : ns.length < 1000 := by decide) : PSp X B (.Assign [.Attribute (.Name ox op) fl pos'] e pos) (fun ρ E => r ρ fun d => putM C ns fl i ρ d E.nx) :=
  ps_imp (ps_fld hv he hs) fun σ H Dd ⟨F, ρ, E, I, z, kn, kr, kb, kc⟩ => ⟨F, ρ, _, I, z, fun v F1 H1 d g1 t1 r1 z1 => by
    exact fld_run hc hn hf hl (I.step g1 t1) r1 z1 fun ρ' H' I' z' => kn σ ρ' F1 H' g1.ff I' z'⟩
/-- self.f, self.g = e -/
theorem s_fld2 {C f1 f2 : Str} {ns : List Str} {i : Nat} {ox oy : Str} {op oq p1 p2 tp : Pos} {kt : Nat} (hcm : X.calm = true) (hc : Cls X.K (He.ga X.K C)) (hn1 : NoAttr X.K (He.ga X.K C) f1) (hn2 : NoAttr X.K (He.ga X.K C) f2) (hv : PE X (.Name ox op) (tVar i)) (hv2 : PE X (.Name oy oq) (tVar i)) (he : PEp X B e r)
    (hs : swapsWithSole [.Tuple [.Attribute (.Name ox op) f1 p1, .Attribute (.Name oy oq) f2 p2] kt tp] e pos.line X.env = pure false := by rfl) (hw : swappedStores [.Tuple [.Attribute (.Name ox op) f1 p1, .Attribute (.Name oy oq) f2 p2] kt tp] e X.env = pure none := by rfl)
    (hf1 : (ns.all fun y => !(f1 == y)) = true := by decide +kernel) (hf2 : ((ns ++ [f1]).all fun y => !(f2 == y)) = true := by decide +kernel) (hl : ns.length < 900 := by decide) :
    PSp X B (.Assign [.Tuple [.Attribute (.Name ox op) f1 p1, .Attribute (.Name oy oq) f2 p2] kt tp] e pos) (fun ρ E => r ρ fun d => match d with | .tup [d1, d2] => putM C ns f1 i ρ d1 fun ρ1 => putM C (ns ++ [f1]) f2 i ρ1 d2 E.nx | _ => False) :=
  ps_imp (ps_asg (tg := .Tuple [.Attribute (.Name ox op) f1 p1, .Attribute (.Name oy oq) f2 p2] kt tp) he (pg_tup (n := 2) hcm (pgs_cons (pg_fld hv) (pgs_cons (pg_fld hv2) pgs_nil))) hs hw) fun σ H Dd ⟨F, ρ, E, I, z, kn, kr, kb, kc⟩ => ⟨F, ρ, _, I, z, fun v F1 H1 d g1 t1 r1 z1 => by
    split at z1
    · rename_i d1 d2
      cases r1 with
      | tup h1 h2 =>
        obtain ⟨v1, v2, rfl, q1, q2⟩ := rps2 h2
        refine ⟨_, _, rfl, sqT t1.1 h1, rfl, v1, [v2], rfl, fld_run hc hn1 hf1 (by omega) (I.step g1 t1) q1 z1 fun ρ' H' I' z' => ⟨v2, [], rfl, fld_run hc hn2 hf2 (by rw [List.length_append]; show ns.length + 1 < 1000; omega) I' q2 z' fun ρ2 H2 I2 z2 => ⟨rfl, kn σ ρ2 F1 H2 g1.ff I2 z2⟩⟩⟩
    · exact z1.elim⟩
/-! ### static methods, class methods -/
structure SMet (K : Frg) (C : Addr) (m : Str) (p g : Addr) : Prop where
  rd : ClX.CRead K C (.type "type")
  at_ : PySem.W.findCls K (.ref C) (.type "type") m = some (.get (.builtin "staticmethod.__get__") (.ref p) .none (.ref C))
  rc : ∃ rest, PySem.W.recIn K p "staticmethod" = some (.ref g :: rest)
  kp : PySem.W.keepIn K (.ref g) = true
theorem getsm {C : Addr} {pins : List (Addr × Obj)} {σ : L2.St} {H : Hp} {s : Shared} {A : Around} {E : Value → Shared → Prop} {pl : Sem Bool} {Q : Value × List Value → Shared → Prop} (I : L2.Inv X pins σ H s) (k : SMet X.K C m p g) (h : ∀ s', L2.Inv X pins σ H s' → Q (.ref g, []) s') : wpAny (model X.prog X.w) A (getMethod (.ref C) m pl) Q E s := by
  obtain ⟨rest, hp⟩ := k.rc
  refine PySem.W.method_cls I.kIn k.rd.ga (PySem.W.cls_bind I.kIn k.rd.rd k.at_ ?_)
  refine wpAny_call (PySem.W.sm_get (s := { s with toks := s.toks + 1 }) I.kIn hp (PySem.W.handed_on rfl ?_))
  exact h _ (I.tok _)
theorem y_smeth {C : Str} {pl : Sem Bool} {cp : Pos} (hg : Gl X C) (hm : X.mg C = some (.ref (He.ga X.K C))) (k0 : SMet X.K (He.ga X.K C) m p g) (F : FnG X.prog X.w X.K X.mg X.base (L2.CX X.prog X.w) k g (spP X.K R)) (hr : RoomG k X.A) (hx : Px X B) (ha : PAp X B (e :: es) rl) (hdb : (C == ("__debug__" : Str)) = false := by decide)
    (hst : starEach (e :: es) X.env = (false, eval e X.env) :: starEach es X.env := by rfl) (hpl : (backTo pos (starEach es X.env)).any (·.1) = false := by rfl)
    (ht : eval (.Call (.Attribute (.Name C cp) m apos) (e :: es) [] pos) X.env = (do
      let ov ← eval (.Name C cp) X.env
      standAt apos.atName
      let (f, first) ← holding [ov] (getMethod ov m pl)
      callWith pos f first (backTo pos (starEach (e :: es) X.env)) (backToKw pos (keywordEach [] X.env))) := by rfl) :
    PEp X B (.Call (.Attribute (.Name C cp) m apos) (e :: es) [] pos) (fun ρ Q => rl ρ fun ds => R ds Q B.Ed) := by
  refine ⟨fun pins s σ H Q I h => ?_⟩
  obtain ⟨F0, ρ, Qd, J, z, kk⟩ := h
  refine PySem.W.methodCall_KW (pl := pl) (ld_glob I hg hm ?_ hdb) ht
  refine getsm I k0 fun s1 I1 => ?_
  refine PySem.W.callWith_K (first := []) (h₀ := X.base) I.ok.mod.kin k0.kp (thn (ha.run pos pins s1 σ H (fun vs H2 => ∃ F2 ds', Go B.ms F0 H F2 H2 ∧ Tp X.K B.ms F2 H2 ∧ Rps X.K B.ms F2 vs ds' ∧ R ds' Qd B.Ed) I1 ⟨F0, ρ, _, J, z, fun vs F2 H2 ds g2 t2 r2 z3 => ⟨F2, ds, g2, t2, r2, z3⟩⟩) fun us s2 ⟨vs', H2, I2, rv, F2, ds', g2, t2, r2, z3⟩ => ⟨I2.kIn, ?_⟩) hst hpl
  exact wpAny_call (run_fnA (us := us) (vs := vs') (F.at hr) hx I2 rv (sp_call J kk g2 t2 r2 z3))
/-- C.m(*e) -/
def starD (d : D) (Q : List D → Prop) : Prop := match d with
  | .lst ds => Q ds
  | .tup ds => Q ds
  | _ => False
theorem getsmA {C : Addr} {pins : List (Addr × Obj)} {σ : L2.St} {H : Hp} {s : Shared} {A : Around} {E : Value → Shared → Prop} {ex : Bool} {Q : Value → Shared → Prop} (I : L2.Inv X pins σ H s) (k : SMet X.K C m p g) (h : ∀ s', L2.Inv X pins σ H s' → Q (.ref g) s') : wpAny (model X.prog X.w) A (getAttr (.ref C) m ex) Q E s := by
  obtain ⟨rest, hp⟩ := k.rc
  refine PySem.W.cls_bind I.kIn k.rd.rd k.at_ ?_
  refine wpAny_call (PySem.W.sm_get (s := { s with toks := s.toks + 1 }) I.kIn hp (PySem.W.handed_on rfl ?_))
  exact h _ (I.tok _)
theorem y_smethS {C : Str} {cp sp_ : Pos} (hg : Gl X C) (hm : X.mg C = some (.ref (He.ga X.K C))) (k0 : SMet X.K (He.ga X.K C) m p g) (F : FnG X.prog X.w X.K X.mg X.base (L2.CX X.prog X.w) k g (spP X.K R)) (hr : RoomG k X.A) (hx : Px X B) (he : PEp X B e r) (hdb : (C == ("__debug__" : Str)) = false := by decide)
    (hst : starEach [.Starred e sp_] X.env = [(true, eval e X.env)] := by rfl)
    (ht : eval (.Call (.Attribute (.Name C cp) m apos) [.Starred e sp_] [] pos) X.env = (do
      let ov ← eval (.Name C cp) X.env
      standAt apos.atName
      let (f, first) ← holding [ov] (do pure (← getAttr ov m true, []))
      callWith pos f first (backTo pos (starEach [.Starred e sp_] X.env)) (backToKw pos (keywordEach [] X.env))) := by rfl) :
    PEp X B (.Call (.Attribute (.Name C cp) m apos) [.Starred e sp_] [] pos) (fun ρ Q => r ρ fun d => starD d fun ds => R ds Q B.Ed) := by
  refine ⟨fun pins s σ H Q I h => ?_⟩
  obtain ⟨F0, ρ, Qd, J, z, kk⟩ := h
  rw [ht]
  refine wpAny_bind (ld_glob I hg hm ?_ hdb)
  refine wpAny_bind (wpAny_standAt (wpAny_bind (wpAny_holding (wpAny_bind (getsmA I k0 fun s1 I1 => wpAny_pure ?_)))))
  refine PySem.W.callWith_S (h₀ := X.base) I.ok.mod.kin k0.kp (thn (he.run pins s1 σ H (fun v H2 => ∃ F2 d, Go B.ms F0 H F2 H2 ∧ Tp X.K B.ms F2 H2 ∧ Rp X.K B.ms F2 v d ∧ starD d fun ds => R ds Qd B.Ed) I1 ⟨F0, ρ, _, J, z, fun v F2 H2 d g2 t2 r2 z3 => ⟨F2, d, g2, t2, r2, z3⟩⟩) fun v s2 ⟨y, H2, I2, ry, F2, d, g2, t2, r2, z3⟩ => ?_) hst
  unfold starD at z3
  split at z3
  · cases r2 with
    | lst h1 h2 =>
      obtain rfl : v = Value.ref _ := ry
      exact StX.star_any I2 (.inr (SqL.of (t2.1 _ _ h1))) fun us s3 I3 rv => ⟨I3.kIn, wpAny_call (run_fnA (F.at hr) hx I3 rv (sp_call J kk g2 t2 h2 z3))⟩
  · cases r2 with
    | tup h1 h2 =>
      obtain rfl : v = Value.ref _ := ry
      exact StX.star_any I2 (.inl (sqT t2.1 h1)) fun us s3 I3 rv => ⟨I3.kIn, wpAny_call (run_fnA (F.at hr) hx I3 rv (sp_call J kk g2 t2 h2 z3))⟩
  · exact z3.elim
/-- C.m(), a class method -/
theorem y_cmeth0 {C : Str} {pl : Sem Bool} {cp : Pos} (hg : Gl X C) (hm : X.mg C = some (.ref (He.ga X.K C))) (rd : ClX.CRead X.K (He.ga X.K C) (.type "type")) (k0 : ClX.CMet X.K (He.ga X.K C) (.type "type") m p g) (F : FnG X.prog X.w X.K X.mg X.base (L2.CX X.prog X.w) k g (spP X.K R)) (hr : RoomG k X.A) (hx : Px X B) (hdb : (C == ("__debug__" : Str)) = false := by decide)
    (ht : eval (.Call (.Attribute (.Name C cp) m apos) [] [] pos) X.env = (do
      let ov ← eval (.Name C cp) X.env
      standAt apos.atName
      let (f, first) ← holding [ov] (getMethod ov m pl)
      callWith pos f first (backTo pos (starEach [] X.env)) (backToKw pos (keywordEach [] X.env))) := by rfl) :
    PEp X B (.Call (.Attribute (.Name C cp) m apos) [] [] pos) (fun ρ Q => R [.glob C] Q B.Ed) := by
  refine ⟨fun pins s σ H Q I h => ?_⟩
  obtain ⟨F0, ρ, Qd, J, z, kk⟩ := h
  refine PySem.W.methodCall_KW (pl := pl) (ld_glob I hg hm ?_ hdb) ht
  refine ClX.getmethcm_ok I rd k0 fun s1 I1 => ?_
  refine PySem.W.callWith_M0 (first := []) ⟨ClX.pin_at I1, I1.kIn⟩ k0.fi ?_
  exact run_cmA (us := []) (vs := []) (F.at hr) hx I1 .nil (sp_call (vs := [.ref _]) J kk (Go.refl J.same) J.tp (.cons (.glob C) .nil) z)
end
end Y
namespace Y
open PySem PySem.Spec PyProof.Rows L2 Z
section
variable {P : Program} {w : World} {K : Frg} {mg : Str → Option Value} {base : Heap}
/-- def f(*v) -/
theorem y_fnS {x qual pv : Str} {st : Stmt} {f : Addr} {N : List Str} {k : Nat} {R : RdF} (F : DefAt K x qual st f) (S : FnScope N [pv] (defScope st)) (len : ∀ ds Q E, R ds Q E → ds.length ≤ 100000)
    (hb : ∀ (kV doc pm : Value) (an : Option Addr) (cdv ct : Value) (rest : List Value), bindArgs (PySem.W.fnOf x qual (defArgs st) (defBody st) (defScope st) .none kV doc pm an cdv ct) ⟨rest, []⟩ = (newTuple rest >>= fun t => pure [(pv, t)]))
    (hbody : ∀ (cdv : Value) (A : Around) (outer : List Env) (s : Shared) (H : Hp) (E : XK) (B : Bs), Same B.F0 B.H0 → RoomG k (A.deeper (envOfC qual (defScope st) s.heap.objs.size f cdv)) → Px (cxOf (L2.CX P w) P w K mg base N qual (defScope st) f cdv A outer s H E) B →
      PassesOwn (model P w) (cxOf (L2.CX P w) P w K mg base N qual (defScope st) f cdv A outer s H E).A (cxOf (L2.CX P w) P w K mg base N qual (defScope st) f cdv A outer s H E).env (cxOf (L2.CX P w) P w K mg base N qual (defScope st) f cdv A outer s H E).xe →
      ∃ r, PSsp (cxOf (L2.CX P w) P w K mg base N qual (defScope st) f cdv A outer s H E) B (defBody st) r ∧ ∀ ds Q, R ds Q B.Ed → r (startE N.length [.tup ds]) { nx := fun _ => Q .non, rt := Q }) : FnG P w K mg base (L2.CX P w) (k + 1) f (spP K R) := by
  refine (zfnSG (sp := spP K (ar1 fun d Q E => starD d fun ds => d = .tup ds ∧ R ds Q E)) F S hb fun cdv A outer s H vs Q E hr h => ?_).imp fun vs H Q E h => ?_
  · obtain ⟨ms, F, ds, Qd, Ed, t, r, h, kq, ke⟩ := h
    unfold ar1 at h
    split at h
    · rename_i d
      unfold starD at h
      split at h
      · exact absurd h.1 (fun z => nomatch z)
      · rename_i ds
        obtain ⟨rr, h1, h2⟩ := hbody cdv A outer s H E ⟨ms, F, H, Ed⟩ t.1 hr (px_of fun cls d H' ⟨F', x, g, t', xr, z⟩ => ke cls d F' H' x g t' xr z) po_of
        refine ⟨_, h1, F, _, _, iv_start (B := ⟨ms, F, H, Ed⟩) t r, h2 ds Qd h.2, ?_, ?_, ?_, ?_⟩
        · intro σ' ρ' F' H' _ I' z
          exact kq .non F' H' .non I'.go I'.tp .non z
        · intro v d F' H' g t' r' z
          exact kq v F' H' d g t' r' z
        · intro _ _ _ _ _ _ z; exact z
        · intro _ _ _ _ _ _ z; exact z
      · exact h.elim
    · exact h.elim
  · obtain ⟨ms, F, ds, Qd, Ed, t, r, h, kq, ke⟩ := h
    refine ⟨by rw [r.len]; exact Nat.le_trans (len _ _ _ h) line_ge, fun p hp => ?_⟩
    obtain ⟨F2, g2, q2, _⟩ := newE t.1 hp rfl
    exact ⟨ms, F2, [.tup ds], Qd, Ed, t.go0 g2, .cons (.tup (SqT.of q2) (r.up g2.ff)) .nil, ⟨rfl, h⟩, fun v F' H' d g t' r' q => kq v F' H' d (g2.nil.trans g) t' r' q, fun cls d F' H' x g t' xr q => ke cls d F' H' x (g2.nil.trans g) t' xr q⟩
/-- the tape's draw, as a plain promise -/
def rDraw : RdF := ar2 fun t n Q _ => match t, n with
  | .tape, .int n => (0 < n ∧ Sz 8000 n) ∧ ∀ d, 0 ≤ d → d < n → Q (.int d)
  | _, _ => False
theorem draw_of {k : Nat} {f : Addr} {CX : CXT} (F : FnR P w K mg base CX k f (spDraw K)) : FnG P w K mg base CX k f (spP K rDraw) := (FnG.of F).imp fun vs H Q E h => by
  obtain ⟨ms, F, ds, Qd, Ed, t, r, h, kq, ke⟩ := h
  unfold rDraw ar2 at h
  split at h
  · split at h
    · obtain ⟨v, u, rfl, r1, r2⟩ := rps2 r
      cases r2
      cases r1 with
      | @tape tt mt =>
        refine ⟨_, _, rfl, F, tt, _, rfl, rfl, t.1, t.2 _ mt, h.1.1, szLog h.1.2, fun d H' d0 d1 g tp => ?_⟩
        refine kq _ F H' _ (g.sub fun y hy => ?_) ⟨g.fh, fun y my => ?_⟩ (.int d) (h.2 d d0 d1)
        · have : y = tt := by simpa using hy
          rw [this]; exact mt
        · by_cases e : y = tt
          · subst e; exact tp
          · exact (t.2 y my).go g (by simpa using e)
    · exact h.elim
  · exact h.elim
/-- the law: the tape first, then its own body -/
theorem y_law {qual px : Str} {st : Stmt} {f : Addr} {N : List Str} {k i : Nat} {xt : Str} {pt pc pn pa pp : Pos} {rest : List Stmt} (F : DefAt K "law" qual st f) (S : FnScope N [px] (defScope st))
    (hb : ∀ (kV doc pm : Value) (an : Option Addr) (cdv ct : Value) (us : List Value), us.length = 1 → bindArgs (PySem.W.fnOf "law" qual (defArgs st) (defBody st) (defScope st) .none kV doc pm an cdv ct) ⟨us, []⟩ = pure ([px].zip us))
    (hs : defBody st = .Assign [.Name xt pt] (.Call (.Name "_law_tape" pn) [.Name px pa] [] pc) pp :: rest)
    (FT : ∀ base, FnR P w K mg base (L2.CX P w) 1 (He.ga K "_law_tape") (spTape K)) (mt : mg "_law_tape" = some (.ref (He.ga K "_law_tape"))) (kt : PySem.W.keepIn K (.ref (He.ga K "_law_tape")) = true) (hk : 1 ≤ k) (h0 : N[0]? = some px) (hi : N[i]? = some xt) (hi0 : i ≠ 0)
    (hgl : ∀ cdv (s : Shared), (envOfC qual (defScope st) s.heap.objs.size f cdv).kindOf "_law_tape" = some .globalImplicit) (hvis : Vis (defScope st) px) (hloc : Loc (defScope st) xt)
    (hsw : ∀ cdv (s : Shared), swapsWith (.Call (.Name "_law_tape" pn) [.Name px pa] [] pc) (some (.Name xt pt)) pp.line (envOfC qual (defScope st) s.heap.objs.size f cdv) = pure false)
    (hst : ∀ cdv (s : Shared), starEach [.Name px pa] (envOfC qual (defScope st) s.heap.objs.size f cdv) = (false, eval (.Name px pa) (envOfC qual (defScope st) s.heap.objs.size f cdv)) :: starEach [] (envOfC qual (defScope st) s.heap.objs.size f cdv))
    (hpx : (px == ("__debug__" : Str)) = false) (hpc : (px == ("__classdict__" : Str)) = false)
    (hbody : ∀ (base : Heap) (cdv : Value) (A : Around) (outer : List Env) (s : Shared) (H : Hp) (E : XK) (B : Bs), Same B.F0 B.H0 → (∀ x, ¬ B.Ed x) → RoomG k (A.deeper (envOfC qual (defScope st) s.heap.objs.size f cdv)) → Px (cxOf (L2.CX P w) P w K mg base N qual (defScope st) f cdv A outer s H E) B →
      PassesOwn (model P w) (cxOf (L2.CX P w) P w K mg base N qual (defScope st) f cdv A outer s H E).A (cxOf (L2.CX P w) P w K mg base N qual (defScope st) f cdv A outer s H E).env (cxOf (L2.CX P w) P w K mg base N qual (defScope st) f cdv A outer s H E).xe →
      ∃ r, PSsp (cxOf (L2.CX P w) P w K mg base N qual (defScope st) f cdv A outer s H E) B rest r ∧ r ((List.replicate N.length .no).set i (.val .tape)) { nx := fun _ => False, rt := fun d => d = .bl true }) : ∀ base : Heap, FnG P w K mg base (L2.CX P w) (k + 1) f (spLaw K) := by
  refine fun base => zfnG F S len1 hb fun cdv A outer s H vs Q E hr h => ?_
  obtain ⟨_, rfl, sa, ns, rfl, hl, hS, kk⟩ := h
  have po := po_of (P := P) (w := w) (K := K) (mg := mg) (base := base) (N := N) (qual := qual) (scope := defScope st) (f := f) (cdv := cdv) (A := A) (outer := outer) (s := s) (H := H) (E := E)
  have key : ∀ (t : Addr) (F1 H1 : Hp), ∃ r, PSsp (cxOf (L2.CX P w) P w K mg base N qual (defScope st) f cdv A outer s H E) ⟨[t], F1, H1, fun _ => False⟩ rest r ∧ (Same F1 H1 → r ((List.replicate N.length .no).set i (.val .tape)) { nx := fun _ => False, rt := fun d => d = .bl true }) := fun t F1 H1 => by
    by_cases hs : Same F1 H1
    · obtain ⟨r, h1, h2⟩ := hbody base cdv A outer s H E ⟨[t], F1, H1, fun _ => False⟩ hs (fun _ z => z) hr (px_of fun cls d H' ⟨F', x, g, t', xr, z⟩ => z.elim) po
      exact ⟨r, h1, fun _ => h2⟩
    · exact ⟨fun _ _ => False, pss_imp pss_never fun σ H Dd ⟨F, ρ, E, I, z, _⟩ => z, fun z => absurd z hs⟩
  rw [hs]
  refine ⟨_, pss_cons (t := tAsg (tFn (spTape K) E0 (tCons (tVar 0) tNil)) (gName i)) (u := fun Dd σ H' => ∃ (t : Addr) (F1 H1 : Hp) (r : RdS), PSsp (cxOf (L2.CX P w) P w K mg base N qual (defScope st) f cdv A outer s H E) ⟨[t], F1, H1, fun _ => False⟩ rest r ∧ tS K ⟨[t], F1, H1, fun _ => False⟩ r Dd σ H') ?_ ⟨fun pins s' σ H' D I ⟨t, F1, H1, r, hr, z⟩ => hr.run pins s' σ H' D I z⟩, ?_⟩
  · refine ps_set S.nd hi hloc (zcall (FT base) (hr.rm.mono hk) (hgl cdv s) mt kt passL (pa_cons (pe_var h0 hvis hpx hpc) pa_nil (hst cdv s)) (by decide) (hst cdv s) rfl) (hsw cdv s) (.inl rfl)
  · refine ⟨_, rfl, _, rfl, H, sa, ns, rfl, Same.refl _, hS, fun t F1 H1 g1 tp => ?_⟩
    obtain ⟨r, h1, h2⟩ := key t F1 H1
    refine ⟨t, F1, H1, r, h1, F1, _, _, ?_, h2 g1.fh, ?_, ?_, ?_, ?_⟩
    · have e : ∀ j : Nat, j ≠ i → ((List.replicate N.length Sl.no).set i (.val .tape))[j]? = if j < N.length then some .no else none := fun j hj => by
        rw [List.getElem?_set_ne (Ne.symm hj), List.getElem?_replicate]
      have hin : i < N.length := by
        rcases Nat.lt_or_ge i N.length with z | z
        · exact z
        · rw [List.getElem?_eq_none z] at hi; cases hi
      have hN1 : 1 ≤ N.length := by omega
      refine ⟨Go.refl g1.fh, ⟨g1.fh, fun y hy => ?_⟩, ?_, fun j d hd => ?_, fun j m hm => ?_, fun j j' m n a hjj h1 h2 h3 => ?_⟩
      · have : y = t := by simpa using hy
        rw [this]; exact tp
      · simp [L2.start]; omega
      · by_cases hj : j = i
        · subst hj
          rw [List.getElem?_set_self (by simpa using hin)] at hd
          cases hd
          exact ⟨.ref t, List.getElem?_set_self (by simp [L2.start]; omega), .tape (by simp)⟩
        · rw [e j hj] at hd
          split at hd <;> cases hd
      · by_cases hj : j = i
        · subst hj
          rw [List.getElem?_set_self (by simpa using hin)] at hm
          cases hm
        · rw [e j hj] at hm
          split at hm <;> cases hm
      · exfalso
        by_cases hj : j = i
        · subst hj
          rw [List.getElem?_set_self (by simpa using hin)] at h1
          cases h1
        · rw [e j hj] at h1
          split at h1 <;> cases h1
    · intro _ _ _ _ _ _ z; exact z.elim
    · intro v d F' H' _ _ rr z
      have z' : d = .bl true := z
      subst z'
      cases rr
      exact kk H'
    · intro _ _ _ _ _ _ z; exact z
    · intro _ _ _ _ _ _ z; exact z
end
/-! ### texts -/
def strsOf : List D → Option (List Str)
  | [] => some []
  | .str b :: ds => (strsOf ds).map (b :: ·)
  | _ => none
theorem strsOf_map : ∀ {ds : List D} {bs : List Str}, strsOf ds = some bs → ds = bs.map D.str
  | [], _, h => by cases h; rfl
  | .str b :: ds, _, h => by
    unfold strsOf at h
    obtain ⟨r, h1, rfl⟩ := Option.map_eq_some_iff.mp h
    rw [strsOf_map h1]
    rfl
  | .non :: _, _, h => by simp [strsOf] at h
  | .int _ :: _, _, h => by simp [strsOf] at h
  | .bl _ :: _, _, h => by simp [strsOf] at h
  | .lst _ :: _, _, h => by simp [strsOf] at h
  | .tup _ :: _, _, h => by simp [strsOf] at h
  | .obj _ _ _ :: _, _, h => by simp [strsOf] at h
  | .ty _ :: _, _, h => by simp [strsOf] at h
  | .glob _ :: _, _, h => by simp [strsOf] at h
  | .tape :: _, _, h => by simp [strsOf] at h
def dJoin (x y : D) (Q : D → Prop) : Prop := match x, y with
  | .str a, .lst ds => (match strsOf ds with | some ys => (ys.map (·.length)).sum + ys.length * a.length ≤ 100000 ∧ Q (.str (Txt.join a ys)) | none => False)
  | _, _ => False
section
variable {X : Cx} {B : Bs} {K : Frg} {ms : List Addr} {a b c e o : Expr} {es : List Expr} {ra rb rc r ro : Rd} {rt ru : RdT} {rl : RdA} {pos p0 apos : Pos}
def isS (x : D) (k : Prop) : Prop := match x with
  | .str _ => k
  | _ => False
theorem isS_of {F : Hp} {v : V} {d : D} {k : Prop} (r : Rp K ms F v d) (h : isS d k) : (∃ a, v = .str a) ∧ k := by
  unfold isS at h
  split at h
  · cases r; exact ⟨⟨_, rfl⟩, h⟩
  · exact h.elim
theorem y_join (ho : PEp X B o ro) (he : PEp X B e r) (hs : starEach [e] X.env = [(false, eval e X.env)] := by rfl) (hbase : attributeBase o "join" X.env (eval o X.env) = eval o X.env := by rfl) (hline : (apos.endLine == pos.line) = true := by rfl) :
    PEp X B (.Call (.Attribute o "join" apos) [e] [] pos) (fun ρ Q => ro ρ fun x => isS x (r ρ fun y => dJoin x y Q)) := by
  refine pe_imp (pe_join ho he hs hbase hline) fun σ H Q ⟨F, ρ, Qd, I, z, k⟩ => ⟨F, ρ, _, I, z, fun v F1 H1 d g1 t1 r1 z1 => ?_⟩
  obtain ⟨⟨a, rfl⟩, z2⟩ := isS_of r1 z1
  cases r1
  refine ⟨⟨a, rfl⟩, F1, ρ, _, I.step g1 t1, z2, fun u F2 H2 d2 g2 t2 r2 z3 => ?_⟩
  unfold dJoin at z3
  split at z3
  · rename_i a' ds e1
    cases e1
    split at z3
    · rename_i ys e
      obtain rfl := strsOf_map e
      cases r2 with
      | lst h1 h2 =>
        have e2 := h2.strs
        subst e2
        exact ⟨_, _, ys, rfl, rfl, .inl (SqL.of (t2.1 _ _ h1)), Nat.le_trans z3.1 (by decide), k _ F2 H2 _ (g1.trans g2) t2 (.str _) z3.2⟩
    · exact z3.elim
  · exact z3.elim
end
theorem hu65 {k : Nat} {A : Around} (r : RoomG k A) : A.units + 65 < cLine := by have := r.rm.un; omega
theorem all0 {p : Str → Prop} : ∀ c ∈ ([] : List Str), p c := fun _ h => nomatch h
theorem all1 {p : Str → Prop} {C : Str} (h : p C) : ∀ c ∈ [C], p c := fun c hc => by
  have : c = C := by simpa using hc
  rw [this]; exact h
theorem all2 {p : Str → Prop} {C D : Str} (h : p C) (h' : p D) : ∀ c ∈ [C, D], p c := fun c hc => by
  rcases List.mem_cons.mp hc with rfl | hc
  · exact h
  · exact all1 h' c hc
theorem nf_self {K : Frg} {C : Addr} : PySem.W.notFirst K C (.ref C) = true := by simp [PySem.W.notFirst]
theorem ar0E {P} {ds : List D} {Q E} (h : ar0 P ds Q E) : ds = [] ∧ P Q E := by
  unfold ar0 at h; split at h
  · exact ⟨rfl, h⟩
  · exact h.elim
theorem ar1E {P} {ds : List D} {Q E} (h : ar1 P ds Q E) : ∃ a, ds = [a] ∧ P a Q E := by
  unfold ar1 at h; split at h
  · exact ⟨_, rfl, h⟩
  · exact h.elim
theorem ar2E {P} {ds : List D} {Q E} (h : ar2 P ds Q E) : ∃ a b, ds = [a, b] ∧ P a b Q E := by
  unfold ar2 at h; split at h
  · exact ⟨_, _, rfl, h⟩
  · exact h.elim
theorem ar3E {P} {ds : List D} {Q E} (h : ar3 P ds Q E) : ∃ a b c, ds = [a, b, c] ∧ P a b c Q E := by
  unfold ar3 at h; split at h
  · exact ⟨_, _, _, rfl, h⟩
  · exact h.elim
theorem ar4E {P} {ds : List D} {Q E} (h : ar4 P ds Q E) : ∃ a b c d, ds = [a, b, c, d] ∧ P a b c d Q E := by
  unfold ar4 at h; split at h
  · exact ⟨_, _, _, _, rfl, h⟩
  · exact h.elim
theorem ar5E {P} {ds : List D} {Q E} (h : ar5 P ds Q E) : ∃ a b c d e, ds = [a, b, c, d, e] ∧ P a b c d e Q E := by
  unfold ar5 at h; split at h
  · exact ⟨_, _, _, _, _, rfl, h⟩
  · exact h.elim
end Y
namespace Y
open PySem PySem.Spec PyProof.Rows L2 Z
/-! ### facts of the top for the pure layer -/
def bRd (x : Str) : Frg → Bool := fun K => PySem.W.readsIn K (He.ga K x) (.type "type") && He.eqO (PySem.W.specialIn K (.ref (He.ga K x)) "__getattribute__") (some (some (.builtin "type.__getattribute__")))
theorem rd_of {K : Frg} {x : Str} (h : bRd x K = true) : ClX.CRead K (He.ga K x) (.type "type") := by
  obtain ⟨h1, h2⟩ := He.ba h
  exact ⟨h1, He.eqO_ok h2⟩
def bSM (x m : Str) : Frg → Bool := fun K => bRd x K && (He5.wrapB K (He.ga K x) "staticmethod" "staticmethod.__get__" m && PySem.W.keepIn K (.ref (He5.wf K (He.ga K x) "staticmethod" m)))
theorem sm_of {K : Frg} {x m : Str} (h : bSM x m K = true) : SMet K (He.ga K x) m (He.ma K (He.ga K x) m) (He5.wf K (He.ga K x) "staticmethod" m) := by
  obtain ⟨h1, h⟩ := He.ba h
  obtain ⟨h2, h3⟩ := He.ba h
  obtain ⟨h4, h5⟩ := He5.wrapB_ok h2
  exact ⟨rd_of h1, h4, h5, h3⟩
def bCM (x m : Str) : Frg → Bool := fun K => He5.wrapB K (He.ga K x) "classmethod" "classmethod.__get__" m && PySem.W.fnIn K (He5.wf K (He.ga K x) "classmethod" m)
theorem cm_of {K : Frg} {x m : Str} (h : bCM x m K = true) : ClX.CMet K (He.ga K x) (.type "type") m (He.ma K (He.ga K x) m) (He5.wf K (He.ga K x) "classmethod" m) := by
  obtain ⟨h2, h3⟩ := He.ba h
  exact He5.cmet_of h2 h3
end Y
namespace Y
open PySem PySem.Spec PyProof.Rows L2 Z
section
variable {X : Cx} {B : Bs} {K : Frg} {ms : List Addr} {a b c e o : Expr} {es : List Expr} {ra rb rc r ro : Rd} {rt ru : RdT} {rl : RdA} {pos p0 apos : Pos} {s1 s2 : RdS}
theorem s_par3 {i j l : Nat} {x y z : Str} {px py pz pt : Pos} {kt k2 pt2} (hc : X.calm = true) (hN : X.N.Nodup) (hi : X.N[i]? = some x) (hj : X.N[j]? = some y) (hl : X.N[l]? = some z) (hij : i ≠ j) (hil : i ≠ l) (hjl : j ≠ l)
    (hx : X.env.scope.names.lookup x = some .local) (hy : X.env.scope.names.lookup y = some .local) (hz : X.env.scope.names.lookup z = some .local) (ha : PAp X B [a, b, c] rl)
    (hw : swappedStores [.Tuple [.Name x px, .Name y py, .Name z pz] kt pt] (.Tuple [a, b, c] k2 pt2) X.env = pure (some [x, y, z]))
    (hs : swapsWithSole [.Tuple [.Name x px, .Name y py, .Name z pz] kt pt] (.Tuple [a, b, c] k2 pt2) pos.line X.env = pure false := by rfl) :
    PSp X B (.Assign [.Tuple [.Name x px, .Name y py, .Name z pz] kt pt] (.Tuple [a, b, c] k2 pt2) pos) (fun ρ E => rl ρ fun ds => stN [i, j, l] ds ρ E.nx) :=
  ps_imp (ps_par3 hc hN hi hj hl hij hil hjl hx hy hz ha hw hs) fun σ H Dd ⟨F, ρ, E, I, z, kn, kr, kb, kc⟩ => ⟨F, ρ, _, I, z, fun vs F' H' ds g t r q => by
    have hl := stN_len q
    match ds, hl, r, q with
    | [d1, d2, d3], _, r, q =>
      cases r with
      | cons r1 r2 =>
        obtain ⟨v2, v3, rfl, r2, r3⟩ := rps2 r2
        exact ⟨_, v2, v3, rfl, kn _ _ F' H' g.ff ((((I.step g t).set i r1).set j r2).set l r3) q⟩⟩
/-- a statement and what follows, with a word between them -/
theorem s_cut {st : Stmt} {rest : List Stmt} (h1 : PSp X B st s1) (h2 : PSsp X B rest s2) : PSsp X B (st :: rest) (fun ρ E => ∃ Mid : Ev → Prop, s1 ρ { E with nx := Mid } ∧ ∀ ρ', Mid ρ' → s2 ρ' E) :=
  pss_imp (pss_cons h1 h2) fun σ H Dd ⟨F, ρ, E, I, ⟨Mid, z, zf⟩, kn, kr, kb, kc⟩ => ⟨F, ρ, _, I, z, fun σ' ρ' F' H' s I' z' => ⟨F', ρ', E, I', zf ρ' z', fun σ2 ρ2 F2 H2 s' I2 z2 => kn σ2 ρ2 F2 H2 (s.trans s') I2 z2, kr, fun σ2 ρ2 F2 H2 s' I2 z2 => kb σ2 ρ2 F2 H2 (s.trans s') I2 z2, fun σ2 ρ2 F2 H2 s' I2 z2 => kc σ2 ρ2 F2 H2 (s.trans s') I2 z2⟩, kr, kb, kc⟩
def dModZ (x y : D) (Q : D → Prop) : Prop := match x, y with
  | .int i, .int j => j ≠ 0 ∧ Q (.int (i.fmod j))
  | _, _ => False
theorem modZL : OpL K ms (rI (fun _ j => j ≠ 0) fun i j => .int (i.fmod j)) dModZ := by
  intro F H x y dx dy Qd Q hs rx ry h k
  unfold dModZ at h
  split at h
  · cases rx; cases ry
    exact ⟨_, _, rfl, rfl, h.1, k _ F H _ (Go.refl hs) (.int _) h.2⟩
  · exact h.elim
def dIsBl (neg : Bool) (x y : D) (Q : D → Prop) : Prop := match x, y with
  | .bl i, .bl j => Q (.bl (neg != decide (i = j)))
  | _, _ => False
theorem isBlL : OpL K ms rIsB (dIsBl false) := by
  intro F H x y dx dy Qd Q hs rx ry h k
  unfold dIsBl at h
  split at h
  · cases rx; cases ry
    exact ⟨_, _, rfl, rfl, k _ F H _ (Go.refl hs) (.bl _) (by simpa using h)⟩
  · exact h.elim
theorem notBlL : OpL K ms rNotB (dIsBl true) := by
  intro F H x y dx dy Qd Q hs rx ry h k
  unfold dIsBl at h
  split at h
  · cases rx; cases ry
    exact ⟨_, _, rfl, rfl, k _ F H _ (Go.refl hs) (.bl _) (by simpa using h)⟩
  · exact h.elim
def dInt1 (ds : List D) (Q : D → Prop) : Prop := match ds with
  | [.int i] => Q (.int i)
  | [.bl b] => Q (.int (if b then 1 else 0))
  | _ => False
theorem int1L : CalL K ms (fun xs H Q => (∃ i, xs = [.int i] ∧ Q (.int i) H) ∨ ∃ k, xs = [.bl k] ∧ Q (.int (if k then 1 else 0)) H) dInt1 := by
  intro F H xs ds Qd Q hs r h k
  unfold dInt1 at h
  split at h
  · obtain ⟨x, rfl, r1⟩ := rps1 r
    cases r1
    exact .inl ⟨_, rfl, k _ F H _ (Go.refl hs) (.int _) h⟩
  · obtain ⟨x, rfl, r1⟩ := rps1 r
    cases r1
    exact .inr ⟨_, rfl, k _ F H _ (Go.refl hs) (.int _) h⟩
  · exact h.elim
/-! ### texts and enumerate as what a loop walks -/
def chrs (s : Str) : List D := s.cps.toList.map fun c => .str ⟨#[c]⟩
theorem i_str {tg l : Expr} (hl : PEp X B l r) : PIp X B tg l (fun ρ Q => r ρ fun d => match d with | .str s => Q (chrs s) | _ => False) :=
  pi_imp (pi_str hl) fun σ H R ⟨F, ρ, Qd, I, z, k⟩ => ⟨F, ρ, _, I, z, fun v F1 H1 d g1 t1 r1 z1 => by
    split at z1
    · rename_i s
      cases r1
      refine ⟨s, rfl, k _ F1 H1 _ g1 t1 ⟨_, _, by rw [show (chrs s).length = s.cps.size by simp [chrs]]; exact walk_str (z := s), fun _ _ _ _ => trivial, ?_⟩ z1⟩
      rintro i F2 H2 x H2' d s1 s' ⟨rfl, cc, hx, rfl⟩ hd
      have : d = .str ⟨#[cc]⟩ := by
        unfold chrs at hd
        rw [List.getElem?_map, Array.getElem?_toList, hx] at hd
        exact (Option.some.inj hd).symm
      subst this
      exact ⟨F2, Go.refl s', .str _⟩
    · exact z1.elim⟩
def enumD (ds : List D) : List D := (List.range ds.length).map fun i => .tup [.int (i : Nat), (ds[i]?).getD .non]
theorem i_enum {p tpos : Pos} {elts : List Expr} {kk : Nat} (hg : Gl X "enumerate") (hm : X.mg "enumerate" = none) (ha : PAp X B [e] rl) (hs : starEach [e] X.env = [(false, eval e X.env)] := by rfl) :
    PIp X B (.Tuple elts kk tpos) (.Call (.Name "enumerate" p) [e] [] pos) (fun ρ Q => rl ρ fun ds => match ds with | [.lst xs] => Q (enumD xs) | _ => False) :=
  pi_imp (pi_enum hg hm ha hs) fun σ H R ⟨F, ρ, Qd, I, z, k⟩ => ⟨F, ρ, _, I, z, fun vs F1 H1 ds g1 t1 r1 z1 => by
    split at z1
    · rename_i xs
      obtain ⟨x, rfl, r2⟩ := rps1 r1
      cases r2 with
      | @lst a ws _ h1 h2 =>
        refine ⟨a, ws, rfl, SqL.of (t1.1 _ _ h1), k _ F1 H1 _ g1 t1 ⟨_, _, by rw [show (enumD xs).length = ws.length by simp [enumD, h2.len]]; exact walk_enum (K := X.K) (a := a) (xs := ws), fun F2 H2 s s' => SqL.of (s' _ _ (s _ _ h1)), ?_⟩ z1⟩
        rintro i F2 H2 y H2' d s s' ⟨T, u, v, rfl, hT, rfl, hu, hv⟩ hd
        cases hu
        obtain ⟨dd, q1, q2⟩ := h2.getV hv
        have hi := lt_of_get q1
        have : d = .tup [.int (i : Nat), dd] := by
          unfold enumD at hd
          rw [List.getElem?_map, List.getElem?_range hi] at hd
          have := (Option.some.inj hd).symm
          dsimp only at this
          rw [q1] at this
          exact this
        subst this
        obtain ⟨F3, g3, q3, _⟩ := newE s' hT rfl
        exact ⟨F3, g3, .tup (SqT.of q3) (.cons (.int _) (.cons ((q2.up s).up g3.ff) .nil))⟩
    · exact z1.elim⟩
/-- cls(..), cls a name that holds the class C -/
theorem y_makeL {C x : Str} {i k : Nat} {f : Addr} {R : RdF} (hv : PE X (.Name x p0) (tVar i)) (M : Mk X.K (He.ga X.K C) f) (F : FnG X.prog X.w X.K X.mg X.base (L2.CX X.prog X.w) k f (spI X.K C R)) (hr : RoomG (k + 1) X.A) (hx : Px X B) (ha : PAp X B (e :: es) rl)
    (he : starEach (e :: es) X.env = (false, eval e X.env) :: starEach es X.env := by rfl) (hpl : (backTo pos (starEach es X.env)).any (·.1) = false := by rfl) : PEp X B (.Call (.Name x p0) (e :: es) [] pos) (fun ρ Q => rVar i ρ fun d => d = .glob C ∧ rl ρ fun ds => R ds Q B.Ed) := by
  refine ⟨fun pins s σ H Q I h => ?_⟩
  obtain ⟨F0, ρ, Qd, J, z, kk⟩ := h
  refine wpAny_Call_Name_kw (thn ((y_var (B := B) hv).run pins s σ H (fun v H1 => ∃ F1 d, Go B.ms F0 H F1 H1 ∧ Tp X.K B.ms F1 H1 ∧ Rp X.K B.ms F1 v d ∧ d = .glob C ∧ rl ρ fun ds => R ds Qd B.Ed) I ⟨F0, ρ, _, J, z, fun v F1 H1 d g1 t1 r1 z1 => ⟨F1, d, g1, t1, r1, z1⟩⟩) fun u s1 ⟨v, H1, I1, rv, F1, d, g1, t1, r1, e1, z1⟩ => ?_)
  subst e1
  cases r1
  obtain rfl : u = Value.ref (He.ga X.K C) := rv
  refine PySem.W.callWith_K (h₀ := X.base) I.ok.mod.kin M.kp (thn (ha.run pos pins s1 σ H1 (fun vs H2 => ∃ F2 ds, Go B.ms F1 H1 F2 H2 ∧ Tp X.K B.ms F2 H2 ∧ Rps X.K B.ms F2 vs ds ∧ R ds Qd B.Ed) I1 ⟨F1, ρ, _, J.step g1 t1, z1, fun vs F2 H2 ds g2 t2 r2 z2 => ⟨F2, ds, g2, t2, r2, z2⟩⟩) fun us s2 ⟨vs, H2, I2, r, F2, ds, g2, t2, r2, z2⟩ => ⟨I2.kIn, ?_⟩) he hpl
  exact run_makeG M F hr hx I2 r (spI_of vs H2 Q (sp_call J kk (g1.trans g2) t2 r2 z2))
end
end Y
namespace Y
open PySem PySem.Spec PyProof.Rows L2 Z
/-! ### texts of data: repr -/
mutual
def toP : D → PyData
  | .non => .none
  | .bl b => .bool b
  | .int i => .int i
  | .str s => .str s
  | .lst ds => .list (toPs ds)
  | .tup ds => .tuple (toPs ds)
  | .obj _ _ _ => .none
  | .ty _ => .none
  | .glob _ => .none
  | .tape => .none
def toPs : List D → List PyData
  | [] => []
  | d :: ds => toP d :: toPs ds
end
mutual
/-- data that repr shows: with so many items and signs at most, so deep at most -/
def shP (n : Nat) : D → Prop
  | .non => True
  | .bl _ => True
  | .int i => Sz 1900 i
  | .str s => ∀ c ∈ s.cps.toList, c < 16 ^ 8
  | .lst ds => shPs n ds
  | .tup ds => shPs n ds
  | .obj _ _ _ => False
  | .ty _ => False
  | .glob _ => False
  | .tape => False
def shPs (n : Nat) : List D → Prop
  | [] => True
  | d :: ds => shP n d ∧ shPs n ds
end
def shD (d : D) : Str := (toP d).shown
theorem sz1900 {i : Int} (h : Sz 1900 i) : i.natAbs.log2 < 1920 := Nat.lt_of_lt_of_le (PySem.Flt.log2_lt_of (by decide) h) (by decide)
mutual
theorem sh_able {n : Nat} : ∀ d : D, shP n d → (toP d).showable = true
  | .non, _ => rfl
  | .bl _, _ => rfl
  | .int i, h => by
    show decide _ = true
    exact decide_eq_true (sz1900 h)
  | .str _, _ => rfl
  | .lst ds, h => sh_ables ds h
  | .tup ds, h => sh_ables ds h
  | .obj _ _ _, h => h.elim
  | .ty _, h => h.elim
  | .glob _, h => h.elim
  | .tape, h => h.elim
theorem sh_ables {n : Nat} : ∀ ds : List D, shPs n ds → PyData.showableAll (toPs ds) = true
  | [], _ => rfl
  | d :: ds, h => by
    show ((toP d).showable && PyData.showableAll (toPs ds)) = true
    rw [sh_able d h.1, sh_ables ds h.2]
    rfl
end
mutual
theorem sh_short {n : Nat} : ∀ d : D, shP n d → (toP d).leavesShort 1921 = true
  | .non, _ => rfl
  | .bl _, _ => rfl
  | .int i, h => by
    show decide ((PyData.shown (.int i)).length ≤ 1921) = true
    exact decide_eq_true (int_text_len_1921 (sz1900 h))
  | .str s, h => by
    show (s.cps.toList.all fun c => decide (c < 16 ^ 8)) = true
    exact List.all_eq_true.mpr fun c hc => decide_eq_true (h c hc)
  | .lst ds, h => sh_shorts ds h
  | .tup ds, h => sh_shorts ds h
  | .obj _ _ _, h => h.elim
  | .ty _, h => h.elim
  | .glob _, h => h.elim
  | .tape, h => h.elim
theorem sh_shorts {n : Nat} : ∀ ds : List D, shPs n ds → PyData.leavesShortAll 1921 (toPs ds) = true
  | [], _ => rfl
  | d :: ds, h => by
    show ((toP d).leavesShort 1921 && PyData.leavesShortAll 1921 (toPs ds)) = true
    rw [sh_short d h.1, sh_shorts ds h.2]
    rfl
end
mutual
theorem sh_nodict {n : Nat} : ∀ d : D, shP n d → (toP d).hasDict = false
  | .non, _ => rfl
  | .bl _, _ => rfl
  | .int _, _ => rfl
  | .str _, _ => rfl
  | .lst ds, h => sh_nodicts ds h
  | .tup ds, h => sh_nodicts ds h
  | .obj _ _ _, h => h.elim
  | .ty _, h => h.elim
  | .glob _, h => h.elim
  | .tape, h => h.elim
theorem sh_nodicts {n : Nat} : ∀ ds : List D, shPs n ds → PyData.hasDictAll (toPs ds) = false
  | [], _ => rfl
  | d :: ds, h => by
    show ((toP d).hasDict || PyData.hasDictAll (toPs ds)) = false
    rw [sh_nodict d h.1, sh_nodicts ds h.2]
    rfl
end
section
variable {X : Cx} {B : Bs} {pins : List (Addr × Obj)} {σ : L2.St} {H F : Hp} {s : Shared} {ms : List Addr}
mutual
theorem sh_reads {n : Nat} (I : L2.Inv X pins σ H s) (hs : Same F H) : ∀ (d : D) (v : V) (u : Value), shP n d → Rp X.K ms F v d → RelV v u → ∃ as, Reads s.heap u (toP d) as
  | .non, _, u, _, r, e => by
    cases r
    obtain rfl : u = Value.none := e
    exact ⟨_, .none⟩
  | .bl b, _, u, _, r, e => by
    cases r
    obtain rfl : u = Value.bool b := e
    exact ⟨_, .bool b⟩
  | .int i, _, u, _, r, e => by
    cases r
    obtain ⟨t, rfl⟩ := (show ∃ t, u = Value.int i t from e)
    exact ⟨_, .int i t⟩
  | .str x, _, u, _, r, e => by
    cases r
    obtain ⟨t, rfl⟩ := (show ∃ t, u = Value.str x t from e)
    exact ⟨_, .str x t⟩
  | .lst ds, _, u, h, r, e => by
    cases r with
    | @lst a vs _ h1 h2 =>
      obtain rfl : u = Value.ref a := e
      obtain ⟨_, its, n, rv, hg⟩ := I.hok a _ (hs _ _ h1)
      obtain ⟨as, q⟩ := sh_readss I hs ds vs its h h2 rv
      exact ⟨_, .list hg rfl rfl (by simpa using q)⟩
  | .tup ds, _, u, h, r, e => by
    cases r with
    | @tup a vs _ h1 h2 =>
      obtain rfl : u = Value.ref a := e
      obtain ⟨its, rv, ⟨o, hg, hc, n, hd⟩, _⟩ := I.tuple (sqT hs h1)
      obtain ⟨as, q⟩ := sh_readss I hs ds vs its h h2 rv
      exact ⟨_, .tuple hg hc hd (by simpa using q)⟩
  | .obj _ _ _, _, _, h, _, _ => h.elim
  | .ty _, _, _, h, _, _ => h.elim
  | .glob _, _, _, h, _, _ => h.elim
  | .tape, _, _, h, _, _ => h.elim
theorem sh_readss {n : Nat} (I : L2.Inv X pins σ H s) (hs : Same F H) : ∀ (ds : List D) (vs : List V) (us : List Value), shPs n ds → Rps X.K ms F vs ds → Vals vs us → ∃ as, ReadsAll s.heap us (toPs ds) as
  | [], _, _, _, r, e => by
    cases r
    cases e
    exact ⟨_, .nil⟩
  | d :: ds, _, _, h, r, e => by
    cases r with
    | cons r1 r2 =>
      cases e with
      | cons e1 e2 =>
        obtain ⟨as, q1⟩ := sh_reads I hs d _ _ h.1 r1 e1
        obtain ⟨bs, q2⟩ := sh_readss I hs ds _ _ h.2 r2 e2
        exact ⟨_, .cons q1 q2⟩
end
/-- repr of data -/
def rRepr (K : Frg) (xs : List V) (H : Hp) (Q : VK) : Prop := ∃ (ms : List Addr) (F : Hp) (v : V) (d : D) (n : Nat), xs = [v] ∧ Same F H ∧ Rp K ms F v d ∧ shP n d ∧ (toP d).bulk ≤ 8000 ∧ (toP d).depth ≤ 40 ∧ Q (.str (shD d)) H
theorem sh_len {n : Nat} {d : D} (h : shP n d) (hb : (toP d).bulk ≤ 8000) : (toP d).shown.length ≤ sizeLine := by
  have z := PyData.shown_le_bulk 1921 (by decide) (toP d) (sh_short d h)
  have : (2 : Nat) ^ 24 = 16777216 := by decide
  show _ ≤ 2 ^ 24
  omega
theorem call_reprD {k : Nat} (hr : RoomG k X.A) : CallR X (.builtin "repr") (rRepr X.K) := by
  intro pins s σ H xs us Q I r h
  obtain ⟨ms, F, v, d, n, rfl, hs, rd, hp, hb, hd, q⟩ := h
  obtain ⟨u, rfl, ru⟩ := vals1 r
  have hl := sh_len hp hb
  have hu := hr.units
  obtain ⟨as, rr⟩ := sh_reads I hs d v u hp rd ru
  have fin : ∀ h' u' tk, (∀ b o, s.heap.get? b = some o → h'.get? b = some o) → EP X pins σ Q (.str (toP d).shown u') { s with heap := h', toks := tk } := fun h' u' tk hk => ⟨.str _, H, I.kept hk, ⟨_, rfl⟩, q⟩
  cases rd with
  | non =>
    obtain rfl : u = Value.none := ru
    exact PySem.P.repr_of_none (fin _ _ _ fun _ _ e => e)
  | bl b =>
    obtain rfl : u = Value.bool b := ru
    exact PySem.P.repr_of_bool (fin _ _ _ fun _ _ e => e)
  | int i =>
    obtain ⟨t, rfl⟩ := (show ∃ t, u = Value.int i t from ru)
    exact PySem.P.repr_of_int (sz1900 hp) (fin _ _ _ fun _ _ e => e)
  | str x =>
    obtain ⟨t, rfl⟩ := (show ∃ t, u = Value.str x t from ru)
    exact PySem.P.repr_of_str (fin _ _ _ fun _ _ e => e) hl
  | ty _ => exact hp.elim
  | glob _ => exact hp.elim
  | tape _ => exact hp.elim
  | obj _ _ _ => exact hp.elim
  | lst h1 h2 =>
    obtain rfl : u = Value.ref _ := ru
    exact repr_of_reads' rr (sh_able _ hp) (PyData.noDict_hsm (sh_nodict _ hp)) hr.gd (by omega) (fun _ _ e => e) fin hl
  | tup h1 h2 =>
    obtain rfl : u = Value.ref _ := ru
    exact repr_of_reads' rr (sh_able _ hp) (PyData.noDict_hsm (sh_nodict _ hp)) hr.gd (by omega) (fun _ _ e => e) fin hl
def dRepr (ds : List D) (Q : D → Prop) : Prop := match ds with
  | [d] => (shP 0 d ∧ (toP d).bulk ≤ 8000 ∧ (toP d).depth ≤ 40) ∧ Q (.str (shD d))
  | _ => False
theorem reprL {K : Frg} : CalL K ms (rRepr K) dRepr := by
  intro F H xs ds Qd Q hs r h k
  unfold dRepr at h
  split at h
  · obtain ⟨x, rfl, r1⟩ := rps1 r
    exact ⟨ms, F, x, _, 0, rfl, hs, r1, h.1.1, h.1.2.1, h.1.2.2, k _ F H _ (Go.refl hs) (.str _) h.2⟩
  · exact h.elim
end
end Y
namespace Y
open PySem PySem.Spec PyProof.Rows L2 Z
section
variable {X : Cx} {B : Bs} {K : Frg} {ms : List Addr} {a b c e o : Expr} {es : List Expr} {ra rb rc r ro : Rd} {rt ru : RdT} {rl : RdA} {pos p0 apos : Pos} {s1 s2 : RdS}
/-- *e ahead of other items -/
theorem a_star {p : Pos} (he : PEp X B e r) (hr : PAp X B es rl) (hs : starEach (.Starred e p :: es) X.env = (true, eval e X.env) :: starEach es X.env := by rfl) : PAp X B (.Starred e p :: es) (fun ρ Q => r ρ fun d => starD d fun xs => rl ρ fun ys => Q (xs ++ ys)) :=
  pa_imp (StX.pa_star he hr hs) fun σ H Q ⟨F, ρ, Qd, I, z, k⟩ => ⟨F, ρ, _, I, z, fun v F1 H1 d g1 t1 r1 z1 => by
    unfold starD at z1
    split at z1
    · cases r1 with
      | @lst a ws _ h1 h2 => exact ⟨a, ws, rfl, .inr (SqL.of (t1.1 _ _ h1)), F1, ρ, _, I.step g1 t1, z1, fun vs F2 H2 ds g2 t2 r2 z2 => k _ F2 H2 _ (g1.trans g2) t2 ((h2.up g2.ff).app r2) z2⟩
    · cases r1 with
      | @tup a ws _ h1 h2 => exact ⟨a, ws, rfl, .inl (sqT t1.1 h1), F1, ρ, _, I.step g1 t1, z1, fun vs F2 H2 ds g2 t2 r2 z2 => k _ F2 H2 _ (g1.trans g2) t2 ((h2.up g2.ff).app r2) z2⟩
    · exact z1.elim⟩
/-- range with a step that is positive -/
def rngC (lo c : Int) (n : Nat) : List D := (List.range n).map fun i => .int (lo + (i : Nat) * c)
theorem rngC_sqs {K : Frg} {ms : List Addr} {F : Hp} {lo c : Int} {n : Nat} : Sqs K ms F (Itc lo c n) (rngC lo c n) := by
  have hl : (rngC lo c n).length = n := by simp [rngC]
  refine ⟨_, _, by rw [hl]; exact walk_rangeC, fun _ _ _ _ => trivial, ?_⟩
  rintro i F2 H2 x H2' d s s' ⟨rfl, rfl⟩ hd
  have hi : i < n := by
    rw [← hl]
    exact lt_of_get hd
  simp [rngC, hi] at hd
  subst hd
  exact ⟨F2, Go.refl s', .int _⟩
def rng3 (ds : List D) (Q : List D → Prop) : Prop := match ds with
  | [.int i, .int j, .int c] => ∃ n, RgC i j c n ∧ Q (rngC i c n)
  | _ => False
theorem i_rng3 {tg : Expr} {p : Pos} (hg : Gl X "range") (hm : X.mg "range" = none) (ha : PAp X B [a, b, c] rl) (hs : starEach [a, b, c] X.env = (false, eval a X.env) :: starEach [b, c] X.env := by rfl) (hpl : (backTo pos (starEach [b, c] X.env)).any (·.1) = false := by rfl) :
    PIp X B tg (.Call (.Name "range" p) [a, b, c] [] pos) (fun ρ Q => rl ρ fun ds => rng3 ds Q) :=
  pi_imp (pi_range3 hg hm ha hs hpl) fun σ H R ⟨F, ρ, Qd, I, z, k⟩ => ⟨F, ρ, _, I, z, fun vs F1 H1 ds g1 t1 r1 z1 => by
    unfold rng3 at z1
    split at z1
    · obtain ⟨n, h1, h2⟩ := z1
      cases r1 with
      | cons r1 r2 =>
        obtain ⟨y, z, rfl, r2, r3⟩ := rps2 r2
        cases r1
        cases r2
        cases r3
        exact ⟨_, _, _, n, rfl, h1, k _ F1 H1 _ g1 t1 rngC_sqs h2⟩
    · exact z1.elim⟩
end
end Y
namespace Y
open PySem PySem.Spec PyProof.Rows L2 Z
/-! ### data that stand in the written part -/
def allB2 {α β : Type} (f : α → β → Bool) : List α → List β → Bool
  | [], [] => true
  | a :: as, b :: bs => f a b && allB2 f as bs
  | _, _ => false
inductive All2 {α β : Type} (f : α → β → Prop) : List α → List β → Prop
  | nil : All2 f [] []
  | cons {a : α} {b : β} {as : List α} {bs : List β} : f a b → All2 f as bs → All2 f (a :: as) (b :: bs)
theorem all2_ok {α β : Type} {f : α → β → Bool} {p : α → β → Prop} (h : ∀ a b, f a b = true → p a b) : ∀ {as : List α} {bs : List β}, allB2 f as bs = true → All2 p as bs
  | [], [], _ => .nil
  | a :: as, b :: bs, z => by
    obtain ⟨h1, h2⟩ := He.ba (show (f a b && allB2 f as bs) = true from z)
    exact .cons (h a b h1) (all2_ok h h2)
  | [], _ :: _, z => by cases z
  | _ :: _, [], z => by cases z
theorem All2.len {α β : Type} {p : α → β → Prop} : ∀ {as : List α} {bs : List β}, All2 p as bs → as.length = bs.length
  | _, _, .nil => rfl
  | _, _, .cons _ t => by rw [List.length_cons, List.length_cons, t.len]
theorem All2.get {α β : Type} {p : α → β → Prop} : ∀ {as : List α} {bs : List β} {i : Nat} {a : α} {b : β}, All2 p as bs → as[i]? = some a → bs[i]? = some b → p a b
  | _, _, i, _, _, .nil, h, _ => by simp at h
  | _, _, 0, _, _, .cons h _, e1, e2 => by
    simp at e1 e2
    subst e1 e2
    exact h
  | _, _, i + 1, _, _, .cons _ t, e1, e2 => t.get (i := i) (by simpa using e1) (by simpa using e2)
def vOk (K : Frg) : Nat → D → Value → Bool
  | _, .non, .none => true
  | _, .bl b, .bool c => b == c
  | _, .int i, .int j _ => i == j
  | _, .str x, .str y _ => x == y
  | n + 1, .tup ds, .ref p => (match K.lookup p with
    | some ⟨.type c, _, .seq its _, _⟩ => decide (c = "tuple") && (Nat.ble its.size 1000 && allB2 (vOk K n) ds its.toList)
    | _ => false)
  | _, _, _ => false
/-- the value u of the written part bears d -/
def VD (K : Frg) (d : D) (u : Value) : Prop := ∃ v, RelV v u ∧ ∀ ms F, Rp K ms F v d
theorem vds {K : Frg} : ∀ {ds : List D} {us : List Value}, All2 (VD K) ds us → ∃ vs, Vals vs us ∧ ∀ ms F, Rps K ms F vs ds
  | _, _, .nil => ⟨[], .nil, fun _ _ => .nil⟩
  | _, _, .cons ⟨v, r, h⟩ t => by
    obtain ⟨vs, r2, h2⟩ := vds t
    exact ⟨v :: vs, .cons r r2, fun ms F => .cons (h ms F) (h2 ms F)⟩
theorem vOk_ok {K : Frg} : ∀ (n : Nat) (d : D) (u : Value), vOk K n d u = true → VD K d u := by
  intro n
  induction n with
  | zero =>
    intro d u h
    unfold vOk at h
    split at h
    · exact ⟨.non, rfl, fun _ _ => .non⟩
    · rename_i b c
      have e : b = c := by simpa using h
      subst e
      exact ⟨.bl b, rfl, fun _ _ => .bl b⟩
    · rename_i i j t
      have e : i = j := by simpa using h
      subst e
      exact ⟨.int i, ⟨t, rfl⟩, fun _ _ => .int i⟩
    · rename_i i j t
      have e : i = j := by simpa using h
      subst e
      exact ⟨.str i, ⟨t, rfl⟩, fun _ _ => .str i⟩
    · contradiction
    · cases h
  | succ n ih =>
    intro d u h
    unfold vOk at h
    split at h
    · exact ⟨.non, rfl, fun _ _ => .non⟩
    · rename_i b c
      have e : b = c := by simpa using h
      subst e
      exact ⟨.bl b, rfl, fun _ _ => .bl b⟩
    · rename_i i j t
      have e : i = j := by simpa using h
      subst e
      exact ⟨.int i, ⟨t, rfl⟩, fun _ _ => .int i⟩
    · rename_i i j t
      have e : i = j := by simpa using h
      subst e
      exact ⟨.str i, ⟨t, rfl⟩, fun _ _ => .str i⟩
    · rename_i m ds p e
      cases e
      split at h
      · rename_i c od its k sl e2
        obtain ⟨h1, h⟩ := He.ba h
        obtain ⟨h2, h3⟩ := He.ba h
        have e3 : c = "tuple" := of_decide_eq_true h1
        subst e3
        obtain ⟨vs, r, hr⟩ := vds (all2_ok ih h3)
        exact ⟨.ref p, rfl, fun ms F => .tup (.inr ⟨_, its, k, e2, rfl, rfl, Nat.le_trans (Nat.le_of_ble_eq_true h2) (by decide), r⟩) (hr ms F)⟩
      · cases h
    · cases h
/-! ### a dict of the module with text keys -/
def entB (K : Frg) (q : Str × D) (e : DictEntry) : Bool := (match e.key with | .str z _ => z == q.1 | _ => false) && vOk K 3 q.2 e.val
def EntD (K : Frg) (q : Str × D) (e : DictEntry) : Prop := (∃ t, e.key = .str q.1 t) ∧ VD K q.2 e.val
theorem entB_ok {K : Frg} (q : Str × D) (e : DictEntry) (h : entB K q e = true) : EntD K q e := by
  obtain ⟨h1, h2⟩ := He.ba h
  refine ⟨?_, vOk_ok _ _ _ h2⟩
  split at h1
  · rename_i z t e1
    have e : z = q.1 := by simpa using h1
    exact ⟨t, by rw [e1, e]⟩
  · cases h1
def bTab (x : Str) (tab : List (Str × D)) : Frg → Bool := fun K => match K.lookup (He.ga K x) with
  | some ⟨_, _, .dict es _, _⟩ => allB2 (entB K) tab es.toList
  | _ => false
def KTab (K : Frg) (w : World) (x : Str) (tab : List (Str × D)) : Prop := ∃ es n, KDict K w (He.ga K x) es n ∧ All2 (EntD K) tab es.toList
theorem tab_of {K : Frg} {w : World} {x : Str} {tab : List (Str × D)} (c : bTab x tab K = true) (d : ∃ es n, KDict K w (He.ga K x) es n) : KTab K w x tab := by
  obtain ⟨es, n, d⟩ := d
  unfold bTab at c
  rw [d.at_] at c
  exact ⟨es, n, d, all2_ok entB_ok c⟩
/-- what a key finds -/
theorem ents_find {K : Frg} {z : Str} : ∀ {tab : List (Str × D)} {es : List DictEntry}, All2 (EntD K) tab es →
    (∃ d e, tab.lookup z = some d ∧ es.find? (·.key.isStr z) = some e ∧ VD K d e.val) ∨ (tab.lookup z = none ∧ es.find? (·.key.isStr z) = none ∧ es.any (·.refKey) = false)
  | _, _, .nil => .inr ⟨rfl, rfl, rfl⟩
  | q :: tab, e :: es, .cons h t => by
    obtain ⟨⟨tk, hk⟩, hv⟩ := h
    have hs : e.key.isStr z = decide (q.1 = z) := by rw [hk]; rfl
    by_cases c : q.1 = z
    · refine .inl ⟨q.2, e, ?_, ?_, hv⟩
      · rw [show (q :: tab) = (q.1, q.2) :: tab from rfl, List.lookup_cons, ← c]
        simp
      · rw [List.find?_cons, hs, decide_eq_true c]
    · have l1 : (q :: tab).lookup z = tab.lookup z := by
        rw [show (q :: tab) = (q.1, q.2) :: tab from rfl, List.lookup_cons]
        have : (z == q.1) = false := by
          rw [beq_eq_false_iff_ne]
          exact fun e => c e.symm
        rw [this]
      have l2 : (e :: es).find? (·.key.isStr z) = es.find? (·.key.isStr z) := by rw [List.find?_cons, hs, decide_eq_false c]
      rcases ents_find (z := z) t with ⟨d, e', h1, h2, h3⟩ | ⟨h1, h2, h3⟩
      · exact .inl ⟨d, e', l1.trans h1, l2.trans h2, h3⟩
      · refine .inr ⟨l1.trans h1, l2.trans h2, ?_⟩
        rw [List.any_cons, h3, Bool.or_false]
        unfold DictEntry.refKey
        rw [hk]
theorem KTab.ns {K : Frg} {w : World} {x : Str} {tab : List (Str × D)} (kt : KTab K w x tab) (z : Str) :
    (∃ d u, tab.lookup z = some d ∧ PySem.W.nsIn K (He.ga K x) z = some (some u) ∧ VD K d u) ∨ (tab.lookup z = none ∧ PySem.W.nsIn K (He.ga K x) z = some none) := by
  obtain ⟨es, n, kd, h⟩ := kt
  have e : PySem.W.nsIn K (He.ga K x) z = (match es.toList.find? (·.key.isStr z) with
      | some e => some (some e.val)
      | none => if es.toList.any (·.refKey) then none else some none) := by
    unfold PySem.W.nsIn
    rw [kd.at_]
    rfl
  rcases ents_find (z := z) h with ⟨d, e', h1, h2, h3⟩ | ⟨h1, h2, h3⟩
  · exact .inl ⟨d, e'.val, h1, by rw [e, h2], h3⟩
  · exact .inr ⟨h1, by rw [e, h2, h3]; rfl⟩
section
variable {X : Cx} {B : Bs} {K : Frg} {ms : List Addr} {a b c e o : Expr} {es : List Expr} {ra rb rc r ro : Rd} {rl : RdA} {pos p0 apos : Pos}
def dIxT (x : Str) (tab : List (Str × D)) (dx dy : D) (Q : D → Prop) : Prop := match dx, dy with
  | .glob y, .str z => y = x ∧ (match tab.lookup z with | some d => Q d | none => False)
  | _, _ => False
theorem ixTL {w : World} {x : Str} {tab : List (Str × D)} (kt : KTab K w x tab) : OpL K ms (rIxD K w) (dIxT x tab) := by
  intro F H vx vy dx dy Qd Q hs rx ry h k
  unfold dIxT at h
  split at h
  · rename_i y z
    obtain ⟨rfl, h⟩ := h
    cases rx
    cases ry
    split at h
    · rename_i d e
      rcases kt.ns z with ⟨d', u, h1, h2, v, h3, h4⟩ | ⟨h1, _⟩
      · rw [e] at h1
        cases h1
        obtain ⟨es, n, kd, _⟩ := kt
        exact ⟨_, _, v, rfl, rfl, ⟨es, n, u, kd.at_, kd.lit, h2, h3⟩, k v F H d (Go.refl hs) (h4 ms F) h⟩
      · rw [e] at h1
        cases h1
    · exact h.elim
  · exact h.elim
theorem y_ixT {x : Str} {tab : List (Str × D)} (kt : KTab X.K X.w x tab) (ha : PEp X B a ra) (hb : PEp X B b rb) (hs : PlainIx b) : PEp X B (.Subscript a b pos) (fun ρ Q => ra ρ fun x' => rb ρ fun y => dIxT x tab x' y Q) := pe_imp (pe_ix ix_kdict ha hb hs) (tOp_of (ixTL kt))
/-- key in d -/
def dInT (neg : Bool) (x : Str) (tab : List (Str × D)) (dx dy : D) (Q : D → Prop) : Prop := match dx, dy with
  | .str z, .glob y => y = x ∧ Q (.bl (neg != (tab.lookup z).isSome))
  | _, _ => False
theorem inTL {w : World} {x : Str} {tab : List (Str × D)} (kt : KTab K w x tab) : OpL K ms (fun vx vy H Q => ∃ (z : Str) (r : Option Value), vx = .str z ∧ vy = .ref (He.ga K x) ∧ PySem.W.nsIn K (He.ga K x) z = some r ∧ Q (.bl r.isSome) H) (dInT false x tab) := by
  intro F H vx vy dx dy Qd Q hs rx ry h k
  unfold dInT at h
  split at h
  · rename_i z y
    obtain ⟨rfl, h⟩ := h
    cases rx
    cases ry
    rw [Bool.false_bne] at h
    rcases kt.ns z with ⟨d', u, h1, h2, _⟩ | ⟨h1, h2⟩
    · exact ⟨z, some u, rfl, rfl, h2, k _ F H _ (Go.refl hs) (.bl _) (by rw [h1] at h; exact h)⟩
    · exact ⟨z, none, rfl, rfl, h2, k _ F H _ (Go.refl hs) (.bl _) (by rw [h1] at h; exact h)⟩
  · exact h.elim
theorem ninTL {w : World} {x : Str} {tab : List (Str × D)} (kt : KTab K w x tab) : OpL K ms (fun vx vy H Q => ∃ (z : Str) (r : Option Value), vx = .str z ∧ vy = .ref (He.ga K x) ∧ PySem.W.nsIn K (He.ga K x) z = some r ∧ Q (.bl (!r.isSome)) H) (dInT true x tab) := by
  intro F H vx vy dx dy Qd Q hs rx ry h k
  unfold dInT at h
  split at h
  · rename_i z y
    obtain ⟨rfl, h⟩ := h
    cases rx
    cases ry
    rw [Bool.true_bne] at h
    rcases kt.ns z with ⟨d', u, h1, h2, _⟩ | ⟨h1, h2⟩
    · exact ⟨z, some u, rfl, rfl, h2, k _ F H _ (Go.refl hs) (.bl _) (by rw [h1] at h; exact h)⟩
    · exact ⟨z, none, rfl, rfl, h2, k _ F H _ (Go.refl hs) (.bl _) (by rw [h1] at h; exact h)⟩
  · exact h.elim
theorem op_inT {x : Str} {tab : List (Str × D)} (kt : KTab X.K X.w x tab) : OpR X (compareOp .In) (fun vx vy H Q => ∃ (z : Str) (r : Option Value), vx = .str z ∧ vy = .ref (He.ga X.K x) ∧ PySem.W.nsIn X.K (He.ga X.K x) z = some r ∧ Q (.bl r.isSome) H) := by
  obtain ⟨es, n, kd, _⟩ := kt
  exact op_in_kd kd
theorem op_ninT {x : Str} {tab : List (Str × D)} (kt : KTab X.K X.w x tab) : OpR X (compareOp .NotIn) (fun vx vy H Q => ∃ (z : Str) (r : Option Value), vx = .str z ∧ vy = .ref (He.ga X.K x) ∧ PySem.W.nsIn X.K (He.ga X.K x) z = some r ∧ Q (.bl (!r.isSome)) H) := by
  obtain ⟨es, n, kd, _⟩ := kt
  exact op_notIn_kd kd
/-! ### d.items() -/
def ItK (es : Array DictEntry) : It :=
  ⟨fun i _ => i < es.size, fun i H v H' => ∃ (T : Addr) (k x : V) (e : DictEntry), v = .ref T ∧ H T = none ∧ H' = upd H T (.tup [k, x]) ∧ es[i]? = some e ∧ RelV k e.key ∧ RelV x e.val, fun i _ => es.size ≤ i⟩
/-- every key and value has a reading -/
def Read (es : Array DictEntry) : Prop := ∀ (i : Nat) (e : DictEntry), es[i]? = some e → (∃ k, RelV k e.key) ∧ ∃ v, RelV v e.val
theorem turn_itemsK {P : Program} {w : World} {K : Frg} {d : Addr} {es : Array DictEntry} {ep : Nat} {elts : List Expr} {kk : Nat} {tpos : Pos} (it : Addr) (kd : KDict K w d es ep) (rd : Read es) :
    Turn P w K (.Tuple elts kk tpos) (ItK es) [it] it (fun i h => ∃ ok ov, IsItemIter h it d i es.size ep ok ov) where
  mem := by simp
  obj := fun i h st b hb => by
    have e : b = it := by simpa using hb
    subst e
    obtain ⟨ok, ov, e⟩ := st
    exact ⟨_, e, fun v z => nomatch z⟩
  keep := fun i h h' st k => let ⟨ok, ov, e⟩ := st; ⟨ok, ov, k it (by simp) _ e⟩
  item := by
    intro X hP hw hK hc i pins s σ H E I hf st hg
    subst hP hw hK
    have hi : i < es.size := hg
    have raw : s.heap.DictRaw d es ep := ⟨_, I.kIn _ _ kd.at_, ⟨rfl, rfl, rfl⟩, rfl⟩
    obtain ⟨ok, ov, he⟩ := st
    have hlt : it < s.heap.objs.size := Heap.lt_size he
    have hei : es[i]? = some es[i] := Array.getElem?_eq_getElem hi
    obtain ⟨⟨k, rk⟩, v, rv⟩ := rd i _ hei
    refine wpAny_pyNext_items_item_raw he raw hi fun h' ho hT hz hk => ?_
    refine ⟨_, rfl, wpAny_letOwnedTupleGo_items (s := { s with heap := h' }) ho fun h'' he' sb => ?_⟩
    have hT2 : h''.get? s.heap.objs.size = some { cls := .type "tuple", data := .seq #[es[i].key, es[i].val] } := (sb.2 _ (Nat.ne_of_gt hlt)).trans hT
    have new : ObjOk X.prog X.w (upd H s.heap.objs.size (.tup [k, v])) h'' s.heap.objs.size (.tup [k, v]) :=
      ⟨by show 2 ≤ sizeLine; decide, [es[i].key, es[i].val], .cons rk (.cons rv .nil), ⟨_, hT2, rfl, _, rfl⟩⟩
    have I1 : L2.Inv X pins σ (upd H s.heap.objs.size (.tup [k, v])) { s with heap := h'' } :=
      I.turnedNew (t' := s.toks) (ch := [it]) (fun b ob hb e => (sb.2 b (by simpa using hb)).trans (hk b ob (by simpa using hb) e)) hf (Nat.le_refl _) new
    refine ⟨.ref s.heap.objs.size, _, I1, rfl, ⟨_, k, v, _, rfl, I.hok.fresh (Nat.le_refl _), rfl, hei, rk, rv⟩, ⟨_, _, he'⟩, fun b hb => ?_⟩
    have e : b = it := by simpa using hb
    rw [e, upd_ne (Nat.ne_of_lt hlt)]
    exact (hf it (by simp)).1
  done := by
    intro X hP hw hK hc i pins s σ H E I hf st hg
    subst hP hw hK
    have raw : s.heap.DictRaw d es ep := ⟨_, I.kIn _ _ kd.at_, ⟨rfl, rfl, rfl⟩, rfl⟩
    obtain ⟨f0, f1, f2, f3, f4, f5⟩ := hf it (by simp)
    obtain ⟨ok, ov, he⟩ := st
    exact wpAny_pyNext_items_end_raw (I.ok.hd hc) he raw hg fun h' eb => ⟨rfl, I.turned (t' := s.toks) (fun b ob hb e => eb b ob hb e) f0 f1 f3 f4 f5⟩
  self := fun A i s Q E st h => let ⟨_, _, e⟩ := st; PySem.W.kcp_self e h
def itemsD (tab : List (Str × D)) : List D := tab.map fun q => .tup [.str q.1, q.2]
theorem i_itemsT {x : Str} {tab : List (Str × D)} {elts : List Expr} {kk : Nat} {tpos cpos : Pos} (kt : KTab X.K X.w x tab) (he : PEp X B e r) (hbase : attributeBase e "items" X.env (eval e X.env) = eval e X.env := by rfl) (hline : (apos.endLine == cpos.line) = true := by rfl) :
    PIp X B (.Tuple elts kk tpos) (.Call (.Attribute e "items" apos) [] [] cpos) (fun ρ Q => r ρ fun d => d = .glob x ∧ Q (itemsD tab)) := by
  refine ⟨fun pins s σ H R I h => ?_⟩
  obtain ⟨F0, ρ, Qd, J, z, kk0⟩ := h
  obtain ⟨es, n, kd, al⟩ := kt
  refine wpAny_Call_method (T := "dict") (id := "dict.items") hbase rfl hline F.plainAttrs_dict F.slot_dict_items F.type_dict_items (thn (he.run pins s σ H (fun v H1 => ∃ F1, Go B.ms F0 H F1 H1 ∧ Tp X.K B.ms F1 H1 ∧ v = .ref (He.ga X.K x) ∧ Qd (itemsD tab)) I ⟨F0, ρ, _, J, z, fun v F1 H1 d g1 t1 r1 z1 => by
    obtain ⟨rfl, z1⟩ := z1
    cases r1
    exact ⟨F1, g1, t1, rfl, z1⟩⟩) fun u s1 ⟨y, H1, I1, rx, F1, g1, t1, ey, q⟩ => ?_)
  subst ey
  obtain rfl : u = Value.ref (He.ga X.K x) := rx
  have raw : s1.heap.DictRaw (He.ga X.K x) es n := ⟨_, I1.kIn _ _ kd.at_, ⟨rfl, rfl, rfl⟩, rfl⟩
  have rd : Read es := fun i e he => by
    have hi : i < es.toList.length := by
      rcases Nat.lt_or_ge i es.size with y | y
      · simpa using y
      · rw [Array.getElem?_eq_none y] at he; cases he
    have hl := al.len
    have ht : tab[i]? = some tab[i] := List.getElem?_eq_getElem (by omega)
    obtain ⟨⟨t, h1⟩, v, h2, _⟩ := al.get ht (b := e) (by simpa using he)
    exact ⟨⟨.str (tab[i]).1, by rw [h1]; exact ⟨t, rfl⟩⟩, v, h2⟩
  refine ⟨raw.typeIs, (PySem.W.mapOf_K (prog := X.prog) (w := X.w) I1.kIn kd.at_ kd.lit).noDict, ?_⟩
  have I2 : L2.Inv X pins σ H1 { s1 with heap := s1.heap.push { cls := .type "dict_items", data := .fields #[.ref (He.ga X.K x)] } } := I1.kept (t' := s1.toks) fun b ob q => Heap.get?_push_of_some _ q
  have fin : wpAny (model X.prog X.w) X.A (pyIter (.ref s1.heap.objs.size)) (PIE X pins σ (.Tuple elts kk tpos) R) X.xe { s1 with heap := s1.heap.push { cls := .type "dict_items", data := .fields #[.ref (He.ga X.K x)] } } := by
    refine wpAny_pyIter_items_raw (d := He.ga X.K x) (es := es) (ep := n) ⟨_, Heap.get?_push_size _ rfl, rfl, rfl⟩ (raw.at fun o e => Heap.get?_push_of_some _ e) (pi_one (tk := s1.toks) I2 _ (turn_itemsK _ kd rd) ⟨.none, .none, Heap.get?_push_size _ rfl⟩ ?_)
    have hl := al.len
    refine kk0 _ F1 H1 (itemsD tab) g1 t1 ⟨fun _ => True, fun i H v H' => ∃ (T : Addr) (k x : V) (e : DictEntry), v = .ref T ∧ H T = none ∧ H' = upd H T (.tup [k, x]) ∧ es[i]? = some e ∧ RelV k e.key ∧ RelV x e.val, ⟨fun i H hi _ => ?_, fun H _ => ?_, fun _ _ _ _ _ _ y => y⟩, fun _ _ _ _ => trivial, ?_⟩ q
    · show i < es.size
      have hi' : i < tab.length := by simpa [itemsD] using hi
      have hl' : tab.length = es.size := by simpa using hl
      omega
    · show es.size ≤ (itemsD tab).length
      have hl' : tab.length = es.size := by simpa using hl
      simp [itemsD, hl']
    · rintro i F2 H2 y H2' d s0 s' ⟨T, k, v, e, rfl, hT, rfl, hie, rk, rv⟩ hd
      unfold itemsD at hd
      rw [List.getElem?_map] at hd
      obtain ⟨q0, q1, rfl⟩ := Option.map_eq_some_iff.mp hd
      obtain ⟨⟨t, h1⟩, v', h2, h3⟩ := al.get q1 (b := e) (by simpa using hie)
      have ev : v = v' := rv.inj h2
      subst ev
      have ek : k = .str q0.1 := by
        rw [h1] at rk
        exact rk.inj ⟨t, rfl⟩
      subst ek
      obtain ⟨F3, g3, q3, _⟩ := newE s' hT rfl
      exact ⟨F3, g3, .tup (SqT.of q3) (.cons (.str _) (.cons (h3 _ F3) .nil))⟩
  show wpAny _ _ (callWith cpos (.builtin "dict.items") [.ref (He.ga X.K x)] [] []) _ X.xe s1
  exact method_meetsIn F.slot_dict_items F.entry_dict_items rfl (PySem.evalArgs_none ⟨rfl, raw.typeIs, F.args_dict_items_1 _, _, meets_dict_items_raw (He.ga X.K x) kd.low, ⟨es, n, raw⟩, fin⟩)
/-- d.get(k, x) -/
def dGetT (tab : List (Str × D)) (y z : D) (Q : D → Prop) : Prop := match y with
  | .str k => Q ((tab.lookup k).getD z)
  | _ => False
theorem y_getT {x : Str} {tab : List (Str × D)} {f : Expr} {rf : Rd} {cpos : Pos} (kt : KTab X.K X.w x tab) (ho : PEp X B o ro) (he : PEp X B e r) (hf : PEp X B f rf) (m : M2 X o "get" apos e f cpos := by exact ⟨rfl, rfl, rfl, rfl⟩) :
    PEp X B (.Call (.Attribute o "get" apos) [e, f] [] cpos) (fun ρ Q => ro ρ fun d => d = .glob x ∧ r ρ fun y => rf ρ fun z => dGetT tab y z Q) := by
  refine ⟨fun pins s σ H Q I h => ?_⟩
  obtain ⟨F0, ρ, Qd, J, z, k0⟩ := h
  obtain ⟨es, n, kd, al⟩ := id kt
  refine wpAny_Call_method m.base m.few m.line PySem.F.plainAttrs_dict PySem.F.slot_dict_get PySem.F.type_dict_get (thn (ho.run pins s σ H (fun v H1 => ∃ F1, Go B.ms F0 H F1 H1 ∧ Tp X.K B.ms F1 H1 ∧ v = .ref (He.ga X.K x) ∧ r ρ fun y => rf ρ fun z => dGetT tab y z Qd) I ⟨F0, ρ, _, J, z, fun v F1 H1 d g1 t1 r1 z1 => by
    obtain ⟨rfl, z1⟩ := z1
    cases r1
    exact ⟨F1, g1, t1, rfl, z1⟩⟩) fun u s1 ⟨y, H1, I1, rx, F1, g1, t1, ey, q⟩ => ?_)
  subst ey
  obtain rfl : u = Value.ref (He.ga X.K x) := rx
  have mp := PySem.W.mapOf_K (prog := X.prog) (w := X.w) I1.kIn kd.at_ kd.lit
  refine ⟨mp.typeIs, mp.noDict, ?_⟩
  rw [m.trees]
  refine Calls.callWith_builtin rfl (Calls.evalArgs_plain (Calls.spliced_cons (thn (he.run pins s1 σ H1 (fun v H2 => ∃ F2 d, Go B.ms F1 H1 F2 H2 ∧ Tp X.K B.ms F2 H2 ∧ Rp X.K B.ms F2 v d ∧ rf ρ fun z => dGetT tab d z Qd) I1 ⟨F1, ρ, _, J.step g1 t1, q, fun v F2 H2 d g2 t2 r2 z2 => ⟨F2, d, g2, t2, r2, z2⟩⟩) fun iv s2 ⟨y, H2, I2, ry, F2, d2, g2, t2, r2, q2⟩ =>
    Calls.spliced_cons (thn (hf.run pins s2 σ H2 (fun v H3 => ∃ F3 d, Go B.ms F2 H2 F3 H3 ∧ Tp X.K B.ms F3 H3 ∧ Rp X.K B.ms F3 v d ∧ dGetT tab d2 d Qd) I2 ⟨F2, ρ, _, (J.step g1 t1).step g2 t2, q2, fun v F3 H3 d g3 t3 r3 z3 => ⟨F3, d, g3, t3, r3, z3⟩⟩) fun fv s3 ⟨z, H3, I3, rz, F3, d3, g3, t3, r3, q3⟩ => Calls.spliced_nil ?_))))
  cases d2 with
  | str k =>
    cases r2
    have q3 : Qd ((tab.lookup k).getD d3) := q3
    obtain ⟨t, rfl⟩ := (show ∃ t, iv = Value.str k t from ry)
    have mp3 := PySem.W.mapOf_K (prog := X.prog) (w := X.w) I3.kIn kd.at_ kd.lit
    refine call_meetsIn PySem.F.slot_dict_get mp3.typeIs PySem.F.entry_dict_get (PySem.F.args_dict_get_3 _ _ _) (meets_dict_get_default (strKind X.prog X.w) (He.ga X.K x) (strKind_is X.prog X.w k t) kd.low fv) ⟨_, mp3, ?_⟩
    have g13 := (g1.trans g2).trans g3
    rcases kt.ns k with ⟨d, u, h1, h2, v, h3, h4⟩ | ⟨h1, h2⟩
    · rw [PySem.W.find_K kd.at_ h2]
      rw [h1] at q3
      exact ⟨v, H3, I3.tok _, h3, k0 v F3 H3 _ g13 t3 (h4 _ _) q3⟩
    · rw [PySem.W.find_K kd.at_ h2]
      rw [h1] at q3
      exact ⟨z, H3, I3.tok _, rz, k0 z F3 H3 _ g13 t3 r3 q3⟩
  | _ => exact q3.elim
end
end Y
namespace Z
open PySem PySem.Spec PyProof.Rows L2
open PySem.W
section
variable {prog : Program} {w : World} {A : Around} {E : Value → Shared → Prop} {s : Shared} {K : Frg} {x C C' L f f' : Addr} {h₀ : Heap} {m : Str → Option Value} {ox : Obj} {od : Option Obj}
/-- a op b, b of another own class that has the operation, too -/
theorem binop_O {op : Operator} {b : Value} {rc rc' : Option Value} {Q : Value → Shared → Prop} (F : Fr h₀ L s.heap m) (X₀ : K.In h₀) (I : InstAt s.heap x ox C od) (hb : Looks (model prog w) s.heap (typeOf b) (.ref C')) (hc : selfFirst K C = true) (hc' : selfFirst K C' = true)
    (hs : findIn K (.ref C) (PySem.dunder op.info.2) = some (some (.ref f))) (hf : isFn K (.ref f) = true) (hr : findIn K (.ref C) (dunderR op.info.2) = some rc) (hp : rc = none ∨ ∃ g : Addr, rc = some (.ref g))
    (hs' : findIn K (.ref C') (PySem.dunder op.info.2) = some (some (.ref f'))) (hr' : findIn K (.ref C') (dunderR op.info.2) = some rc') (hp' : rc' = none ∨ ∃ g : Addr, rc' = some (.ref g)) (hsub : subIn K (.ref C') (.ref C) = some false) (hn : C ≠ C')
    (h : wpAny (model prog w) A (call (.ref f) [.ref x, b]) (PySem.W.CmpBack Q) E s) : wpAny (model prog w) A (binaryOp op (.ref x) b) Q E s := by
  have X := X₀.keeps F.keep
  obtain ⟨cd, rest, hcd, hm⟩ := ksp_first hc
  obtain ⟨cd', rest', hcd', hm'⟩ := ksp_first hc'
  rcases hi : op.info with ⟨sym, nm'⟩
  rw [hi] at hs hr hs' hr'
  dsimp only at hs hr hs' hr'
  have one := ksp_try X I hs hf h
  obtain ⟨hh, g, d, tt, os⟩ := s
  have L1 : Looks (model prog w) hh (typeOf (.ref x)) (.ref C) := I.type
  have L2 : Looks (model prog w) hh (typeOf b) (.ref C') := hb
  have L3 : Looks (model prog w) hh (fillsNumberSlot (.ref C) nm') true := fills_K X hcd hm hs
  have L4 : Looks (model prog w) hh (fillsNumberSlot (.ref C') nm') true := fills_K X hcd' hm' hs'
  have L5 : Looks (model prog w) hh (isSubtype (.ref C') (.ref C)) false := looks_subIn X hsub
  have L6 : Looks (model prog w) hh (numberSlotInPython (.ref C) nm') true := ksp_inPy X hs hr hp
  have L7 : Looks (model prog w) hh (numberSlotInPython (.ref C') nm') true := ksp_inPy X hs' hr' hp'
  have hne : (Value.ref C == Value.ref C') = false := Bool.eq_false_iff.mpr fun q => by
    have := beq_iff_eq.mp q
    cases this
    exact hn rfl
  simp only [binaryOp, hi]
  refine wpAny_holding (wpAny_bind ?_)
  unfold binaryOp1
  refine wpAny_bind (L1.at (wpAny_bind (L2.at (wpAny_bind (L3.at ?_)))))
  simp only [hne, Bool.false_eq_true, if_false]
  ksp_lk
  refine wpAny_mono one (fun r s' hr' => ?_) fun _ _ e => e
  obtain ⟨v, rfl, hq⟩ := hr'
  ksp_lk
  exact hq
end
section
variable {X : Cx} {CX : CXT} {k : Nat} {f C C' p g g' : Addr} {sp : Sp} {E : XK} {x m : Str} {p0 pos apos : Pos} {e o a b : Expr} {es : List Expr} {ta tb : TE} {t : TA} {pins : List (Addr × Obj)} {σ : L2.St} {H : Hp} {s : Shared}
/-- what a op b asks of two own classes -/
structure Bin2 (K : Frg) (nm : String) (C C' g g' : Addr) : Prop where
  hr : ∃ rc, PySem.W.findIn K (.ref C) (dunderR nm) = some rc ∧ (rc = none ∨ ∃ g : Addr, rc = some (.ref g))
  hr' : ∃ rc, PySem.W.findIn K (.ref C') (dunderR nm) = some rc ∧ (rc = none ∨ ∃ g : Addr, rc = some (.ref g))
  hs' : PySem.W.findIn K (.ref C') (PySem.dunder nm) = some (some (.ref g'))
  hc : selfFirst K C = true
  hc' : selfFirst K C' = true
  hsub : subIn K (.ref C') (.ref C) = some false
  hn : C ≠ C'
def rBin2 (C C' : Addr) (sp : Sp) (E : XK) : R2 := fun x y H Q => ∃ a dx fs b dy gs, x = .ref a ∧ y = .ref b ∧ H a = some (.ins C dx fs) ∧ H b = some (.ins C' dy gs) ∧ sp [x, y] H Q E
theorem gop_bin2 {op : Operator} (b2 : Bin2 X.K op.info.2 C C' g g') (hs : PySem.W.findIn X.K (.ref C) (PySem.dunder op.info.2) = some (some (.ref g))) (hf : PySem.W.isFn X.K (.ref g) = true) (F : FnA X.A X.prog X.w X.K X.mg X.base CX g sp) (hx : Passes CX X E) : OpR X (binaryOp op) (rBin2 C C' sp E) := by
  intro pins s σ H x y v u Q I rx ry h
  obtain ⟨a, dx, fs, b, dy, gs, rfl, rfl, ea, eb, q⟩ := h
  cases (show v = Value.ref a from rx)
  cases (show u = Value.ref b from ry)
  obtain ⟨mA, O, _, _, _, _⟩ := ins_get I.hok ea
  obtain ⟨od, J, _⟩ := O.look
  obtain ⟨mB, O', _, _, _, _⟩ := ins_get I.hok eb
  obtain ⟨od', J', _⟩ := O'.look
  obtain ⟨m, hF⟩ := I.fr
  obtain ⟨rc, r1, r2⟩ := b2.hr
  obtain ⟨rc', r3, r4⟩ := b2.hr'
  refine binop_O hF I.ok.mod.kin J J'.type b2.hc b2.hc' hs hf r1 r2 b2.hs' r3 r4 b2.hsub b2.hn ?_
  refine wpAny_mono (wpAny_call (run_fnA (us := [.ref a, .ref b]) (vs := [.ref a, .ref b]) F hx I (.cons rfl (.cons rfl .nil)) q)) (fun w s' z => ?_) fun _ _ x => x
  obtain ⟨z', H', I', rz, qz⟩ := z
  exact SlX.cmpback rz ⟨z', H', I', rz, qz⟩
/-- a op b, b of a built-in type -/
structure BinT (K : Frg) (nm : String) (C : Addr) (T : String) : Prop where
  hr : ∃ rc, PySem.W.findIn K (.ref C) (dunderR nm) = some rc ∧ (rc = none ∨ ∃ g : Addr, rc = some (.ref g))
  h1 : ∃ fo, PySem.W.findIn K (.type T) (PySem.dunder nm) = some fo
  h2 : ∃ ro, PySem.W.findIn K (.type T) (dunderR nm) = some ro
  hc : selfFirst K C = true
  hsub : subIn K (.type T) (.ref C) = some false
/-- ~a -/
def rUnO (C : Addr) (sp : Sp) (E : XK) : V → Hp → VK → Prop := fun x H Q => ∃ a dx fs, x = .ref a ∧ H a = some (.ins C dx fs) ∧ sp [x] H Q E
theorem gop_inv (hs : PySem.W.findIn X.K (.ref C) "__invert__" = some (some (.ref g))) (hf : PySem.W.isFn X.K (.ref g) = true) (F : FnA X.A X.prog X.w X.K X.mg X.base CX g sp) (hx : Passes CX X E) : UnR X (unaryOp .Invert) (rUnO C sp E) := by
  intro pins s σ H x v Q I rx h
  obtain ⟨a, dx, fs, rfl, ea, q⟩ := h
  cases (show v = Value.ref a from rx)
  obtain ⟨mA, O, _, _, _, _⟩ := ins_get I.hok ea
  obtain ⟨od, J, _⟩ := O.look
  obtain ⟨m, hF⟩ := I.fr
  refine PySem.W.ksp_inv hF I.ok.mod.kin J hs hf ?_
  exact wpAny_call (run_fnA (us := [.ref a]) (vs := [.ref a]) F hx I (.cons rfl .nil) q)
/-- o(e, ..) of an instance -/
theorem gcallO {tf : TE} {fe : Expr} (hf : PE X fe tf) (c : StX.CallO X.K C g) (F : FnA X.A X.prog X.w X.K X.mg X.base CX g sp) (hx : Passes CX X E) (ha : PA X (e :: es) t)
    (ht : eval (.Call fe (e :: es) [] pos) X.env = (do callWith pos (← eval fe X.env) [] (backTo pos (starEach (e :: es) X.env)) (backToKw pos (keywordEach [] X.env))) := by rfl)
    (he : starEach (e :: es) X.env = (false, eval e X.env) :: starEach es X.env := by rfl) (hpl : (backTo pos (starEach es X.env)).any (·.1) = false := by rfl) : PE X (.Call fe (e :: es) [] pos) (StX.tCallO X C sp E tf t) := by
  refine ⟨fun pins s σ H Q I h => ?_⟩
  refine Call_ (thn (hf.run pins s σ H _ I h) fun u s1 ⟨y, H1, I1, ry, a, ey, q⟩ => ?_) ht
  subst ey
  obtain rfl : u = Value.ref a := ry
  refine StX.callO_with (thn (ha.run pos pins s1 σ H1 _ I1 q) fun us s2 ⟨vs, H2, I2, r, hi, q2⟩ => ?_) he hpl
  obtain ⟨ox, od, J, hd⟩ := StX.insC_at I2 hi
  exact ⟨⟨C, ox, od, J, hd⟩, wpAny_call (PySem.W.kco_code I2.kIn J hd c.at_ c.fn c.fi (run_fnA (us := .ref a :: us) (vs := .ref a :: vs) F hx I2 (.cons rfl r) q2))⟩
end
/-! ### facts -/
def rcB (K : Frg) (C : Addr) (nm : String) : Bool := match PySem.W.findIn K (.ref C) (dunderR nm) with
  | some none => true
  | some (some (.ref _)) => true
  | _ => false
theorem rcB_ok {K : Frg} {C : Addr} {nm : String} (h : rcB K C nm = true) : ∃ rc, PySem.W.findIn K (.ref C) (dunderR nm) = some rc ∧ (rc = none ∨ ∃ g : Addr, rc = some (.ref g)) := by
  unfold rcB at h
  split at h
  · rename_i e; exact ⟨_, e, .inl rfl⟩
  · rename_i g e; exact ⟨_, e, .inr ⟨g, rfl⟩⟩
  · cases h
def bBin2 (x y : Str) (nm : String) (dn : Str) : Frg → Bool := fun K => rcB K (He.ga K x) nm && (rcB K (He.ga K y) nm && (He.eqO (PySem.W.findIn K (.ref (He.ga K y)) (PySem.dunder nm)) (some (some (.ref (He.ma K (He.ga K y) dn)))) && (selfFirst K (He.ga K x) && (selfFirst K (He.ga K y) && (decide (subIn K (.ref (He.ga K y)) (.ref (He.ga K x)) = some false) && decide (He.ga K x ≠ He.ga K y))))))
theorem bin2_of {K : Frg} {x y dn : Str} {nm : String} {g : Addr} (h : bBin2 x y nm dn K = true) : Bin2 K nm (He.ga K x) (He.ga K y) g (He.ma K (He.ga K y) dn) := by
  obtain ⟨h1, h⟩ := He.ba h
  obtain ⟨h2, h⟩ := He.ba h
  obtain ⟨h3, h⟩ := He.ba h
  obtain ⟨h4, h⟩ := He.ba h
  obtain ⟨h5, h⟩ := He.ba h
  obtain ⟨h6, h7⟩ := He.ba h
  exact ⟨rcB_ok h1, rcB_ok h2, He.eqO_ok h3, h4, h5, of_decide_eq_true h6, of_decide_eq_true h7⟩
def bCallO (x : Str) : Frg → Bool := fun K => He.eqO (PySem.W.findIn K (.ref (He.ga K x)) "__call__") (some (some (.ref (He.ma K (He.ga K x) "__call__")))) && (PySem.W.isFn K (.ref (He.ma K (He.ga K x) "__call__")) && PySem.W.fnIn K (He.ma K (He.ga K x) "__call__"))
theorem callO_of {K : Frg} {x : Str} (h : bCallO x K = true) : StX.CallO K (He.ga K x) (He.ma K (He.ga K x) "__call__") := by
  obtain ⟨h1, h⟩ := He.ba h
  obtain ⟨h2, h3⟩ := He.ba h
  exact ⟨He.eqO_ok h1, h2, h3⟩
end Z
namespace Y
open PySem PySem.Spec PyProof.Rows L2 Z
section
variable {X : Cx} {B : Bs} {K : Frg} {ms : List Addr} {a b c e o : Expr} {es : List Expr} {ra rb rc r ro : Rd} {rt ru : RdT} {rl : RdA} {pos p0 apos : Pos} {R : RdF} {k : Nat} {f g p : Addr} {x m : Str} {s1 s2 : RdS}
def dBin2 (B : Bs) (R : RdF) (C : Str) (ns : List Str) (C' : Str) (ns' : List Str) (x y : D) (Q : D → Prop) : Prop := asO [C] ns x (asO [C'] ns' y (R [x, y] Q B.Ed))
theorem bin2L {C C' : Str} {ns ns' : List Str} : OpI K B (rBin2 (He.ga K C) (He.ga K C') (spP K R) (EE K B)) (dBin2 B R C ns C' ns') := by
  intro F H x y dx dy Qd Q g0 t0 rx ry h k
  obtain ⟨a, d1, f1, c1, rfl, hc1, h1, hh⟩ := asO_of rx h
  obtain ⟨b, d2, f2, c2, rfl, hc2, h2, hhh⟩ := asO_of ry hh
  have e1 : c1 = C := by simpa using hc1
  have e2 : c2 = C' := by simpa using hc2
  subst e1
  subst e2
  exact ⟨a, d1, f1, b, d2, f2, rfl, rfl, t0.1 _ _ h1, t0.1 _ _ h2, sp_callG g0 t0 (.cons rx (.cons ry .nil)) k hhh⟩
/-- ~o -/
theorem y_inv {C : Str} {ns : List Str} (hs : PySem.W.findIn X.K (.ref (He.ga X.K C)) "__invert__" = some (some (.ref g))) (hf : PySem.W.isFn X.K (.ref g) = true) (F : FnA X.A X.prog X.w X.K X.mg X.base (L2.CX X.prog X.w) g (spP X.K R)) (hx : Px X B) (ha : PEp X B a ra) :
    PEp X B (.UnaryOp .Invert a pos) (fun ρ Q => ra ρ fun x => asO [C] ns x (R [x] Q B.Ed)) :=
  pe_imp (pe_un (gop_inv hs hf F hx) ha) fun σ H Q ⟨F0, ρ, Qd, I, z, kk⟩ => ⟨F0, ρ, _, I, z, fun v F1 H1 d g1 t1 r1 z1 => by
    obtain ⟨a, d1, f1, c1, rfl, hc1, h1, hh⟩ := asO_of r1 z1
    have e1 : c1 = C := by simpa using hc1
    subst e1
    exact ⟨a, d1, f1, rfl, t1.1 _ _ h1, sp_call I kk g1 t1 (.cons r1 .nil) hh⟩⟩
/-- o(e, ..) -/
theorem y_callO {C : Str} {ns : List Str} (ho : PEp X B o ro) (c : StX.CallO X.K (He.ga X.K C) g) (F : FnA X.A X.prog X.w X.K X.mg X.base (L2.CX X.prog X.w) g (spP X.K R)) (hx : Px X B) (ha : PAp X B (e :: es) rl)
    (ht : eval (.Call o (e :: es) [] pos) X.env = (do callWith pos (← eval o X.env) [] (backTo pos (starEach (e :: es) X.env)) (backToKw pos (keywordEach [] X.env))) := by rfl)
    (he : starEach (e :: es) X.env = (false, eval e X.env) :: starEach es X.env := by rfl) (hpl : (backTo pos (starEach es X.env)).any (·.1) = false := by rfl) :
    PEp X B (.Call o (e :: es) [] pos) (fun ρ Q => ro ρ fun x => asO [C] ns x (rl ρ fun ds => R (x :: ds) Q B.Ed)) :=
  pe_imp (gcallO ho c F hx ha ht he hpl) fun σ H Q ⟨F0, ρ, Qd, I, z, kk⟩ => ⟨F0, ρ, _, I, z, fun v F1 H1 d g1 t1 r1 z1 => by
    obtain ⟨a, d1, f1, c1, rfl, hc1, h1, hh⟩ := asO_of r1 z1
    have e1 : c1 = C := by simpa using hc1
    subst e1
    exact ⟨a, rfl, F1, ρ, _, I.step g1 t1, hh, fun vs F2 H2 ds g2 t2 r2 z2 => ⟨.inr ⟨d1, f1, t2.1 _ _ (g2.ff _ _ h1)⟩, sp_call I kk (g1.trans g2) t2 (.cons (r1.up g2.ff) r2) z2⟩⟩⟩
/-- a tuple of the module -/
def bVD (x : Str) (d : D) : Frg → Bool := fun K => vOk K 4 d (.ref (He.ga K x))
theorem vd_of {x : Str} {d : D} (h : bVD x d K = true) : VD K d (.ref (He.ga K x)) := vOk_ok _ _ _ h
theorem y_globD {x : Str} {d : D} (hg : Gl X x) (h : X.mg x = some (.ref (He.ga X.K x))) (hv : VD X.K d (.ref (He.ga X.K x))) (hd : (x == ("__debug__" : Str)) = false := by decide) : PEp X B (.Name x pos) (rC d) :=
  pe_imp (pe_glob (v := .ref (He.ga X.K x)) hg h rfl hd) fun σ H Q ⟨F, ρ, Qd, I, z, k⟩ => by
    obtain ⟨v, r1, r2⟩ := hv
    have e : v = .ref (He.ga X.K x) := r1.inj rfl
    subst e
    exact k _ F H _ (Go.refl I.same) I.tp (r2 _ _) z
def bDfl (f : Str × Option Str) (d : D) : Frg → Bool := fun K => vOk K 4 d (.ref (He.dflAt f 0 K))
theorem defD_of {x qual : Str} {st : Stmt} {f p : Addr} {d : D} (h : ∃ fd, L2.FunD K x qual (defArgs st) (defBody st) (defScope st) [.ref p] [] f fd) (c : vOk K 4 d (.ref p) = true) : DefAtD K x qual st f d := by
  obtain ⟨fd, h⟩ := h
  obtain ⟨v, r1, r2⟩ := vOk_ok _ _ _ c
  have e : v = .ref p := r1.inj rfl
  subst e
  exact ⟨fd, _, h, r2⟩
end
end Y
namespace Y
open PySem PySem.Spec PyProof.Rows L2 Z
section
variable {X : Cx} {B : Bs} {K : Frg} {ms : List Addr} {a b c e o : Expr} {es : List Expr} {ra rb rc r ro : Rd} {rt ru : RdT} {rl : RdA} {pos p0 apos : Pos} {R : RdF} {k : Nat} {f g p : Addr} {x m : Str}
/-! ### f-strings -/
/-- {e!r} of data -/
theorem y_fmtR (hr : RoomG k X.A) (he : PEp X B e r) : PEp X B (.FormattedValue e 114 none pos) (fun ρ Q => r ρ fun d => (shP 0 d ∧ (toP d).bulk ≤ 8000 ∧ (toP d).depth ≤ 40) ∧ Q (.str (shD d))) := by
  refine ⟨fun pins s σ H Q I h => ?_⟩
  obtain ⟨F0, ρ, Qd, J, z, kk⟩ := h
  refine wpAny_FormattedValue_repr (thn (he.run pins s σ H (fun v H1 => ∃ F1 d, Go B.ms F0 H F1 H1 ∧ Tp X.K B.ms F1 H1 ∧ Rp X.K B.ms F1 v d ∧ (shP 0 d ∧ (toP d).bulk ≤ 8000 ∧ (toP d).depth ≤ 40) ∧ Qd (.str (shD d))) I ⟨F0, ρ, _, J, z, fun v F1 H1 d g1 t1 r1 z1 => ⟨F1, d, g1, t1, r1, z1⟩⟩) fun u s1 ⟨v, H1, I1, ru, F1, d, g1, t1, rd, ⟨hp, hb, hd⟩, q⟩ => ?_)
  have hl := sh_len hp hb
  have hu := hr.units
  obtain ⟨as, rr⟩ := sh_reads I1 t1.1 d v u hp rd ru
  have end_ : ∀ s2 (y : Str) (t : Tok), L2.Inv X pins σ H1 s2 → y = (toP d).shown → wpAny (model X.prog X.w) X.A (formatField (.str y t) Str.empty) (EP X pins σ Q) X.xe s2 := fun s2 y t I2 e => by
    subst e
    exact wpAny_formatField_str ⟨.str _, H1, I2, ⟨t, rfl⟩, kk _ F1 H1 _ g1 t1 (.str _) q⟩ ⟨.str _, H1, I2.tok _, ⟨_, rfl⟩, kk _ F1 H1 _ g1 t1 (.str _) q⟩ hl
  cases rd with
  | non =>
    obtain rfl : u = Value.none := ru
    exact pyReprObj_none (end_ _ _ _ (I1.tok _) rfl)
  | bl b =>
    obtain rfl : u = Value.bool b := ru
    exact pyReprObj_bool (end_ _ _ _ (I1.tok _) (by cases b <;> rfl))
  | int i =>
    obtain ⟨t, rfl⟩ := (show ∃ t, u = Value.int i t from ru)
    exact pyReprObj_int (sz1900 hp) (end_ _ _ _ (I1.tok _) rfl)
  | str x =>
    obtain ⟨t, rfl⟩ := (show ∃ t, u = Value.str x t from ru)
    exact pyReprObj_str (end_ _ _ _ (I1.tok _) rfl) hl
  | ty _ => exact hp.elim
  | glob _ => exact hp.elim
  | tape _ => exact hp.elim
  | obj _ _ _ => exact hp.elim
  | lst h1 h2 =>
    obtain rfl : u = Value.ref _ := ru
    exact pyReprObj_of_reads rr (sh_able _ hp) (PyData.noDict_hsm (sh_nodict _ hp)) hr.gd (by omega) (fun _ _ e => e) (fun h' u' tk hk => end_ _ _ _ (I1.kept hk) rfl) hl
  | tup h1 h2 =>
    obtain rfl : u = Value.ref _ := ru
    exact pyReprObj_of_reads rr (sh_able _ hp) (PyData.noDict_hsm (sh_nodict _ hp)) hr.gd (by omega) (fun _ _ e => e) (fun h' u' tk hk => end_ _ _ _ (I1.kept hk) rfl) hl
/-- {e} of a text or an int -/
def dFmt (d : D) (Q : D → Prop) : Prop := match d with
  | .int i => Sz 1900 i ∧ Q (.str (shD (.int i)))
  | .str y => y.length ≤ 100000 ∧ Q (.str y)
  | _ => False
theorem y_fmt (he : PEp X B e r) : PEp X B (.FormattedValue e (-1) none pos) (fun ρ Q => r ρ fun d => dFmt d Q) :=
  pe_imp (pe_fmt he) fun σ H Q ⟨F, ρ, Qd, I, z, kk⟩ => ⟨F, ρ, _, I, z, fun v F1 H1 d g1 t1 r1 z1 => by
    unfold dFmt at z1
    split at z1
    · cases r1
      exact .inr ⟨_, rfl, sz1900 z1.1, kk _ F1 H1 _ g1 t1 (.str _) z1.2⟩
    · cases r1
      exact .inl ⟨_, rfl, Nat.le_trans z1.1 line_ge, kk _ F1 H1 _ g1 t1 (.str _) z1.2⟩
    · exact z1.elim⟩
/-- the parts -/
def jR : List Rd → Str → Ev → (Str → Prop) → Prop
  | [], acc, _, Q => Q acc
  | r :: rs, acc, ρ, Q => r ρ fun d => match d with
    | .str y => (acc ++ y).length ≤ 100000 ∧ jR rs (acc ++ y) ρ Q
    | _ => False
inductive PJp (X : Cx) (B : Bs) : List Expr → List Rd → Prop
  | nil : PJp X B [] []
  | cons {e : Expr} {r : Rd} {es : List Expr} {rs : List Rd} : PEp X B e r → PJp X B es rs → PJp X B (e :: es) (r :: rs)
theorem PJp.pj {es : List Expr} {rs : List Rd} (h : PJp X B es rs) : PJ X es (rs.map (tE X.K B)) := by
  induction h with
  | nil => exact .nil
  | cons h _ ih => exact .cons h ih
theorem jR_run {ρ : Ev} {F0 : Hp} {H0 : Hp} {Qd : Str → Prop} {σ : L2.St} : ∀ (rs : List Rd) (acc : Str) (F H : Hp) (Q : Str → Hp → Prop), Iv X.K B F H σ ρ → Go B.ms F0 H0 F H → jR rs acc ρ Qd → (∀ out F1 H1, Go B.ms F0 H0 F1 H1 → Tp X.K B.ms F1 H1 → Qd out → Q out H1) → tJs (rs.map (tE X.K B)) acc σ H Q
  | [], acc, F, H, Q, I, g, z, kk => kk acc F H g I.tp z
  | r :: rs, acc, F, H, Q, I, g, z, kk => ⟨F, ρ, _, I, z, fun v F1 H1 d g1 t1 r1 z1 => by
    split at z1
    · cases r1
      exact ⟨_, rfl, Nat.le_trans z1.1 line_ge, jR_run rs _ F1 H1 Q (I.step g1 t1) (g.trans g1) z1.2 kk⟩
    · exact z1.elim⟩
theorem y_joined {v1 v2 : Expr} {rest : List Expr} {rs : List Rd} (h : PJp X B (v1 :: v2 :: rest) rs) : PEp X B (.JoinedStr (v1 :: v2 :: rest) pos) (fun ρ Q => jR rs Str.empty ρ fun out => Q (.str out)) :=
  pe_imp (pe_joined h.pj) fun σ H Q ⟨F, ρ, Qd, I, z, kk⟩ => jR_run rs Str.empty F H _ I (Go.refl I.same) z fun out F1 H1 g t q => kk _ F1 H1 _ g t (.str _) q
/-! ### repr of an own instance -/
def rReprO (C : Addr) (sp : Sp) (E : XK) (xs : List V) (H : Hp) (Q : VK) : Prop := ∃ a dx fs, xs = [.ref a] ∧ H a = some (.ins C dx fs) ∧ sp [.ref a] H (fun v H' => ∃ y, v = .str y ∧ Q v H') E
theorem call_reprO {C : Addr} {sp : Sp} {E : XK} {CX : CXT} (hu : X.A.units + 64 < cLine) (hs : PySem.W.findIn X.K (.ref C) "__repr__" = some (some (.ref g))) (hf : PySem.W.isFn X.K (.ref g) = true) (F : FnA X.A.in1 X.prog X.w X.K X.mg X.base CX g sp) (hx : Passes CX X E) : CallR X (.builtin "repr") (rReprO C sp E) := by
  intro pins s σ H xs us Q I r h
  obtain ⟨a, dx, fs, rfl, ea, q⟩ := h
  obtain ⟨u, rfl, ru⟩ := vals1 r
  obtain rfl : u = Value.ref a := ru
  obtain ⟨mA, O, _, _, _, _⟩ := ins_get I.hok ea
  obtain ⟨od, J, _⟩ := O.look
  obtain ⟨m, hF⟩ := I.fr
  have hu' : X.A.in1.units < cLine := by
    have : X.A.in1.units = X.A.units + 1 := by first | rfl | simp [Around.in1]
    omega
  refine PySem.W.repr_K hu' hF I.ok.mod.kin J hs hf ?_
  refine wpAny_mono (wpAny_call (run_A (us := [.ref a]) (vs := [.ref a]) F I.env0.in1 hx I (.cons rfl .nil) q)) (fun w s' z => ?_) fun _ _ x => x
  obtain ⟨z', H', I', rz, y, rfl, qz⟩ := z
  obtain ⟨t, rfl⟩ := (show ∃ t, w = Value.str y t from rz)
  exact ⟨.str y, H', I', ⟨t, rfl⟩, qz⟩
def sOf (d : D) (k : Prop) : Prop := match d with
  | .str _ => k
  | _ => False
theorem y_reprO {C : Str} {ns : List Str} (hr : RoomG (k + 1) X.A) (hs : PySem.W.findIn X.K (.ref (He.ga X.K C)) "__repr__" = some (some (.ref g))) (hf : PySem.W.isFn X.K (.ref g) = true) (F : FnG X.prog X.w X.K X.mg X.base (L2.CX X.prog X.w) k g (spP X.K R)) (hx : Px X B) (hg : Gl X "repr") (hm : X.mg "repr" = none) (ha : PEp X B a ra)
    (h1 : starEach [a] X.env = [(false, eval a X.env)] := by rfl) :
    PEp X B (.Call (.Name "repr" p0) [a] [] pos) (fun ρ Q => ra ρ fun d => asO [C] ns d (R [d] (fun y => sOf y (Q y)) B.Ed)) :=
  pe_imp (pe_callB (call_reprO hr.units hs hf (F.at hr.in1) hx) hg hm (by decide +kernel) (pa_cons ha pa_nil h1) (by decide) (by decide) h1 rfl) fun σ H Q ⟨F0, ρ, Qd, I, z, kk⟩ => ⟨F0, ρ, _, I, z, fun v F1 H1 d g1 t1 r1 z1 => by
    obtain ⟨a, d1, f1, c1, rfl, hc1, h1, hh⟩ := asO_of r1 z1
    have e1 : c1 = C := by simpa using hc1
    subst e1
    refine ⟨a, d1, f1, rfl, t1.1 _ _ h1, sp_call I (fun v F2 H2 d2 g2 t2 r2 q2 => ?_) g1 t1 (.cons r1 .nil) hh⟩
    unfold sOf at q2
    split at q2
    · cases r2
      exact ⟨_, rfl, kk _ F2 H2 _ g2 t2 (.str _) q2⟩
    · exact q2.elim⟩
/-! ### a constant of a class, by the class -/
def CV (K : Frg) (C f : Str) (d : D) : Prop := ∃ v u, ClX.CVal K (He.ga K C) (.type "type") f v u ∧ ∀ ms F, Rp K ms F v d
theorem y_cval {C fl : Str} {d : D} (hg : Gl X C) (hm : X.mg C = some (.ref (He.ga X.K C))) (rd : ClX.CRead X.K (He.ga X.K C) (.type "type")) (cv : CV X.K C fl d) (hdb : (C == ("__debug__" : Str)) = false := by decide) (hb : attributeBase (.Name C p0) fl X.env (eval (.Name C p0) X.env) = eval (.Name C p0) X.env := by rfl) :
    PEp X B (.Attribute (.Name C p0) fl pos) (rC d) :=
  pe_imp (ClX.pe_cval (pe_glob (v := .ref (He.ga X.K C)) hg hm rfl hdb) hb) fun σ H Q ⟨F, ρ, Qd, I, z, kk⟩ => by
    obtain ⟨v, u, c, h⟩ := cv
    exact ⟨_, _, v, u, rfl, rd, c, kk _ F H _ (Go.refl I.same) I.tp (h _ _) z⟩
end
def bCV (C f : Str) (d : D) : Frg → Bool := fun K => match PySem.W.findCls K (.ref (He.ga K C)) (.type "type") f with
  | some (.val u) => vOk K 4 d u && PySem.W.handedIn u
  | _ => false
theorem cv_of {K : Frg} {C f : Str} {d : D} (h : bCV C f d K = true) : CV K C f d := by
  unfold bCV at h
  split at h
  · rename_i u e
    obtain ⟨h1, h2⟩ := He.ba h
    obtain ⟨v, r, hv⟩ := vOk_ok _ _ _ h1
    exact ⟨v, u, ⟨e, r⟩, hv⟩
  · cases h
end Y
namespace MN
/-- what a list of shifts spans -/
inductive Sp (S : List (Int × Int)) : Int → Int → Prop
  | zero : Sp S 0 0
  | add {u v x y : Int} (k : Int) : (u, v) ∈ S → Sp S x y → Sp S (x + k * u) (y + k * v)
theorem Sp.cast {S : List (Int × Int)} {x y x' y' : Int} (h : Sp S x y) (e1 : x' = x) (e2 : y' = y) : Sp S x' y' := by rw [e1, e2]; exact h
theorem Sp.gen {S : List (Int × Int)} {u v : Int} (h : (u, v) ∈ S) : Sp S u v := (Sp.add 1 h .zero).cast (by omega) (by omega)
theorem Sp.sum {S : List (Int × Int)} {x y x' y' : Int} (h : Sp S x y) (h' : Sp S x' y') : Sp S (x + x') (y + y') := by
  induction h with
  | zero => exact h'.cast (by omega) (by omega)
  | add k m _ ih => exact (Sp.add k m ih).cast (by omega) (by omega)
theorem Sp.smul {S : List (Int × Int)} {x y : Int} (n : Int) (h : Sp S x y) : Sp S (n * x) (n * y) := by
  induction h with
  | zero => exact Sp.zero.cast (by omega) (by omega)
  | add k m _ ih => exact (Sp.add (n * k) m ih).cast (by grind) (by grind)
theorem Sp.sub {S : List (Int × Int)} {x y x' y' : Int} (h : Sp S x y) (h' : Sp S x' y') : Sp S (x - x') (y - y') := (h.sum (h'.smul (-1))).cast (by omega) (by omega)
theorem Sp.le {S S' : List (Int × Int)} (g : ∀ u v, (u, v) ∈ S → Sp S' u v) {x y : Int} (h : Sp S x y) : Sp S' x y := by
  induction h with
  | zero => exact .zero
  | add k m _ ih => exact ih.sum ((g _ _ m).smul k)
/-- two lists span the same -/
def Eqv (S S' : List (Int × Int)) : Prop := ∀ x y, Sp S x y ↔ Sp S' x y
theorem Eqv.refl (S : List (Int × Int)) : Eqv S S := fun _ _ => Iff.rfl
theorem Eqv.symm {S S' : List (Int × Int)} (h : Eqv S S') : Eqv S' S := fun x y => (h x y).symm
theorem Eqv.trans {S S' S'' : List (Int × Int)} (h : Eqv S S') (h' : Eqv S' S'') : Eqv S S'' := fun x y => (h x y).trans (h' x y)
theorem Eqv.of {S S' : List (Int × Int)} (g : ∀ u v, (u, v) ∈ S → Sp S' u v) (g' : ∀ u v, (u, v) ∈ S' → Sp S u v) : Eqv S S' := fun _ _ => ⟨Sp.le g, Sp.le g'⟩
theorem eqv_mem {S S' : List (Int × Int)} (g : ∀ p, p ∈ S ↔ p ∈ S') : Eqv S S' := .of (fun _ _ h => .gen ((g _).mp h)) (fun _ _ h => .gen ((g _).mpr h))
theorem eqv_app {S S' : List (Int × Int)} (h : Eqv S S') (R : List (Int × Int)) : Eqv (S ++ R) (S' ++ R) := by
  refine .of (fun u v m => ?_) (fun u v m => ?_)
  · rcases List.mem_append.mp m with m | m
    · exact Sp.le (fun _ _ q => .gen (List.mem_append_left _ q)) ((h _ _).mp (.gen m))
    · exact .gen (List.mem_append_right _ m)
  · rcases List.mem_append.mp m with m | m
    · exact Sp.le (fun _ _ q => .gen (List.mem_append_left _ q)) ((h _ _).mpr (.gen m))
    · exact .gen (List.mem_append_right _ m)
theorem inN_sp {a b c x y : Int} : InN a b c x y ↔ Sp [(a, 0), (b, c)] x y := by
  constructor
  · rintro ⟨m, k, rfl, rfl⟩
    exact (((Sp.gen (u := a) (v := 0) (by simp)).smul m).sum ((Sp.gen (u := b) (v := c) (by simp)).smul k)).cast (by grind) (by grind)
  · intro h
    induction h with
    | zero => exact inN_zero
    | add k m _ ih =>
      obtain ⟨p, q, rfl, rfl⟩ := ih
      rcases List.mem_cons.mp m with e | m
      · cases e
        exact ⟨p + k, q, by grind, by grind⟩
      rcases List.mem_cons.mp m with e | m
      · cases e
        exact ⟨p, q + k, by grind, by grind⟩
      cases m
/-- numbers of a net -/
def Ok (a b c : Int) : Prop := 1 ≤ c ∧ 0 ≤ b ∧ b < a
theorem net_le {a b c a' b' c' : Int} (h : Ok a b c) (h' : Ok a' b' c') (e : ∀ x y, InN a b c x y → InN a' b' c' x y) : a' ∣ a ∧ c' ∣ c := by
  obtain ⟨h1, h2, h3⟩ := h
  obtain ⟨p1, p2, p3⟩ := h'
  have x1 := e a 0 ⟨1, 0, by omega, by omega⟩
  have x2 := e b c ⟨0, 1, by omega, by omega⟩
  rw [inN_iff (by omega)] at x1 x2
  refine ⟨?_, x2.1⟩
  have := x1.2
  simpa using this
theorem net_eq {a b c a' b' c' : Int} (h : Ok a b c) (h' : Ok a' b' c') (e : ∀ x y, InN a b c x y ↔ InN a' b' c' x y) : a = a' ∧ b = b' ∧ c = c' := by
  have l1 := net_le h h' fun x y => (e x y).mp
  have l2 := net_le h' h fun x y => (e x y).mpr
  have ea : a = a' := Int.dvd_antisymm (by have := h.2; omega) (by have := h'.2; omega) l2.1 l1.1
  have ec : c = c' := Int.dvd_antisymm (by have := h.1; omega) (by have := h'.1; omega) l2.2 l1.2
  subst ea ec
  refine ⟨rfl, ?_, rfl⟩
  have x1 := (e b c).mp ⟨0, 1, by omega, by omega⟩
  have x2 : InN a b' c b' c := ⟨0, 1, by omega, by omega⟩
  have x3 := inN_sub x1 x2
  have := (in_cell (by have := h.2; omega) (by have := h.1; omega) x3 ⟨by have := h.2; have := h'.2; omega, by have := h.2; have := h'.2; omega⟩ ⟨by have := h.1; omega, by have := h.1; omega⟩).1
  omega
/-- the answer about a list of shifts -/
def Form (S : List (Int × Int)) : Option (Int × Int × Int) → Prop
  | none => ∀ a b c, Ok a b c → ¬ (Sp S a 0 ∧ Sp S b c)
  | some (a, b, c) => Ok a b c ∧ ∀ x y, InN a b c x y ↔ Sp S x y
theorem form_uni {S : List (Int × Int)} {r r' : Option (Int × Int × Int)} (h : Form S r) (h' : Form S r') : r = r' := by
  rcases r with _ | ⟨a, b, c⟩ <;> rcases r' with _ | ⟨a', b', c'⟩
  · rfl
  · exact (h _ _ _ h'.1 ⟨(h'.2 _ _).mp ⟨1, 0, by omega, by omega⟩, (h'.2 _ _).mp ⟨0, 1, by omega, by omega⟩⟩).elim
  · exact (h' _ _ _ h.1 ⟨(h.2 _ _).mp ⟨1, 0, by omega, by omega⟩, (h.2 _ _).mp ⟨0, 1, by omega, by omega⟩⟩).elim
  · obtain ⟨rfl, rfl, rfl⟩ := net_eq h.1 h'.1 fun x y => (h.2 x y).trans (h'.2 x y).symm
    rfl
theorem form_congr {S S' : List (Int × Int)} (e : Eqv S S') {r : Option (Int × Int × Int)} (h : Form S r) : Form S' r := by
  rcases r with _ | ⟨a, b, c⟩
  · intro a b c o z
    exact h a b c o ⟨(e _ _).mpr z.1, (e _ _).mpr z.2⟩
  · exact ⟨h.1, fun x y => (h.2 x y).trans (e x y)⟩
theorem form_net {a b c : Int} (h : Ok a b c) : Form [(a, 0), (b, c)] (some (a, b, c)) := ⟨h, fun _ _ => inN_sp⟩
/-- a step of Euclid's way -/
theorem eqv_step {b c x y t : Int} {R : List (Int × Int)} {a : Int} : Eqv ((a, 0) :: (b, c) :: (x, y) :: R) ((a, 0) :: (x, y) :: (b - t * x, c - t * y) :: R) := by
  refine .of (fun u v m => ?_) (fun u v m => ?_)
  · simp only [List.mem_cons, Prod.mk.injEq] at m
    rcases m with ⟨rfl, rfl⟩ | ⟨rfl, rfl⟩ | ⟨rfl, rfl⟩ | m
    · exact .gen (by simp)
    · exact ((Sp.gen (u := u - t * x) (v := v - t * y) (by simp)).sum ((Sp.gen (u := x) (v := y) (by simp)).smul t)).cast (by grind) (by grind)
    · exact .gen (by simp)
    · exact .gen (by simp [m])
  · simp only [List.mem_cons, Prod.mk.injEq] at m
    rcases m with ⟨rfl, rfl⟩ | ⟨rfl, rfl⟩ | ⟨rfl, rfl⟩ | m
    · exact .gen (by simp)
    · exact .gen (by simp)
    · exact (Sp.gen (u := b) (v := c) (by simp)).sub ((Sp.gen (u := x) (v := y) (by simp)).smul t)
    · exact .gen (by simp [m])
theorem bezN : ∀ (n m : Nat), ∃ s t : Int, ((Nat.gcd n m : Nat) : Int) = s * n + t * m := by
  intro n m
  induction n, m using Nat.gcd.induction with
  | H0 n => exact ⟨0, 1, by simp⟩
  | H1 m n h ih =>
    obtain ⟨s, t, e⟩ := ih
    refine ⟨t - s * (n / m : Nat), s, ?_⟩
    rw [Nat.gcd_rec, e]
    have : (n : Int) = m * (n / m : Nat) + (n % m : Nat) := by exact_mod_cast (Nat.div_add_mod n m).symm
    grind
theorem bez (a x : Int) : ∃ s t : Int, ((Int.gcd a x : Nat) : Int) = s * a + t * x := by
  obtain ⟨s, t, e⟩ := bezN a.natAbs x.natAbs
  have h1 : Int.gcd a x = Nat.gcd a.natAbs x.natAbs := rfl
  rw [h1, e]
  rcases Int.natAbs_eq a with ha | ha <;> rcases Int.natAbs_eq x with hx | hx
  · exact ⟨s, t, by rw [← ha, ← hx]⟩
  · exact ⟨s, -t, by grind⟩
  · exact ⟨-s, t, by grind⟩
  · exact ⟨-s, -t, by grind⟩
theorem eqv_gcd {b c x a : Int} {R : List (Int × Int)} : Eqv ((a, 0) :: (b, c) :: (x, 0) :: R) (((Int.gcd a x : Int), 0) :: (b, c) :: R) := by
  refine .of (fun u v m => ?_) (fun u v m => ?_)
  · simp only [List.mem_cons, Prod.mk.injEq] at m
    rcases m with ⟨rfl, rfl⟩ | ⟨rfl, rfl⟩ | ⟨rfl, rfl⟩ | m
    · obtain ⟨k, hk⟩ := Int.gcd_dvd_left u x
      exact ((Sp.gen (u := (Int.gcd u x : Int)) (v := 0) (by simp)).smul k).cast (by grind) (by omega)
    · exact .gen (by simp)
    · obtain ⟨k, hk⟩ := Int.gcd_dvd_right a u
      exact ((Sp.gen (u := (Int.gcd a u : Int)) (v := 0) (by simp)).smul k).cast (by grind) (by omega)
    · exact .gen (by simp [m])
  · simp only [List.mem_cons, Prod.mk.injEq] at m
    rcases m with ⟨rfl, rfl⟩ | ⟨rfl, rfl⟩ | m
    · obtain ⟨s, t, e⟩ := bez a x
      exact (((Sp.gen (u := a) (v := 0) (by simp)).smul s).sum ((Sp.gen (u := x) (v := 0) (by simp)).smul t)).cast e (by omega)
    · exact .gen (by simp)
    · exact .gen (by simp [m])
end MN
namespace MN
/-! ### Euclid's way with shifts: sizes and spans -/
def wgt (c y : Int) : Nat := c.natAbs + (if c * y < 0 then 2 * y.natAbs else 0)
structure Eu (M Y : Nat) (b c x y : Int) : Prop where
  phi : b.natAbs * y.natAbs + x.natAbs * wgt c y ≤ M
  hb : b.natAbs ≤ M
  hx : x.natAbs ≤ M
  hc : c.natAbs ≤ Y
  hy : y.natAbs ≤ Y
theorem fdiv_facts {c y : Int} (h : y ≠ 0) : (c - c.fdiv y * y).natAbs < y.natAbs ∧ 0 ≤ y * (c - c.fdiv y * y) ∧ (c - c.fdiv y * y).natAbs + (c.fdiv y).natAbs * y.natAbs ≤ wgt c y := by
  have e := Int.fmod_add_mul_fdiv c y
  have er : c - c.fdiv y * y = c.fmod y := by rw [Int.mul_comm]; omega
  rw [er]
  generalize hr : c.fmod y = r at *
  generalize ht : c.fdiv y = t at *
  rcases Int.lt_or_gt_of_ne h with hy | hy
  · have h12 : y < r ∧ r ≤ 0 := by
      rw [← hr, Int.fmod_eq_emod]
      have e1 := Int.emod_nonneg c (show y ≠ 0 by omega)
      have e2 := Int.emod_lt_of_neg c hy
      split
      · rename_i q
        rcases q with q | q
        · omega
        · have := Int.emod_eq_zero_of_dvd q
          omega
      · rename_i q
        have : c % y ≠ 0 := fun z => q (.inr (Int.dvd_of_emod_eq_zero z))
        omega
    obtain ⟨h1, h2⟩ := h12
    have k1 : 0 ≤ y * r := by
      have := Int.mul_nonneg (a := -y) (b := -r) (by omega) (by omega)
      rwa [Int.neg_mul_neg] at this
    refine ⟨by omega, k1, ?_⟩
    unfold wgt
    have nt : t.natAbs * y.natAbs = (t * y).natAbs := (Int.natAbs_mul t y).symm
    rw [nt]
    have ec : t * y = c - r := by rw [Int.mul_comm]; omega
    rw [ec]
    by_cases hcy : c * y < 0
    · rw [if_pos hcy]
      omega
    · rw [if_neg hcy]
      have hc0 : c ≤ 0 := by
        rcases Int.lt_or_le 0 c with z | z
        · exact absurd (Int.mul_neg_of_pos_of_neg z hy) hcy
        · exact z
      have t0 : 0 ≤ t := by
        rcases Int.lt_or_le t 0 with z | z
        · have : y * t ≥ -y := by
            have := Int.mul_le_mul_of_nonneg_left (a := t) (b := -1) (c := -y) (by omega) (by omega)
            simp only [Int.neg_mul, Int.mul_neg, Int.mul_one] at this
            omega
          omega
        · exact z
      have : y * t ≤ 0 := by
        have := Int.mul_nonneg (a := -y) (b := t) (by omega) t0
        rw [Int.neg_mul] at this
        omega
      omega
  · have h1 : r < y := by rw [← hr]; exact Int.fmod_lt_of_pos c hy
    have h2 : 0 ≤ r := by rw [← hr]; exact Int.fmod_nonneg_of_pos c hy
    have k1 : 0 ≤ y * r := Int.mul_nonneg (by omega) h2
    refine ⟨by omega, k1, ?_⟩
    unfold wgt
    have nt : t.natAbs * y.natAbs = (t * y).natAbs := (Int.natAbs_mul t y).symm
    rw [nt]
    have ec : t * y = c - r := by rw [Int.mul_comm]; omega
    rw [ec]
    by_cases hcy : c * y < 0
    · rw [if_pos hcy]
      omega
    · rw [if_neg hcy]
      have hc0 : 0 ≤ c := by
        rcases Int.lt_or_le c 0 with z | z
        · exact absurd (Int.mul_neg_of_neg_of_pos z hy) hcy
        · exact z
      have t0 : 0 ≤ t := by
        rcases Int.lt_or_le t 0 with z | z
        · have : y * t ≤ -y := by
            have := Int.mul_le_mul_of_nonneg_left (a := t) (b := -1) (c := y) (by omega) (by omega)
            omega
          omega
        · exact z
      have : 0 ≤ y * t := Int.mul_nonneg (by omega) t0
      omega
theorem Eu.step {M Y : Nat} {b c x y : Int} (h : Eu M Y b c x y) (hy : y ≠ 0) : Eu M Y x y (b - c.fdiv y * x) (c - c.fdiv y * y) := by
  obtain ⟨f1, f2, f3⟩ := fdiv_facts (c := c) hy
  obtain ⟨p, hb, hx, hc, hyy⟩ := h
  have w' : wgt y (c - c.fdiv y * y) = y.natAbs := by unfold wgt; rw [if_neg (by omega)]; omega
  have ex : (b - c.fdiv y * x).natAbs ≤ b.natAbs + (c.fdiv y).natAbs * x.natAbs := by
    have := Int.natAbs_sub_le b (c.fdiv y * x)
    rw [Int.natAbs_mul] at this
    exact this
  have ph : x.natAbs * (c - c.fdiv y * y).natAbs + (b - c.fdiv y * x).natAbs * y.natAbs ≤ M := by
    have m1 : (b - c.fdiv y * x).natAbs * y.natAbs ≤ (b.natAbs + (c.fdiv y).natAbs * x.natAbs) * y.natAbs := Nat.mul_le_mul_right _ ex
    have m2 : x.natAbs * ((c - c.fdiv y * y).natAbs + (c.fdiv y).natAbs * y.natAbs) ≤ x.natAbs * wgt c y := Nat.mul_le_mul_left _ f3
    have m3 : (b.natAbs + (c.fdiv y).natAbs * x.natAbs) * y.natAbs = b.natAbs * y.natAbs + x.natAbs * ((c.fdiv y).natAbs * y.natAbs) := by
      rw [Nat.add_mul, Nat.mul_comm (c.fdiv y).natAbs x.natAbs, Nat.mul_assoc]
    have m4 : x.natAbs * ((c - c.fdiv y * y).natAbs + (c.fdiv y).natAbs * y.natAbs) = x.natAbs * (c - c.fdiv y * y).natAbs + x.natAbs * ((c.fdiv y).natAbs * y.natAbs) := Nat.mul_add _ _ _
    omega
  have y1 : 1 ≤ y.natAbs := by omega
  refine ⟨by rw [w']; exact ph, hx, ?_, hyy, by omega⟩
  have := Nat.le_mul_of_pos_right (b - c.fdiv y * x).natAbs (show 0 < y.natAbs by omega)
  omega
theorem Eu.start {m n : Nat} {b c x y : Int} (hm : n + 1 ≤ m) (hb : b.natAbs ≤ 2 ^ m) (hc : c.natAbs ≤ 2 ^ n) (hx : x.natAbs ≤ 2 ^ n) (hy : y.natAbs ≤ 2 ^ n) : Eu (2 ^ (m + n + 2)) (2 ^ n) b c x y := by
  have p1 : 2 ^ m ≤ 2 ^ (m + n + 2) := Nat.pow_le_pow_right (by decide) (by omega)
  have p2 : 2 ^ n ≤ 2 ^ (m + n + 2) := Nat.pow_le_pow_right (by decide) (by omega)
  have w : wgt c y ≤ 3 * 2 ^ n := by
    unfold wgt
    split <;> omega
  have q1 : b.natAbs * y.natAbs ≤ 2 ^ (m + n) := by
    rw [Nat.pow_add]
    exact Nat.mul_le_mul hb hy
  have q2 : x.natAbs * wgt c y ≤ 2 ^ n * (3 * 2 ^ n) := Nat.mul_le_mul hx w
  have q3 : 2 ^ n * (3 * 2 ^ n) ≤ 3 * 2 ^ (m + n) := by
    have : 2 ^ n * 2 ^ n ≤ 2 ^ (m + n) := by
      rw [← Nat.pow_add]
      exact Nat.pow_le_pow_right (by decide) (by omega)
    have e : 2 ^ n * (3 * 2 ^ n) = 3 * (2 ^ n * 2 ^ n) := by rw [Nat.mul_left_comm]
    omega
  have q4 : 2 ^ (m + n + 2) = 4 * 2 ^ (m + n) := by rw [Nat.pow_add, Nat.mul_comm]
  exact ⟨by omega, by omega, by omega, hc, hy⟩
theorem abs_fdiv_le (c y : Int) : (c.fdiv y).natAbs ≤ c.natAbs := by
  rcases Decidable.em (y = 0) with h | h
  · subst h; simp
  · obtain ⟨f1, f2, f3⟩ := fdiv_facts (c := c) h
    have y1 : 1 ≤ y.natAbs := by omega
    have e := Int.fmod_add_mul_fdiv c y
    have nt : (c.fdiv y).natAbs * y.natAbs = (y * c.fdiv y).natAbs := by rw [Nat.mul_comm]; exact (Int.natAbs_mul y _).symm
    have er : c - c.fdiv y * y = c.fmod y := by rw [Int.mul_comm]; omega
    rw [er] at f1 f2 f3
    have l1 := Nat.le_mul_of_pos_right (c.fdiv y).natAbs (show 0 < y.natAbs by omega)
    rcases Nat.lt_or_ge c.natAbs (c.fdiv y).natAbs with z | z
    · exfalso
      -- |t| ≥ |c| + 1, so |t y| ≥ |t| |y| ≥ (|c| + 1) |y| ≥ |c| + |y| > |c| + |r|
      have l2 : (c.natAbs + 1) * y.natAbs ≤ (c.fdiv y).natAbs * y.natAbs := Nat.mul_le_mul_right _ z
      have l3 : c.natAbs + y.natAbs ≤ (c.natAbs + 1) * y.natAbs := by
        rw [Nat.add_mul, Nat.one_mul]
        have := Nat.le_mul_of_pos_right c.natAbs (show 0 < y.natAbs by omega)
        omega
      omega
    · exact z
/-! ### the answer -/
theorem form_none {S : List (Int × Int)} {a b c : Int} (e : Eqv S [(a, 0), (b, c)]) (h : a = 0 ∨ c = 0) : Form S none := by
  intro a' b' c' ok ⟨h1, h2⟩
  have z : ∀ x y, Sp S x y → ∃ m k : Int, x = m * a + k * b ∧ y = k * c := fun x y q => inN_sp.mpr ((e x y).mp q)
  obtain ⟨m, k, e1, e2⟩ := z _ _ h1
  obtain ⟨m', k', e3, e4⟩ := z _ _ h2
  obtain ⟨o1, o2, o3⟩ := ok
  rcases h with rfl | rfl
  · by_cases hc : c = 0
    · subst hc; simp at e4; omega
    · have : k = 0 := by
        rcases Int.mul_eq_zero.mp e2.symm with q | q
        · exact q
        · exact absurd q hc
      subst this
      simp at e1
      omega
  · simp at e4; omega
theorem form_pos {S : List (Int × Int)} {a b c : Int} (e : Eqv S [(a, 0), (b, c)]) (ha : 0 < a) (hc : 0 < c) : Form S (some (a, b % a, c)) := by
  refine ⟨⟨by omega, Int.emod_nonneg b (by omega), Int.emod_lt_of_pos b ha⟩, fun x y => ?_⟩
  rw [e x y, ← inN_sp]
  have hb := Int.emod_add_mul_ediv b a
  constructor
  · rintro ⟨m, k, h1, h2⟩
    exact ⟨m - k * (b / a), k, by grind, h2⟩
  · rintro ⟨m, k, h1, h2⟩
    exact ⟨m + k * (b / a), k, by grind, h2⟩
theorem form_neg {S : List (Int × Int)} {a b c : Int} (e : Eqv S [(a, 0), (b, c)]) (ha : 0 < a) (hc : c < 0) : Form S (some (a, -b % a, -c)) := by
  have e2 : Eqv [(a, 0), (b, c)] [(a, 0), (-b, -c)] := by
    intro x y
    rw [← inN_sp, ← inN_sp]
    constructor
    · rintro ⟨m, k, h1, h2⟩
      exact ⟨m, -k, by grind, by grind⟩
    · rintro ⟨m, k, h1, h2⟩
      exact ⟨m, -k, by grind, by grind⟩
  exact form_pos (e.trans e2) ha (by omega)
theorem eqv_nil : Eqv [] [((0 : Int), (0 : Int)), (0, 0)] := .of (fun _ _ m => nomatch m) (fun u v m => by
  simp at m
  obtain ⟨rfl, rfl⟩ := m
  exact .zero)
/-- one more shift -/
theorem eqv_more {S : List (Int × Int)} {a b c x y : Int} (e : Eqv S [(a, 0), (b, c)]) : Eqv (S ++ [(x, y)]) [(a, 0), (b, c), (x, y)] := eqv_app e [(x, y)]
/-! ### sizes of nets -/
def det (p q : Int × Int) : Int := p.1 * q.2 - q.1 * p.2
theorem det_dvd {a b c x y x' y' : Int} (h : InN a b c x y) (h' : InN a b c x' y') : a * c ∣ x * y' - x' * y := by
  obtain ⟨m, k, h1, h2⟩ := h
  obtain ⟨m', k', h3, h4⟩ := h'
  exact ⟨m * k' - m' * k, by subst h1 h2 h3 h4; grind⟩
theorem sp_two {p q : Int × Int} {x y : Int} (h : Sp [p, q] x y) : ∃ m k : Int, x = m * p.1 + k * q.1 ∧ y = m * p.2 + k * q.2 := by
  induction h with
  | zero => exact ⟨0, 0, by omega, by omega⟩
  | add n mem _ ih =>
    obtain ⟨m, k, h1, h2⟩ := ih
    rcases List.mem_cons.mp mem with e | mem
    · cases e; exact ⟨m + n, k, by grind, by grind⟩
    rcases List.mem_cons.mp mem with e | mem
    · cases e; exact ⟨m, k + n, by grind, by grind⟩
    cases mem
theorem det_ne {p q : Int × Int} {a b c : Int} (h : Form [p, q] (some (a, b, c))) : det p q ≠ 0 := by
  obtain ⟨⟨o1, o2, o3⟩, h⟩ := h
  obtain ⟨m, k, e1, e2⟩ := sp_two ((h a 0).mp ⟨1, 0, by omega, by omega⟩)
  obtain ⟨m', k', e3, e4⟩ := sp_two ((h b c).mp ⟨0, 1, by omega, by omega⟩)
  intro z
  have key : a * c = (m * k' - m' * k) * det p q := by
    unfold det
    have : a * c = a * c - b * 0 := by omega
    rw [this]
    conv => lhs; rw [e1, e4, e3, e2]
    grind
  rw [z, Int.mul_zero] at key
  have := Int.mul_pos (a := a) (b := c) (by omega) (by omega)
  omega
theorem form_size {S : List (Int × Int)} {a b c : Int} (h : Form S (some (a, b, c))) {p q : Int × Int} (hp : p ∈ S) (hq : q ∈ S) (hd : det p q ≠ 0) : a * c ≤ (det p q).natAbs ∧ a ≤ (det p q).natAbs ∧ c ≤ (det p q).natAbs := by
  obtain ⟨⟨o1, o2, o3⟩, h⟩ := h
  have d := det_dvd ((h _ _).mpr (.gen hp)) ((h _ _).mpr (.gen hq))
  have l := Int.le_of_dvd (show 0 < ((det p q).natAbs : Int) by omega) (Int.dvd_natAbs.mpr d)
  have l1 : a * 1 ≤ a * c := Int.mul_le_mul_of_nonneg_left o1 (by omega)
  have l2 : 1 * c ≤ a * c := Int.mul_le_mul_of_nonneg_right (by omega) (by omega)
  exact ⟨l, by omega, by omega⟩
theorem form_mem {S : List (Int × Int)} {a b c x y : Int} (h : Form S (some (a, b, c))) (hp : (x, y) ∈ S) : low a b c x y = (0, 0) := by
  obtain ⟨⟨o1, o2, o3⟩, h⟩ := h
  rw [low_zero (by omega) (by omega)]
  exact (h _ _).mpr (.gen hp)
theorem fmod_gcd (x y : Int) : Int.gcd y (x.fmod y) = Int.gcd x y := by
  have e := Int.fmod_add_mul_fdiv x y
  have h := Int.gcd_add_mul_right_right y (x.fmod y) (x.fdiv y)
  rw [show x.fmod y + x.fdiv y * y = x by rw [Int.mul_comm]; exact e] at h
  rw [← h, Int.gcd_comm]
theorem fmod_lt {x y : Int} (h : y ≠ 0) : (x.fmod y).natAbs < y.natAbs := by
  have := (fdiv_facts (c := x) h).1
  have e := Int.fmod_add_mul_fdiv x y
  rw [show x - x.fdiv y * y = x.fmod y by rw [Int.mul_comm]; omega] at this
  exact this
/-! ### nets and lists of shifts -/
theorem form_eqv {S : List (Int × Int)} {a b c : Int} (h : Form S (some (a, b, c))) : Eqv S [(a, 0), (b, c)] := fun x y => (h.2 x y).symm.trans inN_sp
theorem form_step {S : List (Int × Int)} {a b c : Int} {p : Int × Int} {r : Option (Int × Int × Int)} (h : Form S (some (a, b, c))) (h' : Form [(a, 0), (b, c), p] r) : Form (S ++ [p]) r := form_congr (eqv_app (form_eqv h) [p]).symm h'
theorem not_none {S : List (Int × Int)} {a b c : Int} (o : Ok a b c) (h1 : Sp S a 0) (h2 : Sp S b c) : ¬ Form S none := fun z => z a b c o ⟨h1, h2⟩
theorem some_not_none {S : List (Int × Int)} {r : Int × Int × Int} (h : Form S (some r)) : ¬ Form S none := fun z => nomatch form_uni h z
theorem eqv_again {a b c : Int} : Eqv [(a, 0), (b, c)] [(a * 7 + b, c), (0 - b, 0 - c), (a, 0), (0, 0)] := by
  refine .of (fun u v m => ?_) (fun u v m => ?_)
  · simp only [List.mem_cons, Prod.mk.injEq, List.not_mem_nil, or_false] at m
    rcases m with ⟨rfl, rfl⟩ | ⟨rfl, rfl⟩
    · exact .gen (by simp)
    · exact ((Sp.gen (u := 0 - u) (v := 0 - v) (by simp)).smul (-1)).cast (by omega) (by omega)
  · simp only [List.mem_cons, Prod.mk.injEq, List.not_mem_nil, or_false] at m
    have ga : Sp [(a, 0), (b, c)] a 0 := .gen (by simp)
    have gb : Sp [(a, 0), (b, c)] b c := .gen (by simp)
    rcases m with ⟨rfl, rfl⟩ | ⟨rfl, rfl⟩ | ⟨rfl, rfl⟩ | ⟨rfl, rfl⟩
    · exact ((ga.smul 7).sum gb).cast (by omega) (by omega)
    · exact (gb.smul (-1)).cast (by omega) (by omega)
    · exact ga
    · exact .zero
theorem eqv_swap {a b c : Int} : Eqv [(a, 0), (b, c)] [(b, c), (a, 0)] := eqv_mem fun p => by simp only [List.mem_cons, List.not_mem_nil, or_false]; exact Or.comm
theorem eqv_rev4 {p q r s : Int × Int} : Eqv [p, q, r, s] [s, r, q, p] := eqv_mem fun x => by simp only [List.mem_cons, List.not_mem_nil, or_false]; grind
theorem eqv_sides {p q r s : Int × Int} : Eqv [p, q, r, s] [r, (0 - q.1, 0 - q.2), s, (p.1 + r.1, p.2 + r.2), r] := by
  obtain ⟨p1, p2⟩ := p
  obtain ⟨q1, q2⟩ := q
  obtain ⟨r1, r2⟩ := r
  obtain ⟨s1, s2⟩ := s
  refine .of (fun u v m => ?_) (fun u v m => ?_)
  · simp only [List.mem_cons, Prod.mk.injEq, List.not_mem_nil, or_false] at m
    rcases m with ⟨rfl, rfl⟩ | ⟨rfl, rfl⟩ | ⟨rfl, rfl⟩ | ⟨rfl, rfl⟩
    · exact ((Sp.gen (u := u + r1) (v := v + r2) (by simp)).sub (Sp.gen (u := r1) (v := r2) (by simp))).cast (by omega) (by omega)
    · exact ((Sp.gen (u := 0 - u) (v := 0 - v) (by simp)).smul (-1)).cast (by omega) (by omega)
    · exact .gen (by simp)
    · exact .gen (by simp)
  · simp only [List.mem_cons, Prod.mk.injEq, List.not_mem_nil, or_false] at m
    rcases m with ⟨rfl, rfl⟩ | ⟨rfl, rfl⟩ | ⟨rfl, rfl⟩ | ⟨rfl, rfl⟩ | ⟨rfl, rfl⟩
    · exact .gen (by simp)
    · exact ((Sp.gen (u := q1) (v := q2) (by simp)).smul (-1)).cast (by omega) (by omega)
    · exact .gen (by simp)
    · exact (Sp.gen (u := p1) (v := p2) (by simp)).sum (Sp.gen (u := r1) (v := r2) (by simp))
    · exact .gen (by simp)
theorem form_unit : Form [((0 : Int), (1 : Int)), (1, 0)] (some (1, 0, 1)) := form_congr (eqv_mem fun p => by simp only [List.mem_cons, List.not_mem_nil, or_false]; exact Or.comm) (form_net ⟨by decide, by decide, by decide⟩)
end MN
namespace Y
open PySem PySem.Spec PyProof.Rows L2 Z
/-! ### promises of carpets.integers and carpets.nets -/
def knD (d : D) : Prop := match d with
  | .obj _ _ _ | .ty _ | .glob _ | .tape => False
  | _ => True
def isIntD (d : D) : Bool := match d with
  | .int _ => true
  | _ => false
def R_is_integer : RdF := ar1 fun d Q _ => knD d ∧ Q (.bl (isIntD d))
def knP (d : D) : Prop := match d with
  | .tup [a, b] => knD a ∧ knD b
  | d => knD d
def isPl (d : D) : Bool := match d with
  | .tup [a, b] => isIntD a && isIntD b
  | _ => false
def R_is_place : RdF := ar1 fun d Q _ => knP d ∧ Q (.bl (isPl d))
def R_check_place_n : RdF := ar1 fun d Q _ => knP d ∧ isPl d = true ∧ Q .non
def R_greatest_divisor : RdF := ar2 fun x y Q _ => match x, y with
  | .int x, .int y => Q (.int ((Int.gcd x y : Nat) : Int))
  | _, _ => False
def R_are_numbers : RdF := ar1 fun d Q _ => match d with
  | .tup [.int a, .int b, .int c] => Q (.bl (decide (1 ≤ c) && (decide (0 ≤ b) && decide (b < a))))
  | _ => False
abbrev nsNet : List Str := ["own_numbers"]
abbrev dNet (a b c : Int) : D := .obj "Net" ["own_numbers"] [.tup [.int a, .int b, .int c]]
abbrev dPl (x y : Int) : D := .tup [.int x, .int y]
def R_Net_UinitU : RdF := ar3 fun x y z Q _ => match x, y, z with
  | .int a, .int b, .int c => (1 ≤ c ∧ 0 ≤ b ∧ b < a) ∧ Q (dNet a b c)
  | _, _, _ => False
/-! ### nets of shifts -/
def plD (p : Int × Int) : D := .tup [.int p.1, .int p.2]
def optN : Option (Int × Int × Int) → D
  | none => .non
  | some (a, b, c) => .tup [.int a, .int b, .int c]
def SzF (r : Option (Int × Int × Int)) : Prop := ∀ a b c, r = some (a, b, c) → Sz 4000 a ∧ Sz 4000 c
def shOk (S : List (Int × Int)) : Prop := ∃ n, (∀ p ∈ S, Sz n p.1 ∧ Sz n p.2) ∧ (S.length + 2) * (n + 2) ≤ 4000
def R_form_of : RdF := ar1 fun d Q _ => match d with
  | .tup ds => ∃ S : List (Int × Int), ds = S.map plD ∧ shOk S ∧ ∀ r, MN.Form S r → SzF r → Q (optN r)
  | _ => False
/-- the numbers of a net of shifts, if there is one -/
def R_Net_of : RdF := fun ds Q _ => ∃ S : List (Int × Int), ds = S.map plD ∧ shOk S ∧ ¬ MN.Form S none ∧ ∀ a b c, MN.Form S (some (a, b, c)) → Sz 4000 a → Sz 4000 c → Q (dNet a b c)
theorem R_Net_of_len : ∀ ds Q E, R_Net_of ds Q E → ds.length ≤ 100000 := by
  rintro ds Q E ⟨S, rfl, ⟨n, _, h⟩, _⟩
  rw [List.length_map]
  have : (S.length + 2) * 2 ≤ (S.length + 2) * (n + 2) := Nat.mul_le_mul_left _ (by omega)
  omega
theorem sz_le2 {n : Nat} {x : Int} (h : Sz n x) : x.natAbs ≤ 2 ^ n := Nat.le_of_lt h
theorem sz_of_le {n m : Nat} {x : Int} (h : x.natAbs ≤ 2 ^ n) (hm : n < m) : Sz m x := Nat.lt_of_le_of_lt h (Nat.pow_lt_pow_right (by decide) hm)
theorem map_get {α β : Type} {f : α → β} {S : List α} {i : Nat} {d : β} (h : (S.map f)[i]? = some d) : ∃ p, S[i]? = some p ∧ d = f p := by
  rw [List.getElem?_map] at h
  obtain ⟨p, h1, rfl⟩ := Option.map_eq_some_iff.mp h
  exact ⟨p, h1, rfl⟩
/-! ### methods of nets -/
def R_Net_numbers : RdF := ar1 fun d Q _ => ∃ a b c : Int, d = dNet a b c ∧ Q (.tup [.int a, .int b, .int c])
def R_Net_size : RdF := ar1 fun d Q _ => ∃ a b c : Int, d = dNet a b c ∧ (Sz 4000 a ∧ Sz 4000 c) ∧ Q (.int (a * c))
def R_Net_spanning : RdF := ar1 fun d Q _ => ∃ a b c : Int, d = dNet a b c ∧ Q (.lst [dPl a 0, dPl b c])
def R_Net_place_in_cell : RdF := ar2 fun s p Q _ => ∃ a b c x y : Int, s = dNet a b c ∧ p = dPl x y ∧ (MN.Ok a b c ∧ Sz 4000 a ∧ Sz 4000 c ∧ Sz 4000 y) ∧ Q (dPl (MN.low a b c x y).1 (MN.low a b c x y).2)
def R_Net_UcontainsU : RdF := ar2 fun s v Q _ => ∃ a b c : Int, s = dNet a b c ∧ (MN.Ok a b c ∧ Sz 4000 a ∧ Sz 4000 c) ∧ ((∃ x y : Int, v = dPl x y ∧ Sz 4000 y ∧ Q (.bl (decide (MN.low a b c x y = (0, 0))))) ∨ (knP v ∧ isPl v = false ∧ Q (.bl false)))
def R_Net_UeqU : RdF := ar2 fun s v Q _ => ∃ a b c : Int, s = dNet a b c ∧ ((∃ a' b' c' : Int, v = dNet a' b' c' ∧ Q (.bl (decide (a = a' ∧ b = b' ∧ c = c')))) ∨ (knD v ∧ Q (.bl false)))
def R_Net_whole : RdF := ar1 fun d Q _ => d = .glob "Net" ∧ Q (dNet 1 0 1)
theorem eqN3 {a b c d e f : Int} : eqD (.tup [.int a, .int b, .int c]) (.tup [.int d, .int e, .int f]) = decide (a = d ∧ b = e ∧ c = f) := by
  simp only [eqD, eqDs, Bool.and_true]
  by_cases h1 : a = d <;> by_cases h2 : b = e <;> by_cases h3 : c = f <;> simp [h1, h2, h3]
theorem eqN2 {a b d e : Int} : eqD (.tup [.int a, .int b]) (.tup [.int d, .int e]) = decide (a = d ∧ b = e) := by
  simp only [eqD, eqDs, Bool.and_true]
  by_cases h1 : a = d <;> by_cases h2 : b = e <;> simp [h1, h2]
theorem leN {n : Nat} (h : Nat.ble n 100000 = true) : n ≤ 100000 := Nat.le_of_ble_eq_true h
/-! ### the law's own draws -/
def R__law_great : RdF := ar2 fun t n Q _ => match t, n with
  | .tape, .int n => (60 ≤ n ∧ Sz 1000 n) ∧ ∀ d, -n < d → d < n → Q (.int d)
  | _, _ => False
def R__law_place : RdF := ar1 fun t Q _ => match t with
  | .tape => ∀ x y, Sz 100 x → Sz 100 y → Q (dPl x y)
  | _ => False
def R__law_net : RdF := ar2 fun t n Q _ => match t, n with
  | .tape, .int n => (0 < n ∧ Sz 1000 n) ∧ ∀ a b c, MN.Ok a b c → a * c ≤ n → Q (.tup [.int a, .int b, .int c])
  | _, _ => False
def R__law_net_of : RdF := ar1 fun d Q _ => match d with
  | .lst ds => ∃ S : List (Int × Int), ds = S.map plD ∧ shOk S ∧ ∀ r, MN.Form S r → SzF r → Q (optN r)
  | _ => False
theorem szP {n : Nat} {x : Int} (h : Nat.blt x.natAbs (2 ^ 100) = true) (hn : 100 ≤ n) : Sz n x := (sz_lit (n := 100) h).mono hn
theorem dIx_l {ds : List D} {i : Int} {d : D} {Q : D → Prop} (e : atI ds i = some d) (h : Q d) : dIx (.lst ds) (.int i) Q := by
  show (match atI ds i with | some d => Q d | none => False)
  rw [e]
  exact h
theorem dIx_t {ds : List D} {i : Int} {d : D} {Q : D → Prop} (e : atI ds i = some d) (h : Q d) : dIx (.tup ds) (.int i) Q := by
  show (match atI ds i with | some d => Q d | none => False)
  rw [e]
  exact h
theorem atI_D {α : Type} {ds : List α} {k : Int} (h0 : 0 ≤ k) (h1 : k < ds.length) : ∃ d, atI ds k = some d ∧ d ∈ ds := by
  obtain ⟨j, rfl⟩ := Int.eq_ofNat_of_zero_le h0
  have hj : j < ds.length := by omega
  exact ⟨ds[j], atI_nat (List.getElem?_eq_getElem hj), List.getElem_mem hj⟩
theorem cut_take {α : Type} {xs : List α} {n : Nat} (hn : n ≤ 1000000) : cutD xs none (some (n : Int)) = xs.take n := by
  unfold cutD
  have e1 : HT.sIx xs.length 0 none = 0 := rfl
  have e2 : HT.sIx xs.length xs.length (some (n : Int)) = min n xs.length := by
    unfold HT.sIx
    simp
    omega
  rw [e1, e2, List.drop_zero]
  simp [List.take_eq_take_min]
theorem cut_drop {α : Type} {xs : List α} {n : Nat} : cutD xs (some (n : Int)) none = xs.drop n := by
  unfold cutD
  rw [HT.sIx_none, HT.sIx_nat]
  rcases Nat.le_total n xs.length with h | h
  · rw [Nat.min_eq_left h]
    exact List.take_of_length_le (by rw [List.length_drop]; omega)
  · rw [Nat.min_eq_right h, List.drop_eq_nil_of_le (Nat.le_refl _), List.drop_eq_nil_of_le h]
    simp
/-- up to six shifts of the law -/
def shS (S : List (Int × Int)) : Prop := ∀ p ∈ S, Sz 100 p.1 ∧ Sz 100 p.2
theorem shOk_of {S : List (Int × Int)} {n : Nat} (h : ∀ p ∈ S, Sz n p.1 ∧ Sz n p.2) (hl : (S.length + 2) * (n + 2) ≤ 4000) : shOk S := ⟨n, h, hl⟩
def R__law_shifts : RdF := ar1 fun t Q _ => match t with
  | .tape => ∀ p q rest, rest.length ≤ 4 → shS (p :: q :: rest) → Q (.lst ((p :: q :: rest).map plD))
  | _ => False
def R__law_of : RdF := ar1 fun d Q _ => ∃ p q rest, d = .lst ((p :: q :: rest).map plD) ∧ (rest.length ≤ 4 ∧ shS (p :: q :: rest)) ∧ ¬ MN.Form [p, q] none ∧ ∀ a b c, MN.Form (p :: q :: rest) (some (a, b, c)) → Sz 210 a → Sz 210 c → Q (dNet a b c)
theorem det_size {p q : Int × Int} (h1 : Sz 100 p.1) (h2 : Sz 100 p.2) (h3 : Sz 100 q.1) (h4 : Sz 100 q.2) : (MN.det p q).natAbs < 2 ^ 201 := sz_sub (a := 200) (sz_mul h1 h4) (sz_mul h3 h2)
theorem net_size {S : List (Int × Int)} {p q : Int × Int} {a b c : Int} (hp : p ∈ S) (hq : q ∈ S) (hd : MN.det p q ≠ 0) (z : shS S) (h : MN.Form S (some (a, b, c))) : Sz 210 a ∧ Sz 210 c := by
  obtain ⟨_, l1, l2⟩ := MN.form_size h hp hq hd
  have hs := det_size (z p hp).1 (z p hp).2 (z q hq).1 (z q hq).2
  obtain ⟨⟨o1, o2, o3⟩, _⟩ := h
  have k : ∀ x : Int, 0 ≤ x → x ≤ (MN.det p q).natAbs → Sz 210 x := fun x x0 x1 => Sz.mono (a := 201) (Nat.lt_of_le_of_lt (by omega) hs) (by decide)
  exact ⟨k a (by omega) l1, k c (by omega) l2⟩
theorem atI_0 {α : Type} {x : α} {xs : List α} : atI (x :: xs) 0 = some x := atI_nat (j := 0) rfl
theorem atI_1 {α : Type} {x y : α} {xs : List α} : atI (x :: y :: xs) 1 = some y := atI_nat (j := 1) rfl
theorem dSl_drop {xs : List D} {n : Nat} {Q : D → Prop} (h : Q (.lst (xs.drop n))) : dSl (.lst xs) (some (n : Int)) none Q := by
  unfold dSl
  dsimp only
  rw [cut_drop]
  exact h
theorem dSl_take {xs : List D} {n : Nat} {Q : D → Prop} (hn : n ≤ 1000000) (h : Q (.lst (xs.take n))) : dSl (.lst xs) none (some (n : Int)) Q := by
  unfold dSl
  dsimp only
  rw [cut_take hn]
  exact h
theorem ltN {n m : Nat} (h : Nat.ble n m = true) : n ≤ m := Nat.le_of_ble_eq_true h
end Y
namespace MN
/-- (w, r, u) are the numbers of the net of the common shifts -/
def Meet (a b c p q r W R U : Int) : Prop := Ok W R U ∧ (∀ x y, InN W R U x y ↔ (InN a b c x y ∧ InN p q r x y)) ∧ W ≤ a * p ∧ U ≤ a * (c * r)
theorem gcd_parts {c r : Int} (hc : 0 < c) : ∃ g c' r' m n : Int, g = (Int.gcd c r : Int) ∧ 0 < g ∧ c = g * c' ∧ r = g * r' ∧ m * c' + n * r' = 1 := by
  obtain ⟨m, n, e⟩ := bez c r
  have hg : 0 < (Int.gcd c r : Int) := by
    have : 0 < Int.gcd c r := Int.gcd_pos_of_ne_zero_left _ (by omega)
    omega
  obtain ⟨c', hc'⟩ := Int.gcd_dvd_left c r
  obtain ⟨r', hr'⟩ := Int.gcd_dvd_right c r
  refine ⟨_, c', r', m, n, rfl, hg, hc', hr', ?_⟩
  have e2 : (Int.gcd c r : Int) * (m * c' + n * r') = (Int.gcd c r : Int) * 1 := by
    calc (Int.gcd c r : Int) * (m * c' + n * r') = m * ((Int.gcd c r : Int) * c') + n * ((Int.gcd c r : Int) * r') := by grind
      _ = m * c + n * r := by rw [← hc', ← hr']
      _ = (Int.gcd c r : Int) * 1 := by rw [← e]; omega
  exact Int.eq_of_mul_eq_mul_left (by omega) e2
theorem ml1 {g c' r' k1 k2 y : Int} (h1 : y = k1 * (g * c')) (h2 : y = k2 * (g * r')) : g * (k1 * c') = g * (k2 * r') := by grind
theorem ml2 {b q c' r' j x D m1 m2 a' p' : Int} (h1 : x = m1 * (D * a') + r' * j * b) (h2 : x = m2 * (D * p') + c' * j * q) : j * (b * r' - q * c') = D * (m2 * p' - m1 * a') := by grind
theorem ml3 {G D' j d' z : Int} (h : j * (G * d') = G * D' * z) : G * (j * d') = G * (D' * z) := by grind
theorem ml4 {j u v D' d' z : Int} (h : j * d' = D' * z) (e3 : u * D' + v * d' = 1) : j = D' * (j * u + v * z) := by
  calc j = j * (u * D' + v * d') := by rw [e3]; omega
    _ = j * u * D' + v * (j * d') := by grind
    _ = _ := by rw [h]; grind
theorem ml5 {D' i d' z : Int} (h : D' * i * d' = D' * z) : D' * (i * d') = D' * z := by grind
theorem ml6 {m1 m2 s t a' p' : Int} (e2 : s * a' + t * p' = 1) : m1 + s * (m2 * p' - m1 * a') = p' * (m1 * t + s * m2) := by
  have : m1 * (s * a' + t * p') = m1 := by rw [e2]; omega
  grind
theorem ml7 {a b m1 r' D' i d' s p' t m2 k : Int} (h : a * (m1 + s * (i * d')) = a * (p' * (m1 * t + s * m2))) : m1 * a + r' * (D' * i) * b = (m1 * t + s * m2 + i * k) * (a * p') + i * (D' * (b * r') - a * (d' * s) - k * (a * p')) := by grind
theorem ml8 {r' D' i g c' : Int} : r' * (D' * i) * (g * c') = i * (D' * (c' * r' * g)) := by grind
/-- the numbers that the program finds, in parts -/
structure MP (a b c p q r : Int) (g c' r' m n D a' p' s t G D' d' u v : Int) : Prop where
  hg : 0 < g
  ec : c = g * c'
  er : r = g * r'
  e1 : m * c' + n * r' = 1
  hD : 0 < D
  ea : a = D * a'
  ep : p = D * p'
  e2 : s * a' + t * p' = 1
  hG : 0 < G
  eD : D = G * D'
  ed : b * r' - q * c' = G * d'
  e3 : u * D' + v * d' = 1
theorem meet_of {a b c p q r g c' r' m n D a' p' s t G D' d' u v : Int} (h : Ok a b c) (h' : Ok p q r) (x : MP a b c p q r g c' r' m n D a' p' s t G D' d' u v) (R : Int) (hR : R = (D' * (b * r') - a * (d' * s)) % (a * p')) :
    Meet a b c p q r (a * p') R (D' * (c' * r' * g)) ∧ ∃ β, Form [(a, 0), (b, c), (p, 0), (q, r)] (some (G, β, g)) ∧ a * p' * (D' * (c' * r' * g)) * (G * g) = a * c * (p * r) := by
  obtain ⟨hg, ec, er, e1, hD, ea, ep, e2, hG, eD, ed, e3⟩ := x
  have ha : 0 < a := by have := h.2; omega
  have hp : 0 < p := by have := h'.2; omega
  have hc : 0 < c := by have := h.1; omega
  have hr : 0 < r := by have := h'.1; omega
  have hc' : 0 < c' := by
    rcases Int.lt_or_le 0 c' with z | z
    · exact z
    · have := Int.mul_nonpos_of_nonneg_of_nonpos (Int.le_of_lt hg) z; omega
  have hr' : 0 < r' := by
    rcases Int.lt_or_le 0 r' with z | z
    · exact z
    · have := Int.mul_nonpos_of_nonneg_of_nonpos (Int.le_of_lt hg) z; omega
  have ha' : 0 < a' := by
    rcases Int.lt_or_le 0 a' with z | z
    · exact z
    · have := Int.mul_nonpos_of_nonneg_of_nonpos (Int.le_of_lt hD) z; omega
  have hp' : 0 < p' := by
    rcases Int.lt_or_le 0 p' with z | z
    · exact z
    · have := Int.mul_nonpos_of_nonneg_of_nonpos (Int.le_of_lt hD) z; omega
  have hD' : 0 < D' := by
    rcases Int.lt_or_le 0 D' with z | z
    · exact z
    · have := Int.mul_nonpos_of_nonneg_of_nonpos (Int.le_of_lt hG) z; omega
  have hW : 0 < a * p' := Int.mul_pos ha hp'
  have hU : 0 < D' * (c' * r' * g) := Int.mul_pos hD' (Int.mul_pos (Int.mul_pos hc' hr') hg)
  have eW : a * p' = a' * p := by rw [ea, ep]; grind
  obtain ⟨k, hk⟩ : ∃ k, R = (D' * (b * r') - a * (d' * s)) - k * (a * p') := ⟨(D' * (b * r') - a * (d' * s)) / (a * p'), by rw [hR, Int.emod_def]; grind⟩
  have okW : Ok (a * p') R (D' * (c' * r' * g)) := ⟨hU, by rw [hR]; exact Int.emod_nonneg _ (by omega), by rw [hR]; exact Int.emod_lt_of_pos _ hW⟩
  refine ⟨⟨okW, fun x y => ⟨?_, ?_⟩, ?_, ?_⟩, m * b + n * q - (m * b + n * q) / G * G, ?_, ?_⟩
  · rintro ⟨i, j, hx, hy⟩
    constructor
    · exact ⟨i * p' - j * (d' * s) - j * k * p', j * (D' * r'), by rw [hx, hk]; grind, by rw [hy, ec]; grind⟩
    · refine ⟨i * a' + j * (d' * t) - j * k * a', j * (D' * c'), ?_, by rw [hy, er]; grind⟩
      have key : D' * (b * r') - a * (d' * s) = p * (d' * t) + D' * c' * q := by
        have z1 : D' * (b * r' - q * c') = D * d' := by rw [ed, eD]; grind
        have z2 : D * d' - a * (d' * s) = p * (d' * t) := by
          have : D * d' * (s * a' + t * p') = D * d' := by rw [e2]; omega
          rw [ea, ep]
          grind
        grind
      rw [hx, hk, key, eW]
      grind
  · rintro ⟨⟨m1, k1, hx, hy⟩, m2, k2, hx2, hy2⟩
    have q1 : k1 * c' = k2 * r' := by
      have : g * (k1 * c') = g * (k2 * r') := ml1 (y := y) (by rw [← ec]; exact hy) (by rw [← er]; exact hy2)
      exact Int.eq_of_mul_eq_mul_left (by omega) this
    have j1 : k1 = r' * (m * k2 + n * k1) := by
      calc k1 = k1 * (m * c' + n * r') := by rw [e1]; omega
        _ = m * (k1 * c') + n * (k1 * r') := by grind
        _ = m * (k2 * r') + n * (k1 * r') := by rw [q1]
        _ = _ := by grind
    have j2 : k2 = c' * (m * k2 + n * k1) := by
      calc k2 = k2 * (m * c' + n * r') := by rw [e1]; omega
        _ = m * (k2 * c') + n * (k2 * r') := by grind
        _ = m * (k2 * c') + n * (k1 * c') := by rw [q1]
        _ = _ := by grind
    generalize m * k2 + n * k1 = j at j1 j2
    subst j1
    subst j2
    have q2 : j * (G * d') = D * (m2 * p' - m1 * a') := by
      rw [← ed]
      exact ml2 (x := x) (by rw [← ea]; exact hx) (by rw [← ep]; exact hx2)
    have q3 : j * d' = D' * (m2 * p' - m1 * a') := by
      have : G * (j * d') = G * (D' * (m2 * p' - m1 * a')) := ml3 (by rw [← eD]; exact q2)
      exact Int.eq_of_mul_eq_mul_left (by omega) this
    have q4 : j = D' * (j * u + v * (m2 * p' - m1 * a')) := ml4 q3 e3
    generalize j * u + v * (m2 * p' - m1 * a') = i at q4
    subst q4
    have q5 : i * d' = m2 * p' - m1 * a' := by
      have : D' * (i * d') = D' * (m2 * p' - m1 * a') := ml5 q3
      exact Int.eq_of_mul_eq_mul_left (by omega) this
    refine ⟨m1 * t + s * m2 + i * k, i, ?_, by rw [hy, ec]; exact ml8⟩
    rw [hx, hk]
    have q6 : m1 + s * (i * d') = p' * (m1 * t + s * m2) := by
      rw [q5]
      exact ml6 e2
    exact ml7 (by rw [q6])
  · rw [ep]
    exact Int.mul_le_mul_of_nonneg_left (by have := Int.mul_le_mul_of_nonneg_right (show (1 : Int) ≤ D by omega) (Int.le_of_lt hp'); omega) (Int.le_of_lt ha)
  · have hDa : D' ≤ a := by
      have e4 : a = D' * (G * a') := by rw [ea, eD]; grind
      have := Int.mul_le_mul_of_nonneg_left (show (1 : Int) ≤ G * a' from Int.mul_pos hG ha') (Int.le_of_lt hD')
      omega
    have h5 : c' * r' * g ≤ c * r := by
      rw [ec, er]
      have e5 : g * c' * (g * r') = g * (c' * r' * g) := by grind
      rw [e5]
      have h6 : 0 < c' * r' * g := Int.mul_pos (Int.mul_pos hc' hr') hg
      have := Int.mul_le_mul_of_nonneg_right (show (1 : Int) ≤ g by omega) (Int.le_of_lt h6)
      omega
    exact Int.mul_le_mul hDa h5 (Int.le_of_lt (Int.mul_pos (Int.mul_pos hc' hr') hg)) (Int.le_of_lt ha)
  · have e0 : m * b + n * q - (m * b + n * q) / G * G = (m * b + n * q) % G := by rw [Int.emod_def]; grind
    rw [e0]
    refine form_pos ?_ hG hg
    refine .of (fun x y z => ?_) (fun x y z => ?_)
    · -- each of the four in the net of (G, 0), (β, g)
      have inG : ∀ i : Int, Sp [(G, 0), (m * b + n * q, g)] (i * G) 0 := fun i => ((Sp.gen (u := G) (v := 0) (by simp)).smul i).cast rfl (by omega)
      have inB : ∀ i : Int, Sp [(G, 0), (m * b + n * q, g)] (i * (m * b + n * q)) (i * g) := fun i => (Sp.gen (u := m * b + n * q) (v := g) (by simp)).smul i
      simp only [List.mem_cons, List.not_mem_nil, or_false, Prod.mk.injEq] at z
      rcases z with ⟨rfl, rfl⟩ | ⟨rfl, rfl⟩ | ⟨rfl, rfl⟩ | ⟨rfl, rfl⟩
      · exact (inG (D' * a')).cast (by rw [ea, eD]; grind) rfl
      · refine ((inG (n * d')).sum (inB c')).cast ?_ (by rw [ec]; grind)
        have : x * (m * c' + n * r') = x := by rw [e1]; omega
        have z2 : n * (x * r' - q * c') = n * (G * d') := by rw [ed]
        grind
      · exact (inG (D' * p')).cast (by rw [ep, eD]; grind) rfl
      · refine ((inG (-m * d')).sum (inB r')).cast ?_ (by rw [er]; grind)
        have : x * (m * c' + n * r') = x := by rw [e1]; omega
        have z2 : m * (b * r' - x * c') = m * (G * d') := by rw [ed]
        grind
    · have g1 : Sp [(a, 0), (b, c), (p, 0), (q, r)] a 0 := .gen (by simp)
      have g2 : Sp [(a, 0), (b, c), (p, 0), (q, r)] b c := .gen (by simp)
      have g3 : Sp [(a, 0), (b, c), (p, 0), (q, r)] p 0 := .gen (by simp)
      have g4 : Sp [(a, 0), (b, c), (p, 0), (q, r)] q r := .gen (by simp)
      have gD : Sp [(a, 0), (b, c), (p, 0), (q, r)] D 0 := ((g1.smul s).sum (g3.smul t)).cast (by
        have : D * (s * a' + t * p') = D := by rw [e2]; omega
        rw [ea, ep]
        grind) (by omega)
      have gd : Sp [(a, 0), (b, c), (p, 0), (q, r)] (G * d') 0 := ((g2.smul r').sub (g4.smul c')).cast (by rw [← ed]; grind) (by rw [ec, er]; grind)
      simp only [List.mem_cons, List.not_mem_nil, or_false, Prod.mk.injEq] at z
      rcases z with ⟨rfl, rfl⟩ | ⟨rfl, rfl⟩
      · refine ((gD.smul u).sum (gd.smul v)).cast ?_ (by omega)
        have : x * (u * D' + v * d') = x := by rw [e3]; omega
        rw [eD]
        grind
      · refine ((g2.smul m).sum (g4.smul n)).cast rfl ?_
        have : y * (m * c' + n * r') = y := by rw [e1]; omega
        rw [ec, er]
        grind
  · have e5 : D' * G = D := by rw [eD]; grind
    calc a * p' * (D' * (c' * r' * g)) * (G * g) = a * (p' * (D' * G)) * ((g * c') * (g * r')) := by grind
      _ = a * c * (p * r) := by rw [e5, ← ec, ← er, ep]; grind
theorem meet_prog {a b c p q r s t g up f e D G rows W : Int} (h : Ok a b c) (h' : Ok p q r) (eg : g = (Int.gcd c r : Int)) (eup : up = c * r / g) (ef : f = b * (up / c)) (ee : e = q * (up / r)) (eD : D = (Int.gcd a p : Int)) (hs : D = s * a + t * p)
    (eG : G = (Int.gcd D (f - e) : Int)) (er : rows = D / G) (eW : W = a * p / D) :
    Meet a b c p q r W ((rows * f + a * ((rows * e - rows * f) / D * s)) % W) (rows * up) ∧ ∀ A B C, Form [(a, 0), (b, c), (p, 0), (q, r)] (some (A, B, C)) → W * (rows * up) * (A * C) = a * c * (p * r) := by
  have ha : 0 < a := by have := h.2; omega
  have hp : 0 < p := by have := h'.2; omega
  have hc : 0 < c := by have := h.1; omega
  have hr : 0 < r := by have := h'.1; omega
  obtain ⟨g0, c', r', m, n, rfl, hg, ec, er', e1⟩ := gcd_parts (r := r) hc
  rw [← eg] at hg ec er'
  obtain ⟨D0, a', p', _, _, rfl, hD, ea, ep, _⟩ := gcd_parts (r := p) ha
  rw [← eD] at hD ea ep
  have e2 : s * a' + t * p' = 1 := by
    have : D * (s * a' + t * p') = D * 1 := by
      calc D * (s * a' + t * p') = s * (D * a') + t * (D * p') := by grind
        _ = s * a + t * p := by rw [← ea, ← ep]
        _ = D * 1 := by rw [← hs]; omega
    exact Int.eq_of_mul_eq_mul_left (by omega) this
  have up1 : up = c' * r' * g := by
    rw [eup]
    have : c * r = g * (c' * r' * g) := by rw [ec, er']; grind
    rw [this, Int.mul_ediv_cancel_left _ (by omega)]
  have up2 : up / c = r' := by
    have : up = c * r' := by rw [up1, ec]; grind
    rw [this, Int.mul_ediv_cancel_left _ (by omega)]
  have up3 : up / r = c' := by
    have : up = r * c' := by rw [up1, er']; grind
    rw [this, Int.mul_ediv_cancel_left _ (by omega)]
  rw [up2] at ef
  rw [up3] at ee
  obtain ⟨G0, D', d', u, v, rfl, hG, eD2, ed, e3⟩ := gcd_parts (r := f - e) hD
  rw [← eG] at hG eD2 ed
  have erow : rows = D' := by rw [er, eD2, Int.mul_ediv_cancel_left _ (by omega)]
  have hW : W = a * p' := by
    rw [eW]
    have : a * p = D * (a * p') := by rw [ep]; grind
    rw [this, Int.mul_ediv_cancel_left _ (by omega)]
  have x : MP a b c p q r g c' r' m n D a' p' s t G D' d' u v := ⟨hg, ec, er', e1, hD, ea, ep, e2, hG, eD2, by rw [← ed, ef, ee], e3⟩
  have dv : (rows * e - rows * f) / D = -d' := by
    have : rows * e - rows * f = D * (-d') := by
      rw [erow]
      calc D' * e - D' * f = -(D' * (f - e)) := by grind
        _ = -(D' * (G * d')) := by rw [ed]
        _ = D * (-d') := by rw [eD2]; grind
    rw [this, Int.mul_ediv_cancel_left _ (by omega)]
  obtain ⟨z1, β, z2, z3⟩ := meet_of h h' x _ rfl
  rw [dv, hW, erow, up1]
  have e9 : D' * f + a * (-d' * s) = D' * (b * r') - a * (d' * s) := by rw [ef]; grind
  rw [e9]
  refine ⟨z1, fun A B C hF => ?_⟩
  have := form_uni hF z2
  simp only [Option.some.injEq, Prod.mk.injEq] at this
  obtain ⟨rfl, _, rfl⟩ := this
  exact z3
theorem meet_uni {a b c p q r W R U W' R' U' : Int} (h : Meet a b c p q r W R U) (h' : Meet a b c p q r W' R' U') : W = W' ∧ R = R' ∧ U = U' := net_eq h.1 h'.1 fun x y => (h.2.1 x y).trans (h'.2.1 x y).symm
theorem meet_size {a b c p q r W R U A B C : Int} (h : Ok a b c) (h' : Ok p q r) (hM : Meet a b c p q r W R U) (hF : Form [(a, 0), (b, c), (p, 0), (q, r)] (some (A, B, C))) : W * U * (A * C) = a * c * (p * r) := by
  obtain ⟨s, t, e⟩ := bez a p
  obtain ⟨z1, z2⟩ := meet_prog h h' rfl rfl rfl rfl rfl e rfl rfl rfl
  obtain ⟨e1, _, e2⟩ := meet_uni hM z1
  rw [e1, e2]
  exact z2 A B C hF
/-- Euclid's steps with factors -/
structure Bz (a p f0 f1 s0 s1 : Int) : Prop where
  f : ∃ t, f0 = f1 * a + t * p
  s : ∃ t, s0 = s1 * a + t * p
  g : Int.gcd f0 s0 = Int.gcd a p
  pos : 0 < f0
  nn : 0 ≤ s0
  sg : f1 * s1 ≤ 0
  sum : f0.natAbs * s1.natAbs + f1.natAbs * s0.natAbs = p.natAbs
  le : f1.natAbs ≤ p.natAbs
theorem Bz.start {a p : Int} (ha : 0 < a) (hp : 0 < p) : Bz a p a 1 p 0 := ⟨⟨0, by omega⟩, ⟨1, by omega⟩, rfl, ha, by omega, by omega, by simp, by simp; omega⟩
theorem Bz.step {a p f0 f1 s0 s1 : Int} (h : Bz a p f0 f1 s0 s1) (hs : 0 < s0) : Bz a p s0 s1 (f0 - f0 / s0 * s0) (f1 - f0 / s0 * s1) := by
  obtain ⟨⟨t, e1⟩, ⟨t', e2⟩, hg, hp, hn, sg, sm, le⟩ := h
  have hq : 0 ≤ f0 / s0 := Int.ediv_nonneg (by omega) (by omega)
  have e3 : f0 - f0 / s0 * s0 = f0 % s0 := by rw [Int.emod_def]; grind
  have hr := Int.emod_nonneg f0 (show s0 ≠ 0 by omega)
  have hr2 := Int.emod_lt_of_pos f0 hs
  have sq : 0 ≤ s1 * s1 := by
    rcases Int.le_total 0 s1 with z | z
    · exact Int.mul_nonneg z z
    · exact Int.mul_nonneg_of_nonpos_of_nonpos z z
  have abs : (f1 - f0 / s0 * s1).natAbs = f1.natAbs + (f0 / s0).natAbs * s1.natAbs := by
    rcases Int.le_total 0 s1 with z | z
    · have z2 : f1 ≤ 0 ∨ s1 = 0 := by
        rcases Int.lt_or_le 0 f1 with y | y
        · right
          rcases Int.lt_or_le 0 s1 with y' | y'
          · have := Int.mul_pos y y'; omega
          · omega
        · exact .inl y
      rcases z2 with z2 | z2
      · have : 0 ≤ f0 / s0 * s1 := Int.mul_nonneg hq z
        rw [← Int.natAbs_mul]
        omega
      · rw [z2]; simp
    · have z2 : 0 ≤ f1 ∨ s1 = 0 := by
        rcases Int.lt_or_le f1 0 with y | y
        · right
          rcases Int.lt_or_le s1 0 with y' | y'
          · have := Int.mul_pos_of_neg_of_neg y y'; omega
          · omega
        · exact .inl y
      rcases z2 with z2 | z2
      · have : f0 / s0 * s1 ≤ 0 := Int.mul_nonpos_of_nonneg_of_nonpos hq z
        rw [← Int.natAbs_mul]
        omega
      · rw [z2]; simp
  refine ⟨⟨t', e2⟩, ⟨t - f0 / s0 * t', ?_⟩, ?_, hs, by omega, ?_, ?_, ?_⟩
  · generalize f0 / s0 = k at *
    calc f0 - k * s0 = (f1 * a + t * p) - k * (s1 * a + t' * p) := by rw [← e1, ← e2]
      _ = _ := by grind
  · rw [e3, ← hg, ← fmod_gcd f0 s0, Int.fmod_eq_emod_of_nonneg _ (by omega)]
  · have : s1 * (f1 - f0 / s0 * s1) = f1 * s1 - f0 / s0 * (s1 * s1) := by grind
    rw [this]
    have := Int.mul_nonneg hq sq
    omega
  · rw [abs, ← sm]
    have e4 : f0.natAbs = (f0 / s0).natAbs * s0.natAbs + (f0 - f0 / s0 * s0).natAbs := by
      rw [← Int.natAbs_mul]
      have : 0 ≤ f0 / s0 * s0 := Int.mul_nonneg hq (by omega)
      omega
    rw [e4]
    grind
  · have h1 : 1 ≤ f0.natAbs := by omega
    have := Nat.mul_le_mul_right s1.natAbs h1
    omega
theorem Bz.fin {a p f0 f1 s1 : Int} (h : Bz a p f0 f1 0 s1) : f0 = (Int.gcd a p : Int) ∧ (∃ t, f0 = f1 * a + t * p) ∧ f1.natAbs ≤ p.natAbs := by
  refine ⟨?_, h.f, h.le⟩
  rw [← h.g]
  have := h.pos
  simp
  omega
end MN
namespace MN
/-- both spanning shifts of (a, b, c) belong to (p, q, r) -/
def inside (a b c p q r : Int) : Bool := decide (low p q r a 0 = (0, 0)) && decide (low p q r b c = (0, 0))
theorem inside_iff {a b c p q r : Int} (h : Ok p q r) : inside a b c p q r = true ↔ ∀ x y, InN a b c x y → InN p q r x y := by
  have hp : 0 < p := by have := h.2; omega
  have hr : 0 < r := by have := h.1; omega
  unfold inside
  rw [Bool.and_eq_true, decide_eq_true_eq, decide_eq_true_eq, low_zero hp hr, low_zero hp hr]
  constructor
  · rintro ⟨h1, h2⟩ x y ⟨m, k, rfl, rfl⟩
    have := inN_add (inN_mul m h1) (inN_mul k h2)
    rw [Int.mul_zero, Int.zero_add] at this
    exact this
  · intro h
    exact ⟨h a 0 ⟨1, 0, by omega, by omega⟩, h b c ⟨0, 1, by omega, by omega⟩⟩
theorem bool_ext {x y : Bool} (h : x = true ↔ y = true) : x = y := by cases x <;> cases y <;> simp_all
theorem meet_first {a b c p q r W R U : Int} (h : Ok a b c) (h' : Ok p q r) (m : Meet a b c p q r W R U) : decide (W = a ∧ R = b ∧ U = c) = inside a b c p q r := by
  refine bool_ext ?_
  rw [decide_eq_true_eq, inside_iff h']
  constructor
  · rintro ⟨rfl, rfl, rfl⟩ x y z
    exact ((m.2.1 x y).mp z).2
  · intro z
    exact net_eq m.1 h fun x y => ⟨fun w => ((m.2.1 x y).mp w).1, fun w => (m.2.1 x y).mpr ⟨w, z x y w⟩⟩
theorem join_in {a b c p q r A B C : Int} (f : Form [(a, 0), (b, c), (p, 0), (q, r)] (some (A, B, C))) : (∀ x y, InN a b c x y → InN A B C x y) ∧ (∀ x y, InN p q r x y → InN A B C x y) := by
  refine ⟨fun x y z => (f.2 x y).mpr ?_, fun x y z => (f.2 x y).mpr ?_⟩
  · refine Sp.le (fun u v m => ?_) (inN_sp.mp z)
    refine .gen ?_
    simp only [List.mem_cons, List.not_mem_nil, or_false] at m ⊢
    rcases m with m | m
    · exact .inl m
    · exact .inr (.inl m)
  · refine Sp.le (fun u v m => ?_) (inN_sp.mp z)
    refine .gen ?_
    simp only [List.mem_cons, List.not_mem_nil, or_false] at m ⊢
    rcases m with m | m
    · exact .inr (.inr (.inl m))
    · exact .inr (.inr (.inr m))
/-- the least net with both -/
theorem join_le {a b c p q r A B C a' b' c' : Int} (f : Form [(a, 0), (b, c), (p, 0), (q, r)] (some (A, B, C))) (h1 : ∀ x y, InN a b c x y → InN a' b' c' x y) (h2 : ∀ x y, InN p q r x y → InN a' b' c' x y) : ∀ x y, InN A B C x y → InN a' b' c' x y := fun x y z => by
  have := (f.2 x y).mp z
  refine inN_sp.mpr (Sp.le (fun u v m => inN_sp.mp ?_) this)
  simp only [List.mem_cons, List.not_mem_nil, or_false, Prod.mk.injEq] at m
  rcases m with ⟨rfl, rfl⟩ | ⟨rfl, rfl⟩ | ⟨rfl, rfl⟩ | ⟨rfl, rfl⟩
  · exact h1 _ _ ⟨1, 0, by omega, by omega⟩
  · exact h1 _ _ ⟨0, 1, by omega, by omega⟩
  · exact h2 _ _ ⟨1, 0, by omega, by omega⟩
  · exact h2 _ _ ⟨0, 1, by omega, by omega⟩
theorem join_second {a b c p q r A B C : Int} (h' : Ok p q r) (f : Form [(a, 0), (b, c), (p, 0), (q, r)] (some (A, B, C))) : decide (A = p ∧ B = q ∧ C = r) = inside a b c p q r := by
  refine bool_ext ?_
  rw [decide_eq_true_eq, inside_iff h']
  constructor
  · rintro ⟨rfl, rfl, rfl⟩
    exact (join_in f).1
  · intro z
    exact net_eq f.1 h' fun x y => ⟨join_le f z (fun _ _ w => w) x y, (join_in f).2 x y⟩
theorem join_not_none {a b c : Int} {S : List (Int × Int)} (h : Ok a b c) : ¬ Form ((a, 0) :: (b, c) :: S) none := not_none h (.gen (by simp)) (.gen (by simp))
theorem join_ex {a b c p q r : Int} (h : Ok a b c) (h' : Ok p q r) : ∃ A B C, Form [(a, 0), (b, c), (p, 0), (q, r)] (some (A, B, C)) := by
  obtain ⟨s, t, e⟩ := bez a p
  have ha : 0 < a := by have := h.2; omega
  have hc : 0 < c := by have := h.1; omega
  obtain ⟨g, c', r', m, n, _, hg, ec, er', e1⟩ := gcd_parts (r := r) hc
  obtain ⟨D, a', p', s, t, _, hD, ea, ep, e2⟩ := gcd_parts (r := p) ha
  obtain ⟨G, D', d', u, v, _, hG, eD2, ed, e3⟩ := gcd_parts (r := b * r' - q * c') hD
  obtain ⟨_, β, z, _⟩ := meet_of h h' (⟨hg, ec, er', e1, hD, ea, ep, e2, hG, eD2, ed, e3⟩ : MP a b c p q r g c' r' m n D a' p' s t G D' d' u v) _ rfl
  exact ⟨_, _, _, z⟩
end MN
namespace Y
open PySem PySem.Spec PyProof.Rows L2 Z
abbrev n3 (a b c : Int) : D := .tup [.int a, .int b, .int c]
def n3D (n : Int × Int × Int) : D := n3 n.1 n.2.1 n.2.2
def R_check_number_n : RdF := ar3 fun v lo hi Q _ => match v, lo, hi with
  | .int i, .int l, .non => l ≤ i ∧ Q .non
  | .int i, .int l, .int h => (l ≤ i ∧ i ≤ h) ∧ Q .non
  | _, _, _ => False
def R_bezout : RdF := ar2 fun x y Q _ => match x, y with
  | .int a, .int p => (0 < a ∧ 0 < p ∧ Sz 1000 a ∧ Sz 1000 p) ∧ ∀ s t : Int, ((Int.gcd a p : Nat) : Int) = s * a + t * p → s.natAbs ≤ p.natAbs → Q (dPl ((Int.gcd a p : Nat) : Int) s)
  | _, _ => False
/-- two nets of moderate numbers -/
def okN (n : Nat) (a b c : Int) : Prop := MN.Ok a b c ∧ Sz n a ∧ Sz n c
theorem okN.mono {n m : Nat} {a b c : Int} (h : okN n a b c) (z : n ≤ m) : okN m a b c := ⟨h.1, h.2.1.mono z, h.2.2.mono z⟩
theorem okN.b {n : Nat} {a b c : Int} (h : okN n a b c) : Sz n b := sz_le h.1.2.1 (Int.le_of_lt h.1.2.2) h.2.1
def R_common_numbers : RdF := ar2 fun x y Q _ => ∃ a b c p q r : Int, x = n3 a b c ∧ y = n3 p q r ∧ (okN 900 a b c ∧ okN 900 p q r) ∧ ∀ W R U, MN.Meet a b c p q r W R U → Q (n3 W R U)
def R_Net_UandU : RdF := ar2 fun x y Q _ => ∃ a b c p q r : Int, x = dNet a b c ∧ y = dNet p q r ∧ (okN 900 a b c ∧ okN 900 p q r) ∧ ∀ W R U, MN.Meet a b c p q r W R U → Q (dNet W R U)
def R_Net_UorU : RdF := ar2 fun x y Q _ => ∃ a b c p q r : Int, x = dNet a b c ∧ y = dNet p q r ∧ (okN 600 a b c ∧ okN 600 p q r) ∧ ∀ A B C, MN.Form [(a, 0), (b, c), (p, 0), (q, r)] (some (A, B, C)) → Q (dNet A B C)
def R_Net_is_within : RdF := ar2 fun x y Q _ => ∃ a b c p q r : Int, x = dNet a b c ∧ y = dNet p q r ∧ (okN 4000 p q r ∧ Sz 4000 c) ∧ Q (.bl (MN.inside a b c p q r))
def R_Net_scaled : RdF := ar2 fun x y Q _ => ∃ a b c f : Int, x = dNet a b c ∧ y = .int f ∧ (okN 1000 a b c ∧ 1 ≤ f ∧ Sz 1000 f) ∧ Q (dNet (a * f) (b * f) (c * f))
def R__law_low : RdF := ar2 fun n p Q _ => ∃ a b c x y : Int, n = n3 a b c ∧ p = dPl x y ∧ (okN 4000 a b c ∧ Sz 4000 y) ∧ Q (dPl (MN.low a b c x y).1 (MN.low a b c x y).2)
def R__law_rows : RdF := ar1 fun n Q _ => ∃ a b c : Int, n = n3 a b c ∧ Q (.lst [dPl a 0, dPl b c])
theorem meet_sz {n : Nat} {a b c p q r W R U : Int} (h : okN n a b c) (h' : okN n p q r) (m : MN.Meet a b c p q r W R U) : okN (3 * n) W R U := by
  obtain ⟨o, _, l1, l2⟩ := m
  obtain ⟨⟨o1, o2, o3⟩, sa, sc⟩ := h
  obtain ⟨⟨p1, p2, p3⟩, sp, sr⟩ := h'
  have s1 : Sz (n + n) (a * p) := sz_mul sa sp
  have s2 : Sz (n + (n + n)) (a * (c * r)) := sz_mul sa (sz_mul sc sr)
  exact ⟨o, (sz_le (by have := o.2; omega) l1 s1).mono (by omega), (sz_le (by have := o.1; omega) l2 s2).mono (by omega)⟩
theorem join_sz {n : Nat} {a b c p q r A B C : Int} (h : okN n a b c) (f : MN.Form [(a, 0), (b, c), (p, 0), (q, r)] (some (A, B, C))) : okN n A B C := by
  obtain ⟨⟨o1, o2, o3⟩, sa, sc⟩ := h
  obtain ⟨d1, d2⟩ := MN.net_le ⟨o1, o2, o3⟩ f.1 (MN.join_in f).1
  have l1 := Int.le_of_dvd (by omega) d1
  have l2 := Int.le_of_dvd (by omega) d2
  exact ⟨f.1, sz_le (by have := f.1.2; omega) l1 sa, sz_le (by have := f.1.1; omega) l2 sc⟩
theorem rngD_get {lo : Int} {n i : Nat} {d : D} (h : (rngD lo n)[i]? = some d) : ∃ v : Int, d = .int v ∧ lo ≤ v ∧ v < lo + n := by
  unfold rngD at h
  obtain ⟨j, h1, rfl⟩ := map_get h
  have hj : j < n := by
    have := List.mem_of_getElem? h1
    exact List.mem_range.mp this
  exact ⟨_, rfl, by omega, by omega⟩
theorem rngC_get {lo c : Int} {n i : Nat} {d : D} (h : (rngC lo c n)[i]? = some d) : ∃ j : Nat, j < n ∧ d = .int (lo + (j : Nat) * c) := by
  unfold rngC at h
  obtain ⟨j, h1, rfl⟩ := map_get h
  exact ⟨j, List.mem_range.mp (List.mem_of_getElem? h1), rfl⟩
/-! ### k04 -/
def R__law_three : RdF := ar1 fun t Q _ => match t with
  | .tape => ∀ l m n : Int × Int × Int, (∀ x ∈ [l, m, n], okN 20 x.1 x.2.1 x.2.2) → Q (.lst [n3D l, n3D m, n3D n])
  | _ => False
def R__law_pair_right : RdF := ar2 fun x y Q _ => ∃ a b c p q r : Int, x = n3 a b c ∧ y = n3 p q r ∧ (okN 60 a b c ∧ okN 60 p q r) ∧ Q (.bl true)
def R__law_great_net : RdF := ar1 fun t Q _ => match t with
  | .tape => ∀ a b c, okN 50 a b c → Q (n3 a b c)
  | _ => False
def R__law_great_right : RdF := ar1 fun t Q _ => match t with
  | .tape => Q (.bl true)
  | _ => False
end Y
namespace MN
/-! ### turns and mirror images -/
abbrev Mat := Int × Int × Int × Int
def turn (M : Mat) (p : Int × Int) : Int × Int := (M.1 * p.1 + M.2.1 * p.2, M.2.2.1 * p.1 + M.2.2.2 * p.2)
def tr (M : Mat) : Mat := (M.1, M.2.2.1, M.2.1, M.2.2.2)
def Orth (M : Mat) : Prop := M.1 * M.1 + M.2.2.1 * M.2.2.1 = 1 ∧ M.2.1 * M.2.1 + M.2.2.2 * M.2.2.2 = 1 ∧ M.1 * M.2.1 + M.2.2.1 * M.2.2.2 = 0 ∧ M.1 * M.1 + M.2.1 * M.2.1 = 1 ∧ M.2.2.1 * M.2.2.1 + M.2.2.2 * M.2.2.2 = 1 ∧ M.1 * M.2.2.1 + M.2.1 * M.2.2.2 = 0
instance (M : Mat) : Decidable (Orth M) := by unfold Orth; infer_instance
theorem orth_tr {M : Mat} (h : Orth M) : Orth (tr M) := by
  obtain ⟨p, q, r, s⟩ := M
  obtain ⟨h1, h2, h3, h4, h5, h6⟩ := h
  exact ⟨h4, h5, h6, h1, h2, h3⟩
theorem turn_tr {M : Mat} (h : Orth M) (u : Int × Int) : turn (tr M) (turn M u) = u := by
  obtain ⟨p, q, r, s⟩ := M
  obtain ⟨x, y⟩ := u
  obtain ⟨h1, h2, h3, h4, h5, h6⟩ := h
  simp only [turn, tr] at *
  refine Prod.ext ?_ ?_ <;> simp only <;> grind
theorem turn_tr' {M : Mat} (h : Orth M) (u : Int × Int) : turn M (turn (tr M) u) = u := turn_tr (orth_tr h) u
theorem sp_turn (M : Mat) {S : List (Int × Int)} {x y : Int} (h : Sp S x y) : Sp (S.map (turn M)) (turn M (x, y)).1 (turn M (x, y)).2 := by
  induction h with
  | zero => simp only [turn, Int.mul_zero, Int.add_zero]; exact .zero
  | @add u v x y n mem _ ih =>
    exact (Sp.sum (Sp.smul n (Sp.gen (S := S.map (turn M)) (u := (turn M (u, v)).1) (v := (turn M (u, v)).2) (List.mem_map.mpr ⟨(u, v), mem, rfl⟩))) ih).cast (by simp only [turn]; grind) (by simp only [turn]; grind)
def Img (M : Mat) (a b c a' b' c' : Int) : Prop := Ok a' b' c' ∧ (∀ x y, InN a' b' c' (turn M (x, y)).1 (turn M (x, y)).2 ↔ InN a b c x y) ∧ a' * c' = a * c
theorem img_tr {M : Mat} (h : Orth M) {a b c a' b' c' : Int} (i : Img M a b c a' b' c') (x y : Int) : InN a' b' c' x y ↔ InN a b c (turn (tr M) (x, y)).1 (turn (tr M) (x, y)).2 := by
  have := i.2.1 (turn (tr M) (x, y)).1 (turn (tr M) (x, y)).2
  have e : turn M ((turn (tr M) (x, y)).1, (turn (tr M) (x, y)).2) = (x, y) := turn_tr' h (x, y)
  rw [e] at this
  exact this
theorem img_uni {M : Mat} (h : Orth M) {a b c a' b' c' p q r : Int} (i : Img M a b c a' b' c') (j : Img M a b c p q r) : a' = p ∧ b' = q ∧ c' = r := net_eq i.1 j.1 fun x y => (img_tr h i x y).trans (img_tr h j x y).symm
theorem inN_turn {M : Mat} (h : Orth M) {a b c x y : Int} : Sp [turn M (a, 0), turn M (b, c)] (turn M (x, y)).1 (turn M (x, y)).2 ↔ InN a b c x y := by
  constructor
  · intro z
    obtain ⟨m, k, e1, e2⟩ := sp_two z
    have e3 : turn M (x, y) = turn M (m * a + k * b, k * c) := by
      refine Prod.ext ?_ ?_
      · rw [e1]; simp only [turn]; grind
      · rw [e2]; simp only [turn]; grind
    have e4 := congrArg (turn (tr M)) e3
    rw [turn_tr h, turn_tr h] at e4
    exact ⟨m, k, congrArg (·.1) e4, congrArg (·.2) e4⟩
  · intro z
    exact sp_turn M (inN_sp.mp z)
theorem det_turn {M : Mat} (h : Orth M) (p q : Int × Int) : det (turn M p) (turn M q) = det p q ∨ det (turn M p) (turn M q) = - det p q := by
  obtain ⟨a, b, c, d⟩ := M
  obtain ⟨h1, h2, h3, h4, h5, h6⟩ := h
  obtain ⟨x, y⟩ := p
  obtain ⟨u, v⟩ := q
  simp only [turn, det] at *
  have e : (a * d - b * c) * (a * d - b * c) = 1 := by grind
  have e2 : a * d - b * c = 1 ∨ a * d - b * c = -1 := by
    generalize a * d - b * c = t at e
    have e' : t * t - 1 = 0 := by omega
    have e'' : (t - 1) * (t + 1) = 0 := by grind
    rcases Int.mul_eq_zero.mp e'' with h | h
    · exact .inl (by omega)
    · exact .inr (by omega)
  rcases e2 with e2 | e2
  · exact .inl (by grind)
  · exact .inr (by grind)
theorem img_form {M : Mat} (h : Orth M) {a b c a' b' c' : Int} (o : Ok a b c) (f : Form [turn M (a, 0), turn M (b, c)] (some (a', b', c'))) : Img M a b c a' b' c' := by
  have hi : ∀ x y, InN a' b' c' (turn M (x, y)).1 (turn M (x, y)).2 ↔ InN a b c x y := fun x y => (f.2 _ _).trans (inN_turn h)
  refine ⟨f.1, hi, ?_⟩
  have ha : 0 < a := by have := o.2; omega
  have hc : 0 < c := by have := o.1; omega
  have ha' : 0 < a' := by have := f.1.2; omega
  have hc' : 0 < c' := by have := f.1.1; omega
  have d1 : a' * c' ∣ a * c := by
    have z := det_dvd ((hi a 0).mpr ⟨1, 0, by omega, by omega⟩) ((hi b c).mpr ⟨0, 1, by omega, by omega⟩)
    have z' : a' * c' ∣ det (turn M (a, 0)) (turn M (b, c)) := z
    rcases det_turn h (a, 0) (b, c) with e | e
    · rw [e] at z'
      have : det (a, 0) (b, c) = a * c := by simp only [det]; omega
      rwa [this] at z'
    · rw [e] at z'
      have : det (a, 0) (b, c) = a * c := by simp only [det]; omega
      rw [this] at z'
      exact Int.dvd_neg.mp z'
  have d2 : a * c ∣ a' * c' := by
    have i1 : InN a b c (turn (tr M) (a', 0)).1 (turn (tr M) (a', 0)).2 := by
      have := hi (turn (tr M) (a', 0)).1 (turn (tr M) (a', 0)).2
      have e : turn M ((turn (tr M) (a', 0)).1, (turn (tr M) (a', 0)).2) = (a', 0) := turn_tr' h _
      rw [e] at this
      exact this.mp ⟨1, 0, by omega, by omega⟩
    have i2 : InN a b c (turn (tr M) (b', c')).1 (turn (tr M) (b', c')).2 := by
      have := hi (turn (tr M) (b', c')).1 (turn (tr M) (b', c')).2
      have e : turn M ((turn (tr M) (b', c')).1, (turn (tr M) (b', c')).2) = (b', c') := turn_tr' h _
      rw [e] at this
      exact this.mp ⟨0, 1, by omega, by omega⟩
    have z' : a * c ∣ det (turn (tr M) (a', 0)) (turn (tr M) (b', c')) := det_dvd i1 i2
    have : det (a', 0) (b', c') = a' * c' := by simp only [det]; omega
    rcases det_turn (orth_tr h) (a', 0) (b', c') with e | e
    · rw [e, this] at z'
      exact z'
    · rw [e, this] at z'
      exact Int.dvd_neg.mp z'
  exact Int.dvd_antisymm (Int.le_of_lt (Int.mul_pos ha' hc')) (Int.le_of_lt (Int.mul_pos ha hc)) d1 d2
theorem turn_not_none {M : Mat} (h : Orth M) {a b c : Int} (o : Ok a b c) : ¬ Form [turn M (a, 0), turn M (b, c)] none := by
  have ha : 0 < a := by have := o.2; omega
  have hc : 0 < c := by have := o.1; omega
  have hN : 0 < a * c := Int.mul_pos ha hc
  have all : ∀ u v : Int, Sp [turn M (a, 0), turn M (b, c)] (a * c * u) (a * c * v) := fun u v => by
    have e : turn M (turn (tr M) (a * c * u, a * c * v)) = (a * c * u, a * c * v) := turn_tr' h _
    have z : InN a b c (turn (tr M) (a * c * u, a * c * v)).1 (turn (tr M) (a * c * u, a * c * v)).2 := by
      refine ⟨c * (turn (tr M) (u, v)).1 - b * (turn (tr M) (u, v)).2, a * (turn (tr M) (u, v)).2, ?_, ?_⟩ <;> simp only [turn] <;> grind
    have := (inN_turn h).mpr z
    have e' : turn M ((turn (tr M) (a * c * u, a * c * v)).1, (turn (tr M) (a * c * u, a * c * v)).2) = (a * c * u, a * c * v) := e
    rw [e'] at this
    exact this
  exact not_none (a := a * c) (b := 0) (c := a * c) ⟨by omega, by omega, hN⟩ ((all 1 0).cast (by omega) (by omega)) ((all 0 1).cast (by omega) (by omega))
/-! ### what is carried along -/
section
variable {M M' : Mat} {a b c a' b' c' p q r p' q' r' : Int}
theorem img_meet (h : Orth M) {W R U W' R' U' W2 R2 U2 : Int} (i : Img M a b c a' b' c') (j : Img M p q r p' q' r') (m : Meet a b c p q r W R U) (k : Img M W R U W' R' U') (m2 : Meet a' b' c' p' q' r' W2 R2 U2) : W' = W2 ∧ R' = R2 ∧ U' = U2 := by
  refine net_eq k.1 m2.1 fun x y => ?_
  rw [img_tr h k, m.2.1, m2.2.1, img_tr h i, img_tr h j]
theorem img_join (h : Orth M) {A B C A' B' C' A2 B2 C2 : Int} (i : Img M a b c a' b' c') (j : Img M p q r p' q' r') (f : Form [(a, 0), (b, c), (p, 0), (q, r)] (some (A, B, C))) (k : Img M A B C A' B' C') (f2 : Form [(a', 0), (b', c'), (p', 0), (q', r')] (some (A2, B2, C2))) : A' = A2 ∧ B' = B2 ∧ C' = C2 := by
  have sub1 : ∀ x y, InN a b c x y → InN A B C x y := fun x y z => (f.2 x y).mpr (Sp.le (fun u v m => .gen (by simp only [List.mem_cons, List.not_mem_nil, or_false] at m ⊢; rcases m with m | m; exact .inl m; exact .inr (.inl m))) (inN_sp.mp z))
  have sub2 : ∀ x y, InN p q r x y → InN A B C x y := fun x y z => (f.2 x y).mpr (Sp.le (fun u v m => .gen (by simp only [List.mem_cons, List.not_mem_nil, or_false] at m ⊢; rcases m with m | m; exact .inr (.inr (.inl m)); exact .inr (.inr (.inr m)))) (inN_sp.mp z))
  refine net_eq k.1 f2.1 fun x y => ⟨fun z => ?_, fun z => ?_⟩
  · rw [img_tr h k, f.2] at z
    have z2 := sp_turn M z
    have e : turn M ((turn (tr M) (x, y)).1, (turn (tr M) (x, y)).2) = (x, y) := turn_tr' h _
    rw [e] at z2
    refine inN_sp.mpr (Sp.le (fun u v m => ?_) z2)
    refine inN_sp.mp ?_
    obtain ⟨t, mt, et⟩ := List.mem_map.mp m
    have g1 : ∀ x y, InN a' b' c' x y → InN A2 B2 C2 x y := fun x y z => (f2.2 x y).mpr (Sp.le (fun u v m => .gen (by simp only [List.mem_cons, List.not_mem_nil, or_false] at m ⊢; rcases m with m | m; exact .inl m; exact .inr (.inl m))) (inN_sp.mp z))
    have g2 : ∀ x y, InN p' q' r' x y → InN A2 B2 C2 x y := fun x y z => (f2.2 x y).mpr (Sp.le (fun u v m => .gen (by simp only [List.mem_cons, List.not_mem_nil, or_false] at m ⊢; rcases m with m | m; exact .inr (.inr (.inl m)); exact .inr (.inr (.inr m)))) (inN_sp.mp z))
    have eu : u = (turn M t).1 := (congrArg (·.1) et).symm
    have ev : v = (turn M t).2 := (congrArg (·.2) et).symm
    rw [eu, ev]
    simp only [List.mem_cons, List.not_mem_nil, or_false] at mt
    rcases mt with rfl | rfl | rfl | rfl
    · exact g1 _ _ ((i.2.1 _ _).mpr ⟨1, 0, by omega, by omega⟩)
    · exact g1 _ _ ((i.2.1 _ _).mpr ⟨0, 1, by omega, by omega⟩)
    · exact g2 _ _ ((j.2.1 _ _).mpr ⟨1, 0, by omega, by omega⟩)
    · exact g2 _ _ ((j.2.1 _ _).mpr ⟨0, 1, by omega, by omega⟩)
  · rw [f2.2] at z
    refine inN_sp.mpr (Sp.le (fun u v m => inN_sp.mp ?_) z)
    have t1 : ∀ x y, InN a' b' c' x y → InN A' B' C' x y := fun x y z => (img_tr h k x y).mpr (sub1 _ _ ((img_tr h i x y).mp z))
    have t2 : ∀ x y, InN p' q' r' x y → InN A' B' C' x y := fun x y z => (img_tr h k x y).mpr (sub2 _ _ ((img_tr h j x y).mp z))
    simp only [List.mem_cons, List.not_mem_nil, or_false, Prod.mk.injEq] at m
    rcases m with ⟨rfl, rfl⟩ | ⟨rfl, rfl⟩ | ⟨rfl, rfl⟩ | ⟨rfl, rfl⟩
    · exact t1 _ _ ⟨1, 0, by omega, by omega⟩
    · exact t1 _ _ ⟨0, 1, by omega, by omega⟩
    · exact t2 _ _ ⟨1, 0, by omega, by omega⟩
    · exact t2 _ _ ⟨0, 1, by omega, by omega⟩
/-- one motion behind another -/
def comp (M M' : Mat) : Mat := (M'.1 * M.1 + M'.2.1 * M.2.2.1, M'.1 * M.2.1 + M'.2.1 * M.2.2.2, M'.2.2.1 * M.1 + M'.2.2.2 * M.2.2.1, M'.2.2.1 * M.2.1 + M'.2.2.2 * M.2.2.2)
theorem turn_comp (M M' : Mat) (u : Int × Int) : turn (comp M M') u = turn M' (turn M u) := by
  refine Prod.ext ?_ ?_ <;> simp only [turn, comp] <;> grind
theorem img_comp {W R U W' R' U' : Int} (h : Orth M) (h' : Orth M') (h2 : Orth (comp M M')) (i : Img M a b c a' b' c') (j : Img M' a' b' c' W R U) (k : Img (comp M M') a b c W' R' U') : W = W' ∧ R = R' ∧ U = U' := by
  refine net_eq j.1 k.1 fun x y => ?_
  have key : ∀ u : Int × Int, InN W R U (turn (comp M M') u).1 (turn (comp M M') u).2 ↔ InN W' R' U' (turn (comp M M') u).1 (turn (comp M M') u).2 := fun u => by
    rw [k.2.1 u.1 u.2, turn_comp]
    exact (j.2.1 _ _).trans (i.2.1 _ _)
  have := key (turn (tr (comp M M')) (x, y))
  rw [turn_tr' h2] at this
  exact this
theorem img_back {W R U : Int} (h : Orth M) (o : Ok a b c) (i : Img M a b c a' b' c') (j : Img (tr M) a' b' c' W R U) : W = a ∧ R = b ∧ U = c := by
  refine net_eq j.1 o fun x y => ?_
  have := j.2.1 (turn M (x, y)).1 (turn M (x, y)).2
  have e : turn (tr M) ((turn M (x, y)).1, (turn M (x, y)).2) = (x, y) := turn_tr h _
  rw [e] at this
  exact this.trans (i.2.1 x y)
theorem img_whole (h : Orth M) (i : Img M 1 0 1 a b c) : a = 1 ∧ b = 0 ∧ c = 1 := by
  refine net_eq i.1 ⟨by decide, by decide, by decide⟩ fun x y => ?_
  rw [img_tr h i]
  exact ⟨fun _ => ⟨x, y, by omega, by omega⟩, fun _ => ⟨(turn (tr M) (x, y)).1, (turn (tr M) (x, y)).2, by omega, by omega⟩⟩
theorem img_pos (i : Img M a b c a' b' c') : a' ≤ a * c ∧ c' ≤ a * c := by
  obtain ⟨⟨o1, o2, o3⟩, _, e⟩ := i
  have l1 : a' * 1 ≤ a' * c' := Int.mul_le_mul_of_nonneg_left o1 (by omega)
  have l2 : 1 * c' ≤ a' * c' := Int.mul_le_mul_of_nonneg_right (by omega) (by omega)
  omega
end
end MN
namespace Y
open PySem PySem.Spec PyProof.Rows L2 Z
open MN (Mat turn tr Orth comp Img)
/-! ### kinds of motions -/
def matL : List (Str × Mat) := [("none", (1, 0, 0, 1)), ("left", (0, -1, 1, 0)), ("half", (-1, 0, 0, -1)), ("right", (0, 1, -1, 0)), ("flip", (1, 0, 0, -1)), ("mirror", (-1, 0, 0, 1)), ("swap", (0, 1, 1, 0)), ("cross", (0, -1, -1, 0))]
def mat (k : Str) : Option Mat := matL.lookup k
def matD (M : Mat) : D := .tup [.int M.1, .int M.2.1, .int M.2.2.1, .int M.2.2.2]
def tabM : List (Str × D) := matL.map fun q => (q.1, matD q.2)
theorem lookup_mem {α β : Type} [BEq α] [LawfulBEq α] {k : α} {v : β} : ∀ {l : List (α × β)}, l.lookup k = some v → (k, v) ∈ l
  | [], h => by cases h
  | (a, b) :: l, h => by
    rw [List.lookup_cons] at h
    cases e : k == a with
    | true =>
      rw [e] at h
      cases h
      rw [beq_iff_eq.mp e]
      exact List.mem_cons_self
    | false =>
      rw [e] at h
      exact List.mem_cons_of_mem _ (lookup_mem h)
theorem lookup_map {α β γ : Type} [BEq α] {f : β → γ} {k : α} : ∀ {l : List (α × β)}, (l.map fun q => (q.1, f q.2)).lookup k = (l.lookup k).map f
  | [] => rfl
  | (a, b) :: l => by
    rw [List.map_cons, List.lookup_cons, List.lookup_cons]
    cases k == a with
    | true => rfl
    | false => exact lookup_map
theorem mat_mem {k : Str} {M : Mat} (h : mat k = some M) : (k, M) ∈ matL := lookup_mem h
theorem tabM_look {k : Str} {M : Mat} (h : mat k = some M) : tabM.lookup k = some (matD M) := by
  unfold tabM
  rw [lookup_map]
  unfold mat at h
  rw [h]
  rfl
theorem mat_orth {k : Str} {M : Mat} (h : mat k = some M) : Orth M := (show ∀ q ∈ matL, Orth q.2 by decide) _ (mat_mem h)
theorem mat_small {k : Str} {M : Mat} (h : mat k = some M) : (M.1.natAbs ≤ 1 ∧ M.2.1.natAbs ≤ 1) ∧ M.2.2.1.natAbs ≤ 1 ∧ M.2.2.2.natAbs ≤ 1 := (show ∀ q ∈ matL, (q.2.1.natAbs ≤ 1 ∧ q.2.2.1.natAbs ≤ 1) ∧ q.2.2.2.1.natAbs ≤ 1 ∧ q.2.2.2.2.natAbs ≤ 1 by decide) _ (mat_mem h)
theorem mat_comp {k l : Str} {M N : Mat} (h : mat k = some M) (h' : mat l = some N) : ∃ u, (u, comp M N) ∈ matL := by
  have := (show ∀ p ∈ matL, ∀ q ∈ matL, (matL.any fun r => decide (r.2 = comp p.2 q.2)) = true by decide) _ (mat_mem h) _ (mat_mem h')
  obtain ⟨r, h1, h2⟩ := List.any_eq_true.mp this
  have e := of_decide_eq_true h2
  exact ⟨r.1, by rw [← e]; exact h1⟩
theorem mat_of_mem {k : Str} {M : Mat} (h : (k, M) ∈ matL) : mat k = some M := by
  unfold matL at h
  simp only [List.mem_cons, List.not_mem_nil, or_false, Prod.mk.injEq] at h
  rcases h with ⟨rfl, rfl⟩ | ⟨rfl, rfl⟩ | ⟨rfl, rfl⟩ | ⟨rfl, rfl⟩ | ⟨rfl, rfl⟩ | ⟨rfl, rfl⟩ | ⟨rfl, rfl⟩ | ⟨rfl, rfl⟩ <;> decide +kernel
theorem mat_cases {k : Str} {M : Mat} (h : mat k = some M) : (k = "none" ∧ M = (1, 0, 0, 1)) ∨ (k = "left" ∧ M = (0, -1, 1, 0)) ∨ (k = "half" ∧ M = (-1, 0, 0, -1)) ∨ (k = "right" ∧ M = (0, 1, -1, 0)) ∨ (k = "flip" ∧ M = (1, 0, 0, -1)) ∨ (k = "mirror" ∧ M = (-1, 0, 0, 1)) ∨ (k = "swap" ∧ M = (0, 1, 1, 0)) ∨ (k = "cross" ∧ M = (0, -1, -1, 0)) := by
  have h := mat_mem h
  unfold matL at h
  simpa only [List.mem_cons, List.not_mem_nil, or_false, Prod.mk.injEq] using h
/-- the kind of the way back -/
def backL : List (Str × D) := [("left", .str "right"), ("right", .str "left")]
theorem mat_back {k : Str} {M : Mat} (h : mat k = some M) : ∃ t, (backL.lookup k).getD (.str k) = .str t ∧ mat t = some (tr M) := by
  rcases mat_cases h with ⟨rfl, rfl⟩ | ⟨rfl, rfl⟩ | ⟨rfl, rfl⟩ | ⟨rfl, rfl⟩ | ⟨rfl, rfl⟩ | ⟨rfl, rfl⟩ | ⟨rfl, rfl⟩ | ⟨rfl, rfl⟩
  · exact ⟨"none", rfl, rfl⟩
  · exact ⟨"right", rfl, rfl⟩
  · exact ⟨"half", rfl, rfl⟩
  · exact ⟨"left", rfl, rfl⟩
  · exact ⟨"flip", rfl, rfl⟩
  · exact ⟨"mirror", rfl, rfl⟩
  · exact ⟨"swap", rfl, rfl⟩
  · exact ⟨"cross", rfl, rfl⟩
theorem orth_comp {k l : Str} {M N : Mat} (h : mat k = some M) (h' : mat l = some N) : Orth (comp M N) := by
  obtain ⟨u, hu⟩ := mat_comp h h'
  exact (show ∀ q ∈ matL, Orth q.2 by decide) _ hu
theorem sz1 {n : Nat} {x : Int} (h : x.natAbs ≤ 1) : Sz (n + 1) x := Nat.lt_of_le_of_lt h (Nat.one_lt_two_pow (by omega))
theorem sz_turn {k : Str} {M : Mat} (h : mat k = some M) {n : Nat} {x y : Int} (hx : Sz n x) (hy : Sz n y) : Sz n (turn M (x, y)).1 ∧ Sz n (turn M (x, y)).2 := by
  rcases mat_cases h with ⟨rfl, rfl⟩ | ⟨rfl, rfl⟩ | ⟨rfl, rfl⟩ | ⟨rfl, rfl⟩ | ⟨rfl, rfl⟩ | ⟨rfl, rfl⟩ | ⟨rfl, rfl⟩ | ⟨rfl, rfl⟩ <;>
    (unfold Sz at *; simp only [turn]; exact ⟨by omega, by omega⟩)
/-! ### promises of carpets.motions -/
def R_turned : RdF := ar2 fun k p Q _ => ∃ s M x y, k = .str s ∧ p = dPl x y ∧ (mat s = some M ∧ Sz 4000 x ∧ Sz 4000 y) ∧ Q (plD (turn M (x, y)))
def R_joined_kind : RdF := ar2 fun k l Q _ => ∃ s t M N, k = .str s ∧ l = .str t ∧ (mat s = some M ∧ mat t = some N) ∧ ∀ u, mat u = some (comp M N) → Q (.str u)
abbrev nsMot : List Str := ["own_kind", "own_shift"]
abbrev dMot (k : Str) (x y : Int) : D := .obj "Motion" ["own_kind", "own_shift"] [.str k, dPl x y]
def R_Motion_UinitU : RdF := ar2 fun k s Q _ => ∃ t M x y, k = .str t ∧ s = dPl x y ∧ mat t = some M ∧ Q (dMot t x y)
def R_Motion_kind : RdF := ar1 fun d Q _ => ∃ k x y, d = dMot k x y ∧ Q (.str k)
def R_Motion_shift : RdF := ar1 fun d Q _ => ∃ k x y, d = dMot k x y ∧ Q (dPl x y)
def R_plus : RdF := ar2 fun p q Q _ => ∃ x y u v, p = dPl x y ∧ q = dPl u v ∧ Q (dPl (x + u) (y + v))
def R_Motion_image : RdF := ar2 fun d p Q _ => ∃ k M x y u v, d = dMot k x y ∧ p = dPl u v ∧ (mat k = some M ∧ Sz 4000 u ∧ Sz 4000 v) ∧ Q (dPl ((turn M (u, v)).1 + x) ((turn M (u, v)).2 + y))
def R_Motion_UmulU : RdF := ar2 fun d e Q _ => ∃ k l M N x y u v, d = dMot k x y ∧ e = dMot l u v ∧ (mat k = some M ∧ mat l = some N ∧ Sz 4000 x ∧ Sz 4000 y) ∧ ∀ t, mat t = some (comp M N) → Q (dMot t ((turn N (x, y)).1 + u) ((turn N (x, y)).2 + v))
def R_Motion_UinvertU : RdF := ar1 fun d Q _ => ∃ k M x y, d = dMot k x y ∧ (mat k = some M ∧ Sz 4000 x ∧ Sz 4000 y) ∧ ∀ t, mat t = some (tr M) → Q (dMot t (-(turn (tr M) (x, y)).1) (-(turn (tr M) (x, y)).2))
def R_Net_UmulU : RdF := ar2 fun d e Q _ => ∃ a b c k M x y, d = dNet a b c ∧ e = dMot k x y ∧ (okN 600 a b c ∧ mat k = some M) ∧ ∀ a' b' c', Img M a b c a' b' c' → Q (dNet a' b' c')
/-! ### k09 -/
def R__law_turned : RdF := ar2 fun k p Q _ => ∃ s M x y, k = .str s ∧ p = dPl x y ∧ mat s = some M ∧ Q (plD (turn M (x, y)))
def R__law_kinds : RdF := ar0 fun Q _ => Q (.lst (matL.map fun q => .str q.1))
def R__law_image_net : RdF := ar2 fun d e Q _ => ∃ a b c k M, d = n3 a b c ∧ e = .str k ∧ (okN 600 a b c ∧ mat k = some M) ∧ ∀ a' b' c', Img M a b c a' b' c' → Q (n3 a' b' c')
def R__law_square : RdF := ar2 fun t n Q _ => match t, n with
  | .tape, .int n => (4 ≤ n ∧ n ≤ 1000) ∧ ∀ a b c, MN.Ok a b c → a * c ≤ n → Q (n3 a b c)
  | _, _ => False
def R__law_right : RdF := ar3 fun t d e Q _ => match t with
  | .tape => ∃ a b c p q r, d = n3 a b c ∧ e = n3 p q r ∧ (MN.Ok a b c ∧ a * c ≤ 30 ∧ MN.Ok p q r ∧ p * r ≤ 30) ∧ Q (.bl true)
  | _ => False
end Y
namespace Y
open PySem PySem.Spec PyProof.Rows L2 Z
theorem getT_to {tab : List (Str × D)} {k t : Str} {z : D} {Q : D → Prop} (e : (tab.lookup k).getD z = .str t) (h : Q (.str t)) : dGetT tab (.str k) z Q := by
  show Q ((tab.lookup k).getD z)
  rw [e]
  exact h
theorem small_ok {a b c : Int} (o : MN.Ok a b c) (n : a * c ≤ 1000) : okN 20 a b c := by
  obtain ⟨o1, o2, o3⟩ := o
  have l1 : a * 1 ≤ a * c := Int.mul_le_mul_of_nonneg_left o1 (by omega)
  have l2 : 1 * c ≤ a * c := Int.mul_le_mul_of_nonneg_right (by omega) (by omega)
  have p : (2 : Nat) ^ 20 = 1048576 := by decide
  refine ⟨⟨o1, o2, o3⟩, ?_, ?_⟩
  · show a.natAbs < 2 ^ 20
    omega
  · show c.natAbs < 2 ^ 20
    omega
theorem img_sz {n : Nat} {M : MN.Mat} {a b c a' b' c' : Int} (o : okN n a b c) (i : MN.Img M a b c a' b' c') : okN (n + n) a' b' c' := by
  obtain ⟨l1, l2⟩ := MN.img_pos i
  have z := sz_mul o.2.1 o.2.2
  exact ⟨i.1, sz_le (by have := i.1.2; omega) l1 z, sz_le (by have := i.1.1; omega) l2 z⟩
theorem img_small {M : MN.Mat} {a b c a' b' c' : Int} (n : a * c ≤ 1000) (i : MN.Img M a b c a' b' c') : okN 20 a' b' c' := small_ok i.1 (by rw [i.2.2]; exact n)
theorem img_inside {M : MN.Mat} (h : MN.Orth M) {a b c p q r a' b' c' p' q' r' : Int} (o : MN.Ok p q r) (i : MN.Img M a b c a' b' c') (j : MN.Img M p q r p' q' r') : MN.inside a' b' c' p' q' r' = MN.inside a b c p q r := by
  refine MN.bool_ext ?_
  rw [MN.inside_iff o, MN.inside_iff j.1]
  constructor
  · intro z x y w
    exact (j.2.1 x y).mp (z _ _ ((i.2.1 x y).mpr w))
  · intro z x y w
    exact (MN.img_tr h j x y).mpr (z _ _ ((MN.img_tr h i x y).mp w))
theorem img_low {M : MN.Mat} {a b c a' b' c' x y : Int} (o : MN.Ok a b c) (i : MN.Img M a b c a' b' c') : decide (MN.low a' b' c' (MN.turn M (x, y)).1 (MN.turn M (x, y)).2 = (0, 0)) = decide (MN.low a b c x y = (0, 0)) := by
  refine decide_eq_decide.mpr ?_
  rw [MN.low_zero (by have := i.1.2; omega) (by have := i.1.1; omega), MN.low_zero (by have := o.2; omega) (by have := o.1; omega)]
  exact i.2.1 x y
theorem eqM (m n : MN.Mat) : eqD (matD m) (matD n) = decide (m = n) := by
  obtain ⟨a, b, c, d⟩ := m
  obtain ⟨p, q, r, s⟩ := n
  simp only [matD, eqD, eqDs, Bool.and_true, Prod.mk.injEq]
  by_cases h1 : a = p <;> by_cases h2 : b = q <;> by_cases h3 : c = r <;> by_cases h4 : d = s <;> simp [h1, h2, h3, h4]
end Y
namespace MN
/-! ### motions: a turn, then a shift -/
abbrev Mtn := Mat × Int × Int
def mmul (m n : Mtn) : Mtn := (comp m.1 n.1, (turn n.1 m.2).1 + n.2.1, (turn n.1 m.2).2 + n.2.2)
def mone : Mtn := ((1, 0, 0, 1), 0, 0)
def minv (m : Mtn) : Mtn := (tr m.1, -(turn (tr m.1) m.2).1, -(turn (tr m.1) m.2).2)
def mapp (m : Mtn) (p : Int × Int) : Int × Int := ((turn m.1 p).1 + m.2.1, (turn m.1 p).2 + m.2.2)
theorem mmul_assoc (l m n : Mtn) : mmul (mmul l m) n = mmul l (mmul m n) := by
  obtain ⟨⟨a, b, c, d⟩, x, y⟩ := l
  obtain ⟨⟨a', b', c', d'⟩, x', y'⟩ := m
  obtain ⟨⟨a2, b2, c2, d2⟩, x2, y2⟩ := n
  simp only [mmul, comp, turn, Prod.mk.injEq]
  refine ⟨⟨?_, ?_, ?_, ?_⟩, ?_, ?_⟩ <;> grind
theorem mone_mul (m : Mtn) : mmul mone m = m := by
  obtain ⟨⟨a, b, c, d⟩, x, y⟩ := m
  simp only [mmul, mone, comp, turn, Prod.mk.injEq]
  refine ⟨⟨?_, ?_, ?_, ?_⟩, ?_, ?_⟩ <;> grind
theorem mul_mone (m : Mtn) : mmul m mone = m := by
  obtain ⟨⟨a, b, c, d⟩, x, y⟩ := m
  simp only [mmul, mone, comp, turn, Prod.mk.injEq]
  refine ⟨⟨?_, ?_, ?_, ?_⟩, ?_, ?_⟩ <;> grind
theorem mul_minv {m : Mtn} (h : Orth m.1) : mmul m (minv m) = mone := by
  obtain ⟨⟨a, b, c, d⟩, x, y⟩ := m
  obtain ⟨h1, h2, h3, h4, h5, h6⟩ := h
  simp only [mmul, minv, mone, comp, turn, tr, Prod.mk.injEq] at *
  refine ⟨⟨?_, ?_, ?_, ?_⟩, ?_, ?_⟩ <;> grind
theorem minv_mul {m : Mtn} (h : Orth m.1) : mmul (minv m) m = mone := by
  obtain ⟨⟨a, b, c, d⟩, x, y⟩ := m
  obtain ⟨h1, h2, h3, h4, h5, h6⟩ := h
  simp only [mmul, minv, mone, comp, turn, tr, Prod.mk.injEq] at *
  refine ⟨⟨?_, ?_, ?_, ?_⟩, ?_, ?_⟩ <;> grind
theorem mapp_mul (m n : Mtn) (p : Int × Int) : mapp (mmul m n) p = mapp n (mapp m p) := by
  obtain ⟨⟨a, b, c, d⟩, x, y⟩ := m
  obtain ⟨⟨a', b', c', d'⟩, x', y'⟩ := n
  obtain ⟨u, v⟩ := p
  refine Prod.ext ?_ ?_ <;> simp only [mapp, mmul, comp, turn] <;> grind
theorem mapp_one (p : Int × Int) : mapp mone p = p := by
  obtain ⟨u, v⟩ := p
  refine Prod.ext ?_ ?_ <;> simp only [mapp, mone, turn] <;> grind
theorem mapp_inv {m : Mtn} (h : Orth m.1) (p : Int × Int) : mapp (minv m) (mapp m p) = p := by rw [← mapp_mul, mul_minv h, mapp_one]
theorem mapp_inv' {m : Mtn} (h : Orth m.1) (p : Int × Int) : mapp m (mapp (minv m) p) = p := by rw [← mapp_mul, minv_mul h, mapp_one]
theorem minv_minv {m : Mtn} (h : Orth m.1) : minv (minv m) = m := by
  have h' : Orth (minv m).1 := orth_tr h
  have e : mmul m (mmul (minv m) (minv (minv m))) = m := by rw [mul_minv h', mul_mone]
  rw [← mmul_assoc, mul_minv h, mone_mul] at e
  exact e
theorem minv_unique {m n : Mtn} (h : Orth m.1) (e : mmul m n = mone) : n = minv m := by
  have z : mmul (minv m) (mmul m n) = minv m := by rw [e, mul_mone]
  rw [← mmul_assoc, minv_mul h, mone_mul] at z
  exact z
theorem minv_prod {m n : Mtn} (h : Orth m.1) (h' : Orth n.1) (h2 : Orth (comp m.1 n.1)) : minv (mmul m n) = mmul (minv n) (minv m) := by
  refine (minv_unique (m := mmul m n) h2 ?_).symm
  rw [mmul_assoc, ← mmul_assoc n, mul_minv h', mone_mul, mul_minv h]
/-! ### powers -/
def npow (m : Mtn) : Nat → Mtn
  | 0 => mone
  | n + 1 => mmul (npow m n) m
theorem npow_add (m : Mtn) (a b : Nat) : npow m (a + b) = mmul (npow m a) (npow m b) := by
  induction b with
  | zero => exact (mul_mone _).symm
  | succ b ih =>
    show mmul (npow m (a + b)) m = mmul (npow m a) (mmul (npow m b) m)
    rw [ih, mmul_assoc]
theorem npow_one (m : Mtn) : npow m 1 = m := mone_mul m
def zpow (m : Mtn) (n : Int) : Mtn := if 0 ≤ n then npow m n.toNat else npow (minv m) n.natAbs
theorem zpow_succ {m : Mtn} (h : Orth m.1) (n : Int) : zpow m (n + 1) = mmul (zpow m n) m := by
  unfold zpow
  by_cases h0 : 0 ≤ n
  · rw [if_pos (by omega), if_pos h0, show (n + 1).toNat = n.toNat + 1 by omega]
    rfl
  · rw [if_neg h0]
    by_cases h1 : n = -1
    · subst h1
      rw [if_pos (by decide)]
      show mone = mmul (npow (minv m) 1) m
      rw [npow_one, minv_mul h]
    · rw [if_neg (by omega), show n.natAbs = (n + 1).natAbs + 1 by omega]
      show _ = mmul (mmul (npow (minv m) (n + 1).natAbs) (minv m)) m
      rw [mmul_assoc, minv_mul h, mul_mone]
theorem zpow_four {m : Mtn} (h : Orth m.1) (n : Int) : mmul (zpow m n) (zpow m 4) = zpow m (n + 4) := by
  rw [show n + 4 = n + 1 + 1 + 1 + 1 by omega, zpow_succ h, zpow_succ h, zpow_succ h, zpow_succ h]
  show mmul (zpow m n) (mmul (mmul (mmul (mmul mone m) m) m) m) = _
  rw [mone_mul]
  simp only [mmul_assoc]
theorem zpow_two (m : Mtn) (n : Int) : zpow m (2 * n) = zpow (zpow m n) 2 := by
  show _ = mmul (mmul mone (zpow m n)) (zpow m n)
  rw [mone_mul]
  unfold zpow
  by_cases h0 : 0 ≤ n
  · rw [if_pos (by omega), if_pos h0, show (2 * n).toNat = n.toNat + n.toNat by omega, npow_add]
  · rw [if_neg (by omega), if_neg h0, show (2 * n).natAbs = n.natAbs + n.natAbs by omega, npow_add]
theorem zpow_nat (m : Mtn) (n : Nat) : zpow m (n : Int) = npow m n := by
  unfold zpow
  rw [if_pos (by omega), Int.toNat_natCast]
theorem zpow_neg_nat {m : Mtn} (n : Nat) : zpow m (0 - (n : Int)) = npow (minv m) n := by
  unfold zpow
  by_cases h : n = 0
  · subst h
    rfl
  · rw [if_neg (by omega), show (0 - (n : Int)).natAbs = n by omega]
theorem npow_comm (m : Mtn) (n : Nat) : mmul m (npow m n) = mmul (npow m n) m := by
  have := npow_add m 1 n
  rw [npow_one] at this
  rw [← this, Nat.add_comm]
  rfl
theorem npow_inv {m : Mtn} (h : Orth m.1) : ∀ n : Nat, mmul (npow m n) (npow (minv m) n) = mone
  | 0 => mone_mul _
  | n + 1 => by
    show mmul (mmul (npow m n) m) (npow (minv m) (n + 1)) = mone
    rw [Nat.add_comm n 1, npow_add (minv m) 1 n, npow_one, mmul_assoc, ← mmul_assoc m, mul_minv h, mone_mul, npow_inv h n]
theorem mapp_pow (m : Mtn) (p : Int × Int) (n : Nat) : mapp (npow m (n + 1)) p = mapp m (mapp (npow m n) p) := mapp_mul _ _ _
theorem mapp_pow_inv {m : Mtn} (h : Orth m.1) (p : Int × Int) (n : Nat) : mapp (npow (minv m) n) (mapp (npow m n) p) = p := by rw [← mapp_mul, npow_inv h, mapp_one]
/-! ### sizes -/
def nrm (p : Int × Int) : Nat := p.1.natAbs + p.2.natAbs
end MN
namespace Y
open PySem PySem.Spec PyProof.Rows L2 Z
open MN (Mat Mtn turn tr Orth comp mmul mone minv mapp npow zpow nrm)
theorem nrm_turn {k : Str} {M : Mat} (h : mat k = some M) (p : Int × Int) : nrm (turn M p) = nrm p := by
  rcases mat_cases h with ⟨rfl, rfl⟩ | ⟨rfl, rfl⟩ | ⟨rfl, rfl⟩ | ⟨rfl, rfl⟩ | ⟨rfl, rfl⟩ | ⟨rfl, rfl⟩ | ⟨rfl, rfl⟩ | ⟨rfl, rfl⟩ <;> (simp only [nrm, turn]; omega)
abbrev mvD (k : Str) (m : Mtn) : D := .tup [.str k, dPl m.2.1 m.2.2]
abbrev dM (k : Str) (m : Mtn) : D := dMot k m.2.1 m.2.2
/-- a motion of moderate shift, and its kind -/
structure okK (n : Nat) (k : Str) (m : Mtn) : Prop where
  mt : mat k = some m.1
  sz : nrm m.2 < 2 ^ n
theorem okK.mono {n n' : Nat} {k : Str} {m : Mtn} (h : okK n k m) (z : n ≤ n') : okK n' k m := ⟨h.mt, Nat.lt_of_lt_of_le h.sz (Nat.pow_le_pow_right (by decide) z)⟩
theorem okK.x {n : Nat} {k : Str} {m : Mtn} (h : okK n k m) : Sz n m.2.1 := Nat.lt_of_le_of_lt (Nat.le_add_right _ _) h.sz
theorem okK.y {n : Nat} {k : Str} {m : Mtn} (h : okK n k m) : Sz n m.2.2 := Nat.lt_of_le_of_lt (Nat.le_add_left _ _) h.sz
theorem okK.orth {n : Nat} {k : Str} {m : Mtn} (h : okK n k m) : Orth m.1 := mat_orth h.mt
theorem nrm_add (p q : Int × Int) : nrm (p.1 + q.1, p.2 + q.2) ≤ nrm p + nrm q := by
  unfold nrm
  dsimp only
  omega
theorem nrm_mul {l : Str} {m n : Mtn} (h : mat l = some n.1) : nrm (mmul m n).2 ≤ nrm m.2 + nrm n.2 := by
  have := nrm_add (turn n.1 m.2) n.2
  rw [nrm_turn h] at this
  exact this
theorem pow2 (n : Nat) : (2 : Nat) ^ (n + 1) = 2 ^ n + 2 ^ n := by rw [Nat.pow_succ]; omega
theorem okK.mul {a : Nat} {k l t : Str} {m n : Mtn} (h : okK a k m) (h' : okK a l n) (ht : mat t = some (mmul m n).1) : okK (a + 1) t (mmul m n) := ⟨ht, by
  have := nrm_mul (m := m) h'.mt
  have := h.sz
  have := h'.sz
  have := pow2 a
  omega⟩
theorem mat_tr {k : Str} {M : Mat} (h : mat k = some M) : ∃ t, mat t = some (tr M) := by
  obtain ⟨t, _, ht⟩ := mat_back h
  exact ⟨t, ht⟩
theorem okK.inv {a : Nat} {k t : Str} {m : Mtn} (h : okK a k m) (ht : mat t = some (minv m).1) : okK a t (minv m) := ⟨ht, by
  obtain ⟨t', ht'⟩ := mat_tr h.mt
  have e : nrm (minv m).2 = nrm (turn (tr m.1) m.2) := by unfold nrm minv; dsimp only; omega
  rw [e, nrm_turn ht']
  exact h.sz⟩
theorem nrm_inv {k : Str} {m : Mtn} (h : mat k = some m.1) : nrm (minv m).2 = nrm m.2 := by
  obtain ⟨t', ht'⟩ := mat_tr h
  have e : nrm (minv m).2 = nrm (turn (tr m.1) m.2) := by unfold nrm minv; dsimp only; omega
  rw [e, nrm_turn ht']
theorem mat_inj {k l : Str} {M : Mat} (h : mat k = some M) (h' : mat l = some M) : k = l := by
  rcases mat_cases h with ⟨rfl, rfl⟩ | ⟨rfl, rfl⟩ | ⟨rfl, rfl⟩ | ⟨rfl, rfl⟩ | ⟨rfl, rfl⟩ | ⟨rfl, rfl⟩ | ⟨rfl, rfl⟩ | ⟨rfl, rfl⟩ <;>
    (rcases mat_cases h' with ⟨rfl, e⟩ | ⟨rfl, e⟩ | ⟨rfl, e⟩ | ⟨rfl, e⟩ | ⟨rfl, e⟩ | ⟨rfl, e⟩ | ⟨rfl, e⟩ | ⟨rfl, e⟩ <;> first | rfl | (exfalso; revert e; decide))
theorem npow_ok {k : Str} {m : Mtn} (h : mat k = some m.1) : ∀ i : Nat, (∃ t, mat t = some (npow m i).1) ∧ nrm (npow m i).2 ≤ i * nrm m.2
  | 0 => ⟨⟨"none", rfl⟩, by simp [npow, mone, nrm]⟩
  | i + 1 => by
    obtain ⟨⟨t, ht⟩, hn⟩ := npow_ok h i
    obtain ⟨u, hu⟩ := mat_comp ht h
    refine ⟨⟨u, mat_of_mem hu⟩, ?_⟩
    have := nrm_mul (m := npow m i) h
    show nrm (mmul (npow m i) m).2 ≤ (i + 1) * nrm m.2
    rw [Nat.add_mul, Nat.one_mul]
    omega
theorem zpow_base {k : Str} {m : Mtn} (h : mat k = some m.1) (j : Int) : ∃ t b, mat t = some b.1 ∧ nrm b.2 = nrm m.2 ∧ zpow m j = npow b j.natAbs := by
  by_cases h0 : 0 ≤ j
  · refine ⟨k, m, h, rfl, ?_⟩
    unfold zpow
    rw [if_pos h0, show j.toNat = j.natAbs by omega]
  · obtain ⟨t, ht⟩ := mat_tr h
    refine ⟨t, minv m, ht, nrm_inv h, ?_⟩
    unfold zpow
    rw [if_neg h0]
theorem zpow_ok {a b : Nat} {k t : Str} {m : Mtn} (h : okK a k m) {j : Int} (hj : Sz b j) (ht : mat t = some (zpow m j).1) : okK (a + b) t (zpow m j) := by
  obtain ⟨u, c, h1, h2, h3⟩ := zpow_base h.mt j
  refine ⟨ht, ?_⟩
  rw [h3]
  have := (npow_ok h1 j.natAbs).2
  rw [h2] at this
  refine Nat.lt_of_le_of_lt this ?_
  rw [Nat.pow_add, Nat.mul_comm]
  have hs := h.sz
  rcases Nat.eq_zero_or_pos j.natAbs with e | e
  · rw [e, Nat.mul_zero]
    exact Nat.mul_pos (Nat.two_pow_pos _) (Nat.two_pow_pos _)
  · exact Nat.mul_lt_mul_of_lt_of_le hs (Nat.le_of_lt hj) (Nat.two_pow_pos _)
theorem zpow_kind {k : Str} {m : Mtn} (h : mat k = some m.1) (j : Int) : ∃ t, mat t = some (zpow m j).1 := by
  obtain ⟨u, c, h1, h2, h3⟩ := zpow_base h j
  rw [h3]
  exact (npow_ok h1 _).1
theorem eqMot {k l : Str} {m n : Mtn} (h : mat k = some m.1) (h' : mat l = some n.1) : decide (k = l ∧ m.2.1 = n.2.1 ∧ m.2.2 = n.2.2) = decide (m = n) := by
  refine decide_eq_decide.mpr ⟨fun ⟨e1, e2, e3⟩ => ?_, fun e => ?_⟩
  · subst e1
    rw [h] at h'
    exact Prod.ext (Option.some.inj h') (Prod.ext e2 e3)
  · subst e
    exact ⟨mat_inj h h', rfl, rfl⟩
/-! ### promises -/
def R_Motion_is_mirrored : RdF := ar1 fun d Q _ => ∃ k x y, d = dMot k x y ∧ Q (.bl (anyD (.str k) [.str "flip", .str "mirror", .str "swap", .str "cross"]))
def motText (k : Str) (x y : Int) : Str := (((("Motion(" : Str) ++ shD (.str k)) ++ ", ") ++ shD (dPl x y)) ++ ")"
def R_Motion_UreprU : RdF := ar1 fun d Q _ => ∃ k m, d = dM k m ∧ okK 1000 k m ∧ Q (.str (motText k m.2.1 m.2.2))
def R_Motion_UeqU : RdF := ar2 fun s v Q _ => ∃ k x y, s = dMot k x y ∧ ((∃ l u w, v = dMot l u w ∧ Q (.bl (decide (k = l ∧ x = u ∧ y = w)))) ∨ (knD v ∧ Q (.bl false)))
def R_Motion_by : RdF := ar1 fun p Q _ => ∃ x y, p = dPl x y ∧ Q (dMot "none" x y)
def R_Motion_UcallU : RdF := ar2 fun d p Q _ => ∃ k m x y, d = dM k m ∧ p = dPl x y ∧ (mat k = some m.1 ∧ Sz 4000 x ∧ Sz 4000 y) ∧ Q (plD (mapp m (x, y)))
def R_Motion_repeated : RdF := ar2 fun d n Q _ => ∃ k m j, d = dM k m ∧ n = .int j ∧ (okK 400 k m ∧ Sz 200 j) ∧ ∀ t, mat t = some (zpow m j).1 → Q (dM t (zpow m j))
def R__law_carried : RdF := ar2 fun d p Q _ => ∃ k m x y, d = mvD k m ∧ p = dPl x y ∧ mat k = some m.1 ∧ Q (plD (mapp m (x, y)))
def R__law_far_move : RdF := ar1 fun t Q _ => match t with
  | .tape => ∀ k m, okK 110 k m → Q (mvD k m)
  | _ => False
def R__law_told : RdF := ar1 fun d Q _ => ∃ k x y, d = dMot k x y ∧ Q (.tup [.str k, dPl x y])
def plsS (ps : List (Int × Int)) : Prop := ∀ p ∈ ps, Sz 100 p.1 ∧ Sz 100 p.2
def R__law_right7 : RdF := ar2 fun d l Q _ => ∃ k m ps, d = mvD k m ∧ l = .lst (ps.map plD) ∧ (okK 110 k m ∧ plsS ps) ∧ Q (.bl true)
def R__law_products_right : RdF := ar2 fun l p Q _ => ∃ k1 m1 k2 m2 k3 m3 ps, l = .lst [mvD k1 m1, mvD k2 m2, mvD k3 m3] ∧ p = .lst (ps.map plD) ∧ ((okK 110 k1 m1 ∧ okK 110 k2 m2 ∧ okK 110 k3 m3) ∧ plsS ps) ∧ Q (.bl true)
def R__law_powers_right : RdF := ar3 fun t d p Q _ => match t with
  | .tape => ∃ k m x y, d = mvD k m ∧ p = dPl x y ∧ (okK 110 k m ∧ Sz 100 x ∧ Sz 100 y) ∧ Q (.bl true)
  | _ => False
/-! ### texts -/
theorem sh_le {n : Nat} {d : D} (h : shP n d) (hb : (toP d).bulk ≤ 40) : (shD d).length ≤ 80000 := by
  have z := PyData.shown_le_bulk 1921 (by decide) (toP d) (sh_short d h)
  have z2 : (1921 + 2) * (toP d).bulk ≤ (1921 + 2) * 40 := Nat.mul_le_mul_left _ hb
  show (toP d).shown.length ≤ _
  omega
theorem mat_str {k : Str} {M : Mat} (h : mat k = some M) : (∀ c ∈ k.cps.toList, c < 16 ^ 8) ∧ (PyData.str k).bulk ≤ 10 ∧ PyData.strOk k = true := by
  rcases mat_cases h with ⟨rfl, rfl⟩ | ⟨rfl, rfl⟩ | ⟨rfl, rfl⟩ | ⟨rfl, rfl⟩ | ⟨rfl, rfl⟩ | ⟨rfl, rfl⟩ | ⟨rfl, rfl⟩ | ⟨rfl, rfl⟩ <;> exact ⟨by decide +kernel, by decide +kernel, by decide +kernel⟩
theorem sh_le2 {n b : Nat} {d : D} (h : shP n d) (hb : (toP d).bulk ≤ b) : (shD d).length ≤ 1923 * b + 1921 := by
  have z := PyData.shown_le_bulk 1921 (by decide) (toP d) (sh_short d h)
  have z2 : (1921 + 2) * (toP d).bulk ≤ (1921 + 2) * b := Nat.mul_le_mul_left _ hb
  show (toP d).shown.length ≤ _
  omega
theorem okMv {k : Str} {M : Mat} (h : mat k = some M) {x y : Int} : okD 8 (.tup [.str k, dPl x y]) = true := by
  have s3 := (mat_str h).2.2
  simp [okD, s3]
theorem eqMv {k l : Str} {x y u v : Int} : eqD (.tup [.str k, dPl x y]) (.tup [.str l, dPl u v]) = decide (k = l ∧ x = u ∧ y = v) := by
  simp only [eqD, eqDs, Bool.and_true]
  by_cases h1 : k = l <;> by_cases h2 : x = u <;> by_cases h3 : y = v <;> simp [h1, h2, h3]
theorem sh_pl {n : Nat} {x y : Int} (hx : Sz 1900 x) (hy : Sz 1900 y) : shP n (dPl x y) := ⟨hx, hy, trivial⟩
theorem strLenA (a b : Str) : (a ++ b).length = a.length + b.length := PySem.strLen_append a b
theorem Str_empty_app (a : Str) : Str.empty ++ a = a := by
  cases a
  show Str.mk _ = _
  simp [Str.empty]
theorem mapp_sz {n : Nat} {k : Str} {m : Mtn} (h : okK n k m) {p : Int × Int} (hp : nrm p < 2 ^ n) : nrm (mapp m p) < 2 ^ (n + 1) := by
  have h1 := nrm_add (turn m.1 p) m.2
  rw [nrm_turn h.mt] at h1
  have h2 := h.sz
  have h3 := pow2 n
  show nrm ((turn m.1 p).1 + m.2.1, (turn m.1 p).2 + m.2.2) < _
  omega
theorem nrm_x {n : Nat} {p : Int × Int} (h : nrm p < 2 ^ n) : Sz n p.1 := Nat.lt_of_le_of_lt (Nat.le_add_right _ _) h
theorem nrm_y {n : Nat} {p : Int × Int} (h : nrm p < 2 ^ n) : Sz n p.2 := Nat.lt_of_le_of_lt (Nat.le_add_left _ _) h
theorem nrm_of {n : Nat} {p : Int × Int} (hx : Sz n p.1) (hy : Sz n p.2) : nrm p < 2 ^ (n + 1) := by
  have z1 : p.1.natAbs < 2 ^ n := hx
  have z2 : p.2.natAbs < 2 ^ n := hy
  have := pow2 n
  unfold nrm
  omega
theorem rngD_at {lo : Int} {n i : Nat} {d : D} (h : (rngD lo n)[i]? = some d) : i < n ∧ d = .int (lo + (i : Nat)) := by
  unfold rngD at h
  obtain ⟨j, h1, rfl⟩ := map_get h
  have hi := lt_of_get h1
  rw [List.length_range] at hi
  rw [List.getElem?_range hi] at h1
  cases h1
  exact ⟨hi, rfl⟩
theorem npow_small {k t : Str} {m : Mtn} (o : okK 110 k m) {i : Nat} (hi : i ≤ 8) (ht : mat t = some (npow m i).1) : okK 120 t (npow m i) := ⟨ht, by
  have h1 := (npow_ok o.mt i).2
  have h2 : i * nrm m.2 ≤ 8 * 2 ^ 110 := Nat.mul_le_mul hi (Nat.le_of_lt o.sz)
  have h3 : 8 * 2 ^ 110 < (2 : Nat) ^ 120 := by decide
  omega⟩
end Y
section
open PySem PySem.Spec PyProof.Rows L2 Z Y
local macro_rules | `(tactic| walk_at "s0") => `(tactic| first | assumption | exact SqT.of (by assumption) | exact SqL.of (by assumption))
local macro_rules | `(tactic| walk_at "s1") => `(tactic| first | assumption | exact SqT.of (by assumption) | exact SqL.of (by assumption) | exact sqT (Go.ff (by assumption)) (by walk_at "s0") | exact sqL (Go.ff (by assumption)) (by walk_at "s0"))
local macro_rules | `(tactic| walk_at "s2") => `(tactic| first | assumption | exact SqT.of (by assumption) | exact SqL.of (by assumption) | exact sqT (Go.ff (by assumption)) (by walk_at "s1") | exact sqL (Go.ff (by assumption)) (by walk_at "s1"))
local macro_rules | `(tactic| walk_at "s3") => `(tactic| first | assumption | exact SqT.of (by assumption) | exact SqL.of (by assumption) | exact sqT (Go.ff (by assumption)) (by walk_at "s2") | exact sqL (Go.ff (by assumption)) (by walk_at "s2"))
local macro_rules | `(tactic| walk_at "s4") => `(tactic| first | assumption | exact SqT.of (by assumption) | exact SqL.of (by assumption) | exact sqT (Go.ff (by assumption)) (by walk_at "s3") | exact sqL (Go.ff (by assumption)) (by walk_at "s3"))
local macro_rules | `(tactic| walk_at "s5") => `(tactic| first | assumption | exact SqT.of (by assumption) | exact SqL.of (by assumption) | exact sqT (Go.ff (by assumption)) (by walk_at "s4") | exact sqL (Go.ff (by assumption)) (by walk_at "s4"))
local macro_rules | `(tactic| walk_at "s6") => `(tactic| first | assumption | exact SqT.of (by assumption) | exact SqL.of (by assumption) | exact sqT (Go.ff (by assumption)) (by walk_at "s5") | exact sqL (Go.ff (by assumption)) (by walk_at "s5"))
local macro_rules | `(tactic| walk_at "s7") => `(tactic| first | assumption | exact SqT.of (by assumption) | exact SqL.of (by assumption) | exact sqT (Go.ff (by assumption)) (by walk_at "s6") | exact sqL (Go.ff (by assumption)) (by walk_at "s6"))
local macro_rules | `(tactic| walk_at "s8") => `(tactic| first | assumption | exact SqT.of (by assumption) | exact SqL.of (by assumption) | exact sqT (Go.ff (by assumption)) (by walk_at "s7") | exact sqL (Go.ff (by assumption)) (by walk_at "s7"))
local macro_rules | `(tactic| walk_at "s9") => `(tactic| first | assumption | exact SqT.of (by assumption) | exact SqL.of (by assumption) | exact sqT (Go.ff (by assumption)) (by walk_at "s8") | exact sqL (Go.ff (by assumption)) (by walk_at "s8"))
local macro_rules | `(tactic| walk_at "s10") => `(tactic| first | assumption | exact SqT.of (by assumption) | exact SqL.of (by assumption) | exact sqT (Go.ff (by assumption)) (by walk_at "s9") | exact sqL (Go.ff (by assumption)) (by walk_at "s9"))
local macro_rules | `(tactic| walk_at "sq") => `(tactic| first | assumption | exact SqT.of (by assumption) | exact SqL.of (by assumption) | exact sqT (Go.fh (by assumption)) (by walk_at "s10") | exact sqL (Go.fh (by assumption)) (by walk_at "s10") | exact sqT (F := _) (by assumption) (by walk_at "s10") | exact sqL (F := _) (by assumption) (by walk_at "s10"))
local macro_rules | `(tactic| walk_at "c") => `(tactic| ((try dsimp only); first | omega | assumption | exact ⟨by omega, by assumption⟩ | exact ⟨by assumption, by assumption⟩ | exact Or.inl ⟨by decide, by decide⟩ | exact Or.inr ⟨by decide, by decide⟩ | exact ⟨by decide, by decide, by decide⟩ | exact ⟨by decide, by decide⟩))
local macro_rules | `(tactic| walk_at "z") => `(tactic| repeat (first | refine ⟨_, rfl, ?_⟩ | refine ⟨_, _, rfl, rfl, ?_⟩ | refine ⟨_, _, _, _, rfl, rfl, by walk_at "sq", rfl, ?_⟩ | refine ⟨_, _, rfl, Or.inl (by walk_at "sq"), ?_⟩ | refine ⟨_, _, rfl, Or.inr (by walk_at "sq"), ?_⟩ | refine ⟨_, _, rfl, by walk_at "sq", rfl, ?_⟩ | refine ⟨rfl, ?_⟩ | refine And.intro (by walk_at "c") ?_ | refine ⟨lenOk rfl, ?_⟩ | refine ⟨_, _, rfl, ?_⟩))
local macro_rules | `(tactic| walk_at "p") => `(tactic| simp only [Y.rVar, Y.rC, Y.tst, Y.chn, Y.aNil, Y.aCons, Y.stN, Y.tgD, Y.rYes, Y.wipeR, Y.asO, Y.fldD, Y.dAdd, Y.dSub, Y.dMul, Y.dDiv, Y.dDivZ, Y.dMod, Y.dModZ, Y.dIsBl, Y.dInt1, Y.dPow, Y.dNeg, Y.dCmp, Y.dEq, Y.dNe, Y.isNon, Y.dIsN, Y.dNotN, Y.dIn, Y.dIx, Y.dSl, Y.asI, Y.dLen, Y.dAbs, Y.blsOf, Y.dAll, Y.dList, Y.dTuple, Y.dIsB, Y.dIs2, Y.dIsO, Y.appM, Y.frzM, Y.dBinO, Y.dEqO, Y.dInO, Y.finI, Y.putM, Y.starD, Y.rng1, Y.rng2, Y.dJoin, Y.strsOf, Y.isS, Y.rDraw, Y.ar0, Y.ar1, Y.ar2, Y.ar3, Y.ar4, Y.ar5, List.getElem?_cons_zero, List.getElem?_cons_succ, List.set_cons_zero, List.set_cons_succ, List.map_cons, List.map_nil, List.length_cons, List.length_nil, Option.map_some, List.nil_append, List.cons_append, List.mem_cons, List.not_mem_nil, or_false, true_and, and_true, if_true, Bool.false_eq_true, if_false, Bool.not_true, Bool.not_false, Nat.reduceAdd, Nat.reduceLeDiff, decide_eq_true_eq, reduceCtorEq, ite_true, ite_false, Int.cast_ofNat_Int, Int.natCast_add, eq_self, Int.reduceEq, Int.reduceLE, Int.reduceLT, Int.reduceNeg, Int.reduceSub, Int.reduceAdd, decide_true, decide_false, String.reduceBEq, Bool.or_self, Bool.or_true, Bool.true_or, Bool.or_false, Bool.false_or])
local macro_rules | `(tactic| walk_at "m") => `(tactic| simp only [Y.forP, Y.mapP, Y.rVar, Y.rC, Y.tst, Y.chn, Y.aNil, Y.aCons, Y.stN, Y.tgD, Y.rYes, Y.wipeR, Y.asO, Y.fldD, Y.dAdd, Y.dSub, Y.dMul, Y.dDiv, Y.dDivZ, Y.dMod, Y.dModZ, Y.dIsBl, Y.dInt1, Y.dPow, Y.dNeg, Y.dCmp, Y.dEq, Y.dNe, Y.isNon, Y.dIsN, Y.dNotN, Y.dIn, Y.dIx, Y.dSl, Y.asI, Y.dLen, Y.dAbs, Y.blsOf, Y.dAll, Y.dList, Y.dTuple, Y.dIsB, Y.dIs2, Y.dIsO, Y.appM, Y.frzM, Y.dBinO, Y.dEqO, Y.dInO, Y.finI, Y.putM, Y.starD, Y.rng1, Y.rng2, Y.dJoin, Y.strsOf, Y.isS, Y.rDraw, Y.ar0, Y.ar1, Y.ar2, Y.ar3, Y.ar4, Y.ar5, List.getElem?_cons_zero, List.getElem?_cons_succ, List.set_cons_zero, List.set_cons_succ, List.map_cons, List.map_nil, List.length_cons, List.length_nil, Option.map_some, List.nil_append, List.cons_append, List.mem_cons, List.not_mem_nil, or_false, true_and, and_true, if_true, Bool.false_eq_true, if_false, Bool.not_true, Bool.not_false, Nat.reduceAdd, Nat.reduceLeDiff, decide_eq_true_eq, reduceCtorEq, ite_true, ite_false, Int.cast_ofNat_Int, Int.natCast_add, eq_self, Int.reduceEq, Int.reduceLE, Int.reduceLT, Int.reduceNeg, Int.reduceSub, Int.reduceAdd, decide_true, decide_false, String.reduceBEq, Bool.or_self, Bool.or_true, Bool.true_or, Bool.or_false, Bool.false_or])
namespace K07
open PySem PySem.Spec PyProof.Rows L2 Z Y
def topS (i : Nat) : Stmt := PySem.Challenge.pw_carpets_k07_motions_and_their_products.main.body.getD i (.Pass ⟨0, 0, 0, 0⟩)
abbrev s_is_integer : Stmt := (topS 6)
abbrev N_is_integer : List Str := ["value"]
abbrev ps_is_integer : List Str := ["value"]
theorem sc_is_integer : FnScope N_is_integer ps_is_integer (defScope s_is_integer) := ⟨rfl, rfl, rfl, by decide +kernel, rfl, by decide +kernel, by decide +kernel⟩
abbrev s_is_place : Stmt := (topS 7)
abbrev N_is_place : List Str := ["value", "number"]
abbrev ps_is_place : List Str := ["value"]
theorem sc_is_place : FnScope N_is_place ps_is_place (defScope s_is_place) := ⟨rfl, rfl, rfl, by decide +kernel, rfl, by decide +kernel, by decide +kernel⟩
abbrev s_check_place : Stmt := (topS 8)
abbrev N_check_place : List Str := ["value"]
abbrev ps_check_place : List Str := ["value"]
theorem sc_check_place : FnScope N_check_place ps_check_place (defScope s_check_place) := ⟨rfl, rfl, rfl, by decide +kernel, rfl, by decide +kernel, by decide +kernel⟩
abbrev s_plus : Stmt := (topS 9)
abbrev N_plus : List Str := ["one", "other"]
abbrev ps_plus : List Str := ["one", "other"]
theorem sc_plus : FnScope N_plus ps_plus (defScope s_plus) := ⟨rfl, rfl, rfl, by decide +kernel, rfl, by decide +kernel, by decide +kernel⟩
abbrev s_turned : Stmt := (topS 14)
abbrev N_turned : List Str := ["kind", "place", "p", "q", "r", "s"]
abbrev ps_turned : List Str := ["kind", "place"]
theorem sc_turned : FnScope N_turned ps_turned (defScope s_turned) := ⟨rfl, rfl, rfl, by decide +kernel, rfl, by decide +kernel, by decide +kernel⟩
abbrev s_joined_kind : Stmt := (topS 15)
abbrev N_joined_kind : List Str := ["first", "second", "east", "north", "matrix", "kind", "other"]
abbrev ps_joined_kind : List Str := ["first", "second"]
theorem sc_joined_kind : FnScope N_joined_kind ps_joined_kind (defScope s_joined_kind) := ⟨rfl, rfl, rfl, by decide +kernel, rfl, by decide +kernel, by decide +kernel⟩
abbrev s_Motion_UinitU : Stmt := (inClass (topS 16) 1)
abbrev N_Motion_UinitU : List Str := ["self", "kind", "shift"]
abbrev ps_Motion_UinitU : List Str := ["self", "kind", "shift"]
theorem sc_Motion_UinitU : FnScope N_Motion_UinitU ps_Motion_UinitU (defScope s_Motion_UinitU) := ⟨rfl, rfl, rfl, by decide +kernel, rfl, by decide +kernel, by decide +kernel⟩
abbrev s_Motion_by : Stmt := (inClass (topS 16) 2)
abbrev N_Motion_by : List Str := ["shift"]
abbrev ps_Motion_by : List Str := ["shift"]
theorem sc_Motion_by : FnScope N_Motion_by ps_Motion_by (defScope s_Motion_by) := ⟨rfl, rfl, rfl, by decide +kernel, rfl, by decide +kernel, by decide +kernel⟩
abbrev s_Motion_kind : Stmt := (inClass (topS 16) 3)
abbrev N_Motion_kind : List Str := ["self"]
abbrev ps_Motion_kind : List Str := ["self"]
theorem sc_Motion_kind : FnScope N_Motion_kind ps_Motion_kind (defScope s_Motion_kind) := ⟨rfl, rfl, rfl, by decide +kernel, rfl, by decide +kernel, by decide +kernel⟩
abbrev s_Motion_shift : Stmt := (inClass (topS 16) 4)
abbrev N_Motion_shift : List Str := ["self"]
abbrev ps_Motion_shift : List Str := ["self"]
theorem sc_Motion_shift : FnScope N_Motion_shift ps_Motion_shift (defScope s_Motion_shift) := ⟨rfl, rfl, rfl, by decide +kernel, rfl, by decide +kernel, by decide +kernel⟩
abbrev s_Motion_is_mirrored : Stmt := (inClass (topS 16) 5)
abbrev N_Motion_is_mirrored : List Str := ["self"]
abbrev ps_Motion_is_mirrored : List Str := ["self"]
theorem sc_Motion_is_mirrored : FnScope N_Motion_is_mirrored ps_Motion_is_mirrored (defScope s_Motion_is_mirrored) := ⟨rfl, rfl, rfl, by decide +kernel, rfl, by decide +kernel, by decide +kernel⟩
abbrev s_Motion_image : Stmt := (inClass (topS 16) 6)
abbrev N_Motion_image : List Str := ["self", "place"]
abbrev ps_Motion_image : List Str := ["self", "place"]
theorem sc_Motion_image : FnScope N_Motion_image ps_Motion_image (defScope s_Motion_image) := ⟨rfl, rfl, rfl, by decide +kernel, rfl, by decide +kernel, by decide +kernel⟩
abbrev s_Motion_UcallU : Stmt := (inClass (topS 16) 7)
abbrev N_Motion_UcallU : List Str := ["self", "place"]
abbrev ps_Motion_UcallU : List Str := ["self", "place"]
theorem sc_Motion_UcallU : FnScope N_Motion_UcallU ps_Motion_UcallU (defScope s_Motion_UcallU) := ⟨rfl, rfl, rfl, by decide +kernel, rfl, by decide +kernel, by decide +kernel⟩
abbrev s_Motion_UmulU : Stmt := (inClass (topS 16) 8)
abbrev N_Motion_UmulU : List Str := ["self", "other"]
abbrev ps_Motion_UmulU : List Str := ["self", "other"]
theorem sc_Motion_UmulU : FnScope N_Motion_UmulU ps_Motion_UmulU (defScope s_Motion_UmulU) := ⟨rfl, rfl, rfl, by decide +kernel, rfl, by decide +kernel, by decide +kernel⟩
abbrev s_Motion_UinvertU : Stmt := (inClass (topS 16) 9)
abbrev N_Motion_UinvertU : List Str := ["self", "kind", "x", "y"]
abbrev ps_Motion_UinvertU : List Str := ["self"]
theorem sc_Motion_UinvertU : FnScope N_Motion_UinvertU ps_Motion_UinvertU (defScope s_Motion_UinvertU) := ⟨rfl, rfl, rfl, by decide +kernel, rfl, by decide +kernel, by decide +kernel⟩
abbrev s_Motion_repeated : Stmt := (inClass (topS 16) 10)
abbrev N_Motion_repeated : List Str := ["self", "number", "power", "left", "result"]
abbrev ps_Motion_repeated : List Str := ["self", "number"]
theorem sc_Motion_repeated : FnScope N_Motion_repeated ps_Motion_repeated (defScope s_Motion_repeated) := ⟨rfl, rfl, rfl, by decide +kernel, rfl, by decide +kernel, by decide +kernel⟩
abbrev s_Motion_UeqU : Stmt := (inClass (topS 16) 11)
abbrev N_Motion_UeqU : List Str := ["self", "other"]
abbrev ps_Motion_UeqU : List Str := ["self", "other"]
theorem sc_Motion_UeqU : FnScope N_Motion_UeqU ps_Motion_UeqU (defScope s_Motion_UeqU) := ⟨rfl, rfl, rfl, by decide +kernel, rfl, by decide +kernel, by decide +kernel⟩
abbrev s_Motion_UreprU : Stmt := (inClass (topS 16) 12)
abbrev N_Motion_UreprU : List Str := ["self"]
abbrev ps_Motion_UreprU : List Str := ["self"]
theorem sc_Motion_UreprU : FnScope N_Motion_UreprU ps_Motion_UreprU (defScope s_Motion_UreprU) := ⟨rfl, rfl, rfl, by decide +kernel, rfl, by decide +kernel, by decide +kernel⟩
abbrev s__law_tape : Stmt := (topS 18)
abbrev N__law_tape : List Str := ["_law_script"]
abbrev ps__law_tape : List Str := ["_law_script"]
theorem sc__law_tape : FnScope N__law_tape ps__law_tape (defScope s__law_tape) := ⟨rfl, rfl, rfl, by decide +kernel, rfl, by decide +kernel, by decide +kernel⟩
abbrev s__law_draw : Stmt := (topS 19)
abbrev N__law_draw : List Str := ["_law_tape_here", "_law_many", "_law_digit", "_law_cell", "_law_near"]
abbrev ps__law_draw : List Str := ["_law_tape_here", "_law_many"]
theorem sc__law_draw : FnScope N__law_draw ps__law_draw (defScope s__law_draw) := ⟨rfl, rfl, rfl, by decide +kernel, rfl, by decide +kernel, by decide +kernel⟩
abbrev s__law_great : Stmt := (topS 20)
abbrev N__law_great : List Str := ["_law_tape_here", "_law_size", "_law_high", "_law_value"]
abbrev ps__law_great : List Str := ["_law_tape_here", "_law_size"]
theorem sc__law_great : FnScope N__law_great ps__law_great (defScope s__law_great) := ⟨rfl, rfl, rfl, by decide +kernel, rfl, by decide +kernel, by decide +kernel⟩
abbrev s__law_place : Stmt := (topS 21)
abbrev N__law_place : List Str := ["_law_tape_here"]
abbrev ps__law_place : List Str := ["_law_tape_here"]
theorem sc__law_place : FnScope N__law_place ps__law_place (defScope s__law_place) := ⟨rfl, rfl, rfl, by decide +kernel, rfl, by decide +kernel, by decide +kernel⟩
abbrev s__law_turned : Stmt := (topS 22)
abbrev N__law_turned : List Str := ["_law_kind", "_law_place_here", "_law_x", "_law_y"]
abbrev ps__law_turned : List Str := ["_law_kind", "_law_place_here"]
theorem sc__law_turned : FnScope N__law_turned ps__law_turned (defScope s__law_turned) := ⟨rfl, rfl, rfl, by decide +kernel, rfl, by decide +kernel, by decide +kernel⟩
abbrev s__law_kinds : Stmt := (topS 23)
abbrev N__law_kinds : List Str := []
abbrev ps__law_kinds : List Str := []
theorem sc__law_kinds : FnScope N__law_kinds ps__law_kinds (defScope s__law_kinds) := ⟨rfl, rfl, rfl, by decide +kernel, rfl, by decide +kernel, by decide +kernel⟩
abbrev s__law_carried : Stmt := (topS 24)
abbrev N__law_carried : List Str := ["_law_move", "_law_place_here", "_law_x", "_law_y"]
abbrev ps__law_carried : List Str := ["_law_move", "_law_place_here"]
theorem sc__law_carried : FnScope N__law_carried ps__law_carried (defScope s__law_carried) := ⟨rfl, rfl, rfl, by decide +kernel, rfl, by decide +kernel, by decide +kernel⟩
abbrev s__law_far_move : Stmt := (topS 25)
abbrev N__law_far_move : List Str := ["_law_tape_here"]
abbrev ps__law_far_move : List Str := ["_law_tape_here"]
theorem sc__law_far_move : FnScope N__law_far_move ps__law_far_move (defScope s__law_far_move) := ⟨rfl, rfl, rfl, by decide +kernel, rfl, by decide +kernel, by decide +kernel⟩
abbrev s__law_told : Stmt := (topS 26)
abbrev N__law_told : List Str := ["_law_motion"]
abbrev ps__law_told : List Str := ["_law_motion"]
theorem sc__law_told : FnScope N__law_told ps__law_told (defScope s__law_told) := ⟨rfl, rfl, rfl, by decide +kernel, rfl, by decide +kernel, by decide +kernel⟩
abbrev s__law_right : Stmt := (topS 27)
abbrev N__law_right : List Str := ["_law_move", "_law_places", "_law_made", "_law_back", "_law_place_here", "_law_there"]
abbrev ps__law_right : List Str := ["_law_move", "_law_places"]
theorem sc__law_right : FnScope N__law_right ps__law_right (defScope s__law_right) := ⟨rfl, rfl, rfl, by decide +kernel, rfl, by decide +kernel, by decide +kernel⟩
abbrev s__law_products_right : Stmt := (topS 28)
abbrev N__law_products_right : List Str := ["_law_moves", "_law_places", "_law_one", "_law_two", "_law_three", "_law_both", "_law_place_here", "_law_move"]
abbrev ps__law_products_right : List Str := ["_law_moves", "_law_places"]
theorem sc__law_products_right : FnScope N__law_products_right ps__law_products_right (defScope s__law_products_right) := ⟨rfl, rfl, rfl, by decide +kernel, rfl, by decide +kernel, by decide +kernel⟩
abbrev s__law_powers_right : Stmt := (topS 29)
abbrev N__law_powers_right : List Str := ["_law_tape_here", "_law_move", "_law_place_here", "_law_made", "_law_here", "_law_whole", "_law_number", "_law_some", "_law_back", "_law_far"]
abbrev ps__law_powers_right : List Str := ["_law_tape_here", "_law_move", "_law_place_here"]
theorem sc__law_powers_right : FnScope N__law_powers_right ps__law_powers_right (defScope s__law_powers_right) := ⟨rfl, rfl, rfl, by decide +kernel, rfl, by decide +kernel, by decide +kernel⟩
abbrev s_law : Stmt := (topS 30)
abbrev N_law : List Str := ["_law_script", "_law_tape_here", "_law_places", "_law_kind", "_law_move", "_law_plain", "_law_turn", "_law_one", "_law_other", "_law_made", "_law_far", "_law_odd"]
abbrev ps_law : List Str := ["_law_script"]
theorem sc_law : FnScope N_law ps_law (defScope s_law) := ⟨rfl, rfl, rfl, by decide +kernel, rfl, by decide +kernel, by decide +kernel⟩
abbrev tup_MIRRORED : D := (.tup [(.str "flip"), (.str "mirror"), (.str "swap"), (.str "cross")])
abbrev tab_BACK : List (Str × D) := [("left", (.str "right")), ("right", (.str "left"))]
abbrev tab_MATRICES : List (Str × D) := [("none", (.tup [(.int (1)), (.int (0)), (.int (0)), (.int (1))])), ("left", (.tup [(.int (0)), (.int (-1)), (.int (1)), (.int (0))])), ("half", (.tup [(.int (-1)), (.int (0)), (.int (0)), (.int (-1))])), ("right", (.tup [(.int (0)), (.int (1)), (.int (-1)), (.int (0))])), ("flip", (.tup [(.int (1)), (.int (0)), (.int (0)), (.int (-1))])), ("mirror", (.tup [(.int (-1)), (.int (0)), (.int (0)), (.int (1))])), ("swap", (.tup [(.int (0)), (.int (1)), (.int (1)), (.int (0))])), ("cross", (.tup [(.int (0)), (.int (-1)), (.int (-1)), (.int (0))]))]
structure Tx (w : World) (K : Frg) (mg : Str → Option Value) : Prop where
  b_abs : mg "abs" = none
  b_all : mg "all" = none
  b_bool : mg "bool" = none
  b_int : mg "int" = none
  b_isinstance : mg "isinstance" = none
  b_len : mg "len" = none
  b_list : mg "list" = none
  b_range : mg "range" = none
  b_repr : mg "repr" = none
  b_str : mg "str" = none
  b_tuple : mg "tuple" = none
  cl_Motion : Cls K (He.ga K "Motion")
  co_Motion : StX.CallO K (He.ga K "Motion") (He.ma K (He.ga K "Motion") "__call__")
  cv_Motion_KINDS : CV K "Motion" "KINDS" (.tup [(.str "none"), (.str "left"), (.str "half"), (.str "right"), (.str "flip"), (.str "mirror"), (.str "swap"), (.str "cross")])
  df_Motion_UinitU : vOk K 4 (.tup [(.int (0)), (.int (0))]) (.ref (He.dflAt ("Motion", some "__init__") 0 K)) = true
  g_BACK : mg "BACK" = some (.ref (He.ga K "BACK"))
  g_MATRICES : mg "MATRICES" = some (.ref (He.ga K "MATRICES"))
  g_MIRRORED : mg "MIRRORED" = some (.ref (He.ga K "MIRRORED"))
  g_Motion : mg "Motion" = some (.ref (He.ga K "Motion"))
  g__law_carried : mg "_law_carried" = some (.ref (He.ga K "_law_carried"))
  g__law_draw : mg "_law_draw" = some (.ref (He.ga K "_law_draw"))
  g__law_far_move : mg "_law_far_move" = some (.ref (He.ga K "_law_far_move"))
  g__law_great : mg "_law_great" = some (.ref (He.ga K "_law_great"))
  g__law_kinds : mg "_law_kinds" = some (.ref (He.ga K "_law_kinds"))
  g__law_place : mg "_law_place" = some (.ref (He.ga K "_law_place"))
  g__law_powers_right : mg "_law_powers_right" = some (.ref (He.ga K "_law_powers_right"))
  g__law_products_right : mg "_law_products_right" = some (.ref (He.ga K "_law_products_right"))
  g__law_right : mg "_law_right" = some (.ref (He.ga K "_law_right"))
  g__law_tape : mg "_law_tape" = some (.ref (He.ga K "_law_tape"))
  g__law_told : mg "_law_told" = some (.ref (He.ga K "_law_told"))
  g__law_turned : mg "_law_turned" = some (.ref (He.ga K "_law_turned"))
  g_check_place : mg "check_place" = some (.ref (He.ga K "check_place"))
  g_is_integer : mg "is_integer" = some (.ref (He.ga K "is_integer"))
  g_is_place : mg "is_place" = some (.ref (He.ga K "is_place"))
  g_joined_kind : mg "joined_kind" = some (.ref (He.ga K "joined_kind"))
  g_law : mg "law" = some (.ref (He.ga K "law"))
  g_plus : mg "plus" = some (.ref (He.ga K "plus"))
  g_turned : mg "turned" = some (.ref (He.ga K "turned"))
  gv_MIRRORED : VD K tup_MIRRORED (.ref (He.ga K "MIRRORED"))
  k__law_carried : PySem.W.keepIn K (.ref (He.ga K "_law_carried")) = true
  k__law_draw : PySem.W.keepIn K (.ref (He.ga K "_law_draw")) = true
  k__law_far_move : PySem.W.keepIn K (.ref (He.ga K "_law_far_move")) = true
  k__law_great : PySem.W.keepIn K (.ref (He.ga K "_law_great")) = true
  k__law_kinds : PySem.W.keepIn K (.ref (He.ga K "_law_kinds")) = true
  k__law_place : PySem.W.keepIn K (.ref (He.ga K "_law_place")) = true
  k__law_powers_right : PySem.W.keepIn K (.ref (He.ga K "_law_powers_right")) = true
  k__law_products_right : PySem.W.keepIn K (.ref (He.ga K "_law_products_right")) = true
  k__law_right : PySem.W.keepIn K (.ref (He.ga K "_law_right")) = true
  k__law_tape : PySem.W.keepIn K (.ref (He.ga K "_law_tape")) = true
  k__law_told : PySem.W.keepIn K (.ref (He.ga K "_law_told")) = true
  k__law_turned : PySem.W.keepIn K (.ref (He.ga K "_law_turned")) = true
  k_check_place : PySem.W.keepIn K (.ref (He.ga K "check_place")) = true
  k_is_integer : PySem.W.keepIn K (.ref (He.ga K "is_integer")) = true
  k_is_place : PySem.W.keepIn K (.ref (He.ga K "is_place")) = true
  k_joined_kind : PySem.W.keepIn K (.ref (He.ga K "joined_kind")) = true
  k_plus : PySem.W.keepIn K (.ref (He.ga K "plus")) = true
  k_turned : PySem.W.keepIn K (.ref (He.ga K "turned")) = true
  m_Motion_UeqU : Meth K (He.ga K "Motion") "__eq__" (He.ma K (He.ga K "Motion") "__eq__")
  m_Motion_UinvertU : Meth K (He.ga K "Motion") "__invert__" (He.ma K (He.ga K "Motion") "__invert__")
  m_Motion_UmulU : Meth K (He.ga K "Motion") "__mul__" (He.ma K (He.ga K "Motion") "__mul__")
  m_Motion_UreprU : Meth K (He.ga K "Motion") "__repr__" (He.ma K (He.ga K "Motion") "__repr__")
  m_Motion_image : Meth K (He.ga K "Motion") "image" (He.ma K (He.ga K "Motion") "image")
  m_Motion_repeated : Meth K (He.ga K "Motion") "repeated" (He.ma K (He.ga K "Motion") "repeated")
  mk_Motion : Mk K (He.ga K "Motion") (He.ma K (He.ga K "Motion") "__init__")
  na_Motion_own_kind : NoAttr K (He.ga K "Motion") "own_kind"
  na_Motion_own_shift : NoAttr K (He.ga K "Motion") "own_shift"
  ow_Motion : Own K (He.ga K "Motion")
  p_Motion_is_mirrored : PropOf K (He.ga K "Motion") "is_mirrored" (He.ma K (He.ga K "Motion") "is_mirrored") (He5.wf K (He.ga K "Motion") "property" "is_mirrored")
  p_Motion_kind : PropOf K (He.ga K "Motion") "kind" (He.ma K (He.ga K "Motion") "kind") (He5.wf K (He.ga K "Motion") "property" "kind")
  p_Motion_shift : PropOf K (He.ga K "Motion") "shift" (He.ma K (He.ga K "Motion") "shift") (He5.wf K (He.ga K "Motion") "property" "shift")
  rd_Motion : ClX.CRead K (He.ga K "Motion") (.type "type")
  sm_Motion_by : SMet K (He.ga K "Motion") "by" (He.ma K (He.ga K "Motion") "by") (He5.wf K (He.ga K "Motion") "staticmethod" "by")
  tb_BACK : KTab K w "BACK" tab_BACK
  tb_MATRICES : KTab K w "MATRICES" tab_MATRICES
  d_is_integer : DefAt K "is_integer" "is_integer" s_is_integer (He.ga K "is_integer")
  d_is_place : DefAt K "is_place" "is_place" s_is_place (He.ga K "is_place")
  d_check_place : DefAt K "check_place" "check_place" s_check_place (He.ga K "check_place")
  d_plus : DefAt K "plus" "plus" s_plus (He.ga K "plus")
  d_turned : DefAt K "turned" "turned" s_turned (He.ga K "turned")
  d_joined_kind : DefAt K "joined_kind" "joined_kind" s_joined_kind (He.ga K "joined_kind")
  d_Motion_UinitU : DefAtD K "__init__" "Motion.__init__" s_Motion_UinitU (He.ma K (He.ga K "Motion") "__init__") (.tup [(.int (0)), (.int (0))])
  d_Motion_by : DefAt K "by" "Motion.by" s_Motion_by (He5.wf K (He.ga K "Motion") "staticmethod" "by")
  d_Motion_kind : DefAt K "kind" "Motion.kind" s_Motion_kind (He5.wf K (He.ga K "Motion") "property" "kind")
  d_Motion_shift : DefAt K "shift" "Motion.shift" s_Motion_shift (He5.wf K (He.ga K "Motion") "property" "shift")
  d_Motion_is_mirrored : DefAt K "is_mirrored" "Motion.is_mirrored" s_Motion_is_mirrored (He5.wf K (He.ga K "Motion") "property" "is_mirrored")
  d_Motion_image : DefAt K "image" "Motion.image" s_Motion_image (He.ma K (He.ga K "Motion") "image")
  d_Motion_UcallU : DefAt K "__call__" "Motion.__call__" s_Motion_UcallU (He.ma K (He.ga K "Motion") "__call__")
  d_Motion_UmulU : DefAt K "__mul__" "Motion.__mul__" s_Motion_UmulU (He.ma K (He.ga K "Motion") "__mul__")
  d_Motion_UinvertU : DefAt K "__invert__" "Motion.__invert__" s_Motion_UinvertU (He.ma K (He.ga K "Motion") "__invert__")
  d_Motion_repeated : DefAt K "repeated" "Motion.repeated" s_Motion_repeated (He.ma K (He.ga K "Motion") "repeated")
  d_Motion_UeqU : DefAt K "__eq__" "Motion.__eq__" s_Motion_UeqU (He.ma K (He.ga K "Motion") "__eq__")
  d_Motion_UreprU : DefAt K "__repr__" "Motion.__repr__" s_Motion_UreprU (He.ma K (He.ga K "Motion") "__repr__")
  d__law_tape : DefAt K "_law_tape" "_law_tape" s__law_tape (He.ga K "_law_tape")
  d__law_draw : DefAt K "_law_draw" "_law_draw" s__law_draw (He.ga K "_law_draw")
  d__law_great : DefAt K "_law_great" "_law_great" s__law_great (He.ga K "_law_great")
  d__law_place : DefAt K "_law_place" "_law_place" s__law_place (He.ga K "_law_place")
  d__law_turned : DefAt K "_law_turned" "_law_turned" s__law_turned (He.ga K "_law_turned")
  d__law_kinds : DefAt K "_law_kinds" "_law_kinds" s__law_kinds (He.ga K "_law_kinds")
  d__law_carried : DefAt K "_law_carried" "_law_carried" s__law_carried (He.ga K "_law_carried")
  d__law_far_move : DefAt K "_law_far_move" "_law_far_move" s__law_far_move (He.ga K "_law_far_move")
  d__law_told : DefAt K "_law_told" "_law_told" s__law_told (He.ga K "_law_told")
  d__law_right : DefAt K "_law_right" "_law_right" s__law_right (He.ga K "_law_right")
  d__law_products_right : DefAt K "_law_products_right" "_law_products_right" s__law_products_right (He.ga K "_law_products_right")
  d__law_powers_right : DefAt K "_law_powers_right" "_law_powers_right" s__law_powers_right (He.ga K "_law_powers_right")
  d_law : DefAt K "law" "law" s_law (He.ga K "law")
end K07
namespace K07
open PySem PySem.Spec PyProof.Rows L2 Z Y
section
variable {P : Program} {w : World} {K : Frg} {mg : Str → Option Value} {base : Heap}
theorem ok_is_integer (T : Tx w K mg) : FnG P w K mg base (L2.CX P w) 1 (He.ga K "is_integer") (spP K R_is_integer) := by
  refine y_fn T.d_is_integer sc_is_integer arl1 (fun _ _ _ _ _ _ us hl => match us, hl with | [_], _ => rfl) fun cdv A outer s H E B hB hr hx po => ⟨_, (s_one (s_ret (y_and (y_callB call_isi (isBL (cs := []) (T := "int") (by decide) all0) (by rfl) T.b_isinstance (by decide +kernel) (a_cons (y_var (pv 0)) (a_cons (y_ty (n := "int") rfl T.b_int (by decide +kernel)) a_nil))) (y_one (y_not (y_callB call_isi (isBL (cs := []) (T := "bool") (by decide) all0) (by rfl) T.b_isinstance (by decide +kernel) (a_cons (y_var (pv 0)) (a_cons (y_ty (n := "bool") rfl T.b_bool (by decide +kernel)) a_nil)))))))), fun ds Q h => ?_⟩
  obtain ⟨a0, e0, hh⟩ := ar1E h
  clear h
  subst e0
  have h := hh
  clear hh
  try dsimp only at h
  rw [show startE (List.length N_is_integer) [a0] = [.val a0] from rfl]
  obtain ⟨hk, h⟩ := h
  cases a0 with
  | int i => exact ⟨rfl, ifB_T rfl ⟨rfl, h⟩⟩
  | bl b => exact ⟨rfl, ifB_T rfl ⟨rfl, h⟩⟩
  | obj _ _ _ => exact hk.elim
  | ty _ => exact hk.elim
  | glob _ => exact hk.elim
  | tape => exact hk.elim
  | _ => exact ⟨rfl, ifB_F rfl h⟩
end
end K07
namespace K07
open PySem PySem.Spec PyProof.Rows L2 Z Y
section
variable {P : Program} {w : World} {K : Frg} {mg : Str → Option Value} {base : Heap}
theorem ok_is_place (T : Tx w K mg) : FnG P w K mg base (L2.CX P w) 3 (He.ga K "is_place") (spP K R_is_place) := by
  refine y_fn T.d_is_place sc_is_place arl1 (fun _ _ _ _ _ _ us hl => match us, hl with | [_], _ => rfl) fun cdv A outer s H E B hB hr hx po => ⟨_, (s_one (s_ret (y_and (y_callB call_isi (isBL (cs := []) (T := "tuple") (by decide) all0) (by rfl) T.b_isinstance (by decide +kernel) (a_cons (y_var (pv 0)) (a_cons (y_ty (n := "tuple") rfl T.b_tuple (by decide +kernel)) a_nil))) (y_and (y_cmp (op_eqY hr.units) eqL (y_callB call_lenY lenL (by rfl) T.b_len (by decide +kernel) (a_cons (y_var (pv 0)) a_nil)) y_int (nomark _)) (y_one (y_callB (cr_all rfl) (allL (f := fun bs => bs.all id)) (by rfl) T.b_all (by decide +kernel) (a_cons (y_lc (own := [("number", 1)]) (t := .nm 1) rfl sc_is_place.nd (i_tup (y_var (pv 0))) (blkOk_by (own := [("number", 1)]) (N := N_is_place) (sc := defScope s_is_place) (by decide +kernel)) (fun _ _ _ _ _ => (g_nm (pg_name (i := 1) sc_is_place.nd rfl (by first | exact Or.inl rfl | exact Or.inr rfl)))) (fun _ _ _ _ _ => c_nil) (fun _ _ _ _ _ => (y_call (ok_is_integer T) (hr.mono (by decide)) rfl T.g_is_integer T.k_is_integer px_nox (a_cons (y_var (pv 1)) a_nil)))) a_nil))))))), fun ds Q h => ?_⟩
  obtain ⟨a0, e0, hh⟩ := ar1E h
  clear h
  subst e0
  have h := hh
  clear hh
  try dsimp only at h
  rw [show startE (List.length N_is_place) [a0] = [.val a0, .no] from rfl]
  obtain ⟨hk, h⟩ := h
  cases a0 with
  | tup ds =>
    match ds, hk, h with
    | [x, y], hk, h => exact ⟨rfl, ifB_T rfl (ifB_T rfl ⟨Nat.le_of_ble_eq_true rfl, mapI_of (ifB_T rfl ⟨hk.1, ifB_T rfl ⟨hk.2, by show Q (.bl ([isIntD x, isIntD y].all id)); simpa [isPl] using h⟩⟩)⟩)⟩
    | [], hk, h => exact ⟨rfl, ifB_T rfl (ifB_F rfl h)⟩
    | [_], hk, h => exact ⟨rfl, ifB_T rfl (ifB_F rfl h)⟩
    | a :: b :: c :: ds, hk, h => exact ⟨rfl, ifB_T rfl (ifB_F (decide_eq_false (by simp only [List.length_cons]; omega)) h)⟩
  | obj _ _ _ => exact hk.elim
  | ty _ => exact hk.elim
  | glob _ => exact hk.elim
  | tape => exact hk.elim
  | _ => exact ⟨rfl, ifB_F rfl h⟩
end
end K07
namespace K07
open PySem PySem.Spec PyProof.Rows L2 Z Y
section
variable {P : Program} {w : World} {K : Frg} {mg : Str → Option Value} {base : Heap}
theorem ok_check_place (T : Tx w K mg) : FnG P w K mg base (L2.CX P w) 5 (He.ga K "check_place") (spP K R_check_place_n) := by
  refine y_fn T.d_check_place sc_check_place arl1 (fun _ _ _ _ _ _ us hl => match us, hl with | [_], _ => rfl) fun cdv A outer s H E B hB hr hx po => ⟨_, (s_one (s_if (z_not (z_val (y_call (ok_is_place T) (hr.mono (by decide)) rfl T.g_is_place T.k_is_place hx (a_cons (y_var (pv 0)) a_nil))))
    (s_one s_never)
    s_nil)), fun ds Q h => ?_⟩
  obtain ⟨a0, e0, hh⟩ := ar1E h
  clear h
  subst e0
  have h := hh
  clear hh
  try dsimp only at h
  rw [show startE (List.length N_check_place) [a0] = [.val a0] from rfl]
  obtain ⟨hk, h1, h⟩ := h
  refine ⟨hk, ifB_F (by rw [h1]; rfl) h⟩
end
end K07
namespace K07
open PySem PySem.Spec PyProof.Rows L2 Z Y
section
variable {P : Program} {w : World} {K : Frg} {mg : Str → Option Value} {base : Heap}
theorem ok_plus (T : Tx w K mg) : FnG P w K mg base (L2.CX P w) 1 (He.ga K "plus") (spP K R_plus) := by
  refine y_fn T.d_plus sc_plus arl2 (fun _ _ _ _ _ _ us hl => match us, hl with | [_, _], _ => rfl) fun cdv A outer s H E B hB hr hx po => ⟨_, (s_one (s_ret (y_tup (a_cons (y_op op_addY addL (y_ix (y_var (pv 0)) y_int (fun _ _ => rfl)) (y_ix (y_var (pv 1)) y_int (fun _ _ => rfl))) (a_cons (y_op op_addY addL (y_ix (y_var (pv 0)) y_int (fun _ _ => rfl)) (y_ix (y_var (pv 1)) y_int (fun _ _ => rfl))) a_nil))))), fun ds Q h => ?_⟩
  obtain ⟨a0, a1, e0, hh⟩ := ar2E h
  clear h
  subst e0
  have h := hh
  clear hh
  try dsimp only at h
  rw [show startE (List.length N_plus) [a0, a1] = [.val a0, .val a1] from rfl]
  obtain ⟨x, y, u, v, rfl, rfl, h⟩ := h
  exact ⟨leN rfl, h⟩
end
end K07
namespace K07
open PySem PySem.Spec PyProof.Rows L2 Z Y
section
variable {P : Program} {w : World} {K : Frg} {mg : Str → Option Value} {base : Heap}
theorem ok_turned (T : Tx w K mg) : FnG P w K mg base (L2.CX P w) 1 (He.ga K "turned") (spP K R_turned) := by
  refine y_fn T.d_turned sc_turned arl2 (fun _ _ _ _ _ _ us hl => match us, hl with | [_, _], _ => rfl) fun cdv A outer s H E B hB hr hx po => ⟨_, (s_cons (s_asg (t := .tp [2, 3, 4, 5]) (y_ixT T.tb_MATRICES (y_glob rfl T.g_MATRICES) (y_var (pv 0)) (fun _ _ => rfl)) (g_tp (is := [2, 3, 4, 5]) rfl (pgs_cons (pg_name (i := 2) sc_turned.nd rfl (by first | exact Or.inl rfl | exact Or.inr rfl)) (pgs_cons (pg_name (i := 3) sc_turned.nd rfl (by first | exact Or.inl rfl | exact Or.inr rfl)) (pgs_cons (pg_name (i := 4) sc_turned.nd rfl (by first | exact Or.inl rfl | exact Or.inr rfl)) (pgs_cons (pg_name (i := 5) sc_turned.nd rfl (by first | exact Or.inl rfl | exact Or.inr rfl)) pgs_nil))))))
  (s_one (s_ret (y_tup (a_cons (y_op op_addY addL (y_op op_mulY mulL (y_var (pv 2)) (y_ix (y_var (pv 1)) y_int (fun _ _ => rfl))) (y_op op_mulY mulL (y_var (pv 3)) (y_ix (y_var (pv 1)) y_int (fun _ _ => rfl)))) (a_cons (y_op op_addY addL (y_op op_mulY mulL (y_var (pv 4)) (y_ix (y_var (pv 1)) y_int (fun _ _ => rfl))) (y_op op_mulY mulL (y_var (pv 5)) (y_ix (y_var (pv 1)) y_int (fun _ _ => rfl)))) a_nil)))))), fun ds Q h => ?_⟩
  obtain ⟨a0, a1, e0, hh⟩ := ar2E h
  clear h
  subst e0
  have h := hh
  clear hh
  try dsimp only at h
  rw [show startE (List.length N_turned) [a0, a1] = [.val a0, .val a1, .no, .no, .no, .no] from rfl]
  obtain ⟨s, M, x, y, rfl, rfl, ⟨hM, zx, zy⟩, h⟩ := h
  obtain ⟨⟨m1, m2⟩, m3, m4⟩ := mat_small hM
  refine ⟨rfl, ?_⟩
  rw [show List.lookup s tab_MATRICES = some (matD M) from tabM_look hM]
  exact ⟨⟨sz1 m1, zx.mono (by decide)⟩, ⟨sz1 m2, zy.mono (by decide)⟩, ⟨sz1 m3, zx.mono (by decide)⟩, ⟨sz1 m4, zy.mono (by decide)⟩, leN rfl, h⟩
end
end K07
namespace K07
open PySem PySem.Spec PyProof.Rows L2 Z Y
section
variable {P : Program} {w : World} {K : Frg} {mg : Str → Option Value} {base : Heap}
theorem ok_joined_kind (T : Tx w K mg) : FnG P w K mg base (L2.CX P w) 3 (He.ga K "joined_kind") (spP K R_joined_kind) := by
  refine y_fn T.d_joined_kind sc_joined_kind arl2 (fun _ _ _ _ _ _ us hl => match us, hl with | [_, _], _ => rfl) fun cdv A outer s H E B hB hr hx po => ⟨_, (s_cons (s_par (i := 2) (j := 3) (by rfl) sc_joined_kind.nd rfl rfl (by decide) rfl rfl (a_cons (y_call (ok_turned T) (hr.mono (by decide)) rfl T.g_turned T.k_turned hx (a_cons (y_var (pv 1)) (a_cons (y_call (ok_turned T) (hr.mono (by decide)) rfl T.g_turned T.k_turned hx (a_cons (y_var (pv 0)) (a_cons (y_tup (a_cons y_int (a_cons y_int a_nil))) a_nil))) a_nil))) (a_cons (y_call (ok_turned T) (hr.mono (by decide)) rfl T.g_turned T.k_turned hx (a_cons (y_var (pv 1)) (a_cons (y_call (ok_turned T) (hr.mono (by decide)) rfl T.g_turned T.k_turned hx (a_cons (y_var (pv 0)) (a_cons (y_tup (a_cons y_int (a_cons y_int a_nil))) a_nil))) a_nil))) a_nil)) (by rfl))
  (s_cons (s_set (i := 4) sc_joined_kind.nd rfl (by first | exact Or.inl rfl | exact Or.inr rfl) (y_tup (a_cons (y_ix (y_var (pv 2)) y_int (fun _ _ => rfl)) (a_cons (y_ix (y_var (pv 3)) y_int (fun _ _ => rfl)) (a_cons (y_ix (y_var (pv 2)) y_int (fun _ _ => rfl)) (a_cons (y_ix (y_var (pv 3)) y_int (fun _ _ => rfl)) a_nil))))))
  (s_cons (s_for (t := .tp [5, 6]) po rfl (i_itemsT T.tb_MATRICES (y_glob rfl T.g_MATRICES)) (g_tp (is := [5, 6]) rfl (pgs_cons (pg_name (i := 5) sc_joined_kind.nd rfl (by first | exact Or.inl rfl | exact Or.inr rfl)) (pgs_cons (pg_name (i := 6) sc_joined_kind.nd rfl (by first | exact Or.inl rfl | exact Or.inr rfl)) pgs_nil)))
    (s_one (s_if (z_cmp (op_eqY hr.units) eqL (y_var (pv 6)) (y_var (pv 4)) (nomark _))
    (s_one (s_ret (y_var (pv 5))))
    s_nil)))
  (s_one (s_ret y_str))))), fun ds Q h => ?_⟩
  obtain ⟨a0, a1, e0, hh⟩ := ar2E h
  clear h
  subst e0
  have h := hh
  clear hh
  try dsimp only at h
  rw [show startE (List.length N_joined_kind) [a0, a1] = [.val a0, .val a1, .no, .no, .no, .no, .no] from rfl]
  obtain ⟨s, t, M, N, rfl, rfl, ⟨hM, hN⟩, h⟩ := h
  have e10 : Sz 4000 (1 : Int) := szP (by decide) (by decide)
  have e00 : Sz 4000 (0 : Int) := szP (by decide) (by decide)
  obtain ⟨z1, z2⟩ := sz_turn hM (n := 4000) e10 e00
  obtain ⟨z3, z4⟩ := sz_turn hM (n := 4000) e00 e10
  refine ⟨leN rfl, s, M, 1, 0, rfl, rfl, ⟨hM, e10, e00⟩, t, N, _, _, rfl, rfl, ⟨hN, z1, z2⟩, leN rfl, s, M, 0, 1, rfl, rfl, ⟨hM, e00, e10⟩, t, N, _, _, rfl, rfl, ⟨hN, z3, z4⟩, leN rfl, ?_⟩
  have eM : D.tup [D.int (MN.turn N ((MN.turn M (1, 0)).fst, (MN.turn M (1, 0)).snd)).fst, D.int (MN.turn N ((MN.turn M (0, 1)).fst, (MN.turn M (0, 1)).snd)).fst, D.int (MN.turn N ((MN.turn M (1, 0)).fst, (MN.turn M (1, 0)).snd)).snd, D.int (MN.turn N ((MN.turn M (0, 1)).fst, (MN.turn M (0, 1)).snd)).snd] = matD (MN.comp M N) := by
    simp [MN.turn, MN.comp, matD]
  rw [eM]
  generalize plD (MN.turn N ((MN.turn M (1, 0)).fst, (MN.turn M (1, 0)).snd)) = d2
  generalize plD (MN.turn N ((MN.turn M (0, 1)).fst, (MN.turn M (0, 1)).snd)) = d3
  refine ⟨rfl, fun i ρ => (∀ q ∈ matL.take i, q.2 ≠ MN.comp M N) ∧ ∃ o5 o6, ρ = [.val (.str s), .val (.str t), .val d2, .val d3, .val (matD (MN.comp M N)), o5, o6], ⟨fun q hq => (List.not_mem_nil hq).elim, _, _, rfl⟩, ?_, ?_⟩
  · rintro i d ρ hd ⟨hn, o5, o6, rfl⟩
    have hd' : (matL.map fun q => D.tup [.str q.1, matD q.2])[i]? = some d := hd
    obtain ⟨⟨k, m⟩, hq, rfl⟩ := map_get hd'
    refine ⟨⟨rfl, rfl⟩, ifB_2 (fun e => ?_) (fun e => ?_)⟩
    · have e' : decide (m = MN.comp M N) = true := (eqM _ _).symm.trans e
      have hm := of_decide_eq_true e'
      subst hm
      exact h k (mat_of_mem (List.mem_of_getElem? hq))
    · have e' : decide (m = MN.comp M N) = false := (eqM _ _).symm.trans e
      have hm := of_decide_eq_false e'
      refine ⟨fun q hq' => ?_, _, _, rfl⟩
      rw [List.take_succ, hq] at hq'
      rcases List.mem_append.mp hq' with z | z
      · exact hn q z
      · have : q = (k, m) := by simpa using z
        rw [this]
        exact hm
  · rintro ρ ⟨hn, o5, o6, rfl⟩
    obtain ⟨u, hu⟩ := mat_comp hM hN
    exact absurd rfl (hn _ (by exact hu))
end
end K07
namespace K07
open PySem PySem.Spec PyProof.Rows L2 Z Y
section
variable {P : Program} {w : World} {K : Frg} {mg : Str → Option Value} {base : Heap}
theorem ok_Motion_UinitU (T : Tx w K mg) : FnG P w K mg base (L2.CX P w) 7 (He.ma K (He.ga K "Motion") "__init__") (spI K "Motion" (dflR R_Motion_UinitU 1 (.tup [(.int (0)), (.int (0))]))) := by
  refine y_initD (C := "Motion") (R := R_Motion_UinitU) T.d_Motion_UinitU sc_Motion_UinitU (fun ds Q E h => by rw [arl2 ds Q E h]; rfl) (fun _ _ _ _ _ _ _ us _ hl => match us, hl with | [_, _], _ => ⟨_, rfl, rfl⟩) (fun _ _ _ _ _ _ _ us _ hl => match us, hl with | [_, _, _], _ => ⟨_, rfl, rfl⟩) fun cdv A outer s H E B hB hr hx po => ⟨_, (s_cons (s_if (z_pt (z_or (z_not (z_val (y_callB call_isi (isBL (cs := []) (T := "str") (by decide) all0) (by rfl) T.b_isinstance (by decide +kernel) (a_cons (y_var (pv 1)) (a_cons (y_ty (n := "str") rfl T.b_str (by decide +kernel)) a_nil))))) (z_or1 (z_cmp (op_ninT T.tb_MATRICES) (ninTL T.tb_MATRICES) (y_var (pv 1)) (y_glob rfl T.g_MATRICES) rfl))))
    (s_one s_never)
    s_nil)
  (s_cons (s_expr (y_call (ok_check_place T) (hr.mono (by decide)) rfl T.g_check_place T.k_check_place hx (a_cons (y_var (pv 2)) a_nil)))
  (s_cons (s_fld (C := "Motion") (ns := []) (i := 0) T.cl_Motion T.na_Motion_own_kind (pv 0) (y_var (pv 1)))
  (s_one (s_fld (C := "Motion") (ns := ["own_kind"]) (i := 0) T.cl_Motion T.na_Motion_own_shift (pv 0) (y_var (pv 2))))))), fun self ds Q h => ?_⟩
  obtain ⟨a0, a1, e0, hh⟩ := ar2E h
  clear h
  subst e0
  have h := hh
  clear hh
  try dsimp only at h
  rw [show startE (List.length N_Motion_UinitU - 1) [a0, a1] = [.val a0, .val a1] from rfl]
  obtain ⟨t, M, x, y, rfl, rfl, hM, h⟩ := h
  refine ⟨rfl, ifB_F rfl ⟨rfl, ?_⟩⟩
  rw [show List.lookup t tab_MATRICES = some (matD M) from tabM_look hM]
  exact ifB_F rfl ⟨⟨trivial, trivial⟩, rfl, ⟨rfl, rfl⟩, ⟨rfl, rfl⟩, ⟨rfl, rfl⟩, h⟩
end
end K07
namespace K07
open PySem PySem.Spec PyProof.Rows L2 Z Y
section
variable {P : Program} {w : World} {K : Frg} {mg : Str → Option Value} {base : Heap}
theorem ok_Motion_by (T : Tx w K mg) : FnG P w K mg base (L2.CX P w) 9 (He5.wf K (He.ga K "Motion") "staticmethod" "by") (spP K R_Motion_by) := by
  refine y_fn T.d_Motion_by sc_Motion_by arl1 (fun _ _ _ _ _ _ us hl => match us, hl with | [_], _ => rfl) fun cdv A outer s H E B hB hr hx po => ⟨_, (s_one (s_ret (y_make T.mk_Motion (ok_Motion_UinitU T) (hr.mono (by decide)) rfl T.g_Motion hx (a_cons y_str (a_cons (y_var (pv 0)) a_nil))))), fun ds Q h => ?_⟩
  obtain ⟨a0, e0, hh⟩ := ar1E h
  clear h
  subst e0
  have h := hh
  clear hh
  try dsimp only at h
  rw [show startE (List.length N_Motion_by) [a0] = [.val a0] from rfl]
  obtain ⟨x, y, rfl, h⟩ := h
  exact ⟨"none", _, x, y, rfl, rfl, (rfl : mat "none" = some (1, 0, 0, 1)), h⟩
end
end K07
namespace K07
open PySem PySem.Spec PyProof.Rows L2 Z Y
section
variable {P : Program} {w : World} {K : Frg} {mg : Str → Option Value} {base : Heap}
theorem ok_Motion_kind (T : Tx w K mg) : FnG P w K mg base (L2.CX P w) 1 (He5.wf K (He.ga K "Motion") "property" "kind") (spP K R_Motion_kind) := by
  refine y_fn T.d_Motion_kind sc_Motion_kind arl1 (fun _ _ _ _ _ _ us hl => match us, hl with | [_], _ => rfl) fun cdv A outer s H E B hB hr hx po => ⟨_, (s_one (s_ret (y_fld (cs := ["Motion"]) (ns := ["own_kind", "own_shift"]) (j := 0) (y_var (pv 0)) (all1 ⟨T.cl_Motion, T.na_Motion_own_kind⟩)))), fun ds Q h => ?_⟩
  obtain ⟨a0, e0, hh⟩ := ar1E h
  clear h
  subst e0
  have h := hh
  clear hh
  try dsimp only at h
  rw [show startE (List.length N_Motion_kind) [a0] = [.val a0] from rfl]
  obtain ⟨k, x, y, rfl, h⟩ := h
  exact ⟨⟨.head _, rfl⟩, h⟩
end
end K07
namespace K07
open PySem PySem.Spec PyProof.Rows L2 Z Y
section
variable {P : Program} {w : World} {K : Frg} {mg : Str → Option Value} {base : Heap}
theorem ok_Motion_shift (T : Tx w K mg) : FnG P w K mg base (L2.CX P w) 1 (He5.wf K (He.ga K "Motion") "property" "shift") (spP K R_Motion_shift) := by
  refine y_fn T.d_Motion_shift sc_Motion_shift arl1 (fun _ _ _ _ _ _ us hl => match us, hl with | [_], _ => rfl) fun cdv A outer s H E B hB hr hx po => ⟨_, (s_one (s_ret (y_fld (cs := ["Motion"]) (ns := ["own_kind", "own_shift"]) (j := 1) (y_var (pv 0)) (all1 ⟨T.cl_Motion, T.na_Motion_own_shift⟩)))), fun ds Q h => ?_⟩
  obtain ⟨a0, e0, hh⟩ := ar1E h
  clear h
  subst e0
  have h := hh
  clear hh
  try dsimp only at h
  rw [show startE (List.length N_Motion_shift) [a0] = [.val a0] from rfl]
  obtain ⟨k, x, y, rfl, h⟩ := h
  exact ⟨⟨.head _, rfl⟩, h⟩
end
end K07
namespace K07
open PySem PySem.Spec PyProof.Rows L2 Z Y
section
variable {P : Program} {w : World} {K : Frg} {mg : Str → Option Value} {base : Heap}
theorem ok_Motion_is_mirrored (T : Tx w K mg) : FnG P w K mg base (L2.CX P w) 1 (He5.wf K (He.ga K "Motion") "property" "is_mirrored") (spP K R_Motion_is_mirrored) := by
  refine y_fn T.d_Motion_is_mirrored sc_Motion_is_mirrored arl1 (fun _ _ _ _ _ _ us hl => match us, hl with | [_], _ => rfl) fun cdv A outer s H E B hB hr hx po => ⟨_, (s_one (s_ret (y_cmp (op_inY (hu65 hr)) inL (y_fld (cs := ["Motion"]) (ns := ["own_kind", "own_shift"]) (j := 0) (y_var (pv 0)) (all1 ⟨T.cl_Motion, T.na_Motion_own_kind⟩)) (y_globD rfl T.g_MIRRORED T.gv_MIRRORED) rfl))), fun ds Q h => ?_⟩
  obtain ⟨a0, e0, hh⟩ := ar1E h
  clear h
  subst e0
  have h := hh
  clear hh
  try dsimp only at h
  rw [show startE (List.length N_Motion_is_mirrored) [a0] = [.val a0] from rfl]
  obtain ⟨k, x, y, rfl, h⟩ := h
  refine ⟨⟨.head _, rfl⟩, ⟨rfl, rfl⟩, ?_⟩
  rw [Bool.false_bne]
  exact h
end
end K07
namespace K07
open PySem PySem.Spec PyProof.Rows L2 Z Y
section
variable {P : Program} {w : World} {K : Frg} {mg : Str → Option Value} {base : Heap}
theorem ok_Motion_image (T : Tx w K mg) : FnG P w K mg base (L2.CX P w) 3 (He.ma K (He.ga K "Motion") "image") (spP K R_Motion_image) := by
  refine y_fn T.d_Motion_image sc_Motion_image arl2 (fun _ _ _ _ _ _ us hl => match us, hl with | [_, _], _ => rfl) fun cdv A outer s H E B hB hr hx po => ⟨_, (s_one (s_ret (y_call (ok_plus T) (hr.mono (by decide)) rfl T.g_plus T.k_plus hx (a_cons (y_call (ok_turned T) (hr.mono (by decide)) rfl T.g_turned T.k_turned hx (a_cons (y_fld (cs := ["Motion"]) (ns := ["own_kind", "own_shift"]) (j := 0) (y_var (pv 0)) (all1 ⟨T.cl_Motion, T.na_Motion_own_kind⟩)) (a_cons (y_var (pv 1)) a_nil))) (a_cons (y_fld (cs := ["Motion"]) (ns := ["own_kind", "own_shift"]) (j := 1) (y_var (pv 0)) (all1 ⟨T.cl_Motion, T.na_Motion_own_shift⟩)) a_nil))))), fun ds Q h => ?_⟩
  obtain ⟨a0, a1, e0, hh⟩ := ar2E h
  clear h
  subst e0
  have h := hh
  clear hh
  try dsimp only at h
  rw [show startE (List.length N_Motion_image) [a0, a1] = [.val a0, .val a1] from rfl]
  obtain ⟨k, M, x, y, u, v, rfl, rfl, ⟨hM, zu, zv⟩, h⟩ := h
  exact ⟨⟨.head _, rfl⟩, k, M, u, v, rfl, rfl, ⟨hM, zu, zv⟩, ⟨.head _, rfl⟩, _, _, _, _, rfl, rfl, h⟩
end
end K07
namespace K07
open PySem PySem.Spec PyProof.Rows L2 Z Y
section
variable {P : Program} {w : World} {K : Frg} {mg : Str → Option Value} {base : Heap}
theorem ok_Motion_UcallU (T : Tx w K mg) : FnG P w K mg base (L2.CX P w) 7 (He.ma K (He.ga K "Motion") "__call__") (spP K R_Motion_UcallU) := by
  refine y_fn T.d_Motion_UcallU sc_Motion_UcallU arl2 (fun _ _ _ _ _ _ us hl => match us, hl with | [_, _], _ => rfl) fun cdv A outer s H E B hB hr hx po => ⟨_, (s_cons (s_expr (y_call (ok_check_place T) (hr.mono (by decide)) rfl T.g_check_place T.k_check_place hx (a_cons (y_var (pv 1)) a_nil)))
  (s_one (s_ret (y_meth (cs := ["Motion"]) (ns := ["own_kind", "own_shift"]) (y_var (pv 0)) (all1 ⟨T.cl_Motion, T.m_Motion_image⟩) (ok_Motion_image T) (hr.mono (by decide)) hx (a_cons (y_var (pv 1)) a_nil))))), fun ds Q h => ?_⟩
  obtain ⟨a0, a1, e0, hh⟩ := ar2E h
  clear h
  subst e0
  have h := hh
  clear hh
  try dsimp only at h
  rw [show startE (List.length N_Motion_UcallU) [a0, a1] = [.val a0, .val a1] from rfl]
  obtain ⟨k, m, x, y, rfl, rfl, ⟨hM, zx, zy⟩, h⟩ := h
  exact ⟨⟨trivial, trivial⟩, rfl, .head _, rfl, k, m.1, _, _, x, y, rfl, rfl, ⟨hM, zx, zy⟩, h⟩
end
end K07
namespace K07
open PySem PySem.Spec PyProof.Rows L2 Z Y
section
variable {P : Program} {w : World} {K : Frg} {mg : Str → Option Value} {base : Heap}
theorem ok_Motion_UmulU (T : Tx w K mg) : FnG P w K mg base (L2.CX P w) 9 (He.ma K (He.ga K "Motion") "__mul__") (spP K R_Motion_UmulU) := by
  refine y_fn T.d_Motion_UmulU sc_Motion_UmulU arl2 (fun _ _ _ _ _ _ us hl => match us, hl with | [_, _], _ => rfl) fun cdv A outer s H E B hB hr hx po => ⟨_, (s_cons (s_if (z_not (z_val (y_callB call_isi (isOL (C := "Motion") (cs := ["Motion"]) (cs' := []) ⟨T.cl_Motion, T.ow_Motion⟩ (all1 ⟨⟨T.cl_Motion, T.ow_Motion⟩, T.ow_Motion.ki⟩) all0) (by rfl) T.b_isinstance (by decide +kernel) (a_cons (y_var (pv 1)) (a_cons (y_glob rfl T.g_Motion) a_nil)))))
    (s_one s_never)
    s_nil)
  (s_one (s_ret (y_make T.mk_Motion (ok_Motion_UinitU T) (hr.mono (by decide)) rfl T.g_Motion hx (a_cons (y_call (ok_joined_kind T) (hr.mono (by decide)) rfl T.g_joined_kind T.k_joined_kind hx (a_cons (y_fld (cs := ["Motion"]) (ns := ["own_kind", "own_shift"]) (j := 0) (y_var (pv 0)) (all1 ⟨T.cl_Motion, T.na_Motion_own_kind⟩)) (a_cons (y_fld (cs := ["Motion"]) (ns := ["own_kind", "own_shift"]) (j := 0) (y_var (pv 1)) (all1 ⟨T.cl_Motion, T.na_Motion_own_kind⟩)) a_nil))) (a_cons (y_meth (cs := ["Motion"]) (ns := ["own_kind", "own_shift"]) (y_var (pv 1)) (all1 ⟨T.cl_Motion, T.m_Motion_image⟩) (ok_Motion_image T) (hr.mono (by decide)) hx (a_cons (y_fld (cs := ["Motion"]) (ns := ["own_kind", "own_shift"]) (j := 1) (y_var (pv 0)) (all1 ⟨T.cl_Motion, T.na_Motion_own_shift⟩)) a_nil)) a_nil)))))), fun ds Q h => ?_⟩
  obtain ⟨a0, a1, e0, hh⟩ := ar2E h
  clear h
  subst e0
  have h := hh
  clear hh
  try dsimp only at h
  rw [show startE (List.length N_Motion_UmulU) [a0, a1] = [.val a0, .val a1] from rfl]
  obtain ⟨k, l, M, N, x, y, u, v, rfl, rfl, ⟨hM, hN, zx, zy⟩, h⟩ := h
  exact ⟨rfl, .inl ⟨.head _, ifB_F rfl ⟨⟨.head _, rfl⟩, ⟨.head _, rfl⟩, k, l, M, N, rfl, rfl, ⟨hM, hN⟩, fun t ht => ⟨.head _, rfl, ⟨.head _, rfl⟩, l, N, u, v, x, y, rfl, rfl, ⟨hN, zx, zy⟩, ⟨t, _, _, _, rfl, rfl, ht, h t ht⟩⟩⟩⟩⟩
end
end K07
namespace K07
open PySem PySem.Spec PyProof.Rows L2 Z Y
section
variable {P : Program} {w : World} {K : Frg} {mg : Str → Option Value} {base : Heap}
theorem ok_Motion_UinvertU (T : Tx w K mg) : FnG P w K mg base (L2.CX P w) 9 (He.ma K (He.ga K "Motion") "__invert__") (spP K R_Motion_UinvertU) := by
  refine y_fn T.d_Motion_UinvertU sc_Motion_UinvertU arl1 (fun _ _ _ _ _ _ us hl => match us, hl with | [_], _ => rfl) fun cdv A outer s H E B hB hr hx po => ⟨_, (s_cons (s_set (i := 1) sc_Motion_UinvertU.nd rfl (by first | exact Or.inl rfl | exact Or.inr rfl) (y_getT T.tb_BACK (y_glob rfl T.g_BACK) (y_fld (cs := ["Motion"]) (ns := ["own_kind", "own_shift"]) (j := 0) (y_var (pv 0)) (all1 ⟨T.cl_Motion, T.na_Motion_own_kind⟩)) (y_fld (cs := ["Motion"]) (ns := ["own_kind", "own_shift"]) (j := 0) (y_var (pv 0)) (all1 ⟨T.cl_Motion, T.na_Motion_own_kind⟩))))
  (s_cons (s_asg (t := .tp [2, 3]) (y_call (ok_turned T) (hr.mono (by decide)) rfl T.g_turned T.k_turned hx (a_cons (y_var (pv 1)) (a_cons (y_fld (cs := ["Motion"]) (ns := ["own_kind", "own_shift"]) (j := 1) (y_var (pv 0)) (all1 ⟨T.cl_Motion, T.na_Motion_own_shift⟩)) a_nil))) (g_tp (is := [2, 3]) rfl (pgs_cons (pg_name (i := 2) sc_Motion_UinvertU.nd rfl (by first | exact Or.inl rfl | exact Or.inr rfl)) (pgs_cons (pg_name (i := 3) sc_Motion_UinvertU.nd rfl (by first | exact Or.inl rfl | exact Or.inr rfl)) pgs_nil))))
  (s_one (s_ret (y_make T.mk_Motion (ok_Motion_UinitU T) (hr.mono (by decide)) rfl T.g_Motion hx (a_cons (y_var (pv 1)) (a_cons (y_tup (a_cons (y_un un_neg negL (y_var (pv 2))) (a_cons (y_un un_neg negL (y_var (pv 3))) a_nil))) a_nil))))))), fun ds Q h => ?_⟩
  obtain ⟨a0, e0, hh⟩ := ar1E h
  clear h
  subst e0
  have h := hh
  clear hh
  try dsimp only at h
  rw [show startE (List.length N_Motion_UinvertU) [a0] = [.val a0, .no, .no, .no] from rfl]
  obtain ⟨k, M, x, y, rfl, ⟨hM, zx, zy⟩, h⟩ := h
  obtain ⟨t, e, ht⟩ := mat_back hM
  refine ⟨rfl, ⟨.head _, rfl⟩, ⟨.head _, rfl⟩, ?_⟩
  refine getT_to (t := t) e ?_
  obtain ⟨z1, z2⟩ := sz_turn ht (n := 4000) zx zy
  exact ⟨⟨.head _, rfl⟩, t, _, x, y, rfl, rfl, ⟨ht, zx, zy⟩, leN rfl, ⟨t, _, _, _, rfl, rfl, ht, h t ht⟩⟩
end
end K07
namespace K07
open PySem PySem.Spec PyProof.Rows L2 Z Y
section
variable {P : Program} {w : World} {K : Frg} {mg : Str → Option Value} {base : Heap}
theorem ok_Motion_repeated (T : Tx w K mg) : FnG P w K mg base (L2.CX P w) 11 (He.ma K (He.ga K "Motion") "repeated") (spP K R_Motion_repeated) := by
  refine y_fn T.d_Motion_repeated sc_Motion_repeated arl2 (fun _ _ _ _ _ _ us hl => match us, hl with | [_, _], _ => rfl) fun cdv A outer s H E B hB hr hx po => ⟨_, (s_cons (s_if (z_not (z_val (y_call (ok_is_integer T) (hr.mono (by decide)) rfl T.g_is_integer T.k_is_integer hx (a_cons (y_var (pv 1)) a_nil))))
    (s_one s_never)
    s_nil)
  (s_cut (s_par (i := 2) (j := 3) (by rfl) sc_Motion_repeated.nd rfl rfl (by decide) rfl rfl (a_cons (y_if (z_cmp op_ge cmpL (y_var (pv 1)) y_int (nomark _)) (y_var (pv 0)) (y_inv (C := "Motion") (ns := ["own_kind", "own_shift"]) T.m_Motion_UinvertU.at_ T.m_Motion_UinvertU.fn ((ok_Motion_UinvertU T).at (hr.mono (by decide))) hx (y_var (pv 0)))) (a_cons (y_callB call_abs absL (by rfl) T.b_abs (by decide +kernel) (a_cons (y_var (pv 1)) a_nil)) a_nil)) (by rfl))
  (s_cons (s_set (i := 4) sc_Motion_repeated.nd rfl (by first | exact Or.inl rfl | exact Or.inr rfl) (y_make T.mk_Motion (ok_Motion_UinitU T) (hr.mono (by decide)) rfl T.g_Motion hx (a_cons y_str a_nil)))
  (s_cons (s_while po (z_cmp op_gt cmpL (y_var (pv 3)) y_int (nomark _))
    (s_cut (s_if (z_cmp (op_eqY hr.units) eqL (y_op op_mod modL (y_var (pv 3)) y_int) y_int (nomark _))
    (s_one (s_set (i := 4) sc_Motion_repeated.nd rfl (by first | exact Or.inl rfl | exact Or.inr rfl) (y_opI (gop_bin (C := He.ga K "Motion") T.ow_Motion.sf T.m_Motion_UmulU.at_ T.m_Motion_UmulU.fn ((ok_Motion_UmulU T).at (hr.mono (by decide))) hx) (binOL (C := "Motion") (ns := ["own_kind", "own_shift"])) (y_var (pv 4)) (y_var (pv 2)))))
    s_nil)
  (s_one (s_par (i := 2) (j := 3) (by rfl) sc_Motion_repeated.nd rfl rfl (by decide) rfl rfl (a_cons (y_opI (gop_bin (C := He.ga K "Motion") T.ow_Motion.sf T.m_Motion_UmulU.at_ T.m_Motion_UmulU.fn ((ok_Motion_UmulU T).at (hr.mono (by decide))) hx) (binOL (C := "Motion") (ns := ["own_kind", "own_shift"])) (y_var (pv 2)) (y_var (pv 2))) (a_cons (y_op op_fdivW divL (y_var (pv 3)) y_int) a_nil)) (by rfl)))))
  (s_one (s_ret (y_var (pv 4)))))))), fun ds Q h => ?_⟩
  obtain ⟨a0, a1, e0, hh⟩ := ar2E h
  clear h
  subst e0
  have h := hh
  clear hh
  try dsimp only at h
  rw [show startE (List.length N_Motion_repeated) [a0, a1] = [.val a0, .val a1, .no, .no, .no] from rfl]
  obtain ⟨k, m, j, rfl, rfl, ⟨o, zj⟩, h⟩ := h
  refine ⟨trivial, ifB_F rfl ?_⟩
  refine ⟨fun ρ => ∃ t b, mat t = some b.1 ∧ MN.nrm b.2 = MN.nrm m.2 ∧ MN.zpow m j = MN.npow b j.natAbs ∧ ρ = [.val (dM k m), .val (.int j), .val (dM t b), .val (.int (j.natAbs : Nat)), .no], ifB_d (fun h0 => ?_) (fun h0 => ?_), ?_⟩
  · refine ⟨k, m, o.mt, rfl, ?_, ?_⟩
    · unfold MN.zpow
      rw [if_pos h0, show j.toNat = j.natAbs by omega]
    · have e : (if j < 0 then -j else j) = (j.natAbs : Int) := by split <;> omega
      rw [← e]
      rfl
  · refine ⟨.head _, rfl, k, m.1, _, _, rfl, ⟨o.mt, o.x.mono (by decide), o.y.mono (by decide)⟩, fun t ht => ⟨t, MN.minv m, ht, nrm_inv o.mt, ?_, ?_⟩⟩
    · unfold MN.zpow
      rw [if_neg h0]
    · have e : (if j < 0 then -j else j) = (j.natAbs : Int) := by split <;> omega
      rw [← e]
      rfl
  rintro ρ ⟨t0, b, hb, hn, hz, rfl⟩
  have hj : j.natAbs < 2 ^ 200 := zj
  generalize hN : j.natAbs = N at *
  have npz : ∀ i, i ≤ 2 * N + 1 → Sz 4000 (MN.npow b i).2.1 ∧ Sz 4000 (MN.npow b i).2.2 := fun i hi => by
    have h1 := (npow_ok hb i).2
    rw [hn] at h1
    have p2 : (2 : Nat) ^ 202 = 4 * 2 ^ 200 := by decide
    have h2 : i * MN.nrm m.2 ≤ 2 ^ 202 * 2 ^ 400 := Nat.mul_le_mul (by omega) (Nat.le_of_lt o.sz)
    have h3 : (2 : Nat) ^ 202 * 2 ^ 400 < 2 ^ 610 := by decide
    have h4 : MN.nrm (MN.npow b i).2 < 2 ^ 610 := by omega
    exact ⟨(nrm_x h4).mono (by decide), (nrm_y h4).mono (by decide)⟩
  refine ⟨"none", (1, 0, 0, 1), 0, 0, rfl, rfl, rfl, fun w ρ => ∃ (r q l : Nat) (t u : Str), mat t = some (MN.npow b q).1 ∧ mat u = some (MN.npow b r).1 ∧ r + l * q = N ∧ q ≤ 2 * N + 1 ∧ w = l ∧ ρ = [.val (dM k m), .val (.int j), .val (dM t (MN.npow b q)), .val (.int (l : Nat)), .val (dM u (MN.npow b r))], ⟨N, 0, 1, N, t0, "none", by rw [MN.npow_one]; exact hb, rfl, by omega, by omega, rfl, by rw [MN.npow_one]; rfl⟩, ?_⟩
  rintro w ρ ⟨r, q, l, t, u, ht, hu, e, hq, rfl, rfl⟩
  have hrN : r ≤ N := by omega
  refine ifB_d (fun hl => ?_) (fun hl => ?_)
  · have l1 : 1 ≤ w := by omega
    have hqN : q ≤ N := by
      have : 1 * q ≤ w * q := Nat.mul_le_mul_right q l1
      omega
    refine ⟨fun ρ => ∃ (r' : Nat) (u' : Str), mat u' = some (MN.npow b r').1 ∧ r' + (w / 2) * (q + q) = N ∧ ρ = [.val (dM k m), .val (.int j), .val (dM t (MN.npow b q)), .val (.int (w : Nat)), .val (dM u' (MN.npow b r'))], ?_, ?_⟩
    · refine ⟨by decide, ifB_d (fun ho => ?_) (fun ho => ?_)⟩
      · refine ⟨.head _, rfl, .head _, rfl, u, t, _, _, _, _, _, _, rfl, rfl, ⟨hu, ht, (npz r (by omega)).1, (npz r (by omega)).2⟩, fun v hv => ⟨r + q, v, by rw [MN.npow_add]; exact hv, ?_, by rw [MN.npow_add]; rfl⟩⟩
        have e2 : w = 2 * (w / 2) + 1 := by omega
        have e3 : w * q = (2 * (w / 2) + 1) * q := by rw [← e2]
        rw [Nat.add_mul, Nat.one_mul, Nat.mul_comm 2, Nat.mul_assoc, Nat.two_mul] at e3
        omega
      · refine ⟨r, u, hu, ?_, rfl⟩
        have e2 : w = 2 * (w / 2) := by omega
        have e3 : w * q = (2 * (w / 2)) * q := by rw [← e2]
        rw [Nat.mul_comm 2, Nat.mul_assoc, Nat.two_mul] at e3
        omega
    rintro ρ ⟨r', u', hu', e', rfl⟩
    refine ⟨.head _, rfl, .head _, rfl, t, t, _, _, _, _, _, _, rfl, rfl, ⟨ht, ht, (npz q (by omega)).1, (npz q (by omega)).2⟩, fun v hv => ⟨⟨by decide, szP (by decide) (by decide)⟩, w / 2, by omega, r', q + q, w / 2, v, u', by rw [MN.npow_add]; exact hv, hu', e', by omega, rfl, ?_⟩⟩
    have ed : ((w : Int) / 2) = ((w / 2 : Nat) : Int) := by omega
    rw [MN.npow_add, ← ed]
    rfl
  · have l0 : w = 0 := by omega
    subst l0
    have er : r = N := by omega
    subst er
    rw [← hz] at hu
    have := h u hu
    rw [hz] at this
    exact this
end
end K07
namespace K07
open PySem PySem.Spec PyProof.Rows L2 Z Y
section
variable {P : Program} {w : World} {K : Frg} {mg : Str → Option Value} {base : Heap}
theorem ok_Motion_UeqU (T : Tx w K mg) : FnG P w K mg base (L2.CX P w) 1 (He.ma K (He.ga K "Motion") "__eq__") (spP K R_Motion_UeqU) := by
  refine y_fn T.d_Motion_UeqU sc_Motion_UeqU arl2 (fun _ _ _ _ _ _ us hl => match us, hl with | [_, _], _ => rfl) fun cdv A outer s H E B hB hr hx po => ⟨_, (s_one (s_ret (y_and (y_callB call_isi (isOL (C := "Motion") (cs := ["Motion"]) (cs' := []) ⟨T.cl_Motion, T.ow_Motion⟩ (all1 ⟨⟨T.cl_Motion, T.ow_Motion⟩, T.ow_Motion.ki⟩) all0) (by rfl) T.b_isinstance (by decide +kernel) (a_cons (y_var (pv 1)) (a_cons (y_glob rfl T.g_Motion) a_nil))) (y_and (y_cmp (op_eqY hr.units) eqL (y_fld (cs := ["Motion"]) (ns := ["own_kind", "own_shift"]) (j := 0) (y_var (pv 0)) (all1 ⟨T.cl_Motion, T.na_Motion_own_kind⟩)) (y_fld (cs := ["Motion"]) (ns := ["own_kind", "own_shift"]) (j := 0) (y_var (pv 1)) (all1 ⟨T.cl_Motion, T.na_Motion_own_kind⟩)) (nomark _)) (y_one (y_cmp (op_eqY hr.units) eqL (y_fld (cs := ["Motion"]) (ns := ["own_kind", "own_shift"]) (j := 1) (y_var (pv 0)) (all1 ⟨T.cl_Motion, T.na_Motion_own_shift⟩)) (y_fld (cs := ["Motion"]) (ns := ["own_kind", "own_shift"]) (j := 1) (y_var (pv 1)) (all1 ⟨T.cl_Motion, T.na_Motion_own_shift⟩)) (nomark _))))))), fun ds Q h => ?_⟩
  obtain ⟨a0, a1, e0, hh⟩ := ar2E h
  clear h
  subst e0
  have h := hh
  clear hh
  try dsimp only at h
  rw [show startE (List.length N_Motion_UeqU) [a0, a1] = [.val a0, .val a1] from rfl]
  obtain ⟨k, x, y, rfl, h⟩ := h
  rcases h with ⟨l, u, w, rfl, h⟩ | ⟨hk, h⟩
  · refine ⟨rfl, .inl ⟨.head _, ifB_T rfl ⟨⟨.head _, rfl⟩, ⟨.head _, rfl⟩, ifB_2 (fun e => ?_) (fun e => ?_)⟩⟩⟩
    · have e := of_decide_eq_true e
      subst e
      refine ⟨⟨.head _, rfl⟩, ⟨.head _, rfl⟩, ⟨rfl, rfl⟩, ?_⟩
      show Q (.bl (eqD (.tup [.int x, .int y]) (.tup [.int u, .int w])))
      rw [eqN2]
      simpa using h
    · have e := of_decide_eq_false e
      simpa [e] using h
  · cases a1 with
    | obj _ _ _ => exact hk.elim
    | ty _ => exact hk.elim
    | glob _ => exact hk.elim
    | tape => exact hk.elim
    | _ => exact ⟨rfl, ifB_F rfl h⟩
end
end K07
namespace K07
open PySem PySem.Spec PyProof.Rows L2 Z Y
section
variable {P : Program} {w : World} {K : Frg} {mg : Str → Option Value} {base : Heap}
theorem ok_Motion_UreprU (T : Tx w K mg) : FnG P w K mg base (L2.CX P w) 1 (He.ma K (He.ga K "Motion") "__repr__") (spP K R_Motion_UreprU) := by
  refine y_fn T.d_Motion_UreprU sc_Motion_UreprU arl1 (fun _ _ _ _ _ _ us hl => match us, hl with | [_], _ => rfl) fun cdv A outer s H E B hB hr hx po => ⟨_, (s_one (s_ret (y_joined (.cons y_str (.cons (y_fmtR hr (y_fld (cs := ["Motion"]) (ns := ["own_kind", "own_shift"]) (j := 0) (y_var (pv 0)) (all1 ⟨T.cl_Motion, T.na_Motion_own_kind⟩))) (.cons y_str (.cons (y_fmtR hr (y_fld (cs := ["Motion"]) (ns := ["own_kind", "own_shift"]) (j := 1) (y_var (pv 0)) (all1 ⟨T.cl_Motion, T.na_Motion_own_shift⟩))) (.cons y_str .nil)))))))), fun ds Q h => ?_⟩
  obtain ⟨a0, e0, hh⟩ := ar1E h
  clear h
  subst e0
  have h := hh
  clear hh
  try dsimp only at h
  rw [show startE (List.length N_Motion_UreprU) [a0] = [.val a0] from rfl]
  obtain ⟨k, m, rfl, o, h⟩ := h
  obtain ⟨s1, s2, s3⟩ := mat_str o.mt
  have hp1 : shP 0 (.str k) := s1
  have hp2 : shP 0 (dPl m.2.1 m.2.2) := sh_pl (o.x.mono (by decide)) (o.y.mono (by decide))
  have b1 : (toP (.str k)).bulk ≤ 10 := s2
  have b2 : (toP (dPl m.2.1 m.2.2)).bulk ≤ 10 := ltN rfl
  have l1 := sh_le2 hp1 b1
  have l2 := sh_le2 hp2 b2
  have c1 : ("Motion(" : Str).length = 7 := rfl
  have c2 : (", " : Str).length = 2 := rfl
  have c3 : (")" : Str).length = 1 := rfl
  refine ⟨?_, ⟨.head _, rfl⟩, ⟨hp1, Nat.le_trans b1 (by decide), ltN rfl⟩, ?_, ?_, ⟨.head _, rfl⟩, ⟨hp2, Nat.le_trans b2 (by decide), ltN rfl⟩, ?_, ?_, ?_⟩
  · rw [Str_empty_app]; omega
  · rw [Str_empty_app, strLenA]; omega
  · rw [Str_empty_app, strLenA, strLenA]; omega
  · rw [Str_empty_app, strLenA, strLenA, strLenA]; omega
  · rw [Str_empty_app, strLenA, strLenA, strLenA, strLenA]; omega
  · show Q (.str (((((Str.empty ++ ("Motion(" : Str)) ++ shD (.str k)) ++ (", " : Str)) ++ shD (dPl m.2.1 m.2.2)) ++ (")" : Str)))
    rw [Str_empty_app]
    exact h
end
end K07
namespace K07
open PySem PySem.Spec PyProof.Rows L2 Z Y
section
variable {P : Program} {w : World} {K : Frg} {mg : Str → Option Value} {base : Heap}
theorem ok__law_tape (T : Tx w K mg) : FnR P w K mg base (L2.CX P w) 1 (He.ga K "_law_tape") (spTape K) := by
  refine zfn T.d__law_tape sc__law_tape len1 (fun _ _ _ _ _ _ us hl => match us, hl with | [_], _ => rfl) (fun cdv A outer s H vs Q E hr h => ?_)
  obtain ⟨_, rfl, F, s, ns, rfl, hs, hS, k⟩ := h
  refine ⟨_, PSs.nox (pss_one (ps_ret (pe_lstZ (pa_cons (pe_callTy call_listZ (by rfl) T.b_list (by decide +kernel) (pa_cons (pe_slice sl_listZ (pv 0) po_none (po_some pe_int)) pa_nil)) (pa_cons pe_int (pa_cons pe_int (pa_cons pe_int pa_nil))))))), ?_⟩
  have hSH := sqL hs hS
  refine ⟨_, rfl, _, rfl, _, _, rfl, hSH, ?_⟩
  intro p1 H1 hp1 e1
  obtain ⟨F1, g1, q1, r1⟩ := newE hs hp1 e1
  obtain ⟨ms, em⟩ := cut_ints ns none (some 63)
  rw [em] at q1 r1
  refine ⟨_, _, rfl, .inl (SqL.of r1), ?_⟩
  intro p2 H2 hp2 e2
  obtain ⟨F2, g2, q2, r2⟩ := newE g1.fh hp2 e2
  walk_at "z"
  intro p3 H3 hp3 e3
  obtain ⟨g3, f3, r3⟩ := newM g2.fh hp3 e3
  exact k p3 F2 H3 ((g1.trans g2).trans g3) ⟨f3, _, r3, p2, ms, 0, 0, 17, rfl, SqL.of q2, by decide, by decide, by decide, by decide⟩
end
end K07
namespace K07
open PySem PySem.Spec PyProof.Rows L2 Z Y
section
variable {P : Program} {w : World} {K : Frg} {mg : Str → Option Value} {base : Heap}
theorem ok0__law_draw (T : Tx w K mg) : FnR P w K mg base (L2.CX P w) 1 (He.ga K "_law_draw") (spDraw K) := by
  refine zfn T.d__law_draw sc__law_draw len2 (fun _ _ _ _ _ _ us hl => match us, hl with | [_, _], _ => rfl) (fun cdv A outer s H vs Q E hr h => ?_)
  obtain ⟨_, _, rfl, F, t, many, rfl, rfl, hs, ⟨ft, xs, ht, c, ns, i, b, r, rfl, hc, hi, hb, hr0, hr1⟩, hm0, hm1, k⟩ := h
  refine ⟨_, PSs.nox (pss_cons (ps_if (pt_cmpR op_gt (pe_ix ix_list (pv 0) pe_int (fun _ _ => rfl)) pe_int (nomark _))
    (pss_cons (ps_set (i := 2) sc__law_draw.nd rfl (by first | exact Or.inl rfl | exact Or.inr rfl) (pe_op op_mod (pe_ix ix_list (pv 0) pe_int (fun _ _ => rfl)) (pv 1)))
  (pss_cons (ps_asg (pe_op op_fdivW (pe_ix ix_list (pv 0) pe_int (fun _ _ => rfl)) (pv 1)) (pg_sub (pv 0) pe_int set_listZ))
  (pss_one (ps_ret (pv 2)))))
    pss_nil)
  (pss_cons (ps_set (i := 3) sc__law_draw.nd rfl (by first | exact Or.inl rfl | exact Or.inr rfl) pe_int)
  (zcut (ps_if (pt_cmpR op_lt (pe_ix ix_list (pv 0) pe_int (fun _ _ => rfl)) (pe_callB call_len_seq (by rfl) T.b_len (by decide +kernel) (pa_cons (pe_ix ix_list (pv 0) pe_int (fun _ _ => rfl)) pa_nil)) (nomark _))
    (pss_one (ps_set (i := 3) sc__law_draw.nd rfl (by first | exact Or.inl rfl | exact Or.inr rfl) (pe_ix ix_list (pe_ix ix_list (pv 0) pe_int (fun _ _ => rfl)) (pe_ix ix_list (pv 0) pe_int (fun _ _ => rfl)) (fun _ _ => rfl))))
    pss_nil)
  (pss_cons (ps_asg (pe_op op_add (pe_ix ix_list (pv 0) pe_int (fun _ _ => rfl)) pe_int) (pg_sub (pv 0) pe_int set_listZ))
  (pss_cons (ps_if (pt_cmpR op_ge (pv 3) (pe_op op_pow pe_int pe_int) (nomark _))
    (pss_cons (ps_asg (pe_op op_fdivW (pv 3) (pv 1)) (pg_sub (pv 0) pe_int set_listZ))
  (pss_one (ps_ret (pe_op op_mod (pv 3) (pv 1)))))
    pss_nil)
  (pss_cons (ps_set (i := 4) sc__law_draw.nd rfl (by first | exact Or.inl rfl | exact Or.inr rfl) (pe_op op_add (pe_op op_add (pe_op op_mod (pv 3) pe_int) (pe_op op_mul pe_int (pe_ix ix_list (pv 0) pe_int (fun _ _ => rfl)))) pe_int))
  (pss_cons (ps_asg (pe_op op_mod (pe_op op_add (pe_op op_mul (pe_ix ix_list (pv 0) pe_int (fun _ _ => rfl)) pe_int) (pv 4)) pe_int) (pg_sub (pv 0) pe_int set_listZ))
  (pss_one (ps_ret (pe_op op_mod (pe_op op_mod (pe_op op_pow (pe_ix ix_list (pv 0) pe_int (fun _ _ => rfl)) pe_int) pe_int) (pv 1))))))))))), ?_⟩
  have hT := SqL.of (K := K) ht
  walk_at "z"
  refine ite2 (fun hb0 => ?_) (fun hb0 => ?_)
  · walk_at "z"
    intro H1 e1
    obtain ⟨g1, q1⟩ := putM hs ft e1
    walk_at "z"
    have hb1 : (0 : Int) < b := of_decide_eq_true hb0
    exact k _ _ (Int.emod_nonneg _ (by omega)) (Int.emod_lt_of_pos _ hm0) g1 ⟨ft, _, q1, c, ns, i, b / many, r, rfl, hc, hi, Int.ediv_nonneg hb (by omega), hr0, hr1⟩
  · have hcH := sqL hs hc
    refine ⟨fun σ' H' => ∃ cell : Int, σ' = [some (.ref t), some (.int many), none, some (.int cell), none] ∧ H' = H, ?_, ?_⟩
    · walk_at "z"
      refine ite2 (fun hlt => ?_) (fun _ => ⟨0, rfl, rfl⟩)
      have hl : i < ((ns.map V.int).length : Int) := of_decide_eq_true hlt
      walk_at "z"
      obtain ⟨j, rfl⟩ := Int.eq_ofNat_of_zero_le hi
      have hj : j < ns.length := by simpa using hl
      refine ⟨_, _, _, _, rfl, rfl, hcH, atI_nat (by rw [List.getElem?_map, List.getElem?_eq_getElem hj]; rfl), _, rfl, rfl⟩
    · rintro σ' H' ⟨cell, rfl, rfl⟩
      walk_at "z"
      intro H1 e1
      obtain ⟨g1, q1⟩ := putM hs ft e1
      have hT1 : SqL K H1 t [V.ref c, V.int (i + 1), V.int b, V.int r] := SqL.of q1
      have hx1 : H1 t = some (.lst [V.ref c, V.int (i + 1), V.int b, V.int r]) := q1
      have hi1 : 0 ≤ i + 1 := by omega
      walk_at "z"
      refine ite2 (fun hge => ?_) (fun _ => ?_)
      · walk_at "z"
        intro H2 e2
        obtain ⟨g2, q2⟩ := putM g1.fh ft e2
        walk_at "z"
        have hc0 : (0 : Int) ≤ cell := by
          have := of_decide_eq_true hge
          have h3 : (10 : Int) ^ (Int.toNat 18) = 1000000000000000000 := by decide
          rw [h3] at this
          omega
        exact k _ _ (Int.emod_nonneg _ (by omega)) (Int.emod_lt_of_pos _ hm0) (g1.trans g2) ⟨ft, _, q2, c, ns, i + 1, cell / many, r, rfl, hc, hi1, Int.ediv_nonneg hc0 (by omega), hr0, hr1⟩
      · walk_at "z"
        intro H2 e2
        obtain ⟨g2, q2⟩ := putM g1.fh ft e2
        replace q2 : H2 t = some (.lst [V.ref c, V.int (i + 1), V.int b, V.int ((r * 48271 + (cell % 2147483647 + 7919 * (i + 1) + 11)) % 2147483647)]) := q2
        generalize hrr : (r * 48271 + (cell % 2147483647 + 7919 * (i + 1) + 11)) % 2147483647 = r2 at q2
        have hr2 : 0 ≤ r2 ∧ r2 < 2147483647 := by omega
        have hT2 : SqL K H2 t [V.ref c, V.int (i + 1), V.int b, V.int r2] := SqL.of q2
        walk_at "z"
        refine And.intro ⟨by decide, by decide, by have := hr2; omega⟩ ?_
        walk_at "z"
        exact k _ _ (Int.emod_nonneg _ (by omega)) (Int.emod_lt_of_pos _ hm0) (g1.trans g2) ⟨ft, _, q2, c, ns, i + 1, b, r2, rfl, hc, hi1, hb, hr2.1, hr2.2⟩
theorem ok__law_draw (T : Tx w K mg) : FnG P w K mg base (L2.CX P w) 1 (He.ga K "_law_draw") (spP K rDraw) := draw_of (ok0__law_draw T)
end
end K07
namespace K07
open PySem PySem.Spec PyProof.Rows L2 Z Y
section
variable {P : Program} {w : World} {K : Frg} {mg : Str → Option Value} {base : Heap}
theorem ok__law_great (T : Tx w K mg) : FnG P w K mg base (L2.CX P w) 3 (He.ga K "_law_great") (spP K R__law_great) := by
  refine y_fn T.d__law_great sc__law_great arl2 (fun _ _ _ _ _ _ us hl => match us, hl with | [_, _], _ => rfl) fun cdv A outer s H E B hB hr hx po => ⟨_, (s_cons (s_set (i := 2) sc__law_great.nd rfl (by first | exact Or.inl rfl | exact Or.inr rfl) (y_op op_addY addL (y_op op_mulY mulL (y_call (ok__law_draw T) (hr.mono (by decide)) rfl T.g__law_draw T.k__law_draw hx (a_cons (y_var (pv 0)) (a_cons (y_op op_pow powL y_int y_int) a_nil))) (y_op op_pow powL y_int y_int)) (y_op op_mulY mulL (y_call (ok__law_draw T) (hr.mono (by decide)) rfl T.g__law_draw T.k__law_draw hx (a_cons (y_var (pv 0)) (a_cons (y_op op_pow powL y_int y_int) a_nil))) (y_op op_pow powL y_int y_int))))
  (s_cons (s_set (i := 3) sc__law_great.nd rfl (by first | exact Or.inl rfl | exact Or.inr rfl) (y_ix (y_lst (a_cons (y_call (ok__law_draw T) (hr.mono (by decide)) rfl T.g__law_draw T.k__law_draw hx (a_cons (y_var (pv 0)) (a_cons y_int a_nil))) (a_cons (y_call (ok__law_draw T) (hr.mono (by decide)) rfl T.g__law_draw T.k__law_draw hx (a_cons (y_var (pv 0)) (a_cons y_int a_nil))) (a_cons (y_op op_mod modL (y_op op_addY addL (y_var (pv 2)) (y_call (ok__law_draw T) (hr.mono (by decide)) rfl T.g__law_draw T.k__law_draw hx (a_cons (y_var (pv 0)) (a_cons (y_op op_pow powL y_int y_int) a_nil)))) (y_var (pv 1))) a_nil)))) (y_call (ok__law_draw T) (hr.mono (by decide)) rfl T.g__law_draw T.k__law_draw hx (a_cons (y_var (pv 0)) (a_cons y_int a_nil))) (fun _ _ => rfl)))
  (s_one (s_ret (y_op op_mulY mulL (y_var (pv 3)) (y_ix (y_lst (a_cons y_int (a_cons (y_un un_neg negL y_int) a_nil))) (y_call (ok__law_draw T) (hr.mono (by decide)) rfl T.g__law_draw T.k__law_draw hx (a_cons (y_var (pv 0)) (a_cons y_int a_nil))) (fun _ _ => rfl))))))), fun ds Q h => ?_⟩
  obtain ⟨a0, a1, e0, hh⟩ := ar2E h
  clear h
  subst e0
  have h := hh
  clear hh
  try dsimp only at h
  rw [show startE (List.length N__law_great) [a0, a1] = [.val a0, .val a1, .no, .no] from rfl]
  split at h
  · rename_i n
    obtain ⟨⟨h60, sn⟩, h⟩ := h
    have pw : ∀ k : Int, 0 ≤ k → k ≤ 1000 → (0 ≤ k ∧ k ≤ 1000 ∧ (10 : Int).natAbs < 18446744073709551616) := fun k a b => ⟨a, b, by decide⟩
    have e9 : (10 : Int) ^ (Int.toNat 9) = 1000000000 := by decide
    have s9 : Sz 100 ((10 : Int) ^ (Int.toNat 9)) := sz_lit (by decide)
    have s18 : Sz 100 ((10 : Int) ^ (Int.toNat 18)) := sz_lit (by decide)
    refine ⟨pw _ (by decide) (by decide), ⟨by rw [e9]; decide, s9.mono (by decide)⟩, fun d1 l1 u1 => ?_⟩
    refine ⟨pw _ (by decide) (by decide), ⟨(sz_of (by omega) u1 s9).mono (by decide), s18.mono (by decide)⟩, ?_⟩
    refine ⟨pw _ (by decide) (by decide), ⟨by rw [e9]; decide, s9.mono (by decide)⟩, fun d2 l2 u2 => ?_⟩
    refine ⟨pw _ (by decide) (by decide), ⟨(sz_of (by omega) u2 s9).mono (by decide), s9.mono (by decide)⟩, ?_⟩
    refine ⟨⟨by decide, szP (by decide) (by decide)⟩, fun d3 l3 u3 => ⟨⟨by decide, szP (by decide) (by decide)⟩, fun d4 l4 u4 => ?_⟩⟩
    refine ⟨pw _ (by decide) (by decide), ⟨by rw [e9]; decide, s9.mono (by decide)⟩, fun d5 l5 u5 => ⟨by omega, leN rfl, ?_⟩⟩
    generalize hv : (d1 * (10 : Int) ^ (Int.toNat 18) + d2 * (10 : Int) ^ (Int.toNat 9) + d5) % n = v
    have hv2 : 0 ≤ v ∧ v < n := by rw [← hv]; exact ⟨Int.emod_nonneg _ (by omega), Int.emod_lt_of_pos _ (by omega)⟩
    refine ⟨⟨by decide, szP (by decide) (by decide)⟩, fun d6 l6 u6 => ?_⟩
    obtain ⟨x, ex, mx⟩ := atI_D (ds := [D.int d3, D.int d4, D.int v]) l6 u6
    have hx : ∃ u : Int, x = .int u ∧ 0 ≤ u ∧ u < n := by
      simp only [List.mem_cons, List.not_mem_nil, or_false] at mx
      rcases mx with rfl | rfl | rfl
      · exact ⟨_, rfl, l3, by omega⟩
      · exact ⟨_, rfl, l4, by omega⟩
      · exact ⟨_, rfl, hv2.1, hv2.2⟩
    obtain ⟨u, rfl, u0, u1⟩ := hx
    refine dIx_l ex ⟨leN rfl, ⟨by decide, szP (by decide) (by decide)⟩, fun d7 l7 u7 => ?_⟩
    obtain ⟨y, ey, my⟩ := atI_D (ds := [D.int 1, D.int (-1)]) l7 u7
    have su : Sz 5000 u := (sz_le u0 (Int.le_of_lt u1) sn).mono (by decide)
    simp only [List.mem_cons, List.not_mem_nil, or_false] at my
    rcases my with rfl | rfl
    · exact dIx_l ey ⟨⟨su, szP (by decide) (by decide)⟩, h _ (by omega) (by omega)⟩
    · exact dIx_l ey ⟨⟨su, szP (by decide) (by decide)⟩, h _ (by omega) (by omega)⟩
  · exact h.elim
end
end K07
namespace K07
open PySem PySem.Spec PyProof.Rows L2 Z Y
section
variable {P : Program} {w : World} {K : Frg} {mg : Str → Option Value} {base : Heap}
theorem ok__law_place (T : Tx w K mg) : FnG P w K mg base (L2.CX P w) 5 (He.ga K "_law_place") (spP K R__law_place) := by
  refine y_fn T.d__law_place sc__law_place arl1 (fun _ _ _ _ _ _ us hl => match us, hl with | [_], _ => rfl) fun cdv A outer s H E B hB hr hx po => ⟨_, (s_one (s_ret (y_tup (a_cons (y_call (ok__law_great T) (hr.mono (by decide)) rfl T.g__law_great T.k__law_great hx (a_cons (y_var (pv 0)) (a_cons (y_op op_pow powL y_int y_int) a_nil))) (a_cons (y_call (ok__law_great T) (hr.mono (by decide)) rfl T.g__law_great T.k__law_great hx (a_cons (y_var (pv 0)) (a_cons (y_op op_pow powL y_int y_int) a_nil))) a_nil))))), fun ds Q h => ?_⟩
  obtain ⟨a0, e0, hh⟩ := ar1E h
  clear h
  subst e0
  have h := hh
  clear hh
  try dsimp only at h
  rw [show startE (List.length N__law_place) [a0] = [.val a0] from rfl]
  split at h
  · have s : Sz 100 ((10 : Int) ^ (Int.toNat 26)) := sz_lit (by decide)
    have g : 60 ≤ (10 : Int) ^ (Int.toNat 26) := by decide
    refine ⟨⟨by decide, by decide, by decide⟩, ⟨g, s.mono (by decide)⟩, fun d1 l1 u1 => ⟨⟨by decide, by decide, by decide⟩, ⟨g, s.mono (by decide)⟩, fun d2 l2 u2 => ⟨leN rfl, h _ _ (sz_of l1 u1 s) (sz_of l2 u2 s)⟩⟩⟩
  · exact h.elim
end
end K07
namespace K07
open PySem PySem.Spec PyProof.Rows L2 Z Y
section
variable {P : Program} {w : World} {K : Frg} {mg : Str → Option Value} {base : Heap}
theorem ok__law_turned (T : Tx w K mg) : FnG P w K mg base (L2.CX P w) 1 (He.ga K "_law_turned") (spP K R__law_turned) := by
  refine y_fn T.d__law_turned sc__law_turned arl2 (fun _ _ _ _ _ _ us hl => match us, hl with | [_, _], _ => rfl) fun cdv A outer s H E B hB hr hx po => ⟨_, (s_cons (s_asg (t := .tp [2, 3]) (y_var (pv 1)) (g_tp (is := [2, 3]) rfl (pgs_cons (pg_name (i := 2) sc__law_turned.nd rfl (by first | exact Or.inl rfl | exact Or.inr rfl)) (pgs_cons (pg_name (i := 3) sc__law_turned.nd rfl (by first | exact Or.inl rfl | exact Or.inr rfl)) pgs_nil))))
  (s_cons (s_if (z_cmp (op_inY (hu65 hr)) inL (y_var (pv 0)) (y_lst (a_cons y_str (a_cons y_str a_nil))) rfl)
    (s_one (s_ret (y_if (z_cmp (op_eqY hr.units) eqL (y_var (pv 0)) y_str (nomark _)) (y_tup (a_cons (y_var (pv 2)) (a_cons (y_var (pv 3)) a_nil))) (y_tup (a_cons (y_var (pv 2)) (a_cons (y_op op_sub subL y_int (y_var (pv 3))) a_nil))))))
    s_nil)
  (s_cons (s_if (z_cmp (op_inY (hu65 hr)) inL (y_var (pv 0)) (y_lst (a_cons y_str (a_cons y_str a_nil))) rfl)
    (s_one (s_ret (y_if (z_cmp (op_eqY hr.units) eqL (y_var (pv 0)) y_str (nomark _)) (y_tup (a_cons (y_op op_sub subL y_int (y_var (pv 3))) (a_cons (y_var (pv 2)) a_nil))) (y_tup (a_cons (y_var (pv 3)) (a_cons (y_op op_sub subL y_int (y_var (pv 2))) a_nil))))))
    s_nil)
  (s_cons (s_if (z_cmp (op_inY (hu65 hr)) inL (y_var (pv 0)) (y_lst (a_cons y_str (a_cons y_str a_nil))) rfl)
    (s_one (s_ret (y_if (z_cmp (op_eqY hr.units) eqL (y_var (pv 0)) y_str (nomark _)) (y_tup (a_cons (y_op op_sub subL y_int (y_var (pv 2))) (a_cons (y_op op_sub subL y_int (y_var (pv 3))) a_nil))) (y_tup (a_cons (y_op op_sub subL y_int (y_var (pv 2))) (a_cons (y_var (pv 3)) a_nil))))))
    s_nil)
  (s_one (s_ret (y_if (z_cmp (op_eqY hr.units) eqL (y_var (pv 0)) y_str (nomark _)) (y_tup (a_cons (y_var (pv 3)) (a_cons (y_var (pv 2)) a_nil))) (y_tup (a_cons (y_op op_sub subL y_int (y_var (pv 3))) (a_cons (y_op op_sub subL y_int (y_var (pv 2))) a_nil)))))))))), fun ds Q h => ?_⟩
  obtain ⟨a0, a1, e0, hh⟩ := ar2E h
  clear h
  subst e0
  have h := hh
  clear hh
  try dsimp only at h
  rw [show startE (List.length N__law_turned) [a0, a1] = [.val a0, .val a1, .no, .no] from rfl]
  obtain ⟨s, M, x, y, rfl, rfl, hM, h⟩ := h
  rcases mat_cases hM with ⟨rfl, rfl⟩ | ⟨rfl, rfl⟩ | ⟨rfl, rfl⟩ | ⟨rfl, rfl⟩ | ⟨rfl, rfl⟩ | ⟨rfl, rfl⟩ | ⟨rfl, rfl⟩ | ⟨rfl, rfl⟩
  · exact ⟨leN rfl, ⟨by decide +kernel, by decide +kernel⟩, ifB_T (by decide +kernel) (ifB_T (by decide +kernel) ⟨leN rfl, (by simpa [MN.turn, plD] using h)⟩)⟩
  · exact ⟨leN rfl, ⟨by decide +kernel, by decide +kernel⟩, ifB_F (by decide +kernel) ⟨leN rfl, ⟨by decide +kernel, by decide +kernel⟩, ifB_T (by decide +kernel) (ifB_T (by decide +kernel) ⟨leN rfl, (by simpa [MN.turn, plD] using h)⟩)⟩⟩
  · exact ⟨leN rfl, ⟨by decide +kernel, by decide +kernel⟩, ifB_F (by decide +kernel) ⟨leN rfl, ⟨by decide +kernel, by decide +kernel⟩, ifB_F (by decide +kernel) ⟨leN rfl, ⟨by decide +kernel, by decide +kernel⟩, ifB_T (by decide +kernel) (ifB_T (by decide +kernel) ⟨leN rfl, (by simpa [MN.turn, plD] using h)⟩)⟩⟩⟩
  · exact ⟨leN rfl, ⟨by decide +kernel, by decide +kernel⟩, ifB_F (by decide +kernel) ⟨leN rfl, ⟨by decide +kernel, by decide +kernel⟩, ifB_T (by decide +kernel) (ifB_F (by decide +kernel) ⟨leN rfl, (by simpa [MN.turn, plD] using h)⟩)⟩⟩
  · exact ⟨leN rfl, ⟨by decide +kernel, by decide +kernel⟩, ifB_T (by decide +kernel) (ifB_F (by decide +kernel) ⟨leN rfl, (by simpa [MN.turn, plD] using h)⟩)⟩
  · exact ⟨leN rfl, ⟨by decide +kernel, by decide +kernel⟩, ifB_F (by decide +kernel) ⟨leN rfl, ⟨by decide +kernel, by decide +kernel⟩, ifB_F (by decide +kernel) ⟨leN rfl, ⟨by decide +kernel, by decide +kernel⟩, ifB_T (by decide +kernel) (ifB_F (by decide +kernel) ⟨leN rfl, (by simpa [MN.turn, plD] using h)⟩)⟩⟩⟩
  · exact ⟨leN rfl, ⟨by decide +kernel, by decide +kernel⟩, ifB_F (by decide +kernel) ⟨leN rfl, ⟨by decide +kernel, by decide +kernel⟩, ifB_F (by decide +kernel) ⟨leN rfl, ⟨by decide +kernel, by decide +kernel⟩, ifB_F (by decide +kernel) (ifB_T (by decide +kernel) ⟨leN rfl, (by simpa [MN.turn, plD] using h)⟩)⟩⟩⟩
  · exact ⟨leN rfl, ⟨by decide +kernel, by decide +kernel⟩, ifB_F (by decide +kernel) ⟨leN rfl, ⟨by decide +kernel, by decide +kernel⟩, ifB_F (by decide +kernel) ⟨leN rfl, ⟨by decide +kernel, by decide +kernel⟩, ifB_F (by decide +kernel) (ifB_F (by decide +kernel) ⟨leN rfl, (by simpa [MN.turn, plD] using h)⟩)⟩⟩⟩
end
end K07
namespace K07
open PySem PySem.Spec PyProof.Rows L2 Z Y
section
variable {P : Program} {w : World} {K : Frg} {mg : Str → Option Value} {base : Heap}
theorem ok__law_kinds (T : Tx w K mg) : FnG P w K mg base (L2.CX P w) 1 (He.ga K "_law_kinds") (spP K R__law_kinds) := by
  refine y_fn T.d__law_kinds sc__law_kinds arl0 (fun _ _ _ _ _ _ us hl => match us, hl with | [], _ => rfl) fun cdv A outer s H E B hB hr hx po => ⟨_, (s_one (s_ret (y_lst (a_cons y_str (a_cons y_str (a_cons y_str (a_cons y_str (a_cons y_str (a_cons y_str (a_cons y_str (a_cons y_str a_nil))))))))))), fun ds Q h => ?_⟩
  obtain ⟨e0, hh⟩ := ar0E h
  clear h
  subst e0
  have h := hh
  clear hh
  try dsimp only at h
  rw [show startE (List.length N__law_kinds) [] = [] from rfl]
  exact ⟨leN rfl, h⟩
end
end K07
namespace K07
open PySem PySem.Spec PyProof.Rows L2 Z Y
section
variable {P : Program} {w : World} {K : Frg} {mg : Str → Option Value} {base : Heap}
theorem ok__law_carried (T : Tx w K mg) : FnG P w K mg base (L2.CX P w) 3 (He.ga K "_law_carried") (spP K R__law_carried) := by
  refine y_fn T.d__law_carried sc__law_carried arl2 (fun _ _ _ _ _ _ us hl => match us, hl with | [_, _], _ => rfl) fun cdv A outer s H E B hB hr hx po => ⟨_, (s_cons (s_asg (t := .tp [2, 3]) (y_call (ok__law_turned T) (hr.mono (by decide)) rfl T.g__law_turned T.k__law_turned hx (a_cons (y_ix (y_var (pv 0)) y_int (fun _ _ => rfl)) (a_cons (y_var (pv 1)) a_nil))) (g_tp (is := [2, 3]) rfl (pgs_cons (pg_name (i := 2) sc__law_carried.nd rfl (by first | exact Or.inl rfl | exact Or.inr rfl)) (pgs_cons (pg_name (i := 3) sc__law_carried.nd rfl (by first | exact Or.inl rfl | exact Or.inr rfl)) pgs_nil))))
  (s_one (s_ret (y_tup (a_cons (y_op op_addY addL (y_var (pv 2)) (y_ix (y_ix (y_var (pv 0)) y_int (fun _ _ => rfl)) y_int (fun _ _ => rfl))) (a_cons (y_op op_addY addL (y_var (pv 3)) (y_ix (y_ix (y_var (pv 0)) y_int (fun _ _ => rfl)) y_int (fun _ _ => rfl))) a_nil)))))), fun ds Q h => ?_⟩
  obtain ⟨a0, a1, e0, hh⟩ := ar2E h
  clear h
  subst e0
  have h := hh
  clear hh
  try dsimp only at h
  rw [show startE (List.length N__law_carried) [a0, a1] = [.val a0, .val a1, .no, .no] from rfl]
  obtain ⟨k, m, x, y, rfl, rfl, hM, h⟩ := h
  exact ⟨k, m.1, x, y, rfl, rfl, hM, leN rfl, h⟩
end
end K07
namespace K07
open PySem PySem.Spec PyProof.Rows L2 Z Y
section
variable {P : Program} {w : World} {K : Frg} {mg : Str → Option Value} {base : Heap}
theorem ok__law_far_move (T : Tx w K mg) : FnG P w K mg base (L2.CX P w) 7 (He.ga K "_law_far_move") (spP K R__law_far_move) := by
  refine y_fn T.d__law_far_move sc__law_far_move arl1 (fun _ _ _ _ _ _ us hl => match us, hl with | [_], _ => rfl) fun cdv A outer s H E B hB hr hx po => ⟨_, (s_one (s_ret (y_tup (a_cons (y_ix (y_call0 (ok__law_kinds T) (hr.mono (by decide)) rfl T.g__law_kinds T.k__law_kinds hx) (y_call (ok__law_draw T) (hr.mono (by decide)) rfl T.g__law_draw T.k__law_draw hx (a_cons (y_var (pv 0)) (a_cons y_int a_nil))) (fun _ _ => rfl)) (a_cons (y_call (ok__law_place T) (hr.mono (by decide)) rfl T.g__law_place T.k__law_place hx (a_cons (y_var (pv 0)) a_nil)) a_nil))))), fun ds Q h => ?_⟩
  obtain ⟨a0, e0, hh⟩ := ar1E h
  clear h
  subst e0
  have h := hh
  clear hh
  try dsimp only at h
  rw [show startE (List.length N__law_far_move) [a0] = [.val a0] from rfl]
  split at h
  · refine ⟨⟨by decide, szP (by decide) (by decide)⟩, fun d l u => ?_⟩
    obtain ⟨x, ex, mx⟩ := atI_D (ds := matL.map fun q => D.str q.1) (k := d) l (by exact u)
    obtain ⟨⟨k, M⟩, hq, rfl⟩ := List.mem_map.mp mx
    refine dIx_l ex fun x y zx zy => ⟨leN rfl, h k (M, x, y) ⟨mat_of_mem hq, ?_⟩⟩
    have z1 : x.natAbs < 2 ^ 100 := zx
    have z2 : y.natAbs < 2 ^ 100 := zy
    have p : (2 : Nat) ^ 100 + 2 ^ 100 ≤ 2 ^ 110 := by decide
    show x.natAbs + y.natAbs < 2 ^ 110
    omega
  · exact h.elim
end
end K07
namespace K07
open PySem PySem.Spec PyProof.Rows L2 Z Y
section
variable {P : Program} {w : World} {K : Frg} {mg : Str → Option Value} {base : Heap}
theorem ok__law_told (T : Tx w K mg) : FnG P w K mg base (L2.CX P w) 3 (He.ga K "_law_told") (spP K R__law_told) := by
  refine y_fn T.d__law_told sc__law_told arl1 (fun _ _ _ _ _ _ us hl => match us, hl with | [_], _ => rfl) fun cdv A outer s H E B hB hr hx po => ⟨_, (s_one (s_ret (y_tup (a_cons (y_prop (cs := ["Motion"]) (ns := ["own_kind", "own_shift"]) (y_var (pv 0)) (all1 ⟨T.cl_Motion, _, T.p_Motion_kind⟩) (ok_Motion_kind T) (hr.mono (by decide)) px_nox) (a_cons (y_prop (cs := ["Motion"]) (ns := ["own_kind", "own_shift"]) (y_var (pv 0)) (all1 ⟨T.cl_Motion, _, T.p_Motion_shift⟩) (ok_Motion_shift T) (hr.mono (by decide)) px_nox) a_nil))))), fun ds Q h => ?_⟩
  obtain ⟨a0, e0, hh⟩ := ar1E h
  clear h
  subst e0
  have h := hh
  clear hh
  try dsimp only at h
  rw [show startE (List.length N__law_told) [a0] = [.val a0] from rfl]
  obtain ⟨k, x, y, rfl, h⟩ := h
  exact ⟨.head _, rfl, k, x, y, rfl, .head _, rfl, k, x, y, rfl, leN rfl, h⟩
end
end K07
namespace K07
open PySem PySem.Spec PyProof.Rows L2 Z Y
section
variable {P : Program} {w : World} {K : Frg} {mg : Str → Option Value} {base : Heap}
theorem ok__law_right (T : Tx w K mg) : FnG P w K mg base (L2.CX P w) 11 (He.ga K "_law_right") (spP K R__law_right7) := by
  refine y_fn T.d__law_right sc__law_right arl2 (fun _ _ _ _ _ _ us hl => match us, hl with | [_, _], _ => rfl) fun cdv A outer s H E B hB hr hx po => ⟨_, (s_cut (s_set (i := 2) sc__law_right.nd rfl (by first | exact Or.inl rfl | exact Or.inr rfl) (y_make T.mk_Motion (ok_Motion_UinitU T) (hr.mono (by decide)) rfl T.g_Motion hx (a_cons (y_ix (y_var (pv 0)) y_int (fun _ _ => rfl)) (a_cons (y_ix (y_var (pv 0)) y_int (fun _ _ => rfl)) a_nil))))
  (s_cut (s_if (z_cmp (op_neY hr.units) neL (y_callB (call_reprD hr) reprL (by rfl) T.b_repr (by decide +kernel) (a_cons (y_lst (a_cons (y_prop (cs := ["Motion"]) (ns := ["own_kind", "own_shift"]) (y_var (pv 2)) (all1 ⟨T.cl_Motion, _, T.p_Motion_kind⟩) (ok_Motion_kind T) (hr.mono (by decide)) px_nox) (a_cons (y_prop (cs := ["Motion"]) (ns := ["own_kind", "own_shift"]) (y_var (pv 2)) (all1 ⟨T.cl_Motion, _, T.p_Motion_shift⟩) (ok_Motion_shift T) (hr.mono (by decide)) px_nox) (a_cons (y_prop (cs := ["Motion"]) (ns := ["own_kind", "own_shift"]) (y_var (pv 2)) (all1 ⟨T.cl_Motion, _, T.p_Motion_is_mirrored⟩) (ok_Motion_is_mirrored T) (hr.mono (by decide)) px_nox) a_nil)))) a_nil)) (y_callB (call_reprD hr) reprL (by rfl) T.b_repr (by decide +kernel) (a_cons (y_lst (a_cons (y_ix (y_var (pv 0)) y_int (fun _ _ => rfl)) (a_cons (y_ix (y_var (pv 0)) y_int (fun _ _ => rfl)) (a_cons (y_cmp (op_inY (hu65 hr)) inL (y_ix (y_var (pv 0)) y_int (fun _ _ => rfl)) (y_sl (y_call0 (ok__law_kinds T) (hr.mono (by decide)) rfl T.g__law_kinds T.k__law_kinds hx) (o_some y_int) o_none) rfl) a_nil)))) a_nil)) (nomark _))
    (s_one (s_ret y_bl))
    s_nil)
  (s_cut (s_if (z_pt (z_or (z_cmp (op_neY hr.units) neL (y_reprO (C := "Motion") (ns := ["own_kind", "own_shift"]) (hr.mono (by decide)) T.m_Motion_UreprU.at_ T.m_Motion_UreprU.fn (ok_Motion_UreprU T) hx (by rfl) T.b_repr (y_var (pv 2))) (y_op op_addY addL (y_op op_addY addL (y_op op_addY addL (y_op op_addY addL y_str (y_callB (call_reprD hr) reprL (by rfl) T.b_repr (by decide +kernel) (a_cons (y_ix (y_var (pv 0)) y_int (fun _ _ => rfl)) a_nil))) y_str) (y_callB (call_reprD hr) reprL (by rfl) T.b_repr (by decide +kernel) (a_cons (y_ix (y_var (pv 0)) y_int (fun _ _ => rfl)) a_nil))) y_str) (nomark _)) (z_or1 (z_cmpI (gop_ne (C := He.ga K "Motion") T.ow_Motion.ne T.ow_Motion.ob T.m_Motion_UeqU.at_ T.m_Motion_UeqU.fn ((ok_Motion_UeqU T).at (RoomG.in1 (hr.mono (by decide)))) hr.units hx) (eqOL (C := "Motion") (ns := ["own_kind", "own_shift"]) (cs := ["Motion"]) ⟨T.cl_Motion, T.ow_Motion⟩ (all1 ⟨⟨T.cl_Motion, T.ow_Motion⟩, nf_self⟩)) (y_var (pv 2)) (y_make T.mk_Motion (ok_Motion_UinitU T) (hr.mono (by decide)) rfl T.g_Motion hx (a_cons (y_ix (y_var (pv 0)) y_int (fun _ _ => rfl)) (a_cons (y_ix (y_var (pv 0)) y_int (fun _ _ => rfl)) a_nil))) (nomark _)))))
    (s_one (s_ret y_bl))
    s_nil)
  (s_cut (s_set (i := 3) sc__law_right.nd rfl (by first | exact Or.inl rfl | exact Or.inr rfl) (y_inv (C := "Motion") (ns := ["own_kind", "own_shift"]) T.m_Motion_UinvertU.at_ T.m_Motion_UinvertU.fn ((ok_Motion_UinvertU T).at (hr.mono (by decide))) hx (y_var (pv 2))))
  (s_cons (s_for (t := .nm 4) po rfl (i_lst (y_var (pv 1))) (g_nm (pg_name (i := 4) sc__law_right.nd rfl (by first | exact Or.inl rfl | exact Or.inr rfl)))
    (s_cut (s_set (i := 5) sc__law_right.nd rfl (by first | exact Or.inl rfl | exact Or.inr rfl) (y_callO (C := "Motion") (ns := ["own_kind", "own_shift"]) (y_var (pv 2)) T.co_Motion ((ok_Motion_UcallU T).at (hr.mono (by decide))) hx (a_cons (y_var (pv 4)) a_nil)))
  (s_one (s_if (z_pt (z_or (z_cmp (op_neY hr.units) neL (y_var (pv 5)) (y_call (ok__law_carried T) (hr.mono (by decide)) rfl T.g__law_carried T.k__law_carried hx (a_cons (y_var (pv 0)) (a_cons (y_var (pv 4)) a_nil))) (nomark _)) (z_or (z_cmp (op_neY hr.units) neL (y_callO (C := "Motion") (ns := ["own_kind", "own_shift"]) (y_var (pv 3)) T.co_Motion ((ok_Motion_UcallU T).at (hr.mono (by decide))) hx (a_cons (y_var (pv 5)) a_nil)) (y_var (pv 4)) (nomark _)) (z_or1 (z_cmp (op_neY hr.units) neL (y_callO (C := "Motion") (ns := ["own_kind", "own_shift"]) (y_var (pv 2)) T.co_Motion ((ok_Motion_UcallU T).at (hr.mono (by decide))) hx (a_cons (y_callO (C := "Motion") (ns := ["own_kind", "own_shift"]) (y_var (pv 3)) T.co_Motion ((ok_Motion_UcallU T).at (hr.mono (by decide))) hx (a_cons (y_var (pv 4)) a_nil)) a_nil)) (y_var (pv 4)) (nomark _))))))
    (s_one (s_ret y_bl))
    s_nil))))
  (s_one (s_ret (y_and (y_cmp (op_eqY hr.units) eqL (y_call (ok__law_told T) (hr.mono (by decide)) rfl T.g__law_told T.k__law_told hx (a_cons (y_inv (C := "Motion") (ns := ["own_kind", "own_shift"]) T.m_Motion_UinvertU.at_ T.m_Motion_UinvertU.fn ((ok_Motion_UinvertU T).at (hr.mono (by decide))) hx (y_var (pv 3))) a_nil)) (y_var (pv 0)) (nomark _)) (y_one (y_cmp (op_eqY hr.units) eqL (y_call (ok__law_told T) (hr.mono (by decide)) rfl T.g__law_told T.k__law_told hx (a_cons (y_var (pv 2)) a_nil)) (y_var (pv 0)) (nomark _))))))))))), fun ds Q h => ?_⟩
  obtain ⟨a0, a1, e0, hh⟩ := ar2E h
  clear h
  subst e0
  have h := hh
  clear hh
  try dsimp only at h
  rw [show startE (List.length N__law_right) [a0, a1] = [.val a0, .val a1, .no, .no, .no, .no] from rfl]
  obtain ⟨k, m, ps, rfl, rfl, ⟨o, hps⟩, h⟩ := h
  obtain ⟨s1, s2, s3⟩ := mat_str o.mt
  have hp1 : shP 0 (.str k) := s1
  have hp2 : shP 0 (dPl m.2.1 m.2.2) := sh_pl (o.x.mono (by decide)) (o.y.mono (by decide))
  have b1 : (toP (.str k)).bulk ≤ 10 := s2
  have b2 : (toP (dPl m.2.1 m.2.2)).bulk ≤ 10 := ltN rfl
  have l1 := sh_le2 hp1 b1
  have l2 := sh_le2 hp2 b2
  have c1 : ("Motion(" : Str).length = 7 := rfl
  have c2 : (", " : Str).length = 2 := rfl
  have c3 : (")" : Str).length = 1 := rfl
  have bl3 : ∀ b : Bool, (toP (.lst [.str k, dPl m.2.1 m.2.2, .bl b])).bulk ≤ 8000 := fun b => by
    have : (toP (.lst [.str k, dPl m.2.1 m.2.2, .bl b])).bulk ≤ (toP (.str k)).bulk + 100 := by
      show PyData.bulk (.list [.str k, .tuple [.int m.2.1, .int m.2.2], .bool b]) ≤ PyData.bulk (.str k) + 100
      simp only [PyData.bulk, PyData.bulkAll]
      omega
    omega
  refine ⟨fun ρ => ρ = [.val (mvD k m), .val (.lst (ps.map plD)), .val (dM k m), .no, .no, .no], ⟨k, m.1, _, _, rfl, rfl, o.mt, rfl⟩, ?_⟩
  rintro ρ rfl
  refine ⟨fun ρ => ρ = [.val (mvD k m), .val (.lst (ps.map plD)), .val (dM k m), .no, .no, .no], ?_, ?_⟩
  · refine ⟨.head _, rfl, k, _, _, rfl, .head _, rfl, k, _, _, rfl, .head _, rfl, k, _, _, rfl, leN rfl, ⟨⟨hp1, hp2, trivial, trivial⟩, bl3 _, ltN rfl⟩, ?_⟩
    refine dSl_drop (n := 4) ⟨⟨?_, ?_⟩, leN rfl, ⟨⟨hp1, hp2, trivial, trivial⟩, bl3 _, ltN rfl⟩, ifB_F ?_ rfl⟩
    · simp [okD, s3]
    · decide +kernel
    · rw [Bool.false_bne]
      simp only [decide_eq_true_eq, Bool.not_eq_false']
      rfl
  rintro ρ rfl
  refine ⟨fun ρ => ρ = [.val (mvD k m), .val (.lst (ps.map plD)), .val (dM k m), .no, .no, .no], ?_, ?_⟩
  · refine ⟨.head _, rfl, k, m, rfl, o.mono (by decide), ⟨hp1, Nat.le_trans b1 (by decide), ltN rfl⟩, ?_, ?_, ⟨hp2, Nat.le_trans b2 (by decide), ltN rfl⟩, ?_, ?_, ifB_F ?_ ?_⟩
    · rw [c1]; omega
    · rw [strLenA, c1, c2]; omega
    · rw [strLenA, strLenA, c1, c2]; omega
    · rw [strLenA, strLenA, strLenA, c1, c2, c3]; omega
    · show (!decide (motText k m.2.1 m.2.2 = _)) = false
      simp only [Bool.not_eq_false', decide_eq_true_eq]
      rfl
    · exact ⟨k, m.1, _, _, rfl, rfl, o.mt, .head _, rfl, .head _, k, _, _, rfl, .inl ⟨k, _, _, rfl, ifB_F (by simp) rfl⟩⟩
  rintro ρ rfl
  refine ⟨fun ρ => ∃ t, mat t = some (MN.minv m).1 ∧ ρ = [.val (mvD k m), .val (.lst (ps.map plD)), .val (dM k m), .val (dM t (MN.minv m)), .no, .no], ⟨.head _, rfl, k, m.1, _, _, rfl, ⟨o.mt, o.x.mono (by decide), o.y.mono (by decide)⟩, fun t ht => ⟨t, ht, rfl⟩⟩, ?_⟩
  rintro ρ ⟨t, ht, rfl⟩
  have oi : okK 110 t (MN.minv m) := o.inv ht
  refine ⟨fun i ρ => ∃ o4 o5, ρ = [.val (mvD k m), .val (.lst (ps.map plD)), .val (dM k m), .val (dM t (MN.minv m)), o4, o5], ⟨_, _, rfl⟩, ?_, ?_⟩
  · rintro i d ρ hd ⟨o4, o5, rfl⟩
    obtain ⟨⟨x, y⟩, hq, rfl⟩ := map_get hd
    obtain ⟨zx, zy⟩ := hps _ (List.mem_of_getElem? hq)
    have n0 : MN.nrm (x, y) < 2 ^ 110 := Nat.lt_of_lt_of_le (nrm_of (n := 100) zx zy) (by decide)
    have n1 := mapp_sz o n0
    have n2 := mapp_sz oi n0
    refine ⟨fun ρ => ρ = [.val (mvD k m), .val (.lst (ps.map plD)), .val (dM k m), .val (dM t (MN.minv m)), .val (dPl x y), .val (plD (MN.mapp m (x, y)))], ⟨.head _, rfl, k, m, x, y, rfl, rfl, ⟨o.mt, zx.mono (by decide), zy.mono (by decide)⟩, rfl⟩, ?_⟩
    rintro ρ rfl
    refine ⟨k, m, x, y, rfl, rfl, o.mt, ⟨rfl, rfl⟩, ifB_F ?_ ?_⟩
    · show (!eqD (.tup [.int _, .int _]) (.tup [.int _, .int _])) = false
      rw [eqN2]
      simp
    refine ⟨.head _, rfl, t, MN.minv m, (MN.mapp m (x, y)).1, (MN.mapp m (x, y)).2, rfl, rfl, ⟨ht, (nrm_x n1).mono (by decide), (nrm_y n1).mono (by decide)⟩, ⟨rfl, rfl⟩, ifB_F ?_ ?_⟩
    · have e : MN.mapp (MN.minv m) ((MN.mapp m (x, y)).1, (MN.mapp m (x, y)).2) = (x, y) := MN.mapp_inv o.orth (x, y)
      rw [e]
      show (!eqD (.tup [.int x, .int y]) (.tup [.int x, .int y])) = false
      rw [eqN2]
      simp
    refine ⟨.head _, rfl, .head _, rfl, t, MN.minv m, x, y, rfl, rfl, ⟨ht, zx.mono (by decide), zy.mono (by decide)⟩, k, m, (MN.mapp (MN.minv m) (x, y)).1, (MN.mapp (MN.minv m) (x, y)).2, rfl, rfl, ⟨o.mt, (nrm_x n2).mono (by decide), (nrm_y n2).mono (by decide)⟩, ⟨rfl, rfl⟩, ifB_F ?_ ⟨_, _, rfl⟩⟩
    have e : MN.mapp m ((MN.mapp (MN.minv m) (x, y)).1, (MN.mapp (MN.minv m) (x, y)).2) = (x, y) := MN.mapp_inv' o.orth (x, y)
    rw [e]
    show (!eqD (.tup [.int x, .int y]) (.tup [.int x, .int y])) = false
    rw [eqN2]
    simp
  · rintro ρ ⟨o4, o5, rfl⟩
    have ok1 : okD 8 (mvD k m) = true := okMv o.mt
    refine ⟨.head _, rfl, t, (MN.minv m).1, _, _, rfl, ⟨ht, oi.x.mono (by decide), oi.y.mono (by decide)⟩, fun u hu => ?_⟩
    have eu := MN.minv_minv o.orth
    have hu' : mat u = some (MN.minv (MN.minv m)).1 := hu
    have ku : u = k := mat_inj (by rw [eu] at hu'; exact hu') o.mt
    subst ku
    refine ⟨u, _, _, rfl, ⟨okMv o.mt, ok1⟩, ifB_T ?_ ?_⟩
    · show eqD (.tup [.str u, dPl (MN.minv (MN.minv m)).2.1 (MN.minv (MN.minv m)).2.2]) (mvD u m) = true
      rw [eu, eqMv]
      simp
    · refine ⟨u, _, _, rfl, ⟨ok1, ok1⟩, ?_⟩
      show Q (.bl (eqD (.tup [.str u, dPl m.2.1 m.2.2]) (mvD u m)))
      rw [eqMv]
      simpa using h
end
end K07
namespace K07
open PySem PySem.Spec PyProof.Rows L2 Z Y
section
variable {P : Program} {w : World} {K : Frg} {mg : Str → Option Value} {base : Heap}
theorem ok__law_products_right (T : Tx w K mg) : FnG P w K mg base (L2.CX P w) 11 (He.ga K "_law_products_right") (spP K R__law_products_right) := by
  refine y_fn T.d__law_products_right sc__law_products_right arl2 (fun _ _ _ _ _ _ us hl => match us, hl with | [_, _], _ => rfl) fun cdv A outer s H E B hB hr hx po => ⟨_, (s_cut (s_asg (t := .tp [2, 3, 4]) (y_lc (own := [("_law_move", 7)]) (t := .nm 7) rfl sc__law_products_right.nd (i_lst (y_var (pv 0))) (blkOk_by (own := [("_law_move", 7)]) (N := N__law_products_right) (sc := defScope s__law_products_right) (by decide +kernel)) (fun _ _ _ _ _ => (g_nm (pg_name (i := 7) sc__law_products_right.nd rfl (by first | exact Or.inl rfl | exact Or.inr rfl)))) (fun _ _ _ _ _ => c_nil) (fun _ _ _ _ _ => (y_make T.mk_Motion (ok_Motion_UinitU T) (hr.mono (by decide)) rfl T.g_Motion px_nox (a_cons (y_ix (y_var (pv 7)) y_int (fun _ _ => rfl)) (a_cons (y_ix (y_var (pv 7)) y_int (fun _ _ => rfl)) a_nil))))) (g_tp (is := [2, 3, 4]) rfl (pgs_cons (pg_name (i := 2) sc__law_products_right.nd rfl (by first | exact Or.inl rfl | exact Or.inr rfl)) (pgs_cons (pg_name (i := 3) sc__law_products_right.nd rfl (by first | exact Or.inl rfl | exact Or.inr rfl)) (pgs_cons (pg_name (i := 4) sc__law_products_right.nd rfl (by first | exact Or.inl rfl | exact Or.inr rfl)) pgs_nil)))))
  (s_cut (s_set (i := 5) sc__law_products_right.nd rfl (by first | exact Or.inl rfl | exact Or.inr rfl) (y_opI (gop_bin (C := He.ga K "Motion") T.ow_Motion.sf T.m_Motion_UmulU.at_ T.m_Motion_UmulU.fn ((ok_Motion_UmulU T).at (hr.mono (by decide))) hx) (binOL (C := "Motion") (ns := ["own_kind", "own_shift"])) (y_var (pv 2)) (y_var (pv 3))))
  (s_cons (s_for (t := .nm 6) po rfl (i_lst (y_var (pv 1))) (g_nm (pg_name (i := 6) sc__law_products_right.nd rfl (by first | exact Or.inl rfl | exact Or.inr rfl)))
    (s_one (s_if (z_cmp (op_neY hr.units) neL (y_callO (C := "Motion") (ns := ["own_kind", "own_shift"]) (y_var (pv 5)) T.co_Motion ((ok_Motion_UcallU T).at (hr.mono (by decide))) hx (a_cons (y_var (pv 6)) a_nil)) (y_call (ok__law_carried T) (hr.mono (by decide)) rfl T.g__law_carried T.k__law_carried hx (a_cons (y_ix (y_var (pv 0)) y_int (fun _ _ => rfl)) (a_cons (y_call (ok__law_carried T) (hr.mono (by decide)) rfl T.g__law_carried T.k__law_carried hx (a_cons (y_ix (y_var (pv 0)) y_int (fun _ _ => rfl)) (a_cons (y_var (pv 6)) a_nil))) a_nil))) (nomark _))
    (s_one (s_ret y_bl))
    s_nil)))
  (s_cut (s_if (z_pt (z_or (z_cmpI (gop_ne (C := He.ga K "Motion") T.ow_Motion.ne T.ow_Motion.ob T.m_Motion_UeqU.at_ T.m_Motion_UeqU.fn ((ok_Motion_UeqU T).at (RoomG.in1 (hr.mono (by decide)))) hr.units hx) (eqOL (C := "Motion") (ns := ["own_kind", "own_shift"]) (cs := ["Motion"]) ⟨T.cl_Motion, T.ow_Motion⟩ (all1 ⟨⟨T.cl_Motion, T.ow_Motion⟩, nf_self⟩)) (y_opI (gop_bin (C := He.ga K "Motion") T.ow_Motion.sf T.m_Motion_UmulU.at_ T.m_Motion_UmulU.fn ((ok_Motion_UmulU T).at (hr.mono (by decide))) hx) (binOL (C := "Motion") (ns := ["own_kind", "own_shift"])) (y_opI (gop_bin (C := He.ga K "Motion") T.ow_Motion.sf T.m_Motion_UmulU.at_ T.m_Motion_UmulU.fn ((ok_Motion_UmulU T).at (hr.mono (by decide))) hx) (binOL (C := "Motion") (ns := ["own_kind", "own_shift"])) (y_var (pv 2)) (y_var (pv 3))) (y_var (pv 4))) (y_opI (gop_bin (C := He.ga K "Motion") T.ow_Motion.sf T.m_Motion_UmulU.at_ T.m_Motion_UmulU.fn ((ok_Motion_UmulU T).at (hr.mono (by decide))) hx) (binOL (C := "Motion") (ns := ["own_kind", "own_shift"])) (y_var (pv 2)) (y_opI (gop_bin (C := He.ga K "Motion") T.ow_Motion.sf T.m_Motion_UmulU.at_ T.m_Motion_UmulU.fn ((ok_Motion_UmulU T).at (hr.mono (by decide))) hx) (binOL (C := "Motion") (ns := ["own_kind", "own_shift"])) (y_var (pv 3)) (y_var (pv 4)))) (nomark _)) (z_or1 (z_cmpI (gop_ne (C := He.ga K "Motion") T.ow_Motion.ne T.ow_Motion.ob T.m_Motion_UeqU.at_ T.m_Motion_UeqU.fn ((ok_Motion_UeqU T).at (RoomG.in1 (hr.mono (by decide)))) hr.units hx) (eqOL (C := "Motion") (ns := ["own_kind", "own_shift"]) (cs := ["Motion"]) ⟨T.cl_Motion, T.ow_Motion⟩ (all1 ⟨⟨T.cl_Motion, T.ow_Motion⟩, nf_self⟩)) (y_inv (C := "Motion") (ns := ["own_kind", "own_shift"]) T.m_Motion_UinvertU.at_ T.m_Motion_UinvertU.fn ((ok_Motion_UinvertU T).at (hr.mono (by decide))) hx (y_opI (gop_bin (C := He.ga K "Motion") T.ow_Motion.sf T.m_Motion_UmulU.at_ T.m_Motion_UmulU.fn ((ok_Motion_UmulU T).at (hr.mono (by decide))) hx) (binOL (C := "Motion") (ns := ["own_kind", "own_shift"])) (y_var (pv 2)) (y_var (pv 3)))) (y_opI (gop_bin (C := He.ga K "Motion") T.ow_Motion.sf T.m_Motion_UmulU.at_ T.m_Motion_UmulU.fn ((ok_Motion_UmulU T).at (hr.mono (by decide))) hx) (binOL (C := "Motion") (ns := ["own_kind", "own_shift"])) (y_inv (C := "Motion") (ns := ["own_kind", "own_shift"]) T.m_Motion_UinvertU.at_ T.m_Motion_UinvertU.fn ((ok_Motion_UinvertU T).at (hr.mono (by decide))) hx (y_var (pv 3))) (y_inv (C := "Motion") (ns := ["own_kind", "own_shift"]) T.m_Motion_UinvertU.at_ T.m_Motion_UinvertU.fn ((ok_Motion_UinvertU T).at (hr.mono (by decide))) hx (y_var (pv 2)))) (nomark _)))))
    (s_one (s_ret y_bl))
    s_nil)
  (s_one (s_ret (y_and (y_cmp (op_eqY hr.units) eqL (y_lst (a_cons (y_call (ok__law_told T) (hr.mono (by decide)) rfl T.g__law_told T.k__law_told hx (a_cons (y_var (pv 2)) a_nil)) (a_cons (y_call (ok__law_told T) (hr.mono (by decide)) rfl T.g__law_told T.k__law_told hx (a_cons (y_var (pv 3)) a_nil)) (a_cons (y_call (ok__law_told T) (hr.mono (by decide)) rfl T.g__law_told T.k__law_told hx (a_cons (y_var (pv 4)) a_nil)) a_nil)))) (y_var (pv 0)) (nomark _)) (y_one (y_cmpI (gop_eq (C := He.ga K "Motion") T.m_Motion_UeqU.at_ T.m_Motion_UeqU.fn ((ok_Motion_UeqU T).at (hr.mono (by decide))) hr.units hx) (eqOL (C := "Motion") (ns := ["own_kind", "own_shift"]) (cs := ["Motion"]) ⟨T.cl_Motion, T.ow_Motion⟩ (all1 ⟨⟨T.cl_Motion, T.ow_Motion⟩, nf_self⟩)) (y_opI (gop_bin (C := He.ga K "Motion") T.ow_Motion.sf T.m_Motion_UmulU.at_ T.m_Motion_UmulU.fn ((ok_Motion_UmulU T).at (hr.mono (by decide))) hx) (binOL (C := "Motion") (ns := ["own_kind", "own_shift"])) (y_var (pv 2)) (y_make T.mk_Motion (ok_Motion_UinitU T) (hr.mono (by decide)) rfl T.g_Motion hx (a_cons y_str a_nil))) (y_var (pv 2)) (nomark _)))))))))), fun ds Q h => ?_⟩
  obtain ⟨a0, a1, e0, hh⟩ := ar2E h
  clear h
  subst e0
  have h := hh
  clear hh
  try dsimp only at h
  rw [show startE (List.length N__law_products_right) [a0, a1] = [.val a0, .val a1, .no, .no, .no, .no, .no, .no] from rfl]
  obtain ⟨k1, m1, k2, m2, k3, m3, ps, rfl, rfl, ⟨⟨o1, o2, o3⟩, hps⟩, h⟩ := h
  refine ⟨fun ρ => ρ = [.val (.lst [mvD k1 m1, mvD k2 m2, mvD k3 m3]), .val (.lst (ps.map plD)), .val (dM k1 m1), .val (dM k2 m2), .val (dM k3 m3), .no, .no, .no], ?_, ?_⟩
  · exact ⟨leN rfl, mapI_of (ifB_T rfl ⟨k1, m1.1, _, _, rfl, rfl, o1.mt, ifB_T rfl ⟨k2, m2.1, _, _, rfl, rfl, o2.mt, ifB_T rfl ⟨k3, m3.1, _, _, rfl, rfl, o3.mt, rfl⟩⟩⟩)⟩
  rintro ρ rfl
  refine ⟨fun ρ => ∃ t, mat t = some (MN.mmul m1 m2).1 ∧ ρ = [.val (.lst [mvD k1 m1, mvD k2 m2, mvD k3 m3]), .val (.lst (ps.map plD)), .val (dM k1 m1), .val (dM k2 m2), .val (dM k3 m3), .val (dM t (MN.mmul m1 m2)), .no, .no], ⟨.head _, rfl, .head _, rfl, k1, k2, m1.1, m2.1, _, _, _, _, rfl, rfl, ⟨o1.mt, o2.mt, o1.x.mono (by decide), o1.y.mono (by decide)⟩, fun t ht => ⟨t, ht, rfl⟩⟩, ?_⟩
  rintro ρ ⟨t, ht, rfl⟩
  have o12 : okK 111 t (MN.mmul m1 m2) := o1.mul o2 ht
  refine ⟨fun i ρ => ∃ o6, ρ = [.val (.lst [mvD k1 m1, mvD k2 m2, mvD k3 m3]), .val (.lst (ps.map plD)), .val (dM k1 m1), .val (dM k2 m2), .val (dM k3 m3), .val (dM t (MN.mmul m1 m2)), o6, .no], ⟨_, rfl⟩, ?_, ?_⟩
  · rintro i d ρ hd ⟨o6, rfl⟩
    obtain ⟨⟨x, y⟩, hq, rfl⟩ := map_get hd
    obtain ⟨zx, zy⟩ := hps _ (List.mem_of_getElem? hq)
    refine ⟨.head _, rfl, t, MN.mmul m1 m2, x, y, rfl, rfl, ⟨ht, zx.mono (by decide), zy.mono (by decide)⟩, k1, m1, x, y, rfl, rfl, o1.mt, k2, m2, (MN.mapp m1 (x, y)).1, (MN.mapp m1 (x, y)).2, rfl, rfl, o2.mt, ⟨rfl, rfl⟩, ifB_F ?_ ⟨_, rfl⟩⟩
    have e : MN.mapp (MN.mmul m1 m2) (x, y) = MN.mapp m2 ((MN.mapp m1 (x, y)).1, (MN.mapp m1 (x, y)).2) := MN.mapp_mul m1 m2 (x, y)
    rw [e]
    show (!eqD (.tup [.int _, .int _]) (.tup [.int _, .int _])) = false
    rw [eqN2]
    simp
  rintro ρ ⟨o6, rfl⟩
  refine ⟨fun ρ => ∃ o6, ρ = [.val (.lst [mvD k1 m1, mvD k2 m2, mvD k3 m3]), .val (.lst (ps.map plD)), .val (dM k1 m1), .val (dM k2 m2), .val (dM k3 m3), .val (dM t (MN.mmul m1 m2)), o6, .no], ?_, ?_⟩
  · refine ⟨.head _, rfl, .head _, rfl, k1, k2, m1.1, m2.1, _, _, _, _, rfl, rfl, ⟨o1.mt, o2.mt, o1.x.mono (by decide), o1.y.mono (by decide)⟩, fun t1 ht1 => ?_⟩
    have ob : okK 111 t1 (MN.mmul m1 m2) := o1.mul o2 ht1
    refine ⟨.head _, rfl, .head _, rfl, t1, k3, (MN.mmul m1 m2).1, m3.1, _, _, _, _, rfl, rfl, ⟨ht1, o3.mt, ob.x.mono (by decide), ob.y.mono (by decide)⟩, fun t2 ht2 => ?_⟩
    refine ⟨.head _, rfl, .head _, rfl, k2, k3, m2.1, m3.1, _, _, _, _, rfl, rfl, ⟨o2.mt, o3.mt, o2.x.mono (by decide), o2.y.mono (by decide)⟩, fun t3 ht3 => ?_⟩
    refine ⟨.head _, rfl, .head _, rfl, k1, t3, m1.1, (MN.mmul m2 m3).1, _, _, _, _, rfl, rfl, ⟨o1.mt, ht3, o1.x.mono (by decide), o1.y.mono (by decide)⟩, fun t4 ht4 => ?_⟩
    have ht2' : mat t2 = some (MN.mmul (MN.mmul m1 m2) m3).1 := ht2
    have ht4' : mat t4 = some (MN.mmul m1 (MN.mmul m2 m3)).1 := ht4
    refine ⟨.head _, rfl, .head _, t2, (MN.mmul (MN.mmul m1 m2) m3).2.1, (MN.mmul (MN.mmul m1 m2) m3).2.2, rfl, .inl ⟨t4, (MN.mmul m1 (MN.mmul m2 m3)).2.1, (MN.mmul m1 (MN.mmul m2 m3)).2.2, rfl, ifB_F ?_ ?_⟩⟩
    · rw [eqMot ht2' ht4', decide_eq_true (MN.mmul_assoc m1 m2 m3)]
      rfl
    refine ⟨.head _, rfl, .head _, rfl, k1, k2, m1.1, m2.1, _, _, _, _, rfl, rfl, ⟨o1.mt, o2.mt, o1.x.mono (by decide), o1.y.mono (by decide)⟩, fun t5 ht5 => ?_⟩
    have o5 : okK 111 t5 (MN.mmul m1 m2) := o1.mul o2 ht5
    refine ⟨.head _, rfl, t5, (MN.mmul m1 m2).1, _, _, rfl, ⟨ht5, o5.x.mono (by decide), o5.y.mono (by decide)⟩, fun t6 ht6 => ?_⟩
    refine ⟨.head _, rfl, k2, m2.1, _, _, rfl, ⟨o2.mt, o2.x.mono (by decide), o2.y.mono (by decide)⟩, fun t7 ht7 => ?_⟩
    refine ⟨.head _, rfl, k1, m1.1, _, _, rfl, ⟨o1.mt, o1.x.mono (by decide), o1.y.mono (by decide)⟩, fun t8 ht8 => ?_⟩
    have o7 : okK 110 t7 (MN.minv m2) := o2.inv ht7
    refine ⟨.head _, rfl, .head _, rfl, t7, t8, (MN.minv m2).1, (MN.minv m1).1, _, _, _, _, rfl, rfl, ⟨ht7, ht8, o7.x.mono (by decide), o7.y.mono (by decide)⟩, fun t9 ht9 => ?_⟩
    have ht6' : mat t6 = some (MN.minv (MN.mmul m1 m2)).1 := ht6
    have ht9' : mat t9 = some (MN.mmul (MN.minv m2) (MN.minv m1)).1 := ht9
    refine ⟨.head _, rfl, .head _, t6, (MN.minv (MN.mmul m1 m2)).2.1, (MN.minv (MN.mmul m1 m2)).2.2, rfl, .inl ⟨t9, (MN.mmul (MN.minv m2) (MN.minv m1)).2.1, (MN.mmul (MN.minv m2) (MN.minv m1)).2.2, rfl, ifB_F ?_ ⟨_, rfl⟩⟩⟩
    rw [eqMot ht6' ht9', decide_eq_true (MN.minv_prod o1.orth o2.orth (mat_orth ht5))]
    rfl
  rintro ρ ⟨o6, rfl⟩
  have q1 := okMv (x := m1.2.1) (y := m1.2.2) o1.mt
  have q2 := okMv (x := m2.2.1) (y := m2.2.2) o2.mt
  have q3 := okMv (x := m3.2.1) (y := m3.2.2) o3.mt
  have s1 := (mat_str o1.mt).2.2
  have s2 := (mat_str o2.mt).2.2
  have s3 := (mat_str o3.mt).2.2
  have ql : okD 8 (.lst [mvD k1 m1, mvD k2 m2, mvD k3 m3]) = true := by simp [okD, s1, s2, s3]
  refine ⟨k1, _, _, rfl, k2, _, _, rfl, k3, _, _, rfl, leN rfl, ⟨ql, ql⟩, ifB_T ?_ ?_⟩
  · show eqD (.lst [mvD k1 m1, mvD k2 m2, mvD k3 m3]) (.lst [mvD k1 m1, mvD k2 m2, mvD k3 m3]) = true
    simp [eqD, eqDs]
  refine ⟨"none", (1, 0, 0, 1), 0, 0, rfl, rfl, rfl, .head _, rfl, .head _, rfl, k1, "none", m1.1, (1, 0, 0, 1), _, _, 0, 0, rfl, rfl, ⟨o1.mt, rfl, o1.x.mono (by decide), o1.y.mono (by decide)⟩, fun u hu => ?_⟩
  have hu' : mat u = some (MN.mmul m1 MN.mone).1 := hu
  refine ⟨.head _, rfl, .head _, u, (MN.mmul m1 MN.mone).2.1, (MN.mmul m1 MN.mone).2.2, rfl, .inl ⟨k1, m1.2.1, m1.2.2, rfl, ?_⟩⟩
  show Q (.bl (false != decide (u = k1 ∧ (MN.mmul m1 MN.mone).2.1 = m1.2.1 ∧ (MN.mmul m1 MN.mone).2.2 = m1.2.2)))
  rw [eqMot hu' o1.mt, decide_eq_true (MN.mul_mone m1)]
  exact h
end
end K07
namespace K07
open PySem PySem.Spec PyProof.Rows L2 Z Y
section
variable {P : Program} {w : World} {K : Frg} {mg : Str → Option Value} {base : Heap}
theorem ok__law_powers_right (T : Tx w K mg) : FnG P w K mg base (L2.CX P w) 13 (He.ga K "_law_powers_right") (spP K R__law_powers_right) := by
  refine y_fn T.d__law_powers_right sc__law_powers_right arl3 (fun _ _ _ _ _ _ us hl => match us, hl with | [_, _, _], _ => rfl) fun cdv A outer s H E B hB hr hx po => ⟨_, (s_cut (s_par (i := 3) (j := 4) (by rfl) sc__law_powers_right.nd rfl rfl (by decide) rfl rfl (a_cons (y_make T.mk_Motion (ok_Motion_UinitU T) (hr.mono (by decide)) rfl T.g_Motion hx (a_cons (y_ix (y_var (pv 1)) y_int (fun _ _ => rfl)) (a_cons (y_ix (y_var (pv 1)) y_int (fun _ _ => rfl)) a_nil))) (a_cons (y_var (pv 2)) a_nil)) (by rfl))
  (s_cons (s_set (i := 5) sc__law_powers_right.nd rfl (by first | exact Or.inl rfl | exact Or.inr rfl) (y_make T.mk_Motion (ok_Motion_UinitU T) (hr.mono (by decide)) rfl T.g_Motion hx (a_cons y_str a_nil)))
  (s_cons (s_for (t := .nm 6) po rfl (i_rng1 (by rfl) T.b_range (a_cons y_int a_nil)) (g_nm (pg_name (i := 6) sc__law_powers_right.nd rfl (by first | exact Or.inl rfl | exact Or.inr rfl)))
    (s_cut (s_par (i := 7) (j := 8) (by rfl) sc__law_powers_right.nd rfl rfl (by decide) rfl rfl (a_cons (y_meth (cs := ["Motion"]) (ns := ["own_kind", "own_shift"]) (y_var (pv 3)) (all1 ⟨T.cl_Motion, T.m_Motion_repeated⟩) (ok_Motion_repeated T) (hr.mono (by decide)) hx (a_cons (y_var (pv 6)) a_nil)) (a_cons (y_meth (cs := ["Motion"]) (ns := ["own_kind", "own_shift"]) (y_var (pv 3)) (all1 ⟨T.cl_Motion, T.m_Motion_repeated⟩) (ok_Motion_repeated T) (hr.mono (by decide)) hx (a_cons (y_op op_sub subL y_int (y_var (pv 6))) a_nil)) a_nil)) (by rfl))
  (s_cut (s_if (z_pt (z_or (z_cmp (op_neY hr.units) neL (y_callO (C := "Motion") (ns := ["own_kind", "own_shift"]) (y_var (pv 7)) T.co_Motion ((ok_Motion_UcallU T).at (hr.mono (by decide))) hx (a_cons (y_var (pv 2)) a_nil)) (y_var (pv 4)) (nomark _)) (z_or (z_cmpI (gop_ne (C := He.ga K "Motion") T.ow_Motion.ne T.ow_Motion.ob T.m_Motion_UeqU.at_ T.m_Motion_UeqU.fn ((ok_Motion_UeqU T).at (RoomG.in1 (hr.mono (by decide)))) hr.units hx) (eqOL (C := "Motion") (ns := ["own_kind", "own_shift"]) (cs := ["Motion"]) ⟨T.cl_Motion, T.ow_Motion⟩ (all1 ⟨⟨T.cl_Motion, T.ow_Motion⟩, nf_self⟩)) (y_var (pv 7)) (y_var (pv 5)) (nomark _)) (z_or1 (z_cmp (op_neY hr.units) neL (y_callO (C := "Motion") (ns := ["own_kind", "own_shift"]) (y_var (pv 8)) T.co_Motion ((ok_Motion_UcallU T).at (hr.mono (by decide))) hx (a_cons (y_var (pv 4)) a_nil)) (y_var (pv 2)) (nomark _))))))
    (s_one (s_ret y_bl))
    s_nil)
  (s_one (s_par (i := 4) (j := 5) (by rfl) sc__law_powers_right.nd rfl rfl (by decide) rfl rfl (a_cons (y_call (ok__law_carried T) (hr.mono (by decide)) rfl T.g__law_carried T.k__law_carried hx (a_cons (y_var (pv 1)) (a_cons (y_var (pv 4)) a_nil))) (a_cons (y_opI (gop_bin (C := He.ga K "Motion") T.ow_Motion.sf T.m_Motion_UmulU.at_ T.m_Motion_UmulU.fn ((ok_Motion_UmulU T).at (hr.mono (by decide))) hx) (binOL (C := "Motion") (ns := ["own_kind", "own_shift"])) (y_var (pv 5)) (y_var (pv 3))) a_nil)) (by rfl))))))
  (s_cut (s_set (i := 9) sc__law_powers_right.nd rfl (by first | exact Or.inl rfl | exact Or.inr rfl) (y_call (ok__law_great T) (hr.mono (by decide)) rfl T.g__law_great T.k__law_great hx (a_cons (y_var (pv 0)) (a_cons (y_op op_pow powL y_int y_int) a_nil))))
  (s_cut (s_set (i := 7) sc__law_powers_right.nd rfl (by first | exact Or.inl rfl | exact Or.inr rfl) (y_meth (cs := ["Motion"]) (ns := ["own_kind", "own_shift"]) (y_var (pv 3)) (all1 ⟨T.cl_Motion, T.m_Motion_repeated⟩) (ok_Motion_repeated T) (hr.mono (by decide)) hx (a_cons (y_var (pv 9)) a_nil)))
  (s_one (s_ret (y_and (y_cmpI (gop_eq (C := He.ga K "Motion") T.m_Motion_UeqU.at_ T.m_Motion_UeqU.fn ((ok_Motion_UeqU T).at (hr.mono (by decide))) hr.units hx) (eqOL (C := "Motion") (ns := ["own_kind", "own_shift"]) (cs := ["Motion"]) ⟨T.cl_Motion, T.ow_Motion⟩ (all1 ⟨⟨T.cl_Motion, T.ow_Motion⟩, nf_self⟩)) (y_opI (gop_bin (C := He.ga K "Motion") T.ow_Motion.sf T.m_Motion_UmulU.at_ T.m_Motion_UmulU.fn ((ok_Motion_UmulU T).at (hr.mono (by decide))) hx) (binOL (C := "Motion") (ns := ["own_kind", "own_shift"])) (y_var (pv 7)) (y_meth (cs := ["Motion"]) (ns := ["own_kind", "own_shift"]) (y_var (pv 3)) (all1 ⟨T.cl_Motion, T.m_Motion_repeated⟩) (ok_Motion_repeated T) (hr.mono (by decide)) hx (a_cons y_int a_nil))) (y_meth (cs := ["Motion"]) (ns := ["own_kind", "own_shift"]) (y_var (pv 3)) (all1 ⟨T.cl_Motion, T.m_Motion_repeated⟩) (ok_Motion_repeated T) (hr.mono (by decide)) hx (a_cons (y_op op_addY addL (y_var (pv 9)) y_int) a_nil)) (nomark _)) (y_one (y_cmpI (gop_eq (C := He.ga K "Motion") T.m_Motion_UeqU.at_ T.m_Motion_UeqU.fn ((ok_Motion_UeqU T).at (hr.mono (by decide))) hr.units hx) (eqOL (C := "Motion") (ns := ["own_kind", "own_shift"]) (cs := ["Motion"]) ⟨T.cl_Motion, T.ow_Motion⟩ (all1 ⟨⟨T.cl_Motion, T.ow_Motion⟩, nf_self⟩)) (y_meth (cs := ["Motion"]) (ns := ["own_kind", "own_shift"]) (y_var (pv 3)) (all1 ⟨T.cl_Motion, T.m_Motion_repeated⟩) (ok_Motion_repeated T) (hr.mono (by decide)) hx (a_cons (y_op op_mulY mulL y_int (y_var (pv 9))) a_nil)) (y_meth (cs := ["Motion"]) (ns := ["own_kind", "own_shift"]) (y_var (pv 7)) (all1 ⟨T.cl_Motion, T.m_Motion_repeated⟩) (ok_Motion_repeated T) (hr.mono (by decide)) hx (a_cons y_int a_nil)) (nomark _))))))))))), fun ds Q h => ?_⟩
  obtain ⟨a0, a1, a2, e0, hh⟩ := ar3E h
  clear h
  subst e0
  have h := hh
  clear hh
  try dsimp only at h
  rw [show startE (List.length N__law_powers_right) [a0, a1, a2] = [.val a0, .val a1, .val a2, .no, .no, .no, .no, .no, .no, .no] from rfl]
  split at h
  · obtain ⟨k, m, x, y, rfl, rfl, ⟨o, zx, zy⟩, h⟩ := h
    have n0 : MN.nrm (x, y) < 2 ^ 120 := Nat.lt_of_lt_of_le (nrm_of (n := 100) zx zy) (by decide)
    have oi : ∀ t, mat t = some (MN.minv m).1 → okK 110 t (MN.minv m) := fun t ht => o.inv ht
    obtain ⟨ti, hti⟩ := mat_tr o.mt
    have oI := oi ti hti
    refine ⟨fun ρ => ρ = [.val .tape, .val (mvD k m), .val (dPl x y), .val (dM k m), .val (dPl x y), .no, .no, .no, .no, .no], ⟨k, m.1, _, _, rfl, rfl, o.mt, rfl⟩, ?_⟩
    rintro ρ rfl
    refine ⟨"none", (1, 0, 0, 1), 0, 0, rfl, rfl, rfl, by decide, by decide, fun i ρ => ∃ t o6 o7 o8, mat t = some (MN.npow m i).1 ∧ ρ = [.val .tape, .val (mvD k m), .val (dPl x y), .val (dM k m), .val (plD (MN.mapp (MN.npow m i) (x, y))), .val (dM t (MN.npow m i)), o6, o7, o8, .no], ⟨"none", _, _, _, rfl, by rw [show MN.npow m 0 = MN.mone from rfl, MN.mapp_one]; rfl⟩, ?_, ?_⟩
    · rintro i d ρ hd ⟨t, o6, o7, o8, ht, rfl⟩
      obtain ⟨hi, rfl⟩ := rngD_at hd
      have hi7 : i < 7 := hi
      have e1 : MN.zpow m (0 + (i : Int)) = MN.npow m i := by rw [Int.zero_add, MN.zpow_nat]
      have e2 : MN.zpow m (0 - (0 + (i : Int))) = MN.npow (MN.minv m) i := by rw [Int.zero_add, MN.zpow_neg_nat]
      have zi : Sz 100 (0 + (i : Int)) := by
        show (0 + (i : Int)).natAbs < 2 ^ 100
        have : (7 : Nat) < 2 ^ 100 := by decide
        omega
      have zi2 : Sz 100 (0 - (0 + (i : Int))) := by
        show (0 - (0 + (i : Int))).natAbs < 2 ^ 100
        have : (7 : Nat) < 2 ^ 100 := by decide
        omega
      have op := npow_small o (by omega) ht
      have n1 := mapp_sz op n0
      refine ⟨fun ρ => ∃ t1 t2, mat t1 = some (MN.npow m i).1 ∧ mat t2 = some (MN.npow (MN.minv m) i).1 ∧ ρ = [.val .tape, .val (mvD k m), .val (dPl x y), .val (dM k m), .val (plD (MN.mapp (MN.npow m i) (x, y))), .val (dM t (MN.npow m i)), .val (.int (0 + (i : Nat))), .val (dM t1 (MN.npow m i)), .val (dM t2 (MN.npow (MN.minv m) i)), .no], ?_, ?_⟩
      · refine ⟨.head _, rfl, k, m, _, rfl, rfl, ⟨o.mono (by decide), zi.mono (by decide)⟩, fun t1 ht1 => ?_⟩
        refine ⟨.head _, rfl, k, m, _, rfl, rfl, ⟨o.mono (by decide), zi2.mono (by decide)⟩, fun t2 ht2 => ⟨t1, t2, by rw [← e1]; exact ht1, by rw [← e2]; exact ht2, by rw [← e1, ← e2]; rfl⟩⟩
      rintro ρ ⟨t1, t2, ht1, ht2, rfl⟩
      refine ⟨fun ρ => ρ = [.val .tape, .val (mvD k m), .val (dPl x y), .val (dM k m), .val (plD (MN.mapp (MN.npow m i) (x, y))), .val (dM t (MN.npow m i)), .val (.int (0 + (i : Nat))), .val (dM t1 (MN.npow m i)), .val (dM t2 (MN.npow (MN.minv m) i)), .no], ?_, ?_⟩
      · refine ⟨.head _, rfl, t1, MN.npow m i, x, y, rfl, rfl, ⟨ht1, zx.mono (by decide), zy.mono (by decide)⟩, ⟨rfl, rfl⟩, ifB_F ?_ ?_⟩
        · show (!eqD (.tup [.int _, .int _]) (.tup [.int _, .int _])) = false
          rw [eqN2]
          simp
        refine ⟨.head _, rfl, .head _, t1, (MN.npow m i).2.1, (MN.npow m i).2.2, rfl, .inl ⟨t, (MN.npow m i).2.1, (MN.npow m i).2.2, rfl, ifB_F ?_ ?_⟩⟩
        · rw [eqMot ht1 ht]
          simp
        refine ⟨.head _, rfl, t2, MN.npow (MN.minv m) i, (MN.mapp (MN.npow m i) (x, y)).1, (MN.mapp (MN.npow m i) (x, y)).2, rfl, rfl, ⟨ht2, (nrm_x n1).mono (by decide), (nrm_y n1).mono (by decide)⟩, ⟨rfl, rfl⟩, ifB_F ?_ rfl⟩
        have e : MN.mapp (MN.npow (MN.minv m) i) ((MN.mapp (MN.npow m i) (x, y)).1, (MN.mapp (MN.npow m i) (x, y)).2) = (x, y) := MN.mapp_pow_inv o.orth (x, y) i
        rw [e]
        show (!eqD (.tup [.int x, .int y]) (.tup [.int x, .int y])) = false
        rw [eqN2]
        simp
      rintro ρ rfl
      refine ⟨k, m, (MN.mapp (MN.npow m i) (x, y)).1, (MN.mapp (MN.npow m i) (x, y)).2, rfl, rfl, o.mt, .head _, rfl, .head _, rfl, t, k, (MN.npow m i).1, m.1, _, _, _, _, rfl, rfl, ⟨ht, o.mt, op.x.mono (by decide), op.y.mono (by decide)⟩, fun v hv => ⟨v, .val (.int (0 + (i : Nat))), .val (dM t1 (MN.npow m i)), .val (dM t2 (MN.npow (MN.minv m) i)), hv, ?_⟩⟩
      rw [MN.mapp_pow]
      rfl
    · rintro ρ ⟨t, o6, o7, o8, ht, rfl⟩
      have p27 : (10 : Int) ^ (Int.toNat 27) = 1000000000000000000000000000 := by decide
      refine ⟨fun ρ => ∃ f, Sz 100 f ∧ ρ = [.val .tape, .val (mvD k m), .val (dPl x y), .val (dM k m), .val (plD (MN.mapp (MN.npow m 7) (x, y))), .val (dM t (MN.npow m 7)), o6, o7, o8, .val (.int f)], ?_, ?_⟩
      · refine ⟨⟨by decide, by decide, by decide⟩, ⟨by rw [p27]; decide, (sz_lit (n := 100) (by rw [p27]; decide)).mono (by decide)⟩, fun f f1 f2 => ⟨f, ?_, rfl⟩⟩
        rw [p27] at f1 f2
        show f.natAbs < 2 ^ 100
        have : (1000000000000000000000000000 : Nat) < 2 ^ 100 := by decide
        omega
      rintro ρ ⟨f, zf, rfl⟩
      have zf' : f.natAbs < 2 ^ 100 := zf
      refine ⟨fun ρ => ∃ t1, mat t1 = some (MN.zpow m f).1 ∧ ρ = [.val .tape, .val (mvD k m), .val (dPl x y), .val (dM k m), .val (plD (MN.mapp (MN.npow m 7) (x, y))), .val (dM t (MN.npow m 7)), o6, .val (dM t1 (MN.zpow m f)), o8, .val (.int f)], ⟨.head _, rfl, k, m, f, rfl, rfl, ⟨o.mono (by decide), zf.mono (by decide)⟩, fun t1 ht1 => ⟨t1, ht1, rfl⟩⟩, ?_⟩
      rintro ρ ⟨t1, ht1, rfl⟩
      have ozf : okK 210 t1 (MN.zpow m f) := zpow_ok o zf ht1
      have p101 : (2 : Nat) ^ 101 = 2 * 2 ^ 100 := by decide
      have p1 : (8 : Nat) < 2 ^ 100 := by decide
      refine ⟨.head _, rfl, k, m, 4, rfl, rfl, ⟨o.mono (by decide), szP (by decide) (by decide)⟩, fun t4 ht4 => ?_⟩
      refine ⟨.head _, rfl, .head _, rfl, t1, t4, (MN.zpow m f).1, (MN.zpow m 4).1, _, _, _, _, rfl, rfl, ⟨ht1, ht4, ozf.x.mono (by decide), ozf.y.mono (by decide)⟩, fun t5 ht5 => ?_⟩
      have z4 : Sz 200 (f + 4) := Sz.mono (a := 101) (by show (f + 4).natAbs < 2 ^ 101; omega) (by decide)
      refine ⟨.head _, rfl, k, m, f + 4, rfl, rfl, ⟨o.mono (by decide), z4⟩, fun t6 ht6 => ?_⟩
      have ht5' : mat t5 = some (MN.mmul (MN.zpow m f) (MN.zpow m 4)).1 := ht5
      refine ⟨.head _, rfl, .head _, t5, (MN.mmul (MN.zpow m f) (MN.zpow m 4)).2.1, (MN.mmul (MN.zpow m f) (MN.zpow m 4)).2.2, rfl, .inl ⟨t6, (MN.zpow m (f + 4)).2.1, (MN.zpow m (f + 4)).2.2, rfl, ifB_T ?_ ?_⟩⟩
      · rw [eqMot ht5' ht6, decide_eq_true (MN.zpow_four o.orth f)]
        rfl
      have z2 : Sz 200 (2 * f) := Sz.mono (a := 101) (by show (2 * f).natAbs < 2 ^ 101; omega) (by decide)
      refine ⟨.head _, rfl, ⟨szP (by decide) (by decide), zf.mono (by decide)⟩, k, m, 2 * f, rfl, rfl, ⟨o.mono (by decide), z2⟩, fun t7 ht7 => ?_⟩
      refine ⟨.head _, rfl, t1, MN.zpow m f, 2, rfl, rfl, ⟨ozf.mono (by decide), szP (by decide) (by decide)⟩, fun t8 ht8 => ?_⟩
      refine ⟨.head _, rfl, .head _, t7, (MN.zpow m (2 * f)).2.1, (MN.zpow m (2 * f)).2.2, rfl, .inl ⟨t8, (MN.zpow (MN.zpow m f) 2).2.1, (MN.zpow (MN.zpow m f) 2).2.2, rfl, ?_⟩⟩
      show Q (.bl (false != decide (t7 = t8 ∧ (MN.zpow m (2 * f)).2.1 = (MN.zpow (MN.zpow m f) 2).2.1 ∧ (MN.zpow m (2 * f)).2.2 = (MN.zpow (MN.zpow m f) 2).2.2)))
      rw [eqMot ht7 ht8, decide_eq_true (MN.zpow_two m f)]
      exact h
  · exact h.elim
end
end K07
namespace K07
open PySem PySem.Spec PyProof.Rows L2 Z Y
section
variable {P : Program} {w : World} {K : Frg} {mg : Str → Option Value} {base : Heap}
theorem ok_law (T : Tx w K mg) : ∀ base : Heap, FnG P w K mg base (L2.CX P w) 15 (He.ga K "law") (spLaw K) := by
  refine y_law (i := 1) T.d_law sc_law (fun _ _ _ _ _ _ us hl => match us, hl with | [_], _ => rfl) rfl (fun base => ok__law_tape T) T.g__law_tape T.k__law_tape (by decide) rfl rfl (by decide) (fun _ _ => rfl) (by first | exact Or.inl rfl | exact Or.inr (Or.inl rfl)) (by first | exact Or.inl rfl | exact Or.inr rfl) (fun _ _ => rfl) (fun _ _ => rfl) (by decide) (by decide) fun base cdv A outer s H E B hB hE hr hx po => ⟨_, (s_cut (s_set (i := 2) sc_law.nd rfl (by first | exact Or.inl rfl | exact Or.inr rfl) (y_lst (a_cons (y_call (ok__law_place T) (hr.mono (by decide)) rfl T.g__law_place T.k__law_place hx (a_cons (y_var (pv 1)) a_nil)) (a_cons (y_call (ok__law_place T) (hr.mono (by decide)) rfl T.g__law_place T.k__law_place hx (a_cons (y_var (pv 1)) a_nil)) (a_cons (y_tup (a_cons y_int (a_cons y_int a_nil))) (a_cons (y_tup (a_cons y_int (a_cons y_int a_nil))) a_nil))))))
  (s_cons (s_for (t := .nm 3) po rfl (i_lst (y_call0 (ok__law_kinds T) (hr.mono (by decide)) rfl T.g__law_kinds T.k__law_kinds hx)) (g_nm (pg_name (i := 3) sc_law.nd rfl (by first | exact Or.inl rfl | exact Or.inr rfl)))
    (s_cut (s_set (i := 4) sc_law.nd rfl (by first | exact Or.inl rfl | exact Or.inr rfl) (y_tup (a_cons (y_var (pv 3)) (a_cons (y_call (ok__law_place T) (hr.mono (by decide)) rfl T.g__law_place T.k__law_place hx (a_cons (y_var (pv 1)) a_nil)) a_nil))))
  (s_cut (s_if (z_pt (z_or (z_not (z_val (y_call (ok__law_right T) (hr.mono (by decide)) rfl T.g__law_right T.k__law_right hx (a_cons (y_var (pv 4)) (a_cons (y_var (pv 2)) a_nil))))) (z_or1 (z_not (z_val (y_call (ok__law_powers_right T) (hr.mono (by decide)) rfl T.g__law_powers_right T.k__law_powers_right hx (a_cons (y_var (pv 1)) (a_cons (y_var (pv 4)) (a_cons (y_ix (y_var (pv 2)) (y_call (ok__law_draw T) (hr.mono (by decide)) rfl T.g__law_draw T.k__law_draw hx (a_cons (y_var (pv 1)) (a_cons y_int a_nil))) (fun _ _ => rfl)) a_nil)))))))))
    (s_one (s_ret y_bl))
    s_nil)
  (s_cut (s_set (i := 5) sc_law.nd rfl (by first | exact Or.inl rfl | exact Or.inr rfl) (y_make T.mk_Motion (ok_Motion_UinitU T) (hr.mono (by decide)) rfl T.g_Motion hx (a_cons (y_var (pv 3)) a_nil)))
  (s_one (s_if (z_pt (z_or (z_cmpI (gop_ne (C := He.ga K "Motion") T.ow_Motion.ne T.ow_Motion.ob T.m_Motion_UeqU.at_ T.m_Motion_UeqU.fn ((ok_Motion_UeqU T).at (RoomG.in1 (hr.mono (by decide)))) hr.units hx) (eqOL (C := "Motion") (ns := ["own_kind", "own_shift"]) (cs := ["Motion"]) ⟨T.cl_Motion, T.ow_Motion⟩ (all1 ⟨⟨T.cl_Motion, T.ow_Motion⟩, nf_self⟩)) (y_var (pv 5)) (y_make T.mk_Motion (ok_Motion_UinitU T) (hr.mono (by decide)) rfl T.g_Motion hx (a_cons (y_var (pv 3)) (a_cons (y_tup (a_cons y_int (a_cons y_int a_nil))) a_nil))) (nomark _)) (z_or1 (z_cmp (op_neY hr.units) neL (y_callO (C := "Motion") (ns := ["own_kind", "own_shift"]) (y_var (pv 5)) T.co_Motion ((ok_Motion_UcallU T).at (hr.mono (by decide))) hx (a_cons (y_tup (a_cons y_int (a_cons y_int a_nil))) a_nil)) (y_call (ok__law_turned T) (hr.mono (by decide)) rfl T.g__law_turned T.k__law_turned hx (a_cons (y_var (pv 3)) (a_cons (y_tup (a_cons y_int (a_cons y_int a_nil))) a_nil))) (nomark _)))))
    (s_one (s_ret y_bl))
    s_nil))))))
  (s_cons (s_for (t := .nm 6) po rfl (i_rng1 (by rfl) T.b_range (a_cons y_int a_nil)) (g_nm (pg_name (i := 6) sc_law.nd rfl (by first | exact Or.inl rfl | exact Or.inr rfl)))
    (s_one (s_if (z_not (z_val (y_call (ok__law_products_right T) (hr.mono (by decide)) rfl T.g__law_products_right T.k__law_products_right hx (a_cons (y_lst (a_cons (y_call (ok__law_far_move T) (hr.mono (by decide)) rfl T.g__law_far_move T.k__law_far_move hx (a_cons (y_var (pv 1)) a_nil)) (a_cons (y_call (ok__law_far_move T) (hr.mono (by decide)) rfl T.g__law_far_move T.k__law_far_move hx (a_cons (y_var (pv 1)) a_nil)) (a_cons (y_call (ok__law_far_move T) (hr.mono (by decide)) rfl T.g__law_far_move T.k__law_far_move hx (a_cons (y_var (pv 1)) a_nil)) a_nil)))) (a_cons (y_var (pv 2)) a_nil)))))
    (s_one (s_ret y_bl))
    s_nil)))
  (s_cut (s_par (i := 7) (j := 8) (by rfl) sc_law.nd rfl rfl (by decide) rfl rfl (a_cons (y_call (ok__law_far_move T) (hr.mono (by decide)) rfl T.g__law_far_move T.k__law_far_move hx (a_cons (y_var (pv 1)) a_nil)) (a_cons (y_call (ok__law_far_move T) (hr.mono (by decide)) rfl T.g__law_far_move T.k__law_far_move hx (a_cons (y_var (pv 1)) a_nil)) a_nil)) (by rfl))
  (s_cut (s_asg (t := .tp [9, 10]) (y_tup (a_cons (y_make T.mk_Motion (ok_Motion_UinitU T) (hr.mono (by decide)) rfl T.g_Motion hx (a_cons (y_ix (y_var (pv 7)) y_int (fun _ _ => rfl)) (a_cons (y_ix (y_var (pv 7)) y_int (fun _ _ => rfl)) a_nil))) (a_cons (y_make T.mk_Motion (ok_Motion_UinitU T) (hr.mono (by decide)) rfl T.g_Motion hx (a_cons (y_ix (y_var (pv 8)) y_int (fun _ _ => rfl)) (a_cons (y_ix (y_var (pv 8)) y_int (fun _ _ => rfl)) a_nil))) a_nil))) (g_tp (is := [9, 10]) rfl (pgs_cons (pg_name (i := 9) sc_law.nd rfl (by first | exact Or.inl rfl | exact Or.inr rfl)) (pgs_cons (pg_name (i := 10) sc_law.nd rfl (by first | exact Or.inl rfl | exact Or.inr rfl)) pgs_nil))))
  (s_cut (s_if (z_cmp (op_neY hr.units) neL (y_callB (call_reprD hr) reprL (by rfl) T.b_repr (by decide +kernel) (a_cons (y_lst (a_cons (y_cmpI (gop_eq (C := He.ga K "Motion") T.m_Motion_UeqU.at_ T.m_Motion_UeqU.fn ((ok_Motion_UeqU T).at (hr.mono (by decide))) hr.units hx) (eqOL (C := "Motion") (ns := ["own_kind", "own_shift"]) (cs := ["Motion"]) ⟨T.cl_Motion, T.ow_Motion⟩ (all1 ⟨⟨T.cl_Motion, T.ow_Motion⟩, nf_self⟩)) (y_var (pv 9)) (y_var (pv 10)) (nomark _)) (a_cons (y_cmpI (gop_ne (C := He.ga K "Motion") T.ow_Motion.ne T.ow_Motion.ob T.m_Motion_UeqU.at_ T.m_Motion_UeqU.fn ((ok_Motion_UeqU T).at (RoomG.in1 (hr.mono (by decide)))) hr.units hx) (eqOL (C := "Motion") (ns := ["own_kind", "own_shift"]) (cs := ["Motion"]) ⟨T.cl_Motion, T.ow_Motion⟩ (all1 ⟨⟨T.cl_Motion, T.ow_Motion⟩, nf_self⟩)) (y_var (pv 9)) (y_var (pv 10)) (nomark _)) a_nil))) a_nil)) (y_callB (call_reprD hr) reprL (by rfl) T.b_repr (by decide +kernel) (a_cons (y_lst (a_cons (y_cmp (op_eqY hr.units) eqL (y_var (pv 7)) (y_var (pv 8)) (nomark _)) (a_cons (y_cmp (op_neY hr.units) neL (y_var (pv 7)) (y_var (pv 8)) (nomark _)) a_nil))) a_nil)) (nomark _))
    (s_one (s_ret y_bl))
    s_nil)
  (s_cut (s_if (z_cmp (op_neY hr.units) neL (y_lc (own := [("_law_odd", 11)]) (t := .nm 11) rfl sc_law.nd (i_lst (y_lst (a_cons y_non (a_cons (y_var (pv 7)) (a_cons (y_ix (y_var (pv 7)) y_int (fun _ _ => rfl)) (a_cons y_int (a_cons (y_lst (a_cons (y_var (pv 9)) a_nil)) a_nil))))))) (blkOk_by (own := [("_law_odd", 11)]) (N := N_law) (sc := defScope s_law) (by decide +kernel)) (fun _ _ _ _ _ => (g_nm (pg_name (i := 11) sc_law.nd rfl (by first | exact Or.inl rfl | exact Or.inr rfl)))) (fun _ _ _ _ _ => (c_one (z_pt (z_or (z_cmpI (gop_eq (C := He.ga K "Motion") T.m_Motion_UeqU.at_ T.m_Motion_UeqU.fn ((ok_Motion_UeqU T).at (hr.mono (by decide))) hr.units px_nox) (eqOL (C := "Motion") (ns := ["own_kind", "own_shift"]) (cs := ["Motion"]) ⟨T.cl_Motion, T.ow_Motion⟩ (all1 ⟨⟨T.cl_Motion, T.ow_Motion⟩, nf_self⟩)) (y_var (pv 9)) (y_var (pv 11)) (nomark _)) (z_or1 (z_not (z_cmpI (gop_ne (C := He.ga K "Motion") T.ow_Motion.ne T.ow_Motion.ob T.m_Motion_UeqU.at_ T.m_Motion_UeqU.fn ((ok_Motion_UeqU T).at (RoomG.in1 (hr.mono (by decide)))) hr.units px_nox) (eqOL (C := "Motion") (ns := ["own_kind", "own_shift"]) (cs := ["Motion"]) ⟨T.cl_Motion, T.ow_Motion⟩ (all1 ⟨⟨T.cl_Motion, T.ow_Motion⟩, nf_self⟩)) (y_var (pv 9)) (y_var (pv 11)) (nomark _)))))))) (fun _ _ _ _ _ => (y_var (pv 11)))) (y_lst a_nil) (nomark _))
    (s_one (s_ret y_bl))
    s_nil)
  (s_one (s_ret (y_and (y_cmpI (gop_eq (C := He.ga K "Motion") T.m_Motion_UeqU.at_ T.m_Motion_UeqU.fn ((ok_Motion_UeqU T).at (hr.mono (by decide))) hr.units hx) (eqOL (C := "Motion") (ns := ["own_kind", "own_shift"]) (cs := ["Motion"]) ⟨T.cl_Motion, T.ow_Motion⟩ (all1 ⟨⟨T.cl_Motion, T.ow_Motion⟩, nf_self⟩)) (y_smeth rfl T.g_Motion T.sm_Motion_by (ok_Motion_by T) (hr.mono (by decide)) hx (a_cons (y_tup (a_cons y_int (a_cons (y_un un_neg negL y_int) a_nil))) a_nil)) (y_make T.mk_Motion (ok_Motion_UinitU T) (hr.mono (by decide)) rfl T.g_Motion hx (a_cons y_str (a_cons (y_tup (a_cons y_int (a_cons (y_un un_neg negL y_int) a_nil))) a_nil))) (nomark _)) (y_one (y_cmp (op_eqY hr.units) eqL (y_cval rfl T.g_Motion T.rd_Motion T.cv_Motion_KINDS) (y_callT call_tuple_of tupleL (by rfl) T.b_tuple (by decide +kernel) (a_cons (y_call0 (ok__law_kinds T) (hr.mono (by decide)) rfl T.g__law_kinds T.k__law_kinds hx) a_nil)) (nomark _))))))))))))), ?_⟩
  rw [show (List.replicate (List.length N_law) Sl.no).set 1 (.val .tape) = [.no, .val .tape, .no, .no, .no, .no, .no, .no, .no, .no, .no, .no] from rfl]
  refine ⟨fun ρ => ∃ ps : List (Int × Int), ps.length = 4 ∧ plsS ps ∧ ρ = [.no, .val .tape, .val (.lst (ps.map plD)), .no, .no, .no, .no, .no, .no, .no, .no, .no], ?_, ?_⟩
  · intro x y zx zy
    intro u v zu zv
    refine ⟨leN rfl, leN rfl, leN rfl, [(x, y), (u, v), (0, 0), (1, 2)], rfl, fun p hp => ?_, rfl⟩
    simp only [List.mem_cons, List.not_mem_nil, or_false] at hp
    rcases hp with rfl | rfl | rfl | rfl
    · exact ⟨zx, zy⟩
    · exact ⟨zu, zv⟩
    · exact ⟨szP (by decide) (by decide), szP (by decide) (by decide)⟩
    · exact ⟨szP (by decide) (by decide), szP (by decide) (by decide)⟩
  rintro ρ ⟨ps, p4, hps, rfl⟩
  refine ⟨fun i ρ => ∃ o3 o4 o5, ρ = [.no, .val .tape, .val (.lst (ps.map plD)), o3, o4, o5, .no, .no, .no, .no, .no, .no], ⟨_, _, _, rfl⟩, ?_, ?_⟩
  · rintro i d ρ hd ⟨o3, o4, o5, rfl⟩
    obtain ⟨⟨k, M⟩, hq, rfl⟩ := map_get hd
    have hM := mat_of_mem (List.mem_of_getElem? hq)
    refine ⟨fun ρ => ∃ m : MN.Mtn, m.1 = M ∧ okK 110 k m ∧ ρ = [.no, .val .tape, .val (.lst (ps.map plD)), .val (.str k), .val (mvD k m), o5, .no, .no, .no, .no, .no, .no], ?_, ?_⟩
    · refine fun x y zx zy => ⟨leN rfl, (M, x, y), rfl, ⟨hM, Nat.lt_of_lt_of_le (nrm_of (n := 100) (p := (x, y)) zx zy) (by decide)⟩, rfl⟩
    rintro ρ ⟨m, rfl, o, rfl⟩
    refine ⟨fun ρ => ρ = [.no, .val .tape, .val (.lst (ps.map plD)), .val (.str k), .val (mvD k m), o5, .no, .no, .no, .no, .no, .no], ?_, ?_⟩
    · refine ⟨k, m, ps, rfl, rfl, ⟨o, hps⟩, ifB_F rfl ⟨⟨by decide, szP (by decide) (by decide)⟩, fun e1 l1 u1 => ?_⟩⟩
      obtain ⟨d1, ed1, m1⟩ := atI_D (ds := ps.map plD) (k := e1) l1 (by rw [List.length_map]; omega)
      obtain ⟨⟨x, y⟩, hp, rfl⟩ := List.mem_map.mp m1
      obtain ⟨zx, zy⟩ := hps _ hp
      exact dIx_l ed1 ⟨k, m, x, y, rfl, rfl, ⟨o, zx, zy⟩, ifB_F rfl rfl⟩
    rintro ρ rfl
    refine ⟨fun ρ => ρ = [.no, .val .tape, .val (.lst (ps.map plD)), .val (.str k), .val (mvD k m), .val (dMot k 0 0), .no, .no, .no, .no, .no, .no], ⟨k, m.1, 0, 0, rfl, rfl, hM, rfl⟩, ?_⟩
    rintro ρ rfl
    refine ⟨leN rfl, k, m.1, 0, 0, rfl, rfl, hM, .head _, rfl, .head _, k, 0, 0, rfl, .inl ⟨k, 0, 0, rfl, ifB_F (by simp) ?_⟩⟩
    refine ⟨.head _, rfl, leN rfl, k, (m.1, 0, 0), 3, 5, rfl, rfl, ⟨hM, szP (by decide) (by decide), szP (by decide) (by decide)⟩, leN rfl, k, m.1, 3, 5, rfl, rfl, hM, ⟨rfl, rfl⟩, ifB_F ?_ ⟨_, _, _, rfl⟩⟩
    show (!eqD (.tup [.int ((MN.turn m.1 (3, 5)).1 + 0), .int ((MN.turn m.1 (3, 5)).2 + 0)]) (.tup [.int (MN.turn m.1 (3, 5)).1, .int (MN.turn m.1 (3, 5)).2])) = false
    rw [eqN2]
    simp
  rintro ρ ⟨o3, o4, o5, rfl⟩
  refine ⟨by decide, by decide, fun i ρ => ∃ o6, ρ = [.no, .val .tape, .val (.lst (ps.map plD)), o3, o4, o5, o6, .no, .no, .no, .no, .no], ⟨_, rfl⟩, ?_, ?_⟩
  · rintro i d ρ hd ⟨o6, rfl⟩
    exact fun k1 m1 q1 k2 m2 q2 k3 m3 q3 => ⟨leN rfl, k1, m1, k2, m2, k3, m3, ps, rfl, rfl, ⟨⟨q1, q2, q3⟩, hps⟩, ifB_F rfl ⟨_, rfl⟩⟩
  rintro ρ ⟨o6, rfl⟩
  refine ⟨fun ρ => ∃ k1 m1 k2 m2, okK 110 k1 m1 ∧ okK 110 k2 m2 ∧ ρ = [.no, .val .tape, .val (.lst (ps.map plD)), o3, o4, o5, o6, .val (mvD k1 m1), .val (mvD k2 m2), .no, .no, .no], fun k1 m1 q1 k2 m2 q2 => ⟨k1, m1, k2, m2, q1, q2, rfl⟩, ?_⟩
  rintro ρ ⟨k1, m1, k2, m2, q1, q2, rfl⟩
  refine ⟨fun ρ => True ∧ ρ = [.no, .val .tape, .val (.lst (ps.map plD)), o3, o4, o5, o6, .val (mvD k1 m1), .val (mvD k2 m2), .val (dM k1 m1), .val (dM k2 m2), .no], ⟨k1, m1.1, _, _, rfl, rfl, q1.mt, k2, m2.1, _, _, rfl, rfl, q2.mt, leN rfl, trivial, rfl⟩, ?_⟩
  rintro ρ ⟨_, rfl⟩
  refine ⟨fun ρ => ρ = [.no, .val .tape, .val (.lst (ps.map plD)), o3, o4, o5, o6, .val (mvD k1 m1), .val (mvD k2 m2), .val (dM k1 m1), .val (dM k2 m2), .no], ?_, ?_⟩
  · refine ⟨.head _, rfl, .head _, k1, _, _, rfl, .inl ⟨k2, _, _, rfl, .head _, rfl, .head _, k1, _, _, rfl, .inl ⟨k2, _, _, rfl, leN rfl, ⟨⟨trivial, trivial, trivial⟩, ltN rfl, ltN rfl⟩, ⟨okMv q1.mt, okMv q2.mt⟩, ⟨okMv q1.mt, okMv q2.mt⟩, leN rfl, ⟨⟨trivial, trivial, trivial⟩, ltN rfl, ltN rfl⟩, ifB_F ?_ rfl⟩⟩⟩
    rw [eqMv]
    simp
  rintro ρ rfl
  refine ⟨fun ρ => ∃ o11, ρ = [.no, .val .tape, .val (.lst (ps.map plD)), o3, o4, o5, o6, .val (mvD k1 m1), .val (mvD k2 m2), .val (dM k1 m1), .val (dM k2 m2), o11], ?_, ?_⟩
  · refine ⟨leN rfl, leN rfl, leN rfl, mapI_of (⟨.head _, rfl, trivial, k1, _, _, rfl, .inr ⟨trivial, ifB_F rfl ⟨.head _, rfl, trivial, k1, _, _, rfl, .inr ⟨trivial, ifB_F rfl (⟨.head _, rfl, trivial, k1, _, _, rfl, .inr ⟨trivial, ifB_F rfl ⟨.head _, rfl, trivial, k1, _, _, rfl, .inr ⟨trivial, ifB_F rfl (⟨.head _, rfl, trivial, k1, _, _, rfl, .inr ⟨trivial, ifB_F rfl ⟨.head _, rfl, trivial, k1, _, _, rfl, .inr ⟨trivial, ifB_F rfl (⟨.head _, rfl, trivial, k1, _, _, rfl, .inr ⟨trivial, ifB_F rfl ⟨.head _, rfl, trivial, k1, _, _, rfl, .inr ⟨trivial, ifB_F rfl (⟨.head _, rfl, trivial, k1, _, _, rfl, .inr ⟨trivial, ifB_F rfl ⟨.head _, rfl, trivial, k1, _, _, rfl, .inr ⟨trivial, ifB_F rfl (⟨leN rfl, ⟨rfl, rfl⟩, ifB_F rfl ⟨_, rfl⟩⟩)⟩⟩⟩⟩)⟩⟩⟩⟩)⟩⟩⟩⟩)⟩⟩⟩⟩)⟩⟩⟩⟩)⟩
  rintro ρ ⟨o11, rfl⟩
  refine ⟨leN rfl, 3, -4, rfl, leN rfl, "none", (1, 0, 0, 1), 3, -4, rfl, rfl, rfl, .head _, rfl, .head _, "none", 3, -4, rfl, .inl ⟨"none", 3, -4, rfl, ifB_T (by simp) ?_⟩⟩
  refine ⟨⟨by decide +kernel, by decide +kernel⟩, ?_⟩
  exact congrArg D.bl (by decide +kernel)
end
end K07
namespace K07
open PySem PySem.Spec PyProof.Rows L2 Z Y
def fs : List (Frg → Bool) := [bFree "abs", bFree "all", bFree "bool", bFree "int", bFree "isinstance", bFree "len", bFree "list", bFree "range", bFree "repr", bFree "str", bFree "tuple", bCls "Motion", bCallO "Motion", bCV "Motion" "KINDS" (.tup [(.str "none"), (.str "left"), (.str "half"), (.str "right"), (.str "flip"), (.str "mirror"), (.str "swap"), (.str "cross")]), bDfl ("Motion", some "__init__") (.tup [(.int (0)), (.int (0))]), bGlo "BACK", bGlo "MATRICES", bGlo "MIRRORED", bGlo "Motion", bGlo "_law_carried", bGlo "_law_draw", bGlo "_law_far_move", bGlo "_law_great", bGlo "_law_kinds", bGlo "_law_place", bGlo "_law_powers_right", bGlo "_law_products_right", bGlo "_law_right", bGlo "_law_tape", bGlo "_law_told", bGlo "_law_turned", bGlo "check_place", bGlo "is_integer", bGlo "is_place", bGlo "joined_kind", bGlo "law", bGlo "plus", bGlo "turned", bVD "MIRRORED" tup_MIRRORED, bKeep "_law_carried", bKeep "_law_draw", bKeep "_law_far_move", bKeep "_law_great", bKeep "_law_kinds", bKeep "_law_place", bKeep "_law_powers_right", bKeep "_law_products_right", bKeep "_law_right", bKeep "_law_tape", bKeep "_law_told", bKeep "_law_turned", bKeep "check_place", bKeep "is_integer", bKeep "is_place", bKeep "joined_kind", bKeep "plus", bKeep "turned", bMeth "Motion" "__eq__", bMeth "Motion" "__invert__", bMeth "Motion" "__mul__", bMeth "Motion" "__repr__", bMeth "Motion" "image", bMeth "Motion" "repeated", bMk "Motion", bNo "Motion" "own_kind", bNo "Motion" "own_shift", bOwn "Motion", bProp "Motion" "is_mirrored", bProp "Motion" "kind", bProp "Motion" "shift", bRd "Motion", bSM "Motion" "by", bTab "BACK" tab_BACK, bTab "MATRICES" tab_MATRICES]
def fn : List He5.DefA := [⟨fun K => (He.ga K "is_integer"), "is_integer", "is_integer", defArgs s_is_integer, defBody s_is_integer, defScope s_is_integer, [], []⟩, ⟨fun K => (He.ga K "is_place"), "is_place", "is_place", defArgs s_is_place, defBody s_is_place, defScope s_is_place, [], []⟩, ⟨fun K => (He.ga K "check_place"), "check_place", "check_place", defArgs s_check_place, defBody s_check_place, defScope s_check_place, [], []⟩, ⟨fun K => (He.ga K "plus"), "plus", "plus", defArgs s_plus, defBody s_plus, defScope s_plus, [], []⟩, ⟨fun K => (He.ga K "turned"), "turned", "turned", defArgs s_turned, defBody s_turned, defScope s_turned, [], []⟩, ⟨fun K => (He.ga K "joined_kind"), "joined_kind", "joined_kind", defArgs s_joined_kind, defBody s_joined_kind, defScope s_joined_kind, [], []⟩, ⟨fun K => (He.ma K (He.ga K "Motion") "__init__"), "__init__", "Motion.__init__", defArgs s_Motion_UinitU, defBody s_Motion_UinitU, defScope s_Motion_UinitU, [.adr (He.dflAt ("Motion", some "__init__") 0)], []⟩, ⟨fun K => (He5.wf K (He.ga K "Motion") "staticmethod" "by"), "by", "Motion.by", defArgs s_Motion_by, defBody s_Motion_by, defScope s_Motion_by, [], []⟩, ⟨fun K => (He5.wf K (He.ga K "Motion") "property" "kind"), "kind", "Motion.kind", defArgs s_Motion_kind, defBody s_Motion_kind, defScope s_Motion_kind, [], []⟩, ⟨fun K => (He5.wf K (He.ga K "Motion") "property" "shift"), "shift", "Motion.shift", defArgs s_Motion_shift, defBody s_Motion_shift, defScope s_Motion_shift, [], []⟩, ⟨fun K => (He5.wf K (He.ga K "Motion") "property" "is_mirrored"), "is_mirrored", "Motion.is_mirrored", defArgs s_Motion_is_mirrored, defBody s_Motion_is_mirrored, defScope s_Motion_is_mirrored, [], []⟩, ⟨fun K => (He.ma K (He.ga K "Motion") "image"), "image", "Motion.image", defArgs s_Motion_image, defBody s_Motion_image, defScope s_Motion_image, [], []⟩, ⟨fun K => (He.ma K (He.ga K "Motion") "__call__"), "__call__", "Motion.__call__", defArgs s_Motion_UcallU, defBody s_Motion_UcallU, defScope s_Motion_UcallU, [], []⟩, ⟨fun K => (He.ma K (He.ga K "Motion") "__mul__"), "__mul__", "Motion.__mul__", defArgs s_Motion_UmulU, defBody s_Motion_UmulU, defScope s_Motion_UmulU, [], []⟩, ⟨fun K => (He.ma K (He.ga K "Motion") "__invert__"), "__invert__", "Motion.__invert__", defArgs s_Motion_UinvertU, defBody s_Motion_UinvertU, defScope s_Motion_UinvertU, [], []⟩, ⟨fun K => (He.ma K (He.ga K "Motion") "repeated"), "repeated", "Motion.repeated", defArgs s_Motion_repeated, defBody s_Motion_repeated, defScope s_Motion_repeated, [], []⟩, ⟨fun K => (He.ma K (He.ga K "Motion") "__eq__"), "__eq__", "Motion.__eq__", defArgs s_Motion_UeqU, defBody s_Motion_UeqU, defScope s_Motion_UeqU, [], []⟩, ⟨fun K => (He.ma K (He.ga K "Motion") "__repr__"), "__repr__", "Motion.__repr__", defArgs s_Motion_UreprU, defBody s_Motion_UreprU, defScope s_Motion_UreprU, [], []⟩, ⟨fun K => (He.ga K "_law_tape"), "_law_tape", "_law_tape", defArgs s__law_tape, defBody s__law_tape, defScope s__law_tape, [], []⟩, ⟨fun K => (He.ga K "_law_draw"), "_law_draw", "_law_draw", defArgs s__law_draw, defBody s__law_draw, defScope s__law_draw, [], []⟩, ⟨fun K => (He.ga K "_law_great"), "_law_great", "_law_great", defArgs s__law_great, defBody s__law_great, defScope s__law_great, [], []⟩, ⟨fun K => (He.ga K "_law_place"), "_law_place", "_law_place", defArgs s__law_place, defBody s__law_place, defScope s__law_place, [], []⟩, ⟨fun K => (He.ga K "_law_turned"), "_law_turned", "_law_turned", defArgs s__law_turned, defBody s__law_turned, defScope s__law_turned, [], []⟩, ⟨fun K => (He.ga K "_law_kinds"), "_law_kinds", "_law_kinds", defArgs s__law_kinds, defBody s__law_kinds, defScope s__law_kinds, [], []⟩, ⟨fun K => (He.ga K "_law_carried"), "_law_carried", "_law_carried", defArgs s__law_carried, defBody s__law_carried, defScope s__law_carried, [], []⟩, ⟨fun K => (He.ga K "_law_far_move"), "_law_far_move", "_law_far_move", defArgs s__law_far_move, defBody s__law_far_move, defScope s__law_far_move, [], []⟩, ⟨fun K => (He.ga K "_law_told"), "_law_told", "_law_told", defArgs s__law_told, defBody s__law_told, defScope s__law_told, [], []⟩, ⟨fun K => (He.ga K "_law_right"), "_law_right", "_law_right", defArgs s__law_right, defBody s__law_right, defScope s__law_right, [], []⟩, ⟨fun K => (He.ga K "_law_products_right"), "_law_products_right", "_law_products_right", defArgs s__law_products_right, defBody s__law_products_right, defScope s__law_products_right, [], []⟩, ⟨fun K => (He.ga K "_law_powers_right"), "_law_powers_right", "_law_powers_right", defArgs s__law_powers_right, defBody s__law_powers_right, defScope s__law_powers_right, [], []⟩, ⟨fun K => (He.ga K "law"), "law", "law", defArgs s_law, defBody s_law, defScope s_law, [], []⟩]
def ask : Ask := ⟨fs, fn, [(fun K => He.ga K "BACK", ["left", "right"]), (fun K => He.ga K "MATRICES", ["none", "left", "half", "right", "flip", "mirror", "swap", "cross"])], []⟩
theorem tx_of {w : World} {h : Heap} {K : Frg} {mg : Str → Option Value} (X : K.In h) (G : h.Ns mainGlobals mg) (c : Says ask w h K) : Tx w K mg where
  b_abs := free_of X G (c.at 0)
  b_all := free_of X G (c.at 1)
  b_bool := free_of X G (c.at 2)
  b_int := free_of X G (c.at 3)
  b_isinstance := free_of X G (c.at 4)
  b_len := free_of X G (c.at 5)
  b_list := free_of X G (c.at 6)
  b_range := free_of X G (c.at 7)
  b_repr := free_of X G (c.at 8)
  b_str := free_of X G (c.at 9)
  b_tuple := free_of X G (c.at 10)
  cl_Motion := cls_of (c.at 11)
  co_Motion := callO_of (c.at 12)
  cv_Motion_KINDS := cv_of (c.at 13)
  df_Motion_UinitU := id (c.at 14)
  g_BACK := glo_of X G (c.at 15)
  g_MATRICES := glo_of X G (c.at 16)
  g_MIRRORED := glo_of X G (c.at 17)
  g_Motion := glo_of X G (c.at 18)
  g__law_carried := glo_of X G (c.at 19)
  g__law_draw := glo_of X G (c.at 20)
  g__law_far_move := glo_of X G (c.at 21)
  g__law_great := glo_of X G (c.at 22)
  g__law_kinds := glo_of X G (c.at 23)
  g__law_place := glo_of X G (c.at 24)
  g__law_powers_right := glo_of X G (c.at 25)
  g__law_products_right := glo_of X G (c.at 26)
  g__law_right := glo_of X G (c.at 27)
  g__law_tape := glo_of X G (c.at 28)
  g__law_told := glo_of X G (c.at 29)
  g__law_turned := glo_of X G (c.at 30)
  g_check_place := glo_of X G (c.at 31)
  g_is_integer := glo_of X G (c.at 32)
  g_is_place := glo_of X G (c.at 33)
  g_joined_kind := glo_of X G (c.at 34)
  g_law := glo_of X G (c.at 35)
  g_plus := glo_of X G (c.at 36)
  g_turned := glo_of X G (c.at 37)
  gv_MIRRORED := vd_of (c.at 38)
  k__law_carried := keep_of (c.at 39)
  k__law_draw := keep_of (c.at 40)
  k__law_far_move := keep_of (c.at 41)
  k__law_great := keep_of (c.at 42)
  k__law_kinds := keep_of (c.at 43)
  k__law_place := keep_of (c.at 44)
  k__law_powers_right := keep_of (c.at 45)
  k__law_products_right := keep_of (c.at 46)
  k__law_right := keep_of (c.at 47)
  k__law_tape := keep_of (c.at 48)
  k__law_told := keep_of (c.at 49)
  k__law_turned := keep_of (c.at 50)
  k_check_place := keep_of (c.at 51)
  k_is_integer := keep_of (c.at 52)
  k_is_place := keep_of (c.at 53)
  k_joined_kind := keep_of (c.at 54)
  k_plus := keep_of (c.at 55)
  k_turned := keep_of (c.at 56)
  m_Motion_UeqU := meth_of (c.at 57)
  m_Motion_UinvertU := meth_of (c.at 58)
  m_Motion_UmulU := meth_of (c.at 59)
  m_Motion_UreprU := meth_of (c.at 60)
  m_Motion_image := meth_of (c.at 61)
  m_Motion_repeated := meth_of (c.at 62)
  mk_Motion := mk_of (c.at 63)
  na_Motion_own_kind := no_of (c.at 64)
  na_Motion_own_shift := no_of (c.at 65)
  ow_Motion := own_of (c.at 66)
  p_Motion_is_mirrored := prop_of (c.at 67)
  p_Motion_kind := prop_of (c.at 68)
  p_Motion_shift := prop_of (c.at 69)
  rd_Motion := rd_of (c.at 70)
  sm_Motion_by := sm_of (c.at 71)
  tb_BACK := tab_of (c.at 72) (c.tb 0)
  tb_MATRICES := tab_of (c.at 73) (c.tb 1)
  d_is_integer := c.df 0
  d_is_place := c.df 1
  d_check_place := c.df 2
  d_plus := c.df 3
  d_turned := c.df 4
  d_joined_kind := c.df 5
  d_Motion_UinitU := defD_of (c.df 6) (c.at 14)
  d_Motion_by := c.df 7
  d_Motion_kind := c.df 8
  d_Motion_shift := c.df 9
  d_Motion_is_mirrored := c.df 10
  d_Motion_image := c.df 11
  d_Motion_UcallU := c.df 12
  d_Motion_UmulU := c.df 13
  d_Motion_UinvertU := c.df 14
  d_Motion_repeated := c.df 15
  d_Motion_UeqU := c.df 16
  d_Motion_UreprU := c.df 17
  d__law_tape := c.df 18
  d__law_draw := c.df 19
  d__law_great := c.df 20
  d__law_place := c.df 21
  d__law_turned := c.df 22
  d__law_kinds := c.df 23
  d__law_carried := c.df 24
  d__law_far_move := c.df 25
  d__law_told := c.df 26
  d__law_right := c.df 27
  d__law_products_right := c.df 28
  d__law_powers_right := c.df 29
  d_law := c.df 30
abbrev R : PySem.W.OpenRow := PySem.W.OpenLaw.row PySem.Challenge.rw_carpets_k07_motions_and_their_products
abbrev hk : PySem.W.Hook := hookZ 6 ask
def ob (s : PySem.W.SharedT) : AlZ := obsG 6 ask (HandSHeadRun.getT s)
theorem ob_eq (s : PySem.W.SharedT) : ob s = hk.obs s.abs := obsG_eq (HandSHeadRun.getT_eq s)
def loose : List Str := (["CarpetError", "InvalidPlace", "InvalidMotion", "InvalidNumber", "is_integer", "is_place", "check_place", "plus", "MATRICES", "MIRRORED", "BACK", "turned", "joined_kind", "Motion", "_law_tape", "_law_draw", "_law_great", "_law_place", "_law_turned", "_law_kinds", "_law_carried", "_law_far_move", "_law_told", "_law_right", "_law_products_right", "_law_powers_right"] : List Str)
abbrev qv : Program := PySem.W.view R.prog [30]
theorem run0 (w : World) : HandSHeadRun.RunEq R qv hk ob 6000 loose (w.withFollow "special-get-raises" false) := by
  intro os; kernel_rfl
theorem run1 (w : World) : HandSHeadRun.RunEq R qv hk ob 6000 loose (w.withFollow "special-get-raises" true) := by
  intro os; kernel_rfl
theorem run (w : World) : HandSHeadRun.RunEq R qv hk ob 6000 loose w := PySem.W.byRow2 "special-get-raises" (P := fun w => HandSHeadRun.RunEq R qv hk ob 6000 loose w) run0 run1 w
end K07
namespace K07
open PySem PySem.Spec PyProof.Rows L2 Z
theorem facts {P : Program} {w : World} {K : Frg} {h : Heap} {mg : Str → Option Value} {f : Addr} (X : K.In h) (G : h.Ns mainGlobals mg) (hfa : mg ("law" : Str) = some (.ref f)) (c : Says ask w h K) : ∀ base : Heap, FnG P w K mg base (L2.CX P w) 15 f (spLaw K) := by
  have T := tx_of X G c
  have e2 : f = He.ga K "law" := by
    have e3 := hfa.symm.trans T.g_law
    injection e3 with e4
    injection e4
  rw [e2]
  exact ok_law T
end K07
end
open PySem PySem.W PySem.Calls PyProof.Rows
theorem PySem.Challenge.cw_carpets_k07_motions_and_their_products_holds : PySem.Challenge.rw_carpets_k07_motions_and_their_products.Holds := by
  w_on; o_law
  refine HandSHeadRun.head_any (r := K07.R) (q := K07.qv) (H := K07.hk) (ob := K07.ob) (M := 6000) (loose := K07.loose) (d := HandSHeadRun.topDef K07.R.prog 30) (kwd := []) K07.ob_eq
    (by kernel_rfl) (fun s => by kernel_rfl) K07.run (by kernel_rfl) (by kernel_rfl) (by kernel_rfl) (by rfl) (by first | assumption | decide +kernel) (by decide +kernel) ⟨rfl, rfl, rfl, rfl, rfl, by decide +kernel⟩ ?hw ?hc
  case hw => w_witness2
  case hc =>
    refine Z.walk_G (l := PySem.Challenge.rw_carpets_k07_motions_and_their_products) (n := 63) (k := 15) (CX := fun w => L2.CX PySem.Challenge.rw_carpets_k07_motions_and_their_products.prog w) rfl (by decide) (by kernel_rfl) ⟨rfl, by decide, by decide⟩ ?F (Z.cx_no (P := fun _ => PySem.Challenge.rw_carpets_k07_motions_and_their_products.prog))
    intro w mg fa h Y G hmg0
    obtain ⟨K, KX, c⟩ := Y
    have hmg : mg ("law" : PySem.Str) = some (.ref fa) := by
      have e : (HandSHeadRun.topDef K07.R.prog 30).name = ("law" : PySem.Str) := by kernel_rfl
      rw [← e]
      exact hmg0
    have hF := K07.facts (P := PySem.Challenge.rw_carpets_k07_motions_and_their_products.prog) (w := w) KX G hmg c
    exact ⟨K, KX, [], Z.spLaw K, (fun _ hp => (List.not_mem_nil hp).elim), (fun _ hp => (List.not_mem_nil hp).elim), (fun _ hp => (List.not_mem_nil hp).elim), fun H a ns hl _ hS => ⟨_, rfl, a, ns, rfl, hl, hS, fun _ => rfl⟩, fun base _ _ _ => hF base⟩
