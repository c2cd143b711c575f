import PyProof.Rows.All
import Wide.All
import OpenK.AllK
import Wide.FinOn
import HandS.ForMost
import HandS.ForExc
import HandS.More
import HandS.Wide
import HandS.Property
import HandS.Star
import HandS.ClsMeth
import HandS.SlotsOwn
import HandS.IsInst
import HandS.Defaults
import HandS.RaiseMore
import HandS.EndBits
import HandS.Style
import HandS.Head0
import HandS.Head1
import HandS.Head2
import HandS.HeadEnd
import HandS.HeadHook1
import HandS.HeadHook2
import HandS.HeadHook3
import HandS.HeadHook4
import HandS.HeadNt
import HandS.HeadWalk
import HandS.Walk
import HandS.Evl
import HandS.TryOnly
import KE.KOpsOwn
import HandS.EndTab
import HandS.Deep
import HandS.WideMore
import KE.KAssignIn
import HandS.Text
import PyProof.ReprBulk
import PyProof.ReprRoads
import KE.KDictWalk
import HandS.Iter
import HandS.FStr
import PyProof.FString
import PyProof.FString4
import KE.GoesEnum
import HandS.MakeKwOnly
import PyProof.GenRules
import PyProof.GenQ
import HandS.GenOver
import PyProof.GenComp
import HandS.GenList
import HandS.ExcField
import HandS.ExcIs
import KE.KExcInit
import PyProof.Draws
import HandS.NestedK
import HandS.Conv
import HandS.SetFor
import PyProof.EqKinds
import KE.KDictDisplayH
import HandS.TupLen
import KE.SortData
import KE.KDictSum
import KE.KDictCopyH
import HandS.ExcValue
import HandS.TupLe
import HandS.DictComp
import HandS.Finally
import HandS.ListItems
import HandS.DictEq
import HandS.DeepEq
import HandS.DictTup
import HandS.TupAny
import PyProof.Rows.SortShellAny
import KE.KeyNested
import HandS.TupSets
import HandS.TupMul
import HandS.SetBool
import HandS.SetTxtIn
import PyProof.FString3
import PyProof.Rows.StrIntSpec
import PySem.Challenge.RW_carpets_k11_carpets_that_are_refused
set_option Elab.async false
set_option linter.all false
set_option maxRecDepth 100000
set_option maxHeartbeats 4000000
namespace Z
open PySem PySem.Spec PyProof.Rows L2
/-! ### heaps: a frozen part F of H; what goes on -/
structure Go (ms : List Addr) (F H F' H' : Hp) : Prop where
  ff : Same F F'
  fh : Same F' H'
  mu : ∀ a o, a ∉ ms → F a = none → H a = some o → F' a = none ∧ H' a = some o
section
variable {ms ms' : List Addr} {F H F1 H1 F2 H2 : Hp} {p a : Addr} {o : HO} {K : PySem.W.Frag} {xs : List V}
theorem Go.refl (h : Same F H) : Go ms F H F H := ⟨Same.refl _, h, fun _ _ _ h1 h2 => ⟨h1, h2⟩⟩
theorem Go.trans (x : Go ms F H F1 H1) (y : Go ms F1 H1 F2 H2) : Go ms F H F2 H2 :=
  ⟨x.ff.trans y.ff, y.fh, fun a o hm h1 h2 => let ⟨a1, a2⟩ := x.mu a o hm h1 h2; y.mu a o hm a1 a2⟩
theorem Go.sub (x : Go ms F H F1 H1) (h : ∀ a ∈ ms, a ∈ ms') : Go ms' F H F1 H1 := ⟨x.ff, x.fh, fun a o hm => x.mu a o fun z => hm (h a z)⟩
theorem Go.nil (x : Go [] F H F1 H1) : Go ms F H F1 H1 := x.sub fun _ h => nomatch h
/-- a new object, frozen -/
theorem Go.new (h : Same F H) (hp : H p = none) : Go ms F H (upd F p o) (upd H p o) := by
  refine ⟨fun a u e => ?_, fun a u e => ?_, fun a u _ h1 h2 => ?_⟩
  · rw [upd_ne (ne_of_none (h a u e) hp)]; exact e
  · by_cases ha : a = p
    · subst ha; rw [upd_same] at e ⊢; exact e
    · rw [upd_ne ha] at e ⊢; exact h a u e
  · have ha := ne_of_none h2 hp
    exact ⟨by rw [upd_ne ha]; exact h1, by rw [upd_ne ha]; exact h2⟩
/-- a new object that may change -/
theorem Go.newM (h : Same F H) (hp : H p = none) : Go ms F H F (upd H p o) := by
  refine ⟨Same.refl _, fun a u e => ?_, fun a u _ h1 h2 => ⟨h1, ?_⟩⟩
  · rw [upd_ne (ne_of_none (h a u e) hp)]; exact h a u e
  · rw [upd_ne (ne_of_none h2 hp)]; exact h2
/-- a store -/
theorem Go.put (h : Same F H) (hp : F p = none) : Go [p] F H F (upd H p o) := by
  refine ⟨Same.refl _, fun a u e => ?_, fun a u hm h1 h2 => ⟨h1, ?_⟩⟩
  · rw [upd_ne (ne_of_none e hp)]; exact h a u e
  · rw [upd_ne (fun z => hm (by rw [z]; exact List.mem_cons_self))]; exact h2
/-- an object that was changed is frozen from now on -/
theorem Go.freeze (h : Same F H) (hp : F p = none) (e : H p = some o) : Go [p] F H (upd F p o) H := by
  refine ⟨fun a u z => ?_, fun a u z => ?_, fun a u hm h1 h2 => ⟨?_, h2⟩⟩
  · rw [upd_ne (ne_of_none z hp)]; exact z
  · by_cases ha : a = p
    · subst ha; rw [upd_same] at z; rw [e]; exact z
    · rw [upd_ne ha] at z; exact h a u z
  · rw [upd_ne (fun z => hm (by rw [z]; exact List.mem_cons_self))]; exact h1
theorem same_none {F H : Hp} {p : Addr} (h : Same F H) (e : H p = none) : F p = none := h.free e
/-- drop from ms what was free at the start -/
theorem Go.drop (x : Go (p :: ms) F H F1 H1) (hp : H p = none) : Go ms F H F1 H1 :=
  ⟨x.ff, x.fh, fun a o hm h1 h2 => x.mu a o (fun z => by
    rcases List.mem_cons.mp z with e | e
    · rw [e, hp] at h2; cases h2
    · exact hm e) h1 h2⟩
theorem sqT (s : Same F H) (h : SqT K F a xs) : SqT K H a xs := by
  rcases h with (h | ⟨o, h⟩) | h
  · exact .inl (.inl (s _ _ h))
  · exact .inl (.inr ⟨o, s _ _ h⟩)
  · exact .inr h
theorem sqL (s : Same F H) (h : SqL K F a xs) : SqL K H a xs := s.seq h
mutual
theorem dp_mono {F H : Hp} (s : Same F H) : ∀ (d : PyData) (v : V), Dp K F v d → Dp K H v d
  | .none, _, h => by cases h; exact .non
  | .bool b, _, h => by cases h; exact .bl b
  | .int i, _, h => by cases h; exact .int i
  | .str x, _, h => by cases h; exact .str x
  | .list ds, _, h => by
    cases h with
    | lst h1 h2 => exact .lst (sqL s h1) (dpAll_mono s ds _ h2)
  | .tuple ds, _, h => by
    cases h with
    | tup h1 h2 => exact .tup (sqT s h1) (dpAll_mono s ds _ h2)
  | .dict _, _, h => by cases h
theorem dpAll_mono {F H : Hp} (s : Same F H) : ∀ (ds : List PyData) (vs : List V), DpAll K F vs ds → DpAll K H vs ds
  | [], _, h => by cases h; exact .nil
  | d :: ds, _, h => by
    cases h with
    | cons h1 h2 => exact .cons (dp_mono s d _ h1) (dpAll_mono s ds _ h2)
end
end
/-! ### calls by positional promises -/
section
variable {X : Cx} {CX : CXT} {k : Nat} {f C p g : Addr} {sp : Sp} {E : XK} {x m : Str} {p0 pos apos : Pos} {e o a b : Expr} {es : List Expr} {ta tb : TE} {t : TA}
def tFn (sp : Sp) (E : XK) (t : TA) : TE := fun σ H Q => t σ H fun vs H1 => sp vs H1 Q E
theorem zcall (F : FnR X.prog X.w X.K X.mg X.base CX k f sp) (hr : Room k X.A) (hg : Gl X x) (hm : X.mg x = some (.ref f)) (hk : PySem.W.keepIn X.K (.ref f) = true) (hx : Passes CX X E)
    (ha : PA X (e :: es) t) (hdb : (x == ("__debug__" : Str)) = false := by decide) (he : starEach (e :: es) X.env = (false, eval e X.env) :: starEach es X.env := by rfl) (hpl : (backTo pos (starEach es X.env)).any (·.1) = false := by rfl) :
    PE X (.Call (.Name x p0) (e :: es) [] pos) (tFn sp E t) := by
  refine ⟨fun pins s σ H Q I h => ?_⟩
  refine wpAny_Call_Name_kw (ld_glob I hg hm ?_ hdb)
  refine PySem.W.callWith_K (h₀ := X.base) I.ok.mod.kin hk (thn (ha.run pos pins s σ H _ I h) fun us s1 ⟨vs, H1, I1, r, q⟩ => ⟨I1.kIn, ?_⟩) he hpl
  exact wpAny_call (run_fnR F hr hx I1 r q)
end
/-! ### floor division of great numbers, any sign -/
end Z
namespace Z
open PySem PySem.Spec PyProof.Rows L2
section
variable {X : Cx} {CX : CXT} {k : Nat} {f C p g : Addr} {sp : Sp} {E : XK} {x m : Str} {p0 pos apos : Pos} {e o a b : Expr} {es : List Expr} {ta tb : TE} {t : TA}
/-- the left one of an own class, its == or != by the own __eq__ -/
def rEqO (neg : Bool) (K : PySem.W.Frag) (C : Addr) (sp : Sp) (E : XK) : R2 := fun x y H Q => ∃ a dx fs t, x = .ref a ∧ H a = some (.ins C dx fs) ∧ TyX K H y t ∧ PySem.W.notFirst K C t = true ∧ sp [.ref a, y] H (fun v H' => ∃ b, v = .bl b ∧ Q (.bl (if neg then !b else b)) H') E
theorem ne_try {A : Around} {s : Shared} {E' : Value → Shared → Prop} {xa : Addr} {ox : Obj} {od : Option Obj} {bv : Value} {Q : Option Value → Shared → Prop} (hu : A.units + 1 < cLine) (KX : X.K.In s.heap) (J : PySem.W.InstAt s.heap xa ox C od)
    (hne : PySem.W.findIn X.K (.ref C) "__ne__" = some (some (.builtin "object.__ne__"))) (hsub : PySem.W.mroIn X.K C (.type "object") = some true)
    (hs : PySem.W.findIn X.K (.ref C) "__eq__" = some (some (.ref g))) (hf : PySem.W.isFn X.K (.ref g) = true)
    (h : codeAny (model X.prog X.w) A.in1 (.call (.ref g) ⟨[.ref xa, bv], []⟩) (fun r s' => match r with | .ok (.ret v) => ∃ b, v = .bool b ∧ Q (some (.bool (!b))) s' | .ok _ => False | .error e => E' e s') s) : wpAny (model X.prog X.w) A (tryCompare (.ref xa) "__ne__" bv) Q E' s := by
  have FB := PySem.F.cmp_object
  have fin : wpAny (model X.prog X.w) A (call (.builtin "object.__ne__") ([.ref xa] ++ [bv])) (fun v s' => ∃ b, v = .bool b ∧ Q (some (.bool b)) s') E' s := by
    have hi : PySem.W.Looks (model X.prog X.w) s.heap (isInstance (.ref xa) (.type "object")) true := J.type.andThen (PySem.W.looks_mroIn KX hsub)
    refine wpAny_call (codeAny_call_builtin FB.ne.plain F.cmpEntry_ne (PySem.W.check_slot F.cmpKind_ne F.cmpSplit_ne hi (F.cmpArgs_ne _ _) ?_))
    unfold Builtin.«object.__ne__»
    repeat (first | with_reducible refine wpAny_cRoomFor hu ?_ | with_reducible refine PySem.W.ifBound_K KX J hs hf ?_ | wp_step)
    refine codeAny_mono h fun r s' hv => ?_
    cases r with
    | error e => exact hv
    | ok fl =>
      cases fl with
      | ret v =>
        obtain ⟨b, rfl, q⟩ := hv
        refine wpAny_bind (wpAny_truthy_bool ?_)
        exact wpAny_pure ⟨_, rfl, q⟩
      | next => exact hv
      | brk => exact hv
      | cont => exact hv
  unfold tryCompare
  simp only [callSpecialIfBound?, bindSpecialIfBound?]
  refine wpAny_bind (wpAny_holding (wpAny_bind (wpAny_bind (wpAny_bind (J.type.here ((PySem.W.looks_findIn KX hne).here ?_))))))
  simp only [FB.ne.bind]
  refine wpAny_bind (wpAny_askSetting (wpAny_ite ?_))
  have fin2 : wpAny (model X.prog X.w) A (call (.builtin "object.__ne__") ([.ref xa] ++ [bv]) >>= fun v => pure (some v)) (fun r s' => ∃ b, r = some (.bool b) ∧ Q (some (.bool b)) s') E' s :=
    wpAny_bind (wpAny_mono fin (fun v s' ⟨b, e, q⟩ => wpAny_pure ⟨b, by rw [e], q⟩) fun _ _ z => z)
  have go : ∀ {r : Option Value} {s' : Shared}, (∃ b, r = some (.bool b) ∧ Q (some (.bool b)) s') → wpAny (model X.prog X.w) A (match r with | some .notImplemented | none => pure none | some v => pure (some v)) Q E' s' := fun {r s'} ⟨b, e, q⟩ => by
    subst e
    exact wpAny_pure q
  split
  · refine wpAny_bind (wpAny_pure (wpAny_pure ?_))
    exact wpAny_mono fin2 (fun r s' z => go z) fun _ _ z => z
  · refine wpAny_tryCatch (wpAny_bind (wpAny_pure (wpAny_pure ?_)))
    exact wpAny_mono fin2 (fun r s' z => go z) fun _ _ z => z
end
end Z
namespace Z
open PySem PySem.Spec PyProof.Rows L2
abbrev Frg := PySem.W.Frag
/-- what is asked of the written part: Bools, defs, tables with text keys, the defs whose tables of code objects are left out -/
structure Ask where
  fs : List (Frg → Bool)
  fn : List He5.DefA
  ts : List He.Tab
  tf : List (Frg → Addr)
def cdAt (K : Frg) (f : Addr) : Addr := match K.lookup f with
  | some ⟨_, _, .func fd, _⟩ => (match fd.code with
    | .ref c => c
    | _ => 0)
  | _ => 0
def tabsB (g : Addr → Option Obj) (tf : List (Frg → Addr)) (K : Frg) : Bool := tf.all fun p => PySem.W.codeHdIn K (cdAt K (p K)) (He.tabOf K (cdAt K (p K))) && (match g (He.tabOf K (cdAt K (p K))) with
  | some o => He.emptyTab o
  | none => false)
abbrev AlZ : Type := (Bool × List He.FnW) × (List (Option (List (Option (Str × Int)))) × Bool)
def obsZ (q : Ask) (K : Frg) (b : Bool) : AlZ := (((q.fs.all fun f => f K) && q.fn.all fun d => d.ok K, q.fn.map fun d => He5.fnA K (d.at_ K)), (q.ts.map fun t => He.dicW K (t.1 K), b))
def valZ (q : Ask) (w : World) : AlZ := ((true, q.fn.map He5.DefA.val), (q.ts.map fun t => some (He.keysIn w.params t.2), true))
structure Says (q : Ask) (w : World) (h : Heap) (K : Frg) : Prop where
  fact : ∀ f ∈ q.fs, f K = true
  dok : ∀ d ∈ q.fn, d.ok K = true
  dval : q.fn.map (fun d => He5.fnA K (d.at_ K)) = q.fn.map He5.DefA.val
  tval : q.ts.map (fun t => He.dicW K (t.1 K)) = q.ts.map fun t => some (He.keysIn w.params t.2)
  hd : ∀ p ∈ q.tf, PySem.W.codeHdIn K (cdAt K (p K)) (He.tabOf K (cdAt K (p K))) = true
  out : ∀ p ∈ q.tf, K.lookup (He.tabOf K (cdAt K (p K))) = none
  empty : ∀ p ∈ q.tf, h.get? (He.tabOf K (cdAt K (p K))) = some { cls := .none, data := .fields #[] }
def KZ (g : Addr → Option Obj) (n : Nat) : Frg := He.frT g (mainGlobals :: (List.range n ++ [cStatics]))
def obsG (n : Nat) (q : Ask) (g : Addr → Option Obj) : AlZ := obsZ q (KZ g n) (tabsB g q.tf (KZ g n))
theorem says_of {n : Nat} {q : Ask} {w : World} {h : Heap} (e : obsG n q h.get? = valZ q w) : Says q w h (KZ h.get? n) := by
  have e1 : ((q.fs.all fun f => f (KZ h.get? n)) && q.fn.all fun d => d.ok (KZ h.get? n)) = true := congrArg (fun z : AlZ => z.1.1) e
  have e2 : q.fn.map (fun d => He5.fnA (KZ h.get? n) (d.at_ (KZ h.get? n))) = q.fn.map He5.DefA.val := congrArg (fun z : AlZ => z.1.2) e
  have e3 : q.ts.map (fun t => He.dicW (KZ h.get? n) (t.1 (KZ h.get? n))) = q.ts.map fun t => some (He.keysIn w.params t.2) := congrArg (fun z : AlZ => z.2.1) e
  have e4 : tabsB h.get? q.tf (KZ h.get? n) = true := congrArg (fun z : AlZ => z.2.2) e
  obtain ⟨h1, h2⟩ := He.ba e1
  have key : ∀ p ∈ q.tf, PySem.W.codeHdIn (KZ h.get? n) (cdAt (KZ h.get? n) (p (KZ h.get? n))) (He.tabOf (KZ h.get? n) (cdAt (KZ h.get? n) (p (KZ h.get? n)))) = true ∧ ∃ o, h.get? (He.tabOf (KZ h.get? n) (cdAt (KZ h.get? n) (p (KZ h.get? n)))) = some o ∧ He.emptyTab o = true := fun p hp => by
    obtain ⟨h3, h4⟩ := He.ba (List.all_eq_true.mp e4 p hp)
    refine ⟨h3, ?_⟩
    cases z : h.get? (He.tabOf (KZ h.get? n) (cdAt (KZ h.get? n) (p (KZ h.get? n)))) with
    | none => rw [z] at h4; cases h4
    | some o => rw [z] at h4; exact ⟨o, rfl, h4⟩
  exact ⟨fun f hf => List.all_eq_true.mp h1 f hf, fun d hd => List.all_eq_true.mp h2 d hd, e2, e3, fun p hp => (key p hp).1, fun p hp => by
    obtain ⟨_, o, z, y⟩ := key p hp
    exact He.frT_none z y, fun p hp => by
    obtain ⟨_, o, z, y⟩ := key p hp
    rw [z, He.emptyTab_eq y]⟩
def hookZ (n : Nat) (q : Ask) : PySem.W.Hook where
  α := AlZ
  obs := fun s => obsG n q s.heap.get?
  val := fun w => valZ q w
  says := fun w h => ∃ K : Frg, K.In h ∧ Says q w h K
  of := fun _ _ e => ⟨_, He.frT_in, says_of e⟩
  keeps := fun _ _ _ ⟨K, hK, c⟩ k => ⟨K, PySem.W.Frag.In.keeps hK k, ⟨c.fact, c.dok, c.dval, c.tval, c.hd, c.out, fun p hp => k _ _ (c.empty p hp)⟩⟩
theorem obsG_eq {n : Nat} {q : Ask} {g : Addr → Option Obj} {s : Shared} (h : ∀ a, g a = s.heap.get? a) : obsG n q g = (hookZ n q).obs s := by
  have e : g = s.heap.get? := funext h
  rw [e] <;> rfl
section
variable {q : Ask} {w : World} {h : Heap} {K : Frg}
theorem Says.at (c : Says q w h K) (i : Nat) {f : Frg → Bool} (e : q.fs[i]? = some f := by rfl) : f K = true := c.fact f (List.mem_of_getElem? e)
theorem Says.df (c : Says q w h K) (i : Nat) {d : He5.DefA} (e : q.fn[i]? = some d := by rfl) : ∃ fd, L2.FunD K d.name d.qual d.params d.body d.scope (d.dvs K) (d.kws K) (d.at_ K) fd := by
  have e2 : (q.fn.map fun d => He5.fnA K (d.at_ K))[i]? = (q.fn.map He5.DefA.val)[i]? := by rw [c.dval]
  rw [List.getElem?_map, List.getElem?_map, e] at e2
  exact He5.DefA.funD (Option.some.inj e2) (c.dok d (List.mem_of_getElem? e))
theorem Says.tb (c : Says q w h K) (i : Nat) {t : He.Tab} (e : q.ts[i]? = some t := by rfl) : ∃ es n, KDict K w (t.1 K) es n := by
  have e2 : (q.ts.map fun t => He.dicW K (t.1 K))[i]? = (q.ts.map fun t => some (He.keysIn w.params t.2))[i]? := by rw [c.tval]
  rw [List.getElem?_map, List.getElem?_map, e] at e2
  exact He.dicW_ok (Option.some.inj e2)
end
/-! ### Bools and what they tell -/
def bGlo (x : Str) : Frg → Bool := fun K => (He.Fa.glo x).ok K
def bFree (x : Str) : Frg → Bool := fun K => (He.Fa.free x).ok K
def bInt (x : Str) (i : Int) : Frg → Bool := fun K => (He.Fa.int x i).ok K
def bStr (x z : Str) : Frg → Bool := fun K => (He.Fa.str x z).ok K
def bCls (x : Str) : Frg → Bool := fun K => (He.Fa.cls x).ok K
def bNo (x f : Str) : Frg → Bool := fun K => (He.Fa.noat x f).ok K
def bMeth (x m : Str) : Frg → Bool := fun K => (He.Fa.meth x m).ok K
def bMk (x : Str) : Frg → Bool := fun K => (He.Fa.mkr x).ok K
def bKeep (x : Str) : Frg → Bool := fun K => (He.Fa.keep x).ok K
/-- what == and isinstance ask of an own class -/
structure Own (K : Frg) (C : Addr) : Prop where
  sf : PySem.W.selfFirst K C = true
  ne : PySem.W.findIn K (.ref C) "__ne__" = some (some (.builtin "object.__ne__"))
  ob : PySem.W.mroIn K C (.type "object") = some true
  ha : PySem.W.findIn K (.ref C) "__class__" = some (some (.builtin "object.__class__"))
  hn : PySem.W.specialIn K (.builtin "object.__class__") "__get__" = some (some (.builtin "getset_descriptor.__get__"))
  ht : PySem.W.takesIn K (.builtin "object.__class__") = some true
  ki : PySem.W.kitOne K (.ref C) (.ref C) = some true
  kb : ∀ t ∈ ["NoneType", "bool", "int", "str", "list", "tuple", "dict"], PySem.W.kitOne K (.type t) (.ref C) = some false
  kt : ∀ t ∈ ["bool", "int", "str", "list", "tuple", "dict"], PySem.W.kitOne K (.ref C) (.type t) = some false
  nf : ∀ t ∈ ["NoneType", "bool", "int", "str", "list", "tuple", "dict"], PySem.W.notFirst K C (.type t) = true
  cv : PySem.W.isClsIn K C = true
def bOwn (x : Str) : Frg → Bool := fun K => PySem.W.selfFirst K (He.ga K x) && (He.eqO (PySem.W.findIn K (.ref (He.ga K x)) "__ne__") (some (some (.builtin "object.__ne__"))) && (decide (PySem.W.mroIn K (He.ga K x) (.type "object") = some true) &&
  (He.eqO (PySem.W.findIn K (.ref (He.ga K x)) "__class__") (some (some (.builtin "object.__class__"))) && (He.eqO (PySem.W.specialIn K (.builtin "object.__class__") "__get__") (some (some (.builtin "getset_descriptor.__get__"))) &&
  (decide (PySem.W.takesIn K (.builtin "object.__class__") = some true) && (decide (PySem.W.kitOne K (.ref (He.ga K x)) (.ref (He.ga K x)) = some true) &&
  ((["NoneType", "bool", "int", "str", "list", "tuple", "dict"].all fun t => decide (PySem.W.kitOne K (.type t) (.ref (He.ga K x)) = some false)) && ((["bool", "int", "str", "list", "tuple", "dict"].all fun t => decide (PySem.W.kitOne K (.ref (He.ga K x)) (.type t) = some false)) &&
  ((["NoneType", "bool", "int", "str", "list", "tuple", "dict"].all fun t => PySem.W.notFirst K (He.ga K x) (.type t)) && PySem.W.isClsIn K (He.ga K x))))))))))
theorem own_of {K : Frg} {x : Str} (h : bOwn x K = true) : Own K (He.ga K x) := by
  obtain ⟨h1, h⟩ := He.ba h
  obtain ⟨h2, h⟩ := He.ba h
  obtain ⟨h3, h⟩ := He.ba h
  obtain ⟨h4, h⟩ := He.ba h
  obtain ⟨h5, h⟩ := He.ba h
  obtain ⟨h6, h⟩ := He.ba h
  obtain ⟨h7, h⟩ := He.ba h
  obtain ⟨h8, h⟩ := He.ba h
  obtain ⟨h9, h⟩ := He.ba h
  obtain ⟨h10, h11⟩ := He.ba h
  exact ⟨h1, He.eqO_ok h2, of_decide_eq_true h3, He.eqO_ok h4, He.eqO_ok h5, of_decide_eq_true h6, of_decide_eq_true h7, fun t ht => of_decide_eq_true (List.all_eq_true.mp h8 t ht), fun t ht => of_decide_eq_true (List.all_eq_true.mp h9 t ht), fun t ht => List.all_eq_true.mp h10 t ht, h11⟩
/-- a property -/
def bProp (x f : Str) : Frg → Bool := fun K => He.eqO (PySem.W.findIn K (.ref (He.ga K x)) f) (some (some (.ref (He.ma K (He.ga K x) f)))) && (He.eqO (PySem.W.specialIn K (.ref (He.ma K (He.ga K x) f)) "__get__") (some (some (.builtin "property.__get__"))) &&
  (decide (PySem.W.takesIn K (.ref (He.ma K (He.ga K x) f)) = some true) && (match PySem.W.recIn K (He.ma K (He.ga K x) f) "property" with
    | some (.ref _ :: _) => true
    | _ => false)))
theorem prop_of {K : Frg} {x f : Str} (h : bProp x f K = true) : PropOf K (He.ga K x) f (He.ma K (He.ga K x) f) (He5.wf K (He.ga K x) "property" f) := by
  obtain ⟨h1, h⟩ := He.ba h
  obtain ⟨h2, h⟩ := He.ba h
  obtain ⟨h3, h4⟩ := He.ba h
  refine ⟨He.eqO_ok h1, He.eqO_ok h2, of_decide_eq_true h3, ?_⟩
  unfold He5.wf
  split at h4
  · rename_i f r e
    exact ⟨r, by rw [e]⟩
  · cases h4
section
variable {K : Frg} {h : Heap} {mg : Str → Option Value}
theorem glo_of (X : K.In h) (G : h.Ns mainGlobals mg) {x : Str} (c : bGlo x K = true) : mg x = some (.ref (He.ga K x)) := He.glo_ok X G c
theorem free_of (X : K.In h) (G : h.Ns mainGlobals mg) {x : Str} (c : bFree x K = true) : mg x = none := He.free_ok X G c
theorem int_of (X : K.In h) (G : h.Ns mainGlobals mg) {x : Str} {i : Int} (c : bInt x i K = true) : ∃ t, mg x = some (.int i t) := He.int_ok X G c
theorem str_of (X : K.In h) (G : h.Ns mainGlobals mg) {x z : Str} (c : bStr x z K = true) : ∃ t, mg x = some (.str z t) := He.str_ok X G c
theorem cls_of {x : Str} (c : bCls x K = true) : Cls K (He.ga K x) := He.cls_ok c
theorem no_of {x f : Str} (c : bNo x f K = true) : NoAttr K (He.ga K x) f := He.noat_ok c
theorem meth_of {x m : Str} (c : bMeth x m K = true) : Meth K (He.ga K x) m (He.ma K (He.ga K x) m) := He.meth_ok c
theorem mk_of {x : Str} (c : bMk x K = true) : Mk K (He.ga K x) (He.ma K (He.ga K x) "__init__") := He.mkr_ok c
theorem keep_of {x : Str} (c : bKeep x K = true) : PySem.W.keepIn K (.ref (He.ga K x)) = true := He.keep_ok c
end
/-! ### a def by its text -/
section
variable {P : Program} {w : World} {K : Frg} {mg : Str → Option Value} {base : Heap}
abbrev DefAt (K : Frg) (x qual : Str) (st : Stmt) (f : Addr) : Prop := ∃ fd, L2.FunD K x qual (defArgs st) (defBody st) (defScope st) [] [] f fd
theorem zfn {x qual : Str} {st : Stmt} {f : Addr} {N ps : List Str} {k : Nat} {sp : Sp} (F : DefAt K x qual st f) (S : FnScope N ps (defScope st)) (len : ∀ vs H Q E, sp vs H Q E → vs.length = ps.length)
    (hb : ∀ (kV doc pm : Value) (an : Option Addr) (cdv ct : Value) (us : List Value), us.length = ps.length → bindArgs (PySem.W.fnOf x qual (defArgs st) (defBody st) (defScope st) .none kV doc pm an cdv ct) ⟨us, []⟩ = pure (ps.zip us))
    (hbody : ∀ (cdv : Value) (A : Around) (outer : List Env) (s : Shared) (H : Hp) (vs : List V) (Q : VK) (E : XK), Room k (A.deeper (envOfC qual (defScope st) s.heap.objs.size f cdv)) → sp vs H Q E →
      ∃ t, PSs (cxOf (L2.CX P w) P w K mg base N qual (defScope st) f cdv A outer s H E) (defBody st) t ∧ t { nx := fun _ H' => Q .non H', rt := Q } (start N vs) H) : FnR P w K mg base (L2.CX P w) (k + 1) f sp := by
  obtain ⟨fd, F⟩ := F
  have B : Binds K fd ps [] := F.bindsN hb
  exact ((FunD.ok F S len hbody).raw B .nil).imp fun vs H Q E h => by rw [List.append_nil]; exact h
end
def Sp1 (P : V → Hp → VK → XK → Prop) : Sp := fun vs H Q E => ∃ a, vs = [a] ∧ P a H Q E
def Sp2 (P : V → V → Hp → VK → XK → Prop) : Sp := fun vs H Q E => ∃ a b, vs = [a, b] ∧ P a b H Q E
theorem len1 {P} : ∀ vs H Q E, Sp1 P vs H Q E → vs.length = 1 := fun _ _ _ _ ⟨_, e, _⟩ => by rw [e]; rfl
theorem len2 {P} : ∀ vs H Q E, Sp2 P vs H Q E → vs.length = 2 := fun _ _ _ _ ⟨_, _, e, _⟩ => by rw [e]; rfl
end Z
namespace Z
open PySem PySem.Spec PyProof.Rows L2
/-- a new object at p: what is behind -/
def New (H : Hp) (o : HO) (Q : Addr → Hp → Prop) : Prop := ∀ p H2, H p = none → H2 = upd H p o → Q p H2
theorem New.run {H : Hp} {o : HO} {Q : Addr → Hp → Prop} (h : New H o Q) : ∀ p, H p = none → Q p (upd H p o) := fun p hp => h p _ hp rfl
/-- a store -/
def Put (H : Hp) (p : Addr) (o : HO) (Q : Hp → Prop) : Prop := ∀ H2, H2 = upd H p o → Q H2
theorem Put.run {H : Hp} {p : Addr} {o : HO} {Q : Hp → Prop} (h : Put H p o Q) : Q (upd H p o) := h _ rfl
section
variable {ms : List Addr} {F H H2 : Hp} {p : Addr} {o : HO}
theorem newE (hs : Same F H) (hp : H p = none) (e : H2 = upd H p o) : ∃ F2, Go [] F H F2 H2 ∧ F2 p = some o ∧ H2 p = some o := ⟨upd F p o, by rw [e]; exact Go.new hs hp, upd_same, by rw [e]; exact upd_same⟩
theorem newM (hs : Same F H) (hp : H p = none) (e : H2 = upd H p o) : Go [] F H F H2 ∧ F p = none ∧ H2 p = some o := ⟨by rw [e]; exact Go.newM hs hp, same_none hs hp, by rw [e]; exact upd_same⟩
theorem putM (hs : Same F H) (hp : F p = none) (e : H2 = upd H p o) : Go [p] F H F H2 ∧ H2 p = some o := ⟨by rw [e]; exact Go.put hs hp, by rw [e]; exact upd_same⟩
end
section
variable {X : Cx} {e a b : Expr} {es : List Expr} {t t' te tb : TE} {ta : TA} {pos : Pos}
theorem pe_imp (h : PE X e t) (f : ∀ σ H Q, t' σ H Q → t σ H Q) : PE X e t' := ⟨fun pins s σ H Q I z => h.run pins s σ H Q I (f σ H Q z)⟩
def wkA (t : TA) : TA := fun σ H Q => ∃ Q0, t σ H Q0 ∧ ∀ xs H1, Q0 xs H1 → Q xs H1
theorem pa_wk (h : PA X es ta) : PA X es (wkA ta) := ⟨fun pos pins s σ H Q I ⟨Q0, z, f⟩ => thn (h.run pos pins s σ H Q0 I z) fun us s1 ⟨xs, H1, I1, r, q⟩ => ⟨xs, H1, I1, r, f xs H1 q⟩⟩
def tTupZ (t : TA) : TE := fun σ H Q => t σ H fun xs H1 => xs.length ≤ sizeLine ∧ New H1 (.tup xs) fun p H2 => Q (.ref p) H2
def tLstZ (t : TA) : TE := fun σ H Q => t σ H fun xs H1 => xs.length ≤ sizeLine ∧ New H1 (.lst xs) fun p H2 => Q (.ref p) H2
theorem pe_tupZ {x1} (h : PA X es ta) : PE X (.Tuple es x1 pos) (tTupZ ta) := pe_imp (pe_tup (pa_wk h)) fun _ _ _ z => ⟨_, z, fun _ _ q => ⟨q.1, q.2.run⟩⟩
theorem pe_lstZ (h : PA X es ta) : PE X (.List es pos) (tLstZ ta) := pe_imp (pe_lst (pa_wk h)) fun _ _ _ z => ⟨_, z, fun _ _ q => ⟨q.1, q.2.run⟩⟩
theorem op_imp {f : Value → Value → Sem Value} {r r' : R2} (h : OpR X f r) (g : ∀ x y H Q, r' x y H Q → r x y H Q) : OpR X f r' := fun pins s σ H x y v u Q I rx ry z => h pins s σ H x y v u Q I rx ry (g x y H Q z)
theorem call_imp {f : Value} {r r' : List V → Hp → VK → Prop} (h : CallR X f r) (g : ∀ xs H Q, r' xs H Q → r xs H Q) : CallR X f r' := fun pins s σ H xs us Q I rx z => h pins s σ H xs us Q I rx (g xs H Q z)
def rCatZ : R2 := fun x y H Q => ∃ l b xs zs, x = .ref l ∧ y = .ref b ∧ H l = some (.lst xs) ∧ H b = some (.lst zs) ∧ xs.length + zs.length ≤ sizeLine ∧ New H (.lst (xs ++ zs)) fun p H2 => Q (.ref p) H2
theorem op_catZ : OpR X (binaryOp .Add) rCatZ := op_imp op_cat fun _ _ _ _ ⟨l, b, xs, zs, e1, e2, h1, h2, hz, n⟩ => ⟨l, b, xs, zs, e1, e2, h1, h2, hz, n.run⟩
def rRepZ : R2 := fun x y H Q => ∃ l k xs, x = .ref l ∧ y = .int k ∧ H l = some (.lst xs) ∧ -(2 ^ 63) ≤ k ∧ k < 2 ^ 63 ∧ xs.length * k.toNat ≤ sizeLine ∧ New H (.lst (List.replicate k.toNat xs).flatten) fun p H2 => Q (.ref p) H2
def rListZ (K : Frg) : List V → Hp → VK → Prop := fun xs H Q => ∃ p ys, xs = [.ref p] ∧ (SqL K H p ys ∨ SqT K H p ys) ∧ New H (.lst ys) fun l H2 => Q (.ref l) H2
theorem call_listZ : CallR X (.type "list") (rListZ X.K) := call_imp call_list_of fun _ _ _ ⟨p, ys, e, h, n⟩ => ⟨p, ys, e, h, n.run⟩
def rSlLZ (K : Frg) : V → Option Int → Option Int → Hp → VK → Prop := fun x lo hi H Q => ∃ a xs, x = .ref a ∧ SqL K H a xs ∧ New H (.lst (cutV xs lo hi)) fun p H2 => Q (.ref p) H2
theorem sl_listZ : L2.SlR X (rSlLZ X.K) := fun pins s σ H x v vl vu lo hi sl Q I rx hs pl pu ⟨a, xs, e, h, n⟩ => sl_list pins s σ H x v vl vu lo hi sl Q I rx hs pl pu ⟨a, xs, e, h, n.run⟩
def rSetLZ : TSet := fun o i v H Q => ∃ p xs k j, o = .ref p ∧ i = .int k ∧ H p = some (.lst xs) ∧ ixN xs.length k = some j ∧ Put H p (.lst (xs.set j v)) Q
theorem set_listZ : PSet X rSetLZ := fun pins s σ H o i v ov iv vv Q I ro ri rv ⟨p, xs, k, j, e1, e2, h, hj, n⟩ => set_list pins s σ H o i v ov iv vv Q I ro ri rv ⟨p, xs, k, j, e1, e2, h, hj, n.run⟩
theorem pe_globI {x : Str} {i : Int} (hg : Gl X x) (h : ∃ t, X.mg x = some (.int i t)) (hd : (x == ("__debug__" : Str)) = false := by decide) : PE X (.Name x pos) (tC (.int i)) := let ⟨t, q⟩ := h; pe_glob hg q ⟨t, rfl⟩ hd
theorem pe_globS {x z : Str} (hg : Gl X x) (h : ∃ t, X.mg x = some (.str z t)) (hd : (x == ("__debug__" : Str)) = false := by decide) : PE X (.Name x pos) (tC (.str z)) := let ⟨t, q⟩ := h; pe_glob hg q ⟨t, rfl⟩ hd
end
/-- a statement and what follows, with a word between them -/
def tCutZ (t u : TS) : TS := fun D σ H => ∃ Mid : L2.St → Hp → Prop, t { D with nx := Mid } σ H ∧ ∀ σ' H', Mid σ' H' → u D σ' H'
theorem zcut {X : Cx} {st : Stmt} {rest : List Stmt} {t u : TS} (h1 : PS X st t) (h2 : PSs X rest u) : PSs X (st :: rest) (tCutZ t u) := by
  have w : PS X st (fun D σ H => ∃ Mid : L2.St → Hp → Prop, t { D with nx := Mid } σ H ∧ ∀ σ' H', Mid σ' H' → D.nx σ' H') := ⟨fun pins s σ H D I ⟨Mid, z, f⟩ => thn (h1.run pins s σ H _ I z) fun fl s' q => by
    cases fl with
    | next => obtain ⟨σ', H', I', q'⟩ := q; exact ⟨σ', H', I', f _ _ q'⟩
    | brk => exact q
    | cont => exact q
    | ret v => exact q⟩
  exact ⟨fun pins s σ H D I ⟨Mid, z, f⟩ => (pss_cons w h2).run pins s σ H D I ⟨Mid, z, f⟩⟩
theorem lenOk {α : Type} {xs : List α} (h : Nat.ble xs.length 1000 = true) : xs.length ≤ sizeLine := Nat.le_trans (Nat.le_of_ble_eq_true h) (by decide)
end Z
namespace Z
open PySem PySem.Spec PyProof.Rows L2
theorem tyT {K : Frg} {H : Hp} {a : Addr} {xs : List V} (h : SqT K H a xs) : TyX K H (.ref a) (.type "tuple") := by
  rcases h with (h | ⟨o, h⟩) | ⟨o, its, n, h1, h2, _⟩
  · exact .base (.tup h)
  · exact .fTuple h
  · exact .kTuple h1 h2
theorem tyL {K : Frg} {H : Hp} {a : Addr} {xs : List V} (h : SqL K H a xs) : TyX K H (.ref a) (.type "list") := by
  rcases h with (h | ⟨o, h⟩) | ⟨o, its, n, h1, h2, _⟩
  · exact .base (.lst h)
  · exact .base (.frz h)
  · exact .kList h1 h2
theorem tyI {K : Frg} {H : Hp} (i : Int) : TyX K H (.int i) (.type "int") := .base (.int i)
theorem tyO {K : Frg} {H : Hp} {C a dx : Addr} {fs : List (Str × V)} (c : Cls K C) (o : Own K C) (h : H a = some (.ins C dx fs)) : TyX K H (.ref a) (.ref C) := .base (.ins h c o.ha o.hn o.ht o.ob)
/-- the reading of a comprehension behind its source -/
def LcR (J : It) (g : TG) (tt : TT) (te : TE) (vs : List Nat) (σ : L2.St) (H1 : Hp) (Q : VK) : Prop := ∀ D, H1 D = none → ∃ W : Nat → Nat → Hp → Prop, (∃ m, W 0 m (upd H1 D (.lst []))) ∧ ∀ i m H, W i m H →
  (J.stop i H ∧ Q (.ref D) H) ∨ (J.go i H ∧ ∃ Nx : Hp → Prop, (∀ H', Nx H' → ∃ m', m' < m ∧ W (i + 1) m' H') ∧ ∀ x H', J.yld i H x H' → g x (wipe σ vs) H' fun σ2 H2 => wipe σ2 vs = wipe σ vs ∧ tt σ2 H2 fun b H3 =>
    if b = true then te σ2 H3 fun y H4 => ∃ acc, H4 D = some (.lst acc) ∧ acc.length < sizeLine ∧ Nx (upd H4 D (.lst (acc ++ [y]))) else Nx H3)
def tLcZ (wi : TI) (g : TG) (tt : TT) (te : TE) (vs : List Nat) : TE := fun σ H Q => wi σ H fun J H1 => LcR J g tt te vs σ H1 Q
theorem pe_lcZ {X : Cx} {e : Expr} {wi : TI} {g : TG} {tt : TT} {te : TE} {vs : List Nat} (h : PE X e (tLc wi g tt te vs)) : PE X e (tLcZ wi g tt te vs) := h
/-- a comprehension, by what holds of the items made so far -/
theorem lc_go {J : It} {n : Nat} {G : Hp → Prop} {Y : Nat → Hp → V → Hp → Prop} (w : Walk J n G Y) {g : TG} {tt : TT} {te : TE} {vs : List Nat} {σ : L2.St} {F H : Hp} {ms : List Addr} {Q : VK} (hs : Same F H) (hm : ∀ a ∈ ms, H a ≠ none) (M : Hp → Hp → Prop) (m0 : M F H)
    (mst : ∀ D F1 H1 F2 H2, H D = none → M F1 H1 → Go [D] F1 H1 F2 H2 → M F2 H2) (hG : ∀ F1 H1, Go ms F H F1 H1 → M F1 H1 → G H1) (I : Nat → List V → Hp → Prop) (i0 : I 0 [] F) (im : ∀ i acc F1 F2, Same F1 F2 → I i acc F1 → I i acc F2) (hn : n ≤ 100000)
    (turn : ∀ i x acc F1 H1 H1', i < n → acc.length ≤ i → I i acc F1 → Go ms F H F1 H1 → M F1 H1 → Y i H1 x H1' → ∀ (Kp : V → Hp → Prop) (Sk : Hp → Prop), (∀ y F2 H2, Go ms F1 H1 F2 H2 → M F2 H2 → I (i + 1) (acc ++ [y]) F2 → Kp y H2) →
      (∀ F2 H2, Go ms F1 H1 F2 H2 → M F2 H2 → I (i + 1) acc F2 → Sk H2) → g x (wipe σ vs) H1' fun σ2 H2 => wipe σ2 vs = wipe σ vs ∧ tt σ2 H2 fun b H3 => if b = true then te σ2 H3 Kp else Sk H3)
    (fin : ∀ D ys F' H', Go ms F H F' H' → M F' H' → F' D = some (.lst ys) → ys.length ≤ n → I n ys F' → Q (.ref D) H') :
    LcR J g tt te vs σ H Q := by
  intro D hD
  have hsz : (100000 : Nat) < sizeLine := by decide
  have dm : D ∉ ms := fun z => hm D z hD
  have st : ∀ {F2 H2 : Hp} {acc : List V}, Go ms F H F2 H2 → M F2 H2 → F2 D = none → ∀ o, Go ms F H F2 (upd H2 D o) ∧ M F2 (upd H2 D o) := fun {F2 H2 acc} gg m fd o => by
    have p : Go [D] F2 H2 F2 (upd H2 D o) := Go.put gg.fh fd
    have p2 : Go (D :: ms) F2 H2 F2 (upd H2 D o) := p.sub fun a ha => by
      rcases List.mem_cons.mp ha with e | e
      · rw [e]; exact List.mem_cons_self
      · cases e
    have g2 : Go (D :: ms) F H F2 H2 := gg.sub fun a ha => List.mem_cons_of_mem _ ha
    exact ⟨(g2.trans p2).drop hD, mst D _ _ _ _ hD m p⟩
  refine lc_it w (fun i H' => ∃ F' acc, Go ms F H F' H' ∧ M F' H' ∧ F' D = none ∧ H' D = some (.lst acc) ∧ acc.length ≤ i ∧ I i acc F') ?_ (fun i H' _ ⟨F', acc, g1, m1, _⟩ => hG F' H' g1 m1) ?_ ?_
  · have fd := same_none hs hD
    obtain ⟨a, b⟩ := st (acc := []) (Go.refl hs) m0 fd (.lst [])
    exact ⟨F, [], a, b, fd, upd_same, Nat.le_refl _, i0⟩
  · rintro i x H1 H1' hi ⟨F1, acc, g1, m1, fd, hd, hl, hI⟩ hy
    refine turn i x acc F1 H1 H1' hi hl hI g1 m1 hy _ _ (fun y F2 H2 g2 m2 I2 => ?_) fun F2 H2 g2 m2 I2 => ?_
    · have key : F2 D = none ∧ H2 D = some (.lst acc) := g2.mu D _ dm fd hd
      obtain ⟨a, b⟩ := st (acc := acc) (g1.trans g2) m2 key.1 (.lst (acc ++ [y]))
      refine ⟨acc, key.2, by omega, F2, acc ++ [y], a, b, key.1, upd_same, ?_, I2⟩
      rw [List.length_append]
      show acc.length + 1 ≤ i + 1
      omega
    · have key : F2 D = none ∧ H2 D = some (.lst acc) := g2.mu D _ dm fd hd
      exact ⟨F2, acc, g1.trans g2, m2, key.1, key.2, by omega, I2⟩
  · rintro H' ⟨F', acc, g1, m1, fd, hd, hl, hI⟩
    have fz : Go [D] F' H' (upd F' D (.lst acc)) H' := Go.freeze g1.fh fd hd
    have g2 : Go (D :: ms) F H (upd F' D (.lst acc)) H' := (g1.sub fun a ha => List.mem_cons_of_mem _ ha).trans (fz.sub fun a ha => by
      rcases List.mem_cons.mp ha with e | e
      · rw [e]; exact List.mem_cons_self
      · cases e)
    exact fin D acc _ H' (g2.drop hD) (mst D _ _ _ _ hD m1 fz) upd_same hl (im _ _ _ _ fz.ff hI)
theorem cx_no {P : World → Program} (w : World) (H : Hp) (s : Shared) (e : Value) (s' : Shared) (h : L2.CX (P w) w [] H s (fun _ _ _ => False) e s') : False := by
  obtain ⟨_, _, _, _, _, _, _, _, _, _, _, _, z⟩ := h
  exact z
end Z
namespace Z
open PySem PySem.Spec PyProof.Rows L2
/-! ### what is_integer, is_place tell -/
end Z
namespace MN
/-- the place of the cell -/
def low (a b c x y : Int) : Int × Int := ((x - y / c * b) % a, y - y / c * c)
/-- a shift of the net -/
def InN (a b c x y : Int) : Prop := ∃ m k : Int, x = m * a + k * b ∧ y = k * c
theorem inN_add {a b c x y x' y' : Int} (h : InN a b c x y) (h' : InN a b c x' y') : InN a b c (x + x') (y + y') := by
  obtain ⟨m, k, h1, h2⟩ := h
  obtain ⟨m', k', h3, h4⟩ := h'
  exact ⟨m + m', k + k', by grind, by grind⟩
theorem inN_neg {a b c x y : Int} (h : InN a b c x y) : InN a b c (-x) (-y) := by
  obtain ⟨m, k, h1, h2⟩ := h
  exact ⟨-m, -k, by grind, by grind⟩
theorem inN_sub {a b c x y x' y' : Int} (h : InN a b c x y) (h' : InN a b c x' y') : InN a b c (x - x') (y - y') := by
  obtain ⟨m, k, h1, h2⟩ := h
  obtain ⟨m', k', h3, h4⟩ := h'
  exact ⟨m - m', k - k', by grind, by grind⟩
theorem inN_zero {a b c : Int} : InN a b c 0 0 := ⟨0, 0, by grind, by grind⟩
theorem low_in (a b c x y : Int) : InN a b c (x - (low a b c x y).1) (y - (low a b c x y).2) := by
  refine ⟨(x - y / c * b) / a, y / c, ?_, ?_⟩
  · show x - (x - y / c * b) % a = _
    have := Int.emod_add_mul_ediv (x - y / c * b) a
    grind
  · show y - (y - y / c * c) = _
    grind
theorem low_rng {a b c x y : Int} (ha : 0 < a) (hc : 0 < c) : 0 ≤ (low a b c x y).1 ∧ (low a b c x y).1 < a ∧ 0 ≤ (low a b c x y).2 ∧ (low a b c x y).2 < c := by
  have h1 := Int.emod_nonneg (x - y / c * b) (show a ≠ 0 by omega)
  have h2 := Int.emod_lt_of_pos (x - y / c * b) ha
  have h3 := Int.emod_nonneg y (show c ≠ 0 by omega)
  have h4 := Int.emod_lt_of_pos y hc
  have h5 := Int.emod_add_mul_ediv y c
  have e : y - y / c * c = y % c := by grind
  refine ⟨h1, h2, ?_, ?_⟩
  · show 0 ≤ y - y / c * c
    omega
  · show y - y / c * c < c
    omega
/-- within the cell only (0, 0) belongs to the net -/
theorem in_cell {a b c x y : Int} (ha : 0 < a) (hc : 0 < c) (h : InN a b c x y) (hx : -a < x ∧ x < a) (hy : -c < y ∧ y < c) : x = 0 ∧ y = 0 := by
  obtain ⟨m, k, h1, h2⟩ := h
  have hk : k = 0 := by
    rcases Int.lt_trichotomy k 0 with z | z | z
    · have : k * c ≤ -1 * c := Int.mul_le_mul_of_nonneg_right (by omega) (by omega)
      omega
    · exact z
    · have : 1 * c ≤ k * c := Int.mul_le_mul_of_nonneg_right (by omega) (by omega)
      omega
  subst hk
  have hm : m = 0 := by
    rcases Int.lt_trichotomy m 0 with z | z | z
    · have : m * a ≤ -1 * a := Int.mul_le_mul_of_nonneg_right (by omega) (by omega)
      omega
    · exact z
    · have : 1 * a ≤ m * a := Int.mul_le_mul_of_nonneg_right (by omega) (by omega)
      omega
  subst hm
  exact ⟨by omega, by omega⟩
/-- two places have the same place of the cell exactly if they differ by a shift -/
theorem low_eq {a b c x y x' y' : Int} (ha : 0 < a) (hc : 0 < c) : low a b c x y = low a b c x' y' ↔ InN a b c (x - x') (y - y') := by
  have h1 := low_in a b c x y
  have h2 := low_in a b c x' y'
  have r1 := low_rng (b := b) (x := x) (y := y) ha hc
  have r2 := low_rng (b := b) (x := x') (y := y') ha hc
  constructor
  · intro e
    rw [e] at h1
    have := inN_sub h1 h2
    have e1 : x - (low a b c x' y').1 - (x' - (low a b c x' y').1) = x - x' := by omega
    have e2 : y - (low a b c x' y').2 - (y' - (low a b c x' y').2) = y - y' := by omega
    rw [e1, e2] at this
    exact this
  · intro h
    have h3 := inN_sub (inN_sub h h1) (inN_neg h2)
    have e1 : x - x' - (x - (low a b c x y).1) - -(x' - (low a b c x' y').1) = (low a b c x y).1 - (low a b c x' y').1 := by omega
    have e2 : y - y' - (y - (low a b c x y).2) - -(y' - (low a b c x' y').2) = (low a b c x y).2 - (low a b c x' y').2 := by omega
    rw [e1, e2] at h3
    obtain ⟨z1, z2⟩ := in_cell ha hc h3 (by omega) (by omega)
    exact Prod.ext (by omega) (by omega)
theorem low_zero {a b c x y : Int} (ha : 0 < a) (hc : 0 < c) : low a b c x y = (0, 0) ↔ InN a b c x y := by
  have e : low a b c 0 0 = (0, 0) := by simp [low]
  rw [← e, low_eq ha hc]
  simp
theorem low_self {a b c x y : Int} (hx : 0 ≤ x ∧ x < a) (hy : 0 ≤ y ∧ y < c) : low a b c x y = (x, y) := by
  have h : y / c = 0 := Int.ediv_eq_zero_of_lt hy.1 hy.2
  unfold low
  rw [h]
  have : (x - 0 * b) % a = x := by rw [show x - 0 * b = x by omega]; exact Int.emod_eq_of_lt hx.1 hx.2
  rw [this]
  simp
/-! ### the order of a shift -/
theorem inN_iff {a b c x y : Int} (hc : 0 < c) : InN a b c x y ↔ c ∣ y ∧ a ∣ x - y / c * b := by
  constructor
  · rintro ⟨m, k, h1, h2⟩
    have : y / c = k := by rw [h2]; exact Int.mul_ediv_cancel k (by omega)
    refine ⟨⟨k, by rw [h2, Int.mul_comm]⟩, m, ?_⟩
    rw [this]
    grind
  · rintro ⟨⟨k, h1⟩, m, h2⟩
    have : y / c = k := by rw [h1]; exact Int.mul_ediv_cancel_left k (by omega)
    rw [this] at h2
    exact ⟨m, k, by grind, by grind⟩
end MN
namespace Z
open PySem PySem.Spec PyProof.Rows L2
/-! ### sizes -/
def Sz (n : Nat) (x : Int) : Prop := x.natAbs < 2 ^ n
theorem Sz.mono {a b : Nat} {x : Int} (h : Sz a x) (hl : a ≤ b) : Sz b x := Nat.lt_of_lt_of_le h (Nat.pow_le_pow_right (by decide) hl)
theorem sz_add {a : Nat} {x y : Int} (h : Sz a x) (h' : Sz a y) : Sz (a + 1) (x + y) := by
  have h1 := Int.natAbs_add_le x y
  have h2 : x.natAbs < 2 ^ a := h
  have h3 : y.natAbs < 2 ^ a := h'
  show (x + y).natAbs < 2 ^ (a + 1)
  rw [Nat.pow_succ]
  omega
theorem sz_neg {a : Nat} {x : Int} (h : Sz a x) : Sz a (-x) := by
  show (-x).natAbs < 2 ^ a
  rw [Int.natAbs_neg]
  exact h
theorem sz_sub {a : Nat} {x y : Int} (h : Sz a x) (h' : Sz a y) : Sz (a + 1) (x - y) := by
  rw [Int.sub_eq_add_neg]
  exact sz_add h (sz_neg h')
theorem sz_div {a : Nat} {x : Int} (y : Int) (h : Sz a x) : Sz a (x / y) := Nat.lt_of_le_of_lt (Int.natAbs_ediv_le_natAbs x y) h
theorem sz_le {a : Nat} {x y : Int} (h0 : 0 ≤ x) (h1 : x ≤ y) (h : Sz a y) : Sz a x := Nat.lt_of_le_of_lt (by omega) h
theorem mulOk {x y : Int} (h : Sz 5000 x) (h' : Sz 5000 y) : CMulW x y := wide_mul h h' (by decide) (by decide) (by decide)
theorem divOk {x y : Int} (h : 0 < y) (h' : Sz 5000 y) : CDivW x y := wide_div h h' (by decide) (by decide)
/-! ### tuples of ints compared -/
section
variable {K : Frg} {H : Hp} {p q : Addr} {a b c d e f : Int} {Q : VK}
end
/-! ### nets -/
def netF (q : Addr) : List (Str × V) := [("own_numbers", .ref q)]
structure NetIs (C : Addr) (F : Hp) (x : Addr) (a b c : Int) : Prop where
  at_ : ∃ dx q, F x = some (.ins C dx (netF q)) ∧ F q = some (.tup [.int a, .int b, .int c])
  hc : 1 ≤ c
  hb : 0 ≤ b
  ba : b < a
  sa : Sz 1000 a
  sc : Sz 1000 c
theorem NetIs.mono {C : Addr} {F H : Hp} {x : Addr} {a b c : Int} (n : NetIs C F x a b c) (s : Same F H) : NetIs C H x a b c := by
  obtain ⟨⟨dx, q, h1, h2⟩, r1, r2, r3, r4, r5⟩ := n
  exact ⟨⟨dx, q, s _ _ h1, s _ _ h2⟩, r1, r2, r3, r4, r5⟩
theorem NetIs.sb {C : Addr} {F : Hp} {x : Addr} {a b c : Int} (n : NetIs C F x a b c) : Sz 1000 b := sz_le n.hb (Int.le_of_lt n.ba) n.sa
theorem NetIs.ha {C : Addr} {F : Hp} {x : Addr} {a b c : Int} (n : NetIs C F x a b c) : 0 < a := by have := n.hb; have := n.ba; omega
end Z
namespace Z
open PySem PySem.Spec PyProof.Rows L2
/-- the tape: a list that changes -/
def TapeV (K : Frg) (F : Hp) (xs : List V) : Prop := ∃ (c : Addr) (ns : List Int) (i b r : Int), xs = [.ref c, .int i, .int b, .int r] ∧ SqL K F c (ns.map V.int) ∧ 0 ≤ i ∧ 0 ≤ b ∧ 0 ≤ r ∧ r < 2147483647
structure Tape (K : Frg) (F H : Hp) (t : Addr) : Prop where
  fr : F t = none
  at_ : ∃ xs, H t = some (.lst xs) ∧ TapeV K F xs
theorem Tape.go {K : Frg} {F H F' H' : Hp} {t : Addr} {ms : List Addr} (x : Tape K F H t) (g : Go ms F H F' H') (hm : t ∉ ms) : Tape K F' H' t := by
  obtain ⟨h1, xs, h2, c, ns, i, b, r, e, h3, h4⟩ := x
  obtain ⟨a1, a2⟩ := g.mu t _ hm h1 h2
  exact ⟨a1, xs, a2, c, ns, i, b, r, e, sqL g.ff h3, h4⟩
theorem Tape.go0 {K : Frg} {F H F' H' : Hp} {t : Addr} (x : Tape K F H t) (g : Go [] F H F' H') : Tape K F' H' t := x.go g (by simp)
theorem Tape.ne {K : Frg} {F H : Hp} {t : Addr} (x : Tape K F H t) : H t ≠ none := by
  obtain ⟨_, xs, h, _⟩ := x
  rw [h]
  exact fun z => nomatch z
def spDraw (K : Frg) : Sp := Sp2 fun a b H Q _ => ∃ F t many, a = .ref t ∧ b = .int many ∧ Same F H ∧ Tape K F H t ∧ 0 < many ∧ many.natAbs.log2 < 9000 ∧
  ∀ d H', 0 ≤ d → d < many → Go [t] F H F H' → Tape K F H' t → Q (.int d) H'
def spTape (K : Frg) : Sp := Sp1 fun a H Q _ => ∃ (F : Hp) (s : Addr) (ns : List Int), a = .ref s ∧ Same F H ∧ SqL K F s (ns.map V.int) ∧ ∀ t F' H', Go [] F H F' H' → Tape K F' H' t → Q (.ref t) H'
theorem sz_lit {n : Nat} {x : Int} (h : Nat.blt x.natAbs (2 ^ n) = true) : Sz n x := Nat.le_of_ble_eq_true h
theorem szLog {x : Int} (h : Sz 8000 x) : x.natAbs.log2 < 9000 := Nat.lt_of_lt_of_le (PySem.Flt.log2_lt_of (by decide) h) (by decide)
theorem cut_ints (ns : List Int) (lo hi : Option Int) : ∃ ms : List Int, cutV (ns.map V.int) lo hi = ms.map V.int := by
  unfold cutV
  rw [← List.map_drop, ← List.map_take]
  exact ⟨_, rfl⟩
end Z
namespace Z
open PySem PySem.Spec PyProof.Rows L2
/-! ### room, with nothing being shown above -/
structure RoomG (k : Nat) (A : Around) : Prop where
  rm : Room k A
  gd : A.guards = some []
theorem RoomG.mono {j k : Nat} {A : Around} (r : RoomG k A) (h : j ≤ k) : RoomG j A := ⟨r.rm.mono h, r.gd⟩
theorem RoomG.deeper {k : Nat} {A : Around} (r : RoomG (k + 1) A) (env : Env) : RoomG k (A.deeper env) := ⟨r.rm.deeper env, r.gd⟩
theorem RoomG.in1 {k : Nat} {A : Around} (r : RoomG (k + 1) A) : RoomG k A.in1 := ⟨r.rm.in1, r.gd⟩
theorem guards_make {A : Around} {C : Addr} {us : List Value} : (A.under (.builtin "type.__call__" ⟨.ref C :: us, []⟩)).guards = A.guards := by
  show pushGuards (Code.guards (.builtin "type.__call__" ⟨.ref C :: us, []⟩)) A.guards = A.guards
  have e : Code.guards (.builtin "type.__call__" ⟨.ref C :: us, []⟩) = [] := by
    unfold Code.guards
    first | rfl | decide +kernel | simp
  rw [e]
  cases A.guards <;> rfl
theorem RoomG.make {k : Nat} {A : Around} (r : RoomG (k + 1) A) (C : Addr) (us : List Value) : RoomG k (A.under (.builtin "type.__call__" ⟨.ref C :: us, []⟩)) := ⟨r.rm.make C us [], by rw [guards_make]; exact r.gd⟩
theorem RoomG.units {k : Nat} {A : Around} (r : RoomG k A) : A.units + 64 < cLine := r.rm.units
/-- a def, called where nothing is being shown -/
def FnG (P : Program) (w : World) (K : Frg) (mg : Str → Option Value) (base : Heap) (CX : CXT) (k : Nat) (f : Addr) (sp : Sp) : Prop :=
  ∀ (A : Around) (outer : List Env) (s : Shared) (H : Hp) (us : List Value) (vs : List V) (Q : VK) (E : XK), RoomG k A → Env0 P w K mg base A outer s H → Vals vs us → sp vs H Q E → codeAny (model P w) A (.call (.ref f) ⟨us, []⟩) (CR CX outer P w H s Q E) s
/-- .. at one such place -/
def FnA (A : Around) (P : Program) (w : World) (K : Frg) (mg : Str → Option Value) (base : Heap) (CX : CXT) (f : Addr) (sp : Sp) : Prop :=
  ∀ (outer : List Env) (s : Shared) (H : Hp) (us : List Value) (vs : List V) (Q : VK) (E : XK), Env0 P w K mg base A outer s H → Vals vs us → sp vs H Q E → codeAny (model P w) A (.call (.ref f) ⟨us, []⟩) (CR CX outer P w H s Q E) s
section
variable {P : Program} {w : World} {K : Frg} {mg : Str → Option Value} {base : Heap} {CX : CXT} {k : Nat} {f : Addr} {sp sp' : Sp} {A : Around}
theorem FnG.at (F : FnG P w K mg base CX k f sp) (hr : RoomG k A) : FnA A P w K mg base CX f sp := fun outer s H us vs Q E => F A outer s H us vs Q E hr
theorem FnG.of (F : FnR P w K mg base CX k f sp) : FnG P w K mg base CX k f sp := fun A outer s H us vs Q E hr => F A outer s H us vs Q E hr.rm
theorem FnG.imp (F : FnG P w K mg base CX k f sp) (h : ∀ vs H Q E, sp' vs H Q E → sp vs H Q E) : FnG P w K mg base CX k f sp' := fun A outer s H us vs Q E hr e0 r hs => F A outer s H us vs Q E hr e0 r (h _ _ _ _ hs)
end
section
variable {X : Cx} {CX : CXT} {k : Nat} {f C p g : Addr} {sp : Sp} {E : XK} {x m : Str} {p0 pos apos : Pos} {e o a b : Expr} {es : List Expr} {ta tb : TE} {t : TA} {pins : List (Addr × Obj)} {σ : L2.St} {H : Hp} {s : Shared}
theorem run_A {A : Around} {Q : VK} {us : List Value} {vs : List V} (F : FnA A X.prog X.w X.K X.mg X.base CX f sp) (e0 : Env0 X.prog X.w X.K X.mg X.base A X.stack s H) (hx : Passes CX X E) (I : L2.Inv X pins σ H s) (r : Vals vs us) (h : sp vs H Q E) :
    codeAny (model X.prog X.w) A (.call (.ref f) ⟨us, []⟩) (fun r s' => match r with | .ok (.ret v) => EP X pins σ Q v s' | .ok _ => False | .error e => X.xe e s') s :=
  codeAny_mono (F X.stack s H us vs Q E e0 r h) fun q s' hq => match q, hq with
    | .error er, hq => hx pins σ H s er s' I hq
    | .ok (.ret _), hq => I.after hq
    | .ok .next, hq => False.elim hq
    | .ok .brk, hq => False.elim hq
    | .ok .cont, hq => False.elim hq
theorem run_fnA {Q : VK} {us : List Value} {vs : List V} (F : FnA X.A X.prog X.w X.K X.mg X.base CX f sp) (hx : Passes CX X E) (I : L2.Inv X pins σ H s) (r : Vals vs us) (h : sp vs H Q E) :
    codeAny (model X.prog X.w) X.A (.call (.ref f) ⟨us, []⟩) (fun r s' => match r with | .ok (.ret v) => EP X pins σ Q v s' | .ok _ => False | .error e => X.xe e s') s := run_A F I.env0 hx I r h
theorem gcall (F : FnA X.A X.prog X.w X.K X.mg X.base CX f sp) (hg : Gl X x) (hm : X.mg x = some (.ref f)) (hk : PySem.W.keepIn X.K (.ref f) = true) (hx : Passes CX X E)
    (ha : PA X (e :: es) t) (hdb : (x == ("__debug__" : Str)) = false := by decide) (he : starEach (e :: es) X.env = (false, eval e X.env) :: starEach es X.env := by rfl) (hpl : (backTo pos (starEach es X.env)).any (·.1) = false := by rfl) :
    PE X (.Call (.Name x p0) (e :: es) [] pos) (tFn sp E t) := by
  refine ⟨fun pins s σ H Q I h => ?_⟩
  refine wpAny_Call_Name_kw (ld_glob I hg hm ?_ hdb)
  refine PySem.W.callWith_K (h₀ := X.base) I.ok.mod.kin hk (thn (ha.run pos pins s σ H _ I h) fun us s1 ⟨vs, H1, I1, r, q⟩ => ⟨I1.kIn, ?_⟩) he hpl
  exact wpAny_call (run_fnA F hx I1 r q)
theorem gcall0 (F : FnA X.A X.prog X.w X.K X.mg X.base CX f sp) (hg : Gl X x) (hm : X.mg x = some (.ref f)) (hk : PySem.W.keepIn X.K (.ref f) = true) (hx : Passes CX X E)
    (hdb : (x == ("__debug__" : Str)) = false := by decide) : PE X (.Call (.Name x p0) [] [] pos) (tFn sp E tNil) := by
  refine ⟨fun pins s σ H Q I h => ?_⟩
  refine wpAny_Call_Name_kw (ld_glob I hg hm ?_ hdb)
  exact PySem.W.callWith_K0 I.kIn hk (wpAny_call (run_fnA (us := []) F hx I .nil h))
theorem gop_eq (hs : PySem.W.findIn X.K (.ref C) "__eq__" = some (some (.ref g))) (hf : PySem.W.isFn X.K (.ref g) = true) (F : FnA X.A X.prog X.w X.K X.mg X.base CX g sp) (hu : X.A.units + 64 < cLine) (hx : Passes CX X E) : OpR X (compareOp .Eq) (rEqO false X.K C sp E) := by
  intro pins s σ H x y v u Q I rx ry h
  obtain ⟨a, dx, fs, t, rfl, ea, ty, hn, q⟩ := h
  cases (show v = Value.ref a from rx)
  obtain ⟨mA, O, _, _, _, _⟩ := ins_get I.hok ea
  obtain ⟨od, J, _⟩ := O.look
  obtain ⟨m, hF⟩ := I.fr
  obtain ⟨P, kx, hP, _⟩ := kit_of I ry ty
  refine PySem.W.cmp_K (op := .Eq) (tb := t) (by omega) hF I.ok.mod.kin J (kx.ty _ _ I.kIn hP) hn hs hf ?_
  refine wpAny_mono (wpAny_call (run_fnA (us := [.ref a, u]) (vs := [.ref a, y]) F hx I (.cons rfl (.cons ry .nil)) q)) (fun w s' z => ?_) fun _ _ x => x
  obtain ⟨z', H', I', rz, b, rfl, qz⟩ := z
  cases (show w = Value.bool b from rz)
  exact ⟨.bl b, H', I', rfl, qz⟩
theorem gop_ne (hne : PySem.W.findIn X.K (.ref C) "__ne__" = some (some (.builtin "object.__ne__"))) (hsub : PySem.W.mroIn X.K C (.type "object") = some true) (hs : PySem.W.findIn X.K (.ref C) "__eq__" = some (some (.ref g))) (hf : PySem.W.isFn X.K (.ref g) = true)
    (F : FnA X.A.in1 X.prog X.w X.K X.mg X.base CX g sp) (hu : X.A.units + 64 < cLine) (hx : Passes CX X E) : OpR X (compareOp .NotEq) (rEqO true X.K C sp E) := by
  intro pins s σ H x y v u Q I rx ry h
  obtain ⟨a, dx, fs, t, rfl, ea, ty, hn, q⟩ := h
  cases (show v = Value.ref a from rx)
  obtain ⟨mA, O, _, _, _, _⟩ := ins_get I.hok ea
  obtain ⟨od, J, _⟩ := O.look
  obtain ⟨P, kx, hP, _⟩ := kit_of I ry ty
  have one : wpAny (model X.prog X.w) X.A (tryCompare (.ref a) "__ne__" u) (fun r s' => ∃ b, r = some b ∧ EP X pins σ Q b s') X.xe s := by
    refine ne_try (by omega) I.kIn J hne hsub hs hf ?_
    refine codeAny_mono (run_A (us := [.ref a, u]) (vs := [.ref a, y]) F I.env0.in1 hx I (.cons rfl (.cons ry .nil)) q) fun r s' z => ?_
    cases r with
    | error e => exact z
    | ok fl =>
      cases fl with
      | ret w =>
        obtain ⟨z', H', I', rz, b, rfl, qz⟩ := z
        cases (show w = Value.bool b from rz)
        exact ⟨b, rfl, _, rfl, .bl (!b), H', I', rfl, qz⟩
      | next => exact z
      | brk => exact z
      | cont => exact z
  show wpAny (model X.prog X.w) X.A (richCompare .NotEq (.ref a) u) (EP X pins σ Q) X.xe s
  unfold richCompare
  simp only [oneThing_ref]
  refine wpAny_holding (wpAny_bind (wpAny_cRoomFor (by omega) ?_))
  refine wpAny_bind (J.type.here (wpAny_bind ((kx.ty _ _ I.kIn hP).here ?_)))
  split
  · rename_i q
    have e : PySem.W.subIn X.K t (.ref C) = some false := by
      rcases Bool.or_eq_true_iff.mp hn with e | e
      · rw [beq_iff_eq.mp e] at q; simp at q
      · exact beq_iff_eq.mp e
    refine wpAny_bind ((PySem.W.looks_subIn I.kIn e).here ?_)
    simp only [Bool.false_eq_true, if_false]
    refine wpAny_bind (wpAny_mono one (fun r s' z => ?_) fun _ _ e => e)
    obtain ⟨v, rfl, hq⟩ := z
    exact wpAny_pure hq
  · refine wpAny_bind (wpAny_pure ?_)
    simp only [Bool.false_eq_true, if_false]
    refine wpAny_bind (wpAny_mono one (fun r s' z => ?_) fun _ _ e => e)
    obtain ⟨v, rfl, hq⟩ := z
    exact wpAny_pure hq
/-- making an instance -/
theorem run_makeG {Q : VK} {us : List Value} {vs : List V} (M : Mk X.K C f) (F : FnG X.prog X.w X.K X.mg X.base CX k f sp) (hr : RoomG (k + 1) X.A) (hx : Passes CX X E) (I : L2.Inv X pins σ H s) (r : Vals vs us)
    (h : ∀ x dx, H x = none → H dx = none → dx ≠ x → sp (V.ref x :: vs) (upd (upd H dx (.own x)) x (.ins C dx [])) (fun v H2 => v = .non ∧ Q (.ref x) H2) E) :
    wpAny (model X.prog X.w) X.A (call (.ref C) us) (EP X pins σ Q) X.xe s := by
  have J := Inv.made (C := C) I
  have hq := h (s.heap.objs.size + 1) s.heap.objs.size (I.hok.fresh (Nat.le_succ _)) (I.hok.fresh (Nat.le_refl _)) (Nat.ne_of_lt (Nat.lt_succ_self _))
  have run := F _ X.stack _ _ (.ref (s.heap.objs.size + 1) :: us) (.ref (s.heap.objs.size + 1) :: vs) _ E (hr.make C us) (J.env0.make C us []) (.cons rfl r) hq
  exact wpAny_call (make_map (f := f) I.kIn M.makes M.init (beq_iff_eq.mp M.fn) (codeAny_mono run fun q s' z => match q, z with
    | .error er, z => hx pins σ _ _ er s' J z
    | .ok (.ret _), z => by
      obtain ⟨v, H', J3, rv, ev, q3⟩ := J.after z
      subst ev
      exact ⟨rv, V.ref (s.heap.objs.size + 1), H', J3, rfl, q3⟩
    | .ok .next, z => False.elim z
    | .ok .brk, z => False.elim z
    | .ok .cont, z => False.elim z))
theorem gmake {x : Str} {spI spM : Sp} (mk : ∀ vs H Q, spM vs H Q E → ∀ x dx, H x = none → H dx = none → dx ≠ x → spI (.ref x :: vs) (upd (upd H dx (.own x)) x (.ins C dx [])) (fun v H2 => v = .non ∧ Q (.ref x) H2) E)
    (M : Mk X.K C f) (F : FnG X.prog X.w X.K X.mg X.base CX k f spI) (hr : RoomG (k + 1) X.A) (hg : Gl X x) (hm : X.mg x = some (.ref C)) (hx : Passes CX X E) (ha : PA X (e :: es) t) (hdb : (x == ("__debug__" : Str)) = false := by decide)
    (he : starEach (e :: es) X.env = (false, eval e X.env) :: starEach es X.env := by rfl) (hpl : (backTo pos (starEach es X.env)).any (·.1) = false := by rfl) : PE X (.Call (.Name x p0) (e :: es) [] pos) (tFn spM E t) := by
  refine ⟨fun pins s σ H Q I h => ?_⟩
  refine wpAny_Call_Name_kw (ld_glob I hg hm ?_ hdb)
  refine PySem.W.callWith_K (h₀ := X.base) I.ok.mod.kin M.kp (thn (ha.run pos pins s σ H _ I h) fun us s1 ⟨vs, H1, I1, r, q⟩ => ⟨I1.kIn, ?_⟩) he hpl
  exact run_makeG M F hr hx I1 r (mk vs H1 Q q)
end
end Z
namespace Z
open PySem PySem.Spec PyProof.Rows L2
section
variable {P : Program} {w : World} {K : Frg} {mg : Str → Option Value} {base : Heap}
/-- a def by its text, where nothing is being shown -/
theorem zfnG {x qual : Str} {st : Stmt} {f : Addr} {N ps : List Str} {k : Nat} {sp : Sp} (F : DefAt K x qual st f) (S : FnScope N ps (defScope st)) (len : ∀ vs H Q E, sp vs H Q E → vs.length = ps.length)
    (hb : ∀ (kV doc pm : Value) (an : Option Addr) (cdv ct : Value) (us : List Value), us.length = ps.length → bindArgs (PySem.W.fnOf x qual (defArgs st) (defBody st) (defScope st) .none kV doc pm an cdv ct) ⟨us, []⟩ = pure (ps.zip us))
    (hbody : ∀ (cdv : Value) (A : Around) (outer : List Env) (s : Shared) (H : Hp) (vs : List V) (Q : VK) (E : XK), RoomG k (A.deeper (envOfC qual (defScope st) s.heap.objs.size f cdv)) → sp vs H Q E →
      ∃ t, PSs (cxOf (L2.CX P w) P w K mg base N qual (defScope st) f cdv A outer s H E) (defBody st) t ∧ t { nx := fun _ H' => Q .non H', rt := Q } (start N vs) H) : FnG P w K mg base (L2.CX P w) (k + 1) f sp := by
  obtain ⟨fd, F⟩ := F
  obtain ⟨oc, od, dV, kV, doc, pm, an, cdv, ct, osl, rfl, lk, hcd, hD, hK⟩ := F.ex
  have hD' : dV = .none := by
    rcases hD with ⟨_, z⟩ | ⟨z, _⟩
    · exact z
    · exact absurd rfl z
  subst hD'
  intro A outer s H us vs Q E hr e0 r hs
  have hl := len _ _ _ _ hs
  have hu : us.length = ps.length := r.length.symm.trans hl
  refine StX.run_bnd lk hcd S hr.rm e0 (G := fun xs H2 => xs = vs ∧ H2 = H) (fun A' Ex Q' h => ?_) fun s2 H2 xs g hr' => ?_
  · rw [hb kV doc pm an cdv ct us hu]
    exact wpAny_pure (h s H vs us e0 .refl rfl (fun _ _ z => z) r hl ⟨rfl, rfl⟩)
  · obtain ⟨rfl, rfl⟩ := g
    exact hbody cdv A outer s2 H2 xs Q E ⟨hr', hr.gd⟩ hs
/-- a def by its text, its code object told -/
theorem zfnGC {x qual : Str} {st : Stmt} {f : Addr} {N ps : List Str} {k : Nat} {sp : Sp} (F : DefAt K x qual st f) (S : FnScope N ps (defScope st)) (len : ∀ vs H Q E, sp vs H Q E → vs.length = ps.length)
    (hb : ∀ (kV doc pm : Value) (an : Option Addr) (cdv ct : Value) (us : List Value), us.length = ps.length → bindArgs (PySem.W.fnOf x qual (defArgs st) (defBody st) (defScope st) .none kV doc pm an cdv ct) ⟨us, []⟩ = pure (ps.zip us))
    (hbody : ∀ (cdv : Value), cdv = .ref (cdAt K f) → ∀ (A : Around) (outer : List Env) (s : Shared) (H : Hp) (vs : List V) (Q : VK) (E : XK), RoomG k (A.deeper (envOfC qual (defScope st) s.heap.objs.size f cdv)) → sp vs H Q E →
      ∃ t, PSs (cxOf (L2.CX P w) P w K mg base N qual (defScope st) f cdv A outer s H E) (defBody st) t ∧ t { nx := fun _ H' => Q .non H', rt := Q } (L2.start N vs) H) : FnG P w K mg base (L2.CX P w) (k + 1) f sp := by
  obtain ⟨fd, F⟩ := F
  obtain ⟨oc, od, dV, kV, doc, pm, an, cdv, ct, osl, rfl, lk, hcd, hD, hK⟩ := F.ex
  have hD' : dV = .none := by
    rcases hD with ⟨_, z⟩ | ⟨z, _⟩
    · exact z
    · exact absurd rfl z
  subst hD'
  have ecd : cdv = .ref (cdAt K f) := by
    have h := hcd
    unfold PySem.W.codeIn at h
    split at h
    · unfold cdAt
      rw [lk]
    · cases h
  intro A outer s H us vs Q E hr e0 r hs
  have hl := len _ _ _ _ hs
  have hu : us.length = ps.length := r.length.symm.trans hl
  refine StX.run_bnd lk hcd S hr.rm e0 (G := fun xs H2 => xs = vs ∧ H2 = H) (fun A' Ex Q' h => ?_) fun s2 H2 xs g hr' => ?_
  · rw [hb kV doc pm an cdv ct us hu]
    exact wpAny_pure (h s H vs us e0 .refl rfl (fun _ _ z => z) r hl ⟨rfl, rfl⟩)
  · obtain ⟨rfl, rfl⟩ := g
    exact hbody cdv ecd A outer s2 H2 xs Q E ⟨hr', hr.gd⟩ hs
end
theorem run_cmA {X : Cx} {C g q : Addr} {pins : List (Addr × Obj)} {σ : L2.St} {H : Hp} {s : Shared} {CX : CXT} {sp : Sp} {E : XK} {Q : VK} {us : List Value} {vs : List V} (F : FnA X.A X.prog X.w X.K X.mg X.base CX g sp) (hx : Passes CX X E) (I : L2.Inv X ((q, PySem.W.methodObj (.ref g) (.ref C)) :: pins) σ H s)
    (r : Vals vs us) (h : sp (.ref C :: vs) H Q E) : wpAny (model X.prog X.w) X.A (call (.ref q) us) (EP X pins σ Q) X.xe s :=
  thn (wpAny_call (PySem.W.method_call (ClX.pin_at I) (run_fnA (vs := V.ref C :: vs) F hx I (.cons rfl r) h))) fun _ _ y => ClX.unpinE y
section
variable {P : Program} {w : World} {K : Frg} {mg : Str → Option Value} {base : Heap}
/-! ### the end -/
/-- what is tracked where the law begins: the tables ts and the script (if it is not the module's) -/
def atLaw (K : Frg) (ts : List Addr) (a : Addr) (o : Obj) (xs : List V) : Hp := fun b =>
  if b ∈ ts then some (.tbl #[]) else if b = a then (match K.lookup a with | none => some (.frz o (.lst xs)) | some _ => none) else none
theorem atLaw_inv {ts : List Addr} {a b : Addr} {o : Obj} {xs : List V} {u : HO} (h : atLaw K ts a o xs b = some u) : (b ∈ ts ∧ u = .tbl #[]) ∨ (b ∉ ts ∧ b = a ∧ K.lookup a = none ∧ u = .frz o (.lst xs)) := by
  unfold atLaw at h
  split at h
  · rename_i m
    cases h
    exact .inl ⟨m, rfl⟩
  · rename_i m
    split at h
    · rename_i e
      split at h
      · rename_i n
        cases h
        exact .inr ⟨m, e, n, rfl⟩
      · cases h
    · cases h
theorem atLaw_t {ts : List Addr} {a b : Addr} {o : Obj} {xs : List V} (h : b ∈ ts) : atLaw K ts a o xs b = some (.tbl #[]) := if_pos h
theorem law_run {mb : Str → Option Value} {CX : CXT} {k : Nat} {fa a : Addr} {cs : List (Addr × Addr)} {sp : Sp} {s₁ : Shared} {vs : List Value} {ns : List Int}
    (KX : K.In s₁.heap) (hns : s₁.heap.Ns mainGlobals mg) (hb : s₁.heap.Ns builtinsNs mb) (hbb : ∀ x : Str, x ≠ "__name__" → mb x = bootBuiltins x) (hlim : s₁.heap.NoLimit) (hg : s₁.gens = #[])
    (hT : ∀ p ∈ cs, s₁.heap.get? p.2 = some { cls := .none, data := .fields #[] }) (nT : ∀ p ∈ cs, K.lookup p.2 = none) (C : ∀ p ∈ cs, PySem.W.CodeHd s₁.heap p.1 p.2)
    (hbm : ∃ (bm : Addr) (ob : Obj), mg "__builtins__" = some (.ref bm) ∧ bm ≠ builtinsNs ∧ s₁.heap.get? bm = some ob ∧ ob.cls = .type "module" ∧ ob.dict = some builtinsNs ∧ ob.data = .plain)
    (ha : s₁.heap.get? a = some { cls := .type "list", data := .seq vs.toArray }) (hi : IntsAre vs ns) (hl : ns.length ≤ sizeLine) (hr : RoomG k callerA)
    (F : ∀ base : Heap, K.In base → base.Ns mainGlobals mg → (∀ p ∈ cs, LamX.TabB base mg p.1 p.2) → FnG P w K mg base CX k fa sp)
    (hsp : ∀ H : Hp, (∀ p ∈ cs, H p.2 = some (.tbl #[])) → SqL K H a (ns.map V.int) → sp [.ref a] H (fun v _ => v = .bl true) fun _ _ _ => False)
    (hCX : ∀ H e s', CX [] H s₁ (fun _ _ _ => False) e s' → False) :
    codeAny (model P w) callerA (.call (.ref fa) ⟨[.ref a], []⟩) (fun r s' => r = .ok (.ret (.bool true)) ∧ OldK s₁.heap s'.heap ∧ s'.os = s₁.os ∧ AllBare s'.gens) s₁ := by
  have rv := vals_ints hi
  let ts := cs.map (·.2)
  let o1 : Obj := { cls := .type "list", data := .seq vs.toArray }
  let H0 : Hp := atLaw K ts a o1 (ns.map V.int)
  have inT : ∀ p ∈ cs, p.2 ∈ ts := fun p hp => List.mem_map.mpr ⟨p, hp, rfl⟩
  have ofT : ∀ b ∈ ts, ∃ p ∈ cs, p.2 = b := fun b m => List.mem_map.mp m
  have getT : ∀ b ∈ ts, s₁.heap.get? b = some { cls := .none, data := .fields #[] } := fun b m => by
    obtain ⟨p, hp, rfl⟩ := ofT b m
    exact hT p hp
  have aT : a ∉ ts := fun m => by
    have q := (getT a m).symm.trans ha
    cases q
  -- an object that is neither a list nor an empty table is not tracked
  have un0 : ∀ {b : Addr} {o : Obj}, s₁.heap.get? b = some o → (∀ ws n, o.data ≠ .seq ws n) → o.data ≠ .fields #[] → H0 b = none := fun {b o} e n1 n2 => by
    match q : H0 b with
    | none => rfl
    | some u =>
      rcases atLaw_inv q with ⟨m, _⟩ | ⟨_, rfl, _⟩
      · have e' := (getT b m).symm.trans e
        cases e'
        exact absurd rfl n2
      · have e' := ha.symm.trans e
        cases e'
        exact absurd rfl (n1 _ _)
  have see : ∀ {b : Addr} {o : Obj}, s₁.heap.get? b = some o → H0 b = none → (hidT s₁.heap H0).get? b = some o := fun e n => hidT_get e n
  have seeN : ∀ {b : Addr} {m : Str → Option Value}, s₁.heap.Ns b m → (hidT s₁.heap H0).Ns b m := fun {b m} ⟨o, es, ep, e, hd, r⟩ => by
    refine ⟨o, es, ep, see e (un0 e (fun ws n z => ?_) fun z => ?_), hd, r⟩
    · exact nomatch hd.symm.trans z
    · exact nomatch hd.symm.trans z
  have KB : K.In (hidT s₁.heap H0) := fun b o e => by
    refine see (KX b o e) ?_
    match q : H0 b with
    | none => rfl
    | some u =>
      rcases atLaw_inv q with ⟨m, _⟩ | ⟨_, rfl, z, _⟩
      · obtain ⟨p, hp, rfl⟩ := ofT b m
        exact nomatch (nT p hp).symm.trans e
      · exact nomatch z.symm.trans e
  have M0 : L2.Mod K mg (hidT s₁.heap H0) := by
    obtain ⟨mc, l1, l2⟩ := hlim
    exact ⟨KB, seeN hns, ⟨mb, seeN hb, hbb⟩, mc, seeN l1, l2⟩
  have tabs : ∀ p ∈ cs, LamX.TabB (hidT s₁.heap H0) mg p.1 p.2 := fun p hp => by
    refine ⟨?_, ?_, fun z => ?_⟩
    · obtain ⟨o, us, file, tf, flags, tg, inF, text, tt, e1, r1, r2, r3, rr⟩ := C p hp
      refine ⟨o, us, file, tf, flags, tg, inF, text, tt, see e1 (un0 e1 (fun ws n z => nomatch r2.symm.trans z) fun z => ?_), r1, r2, r3, rr⟩
      have q := r2.symm.trans z
      cases q
      simp at r3
    · obtain ⟨bm, ob, b1, b2, b3, b4, b5, b6⟩ := hbm
      refine ⟨bm, ob, b1, b2, fun q => ?_, fun q => ?_, see b3 (un0 b3 (fun ws n z => nomatch b6.symm.trans z) fun z => nomatch b6.symm.trans z), b4, b5, b6⟩
      · obtain ⟨o, es, ep, e, hd, _⟩ := hns
        subst q
        have q := b3.symm.trans e
        cases q
        exact nomatch b6.symm.trans hd
      · subst q
        have q := b3.symm.trans (hT p hp)
        cases q
        cases b6
    · obtain ⟨o, es, ep, e, hd, _⟩ := hns
      rw [z] at e
      have q := (hT p hp).symm.trans e
      cases q
      cases hd
  have ok0 : HOk P w H0 s₁.heap := fun b u q => by
    rcases atLaw_inv q with ⟨m, rfl⟩ | ⟨_, rfl, _, rfl⟩
    · exact getT b m
    · exact ⟨ha, by rw [List.length_map]; exact hl, vs, _, rv, ha⟩
  have sq : SqL K H0 a (ns.map V.int) := by
    match hk : K.lookup a with
    | none =>
      refine .inl (.inr ⟨o1, ?_⟩)
      show atLaw K ts a o1 (ns.map V.int) a = _
      unfold atLaw
      rw [if_neg aT, if_pos rfl, hk]
    | some o =>
      have e := (KX a o hk).symm.trans ha
      cases e
      exact .inr ⟨_, vs.toArray, _, hk, rfl, rfl, rfl, by rw [List.size_toArray, hi.length]; exact hl, by simpa using rv⟩
  have e0 : Env0 P w K mg (hidT s₁.heap H0) callerA [] s₁ H0 :=
    { frames := rfl, mod := M0, bs := fun b o e => of_hidT e, bsz := Nat.le_of_eq (hidT_size _ _), funs := trivial, frf := fun b m => (List.not_mem_nil m).elim, hok := ok0, bare := .of_eq hg }
  refine codeAny_mono (F _ KB (seeN hns) tabs callerA [] s₁ H0 [.ref a] [.ref a] _ _ hr e0 (.cons rfl .nil) (hsp H0 (fun p hp => atLaw_t (inT p hp)) sq)) fun r s' h => ?_
  match r, h with
  | .error e, h => exact (hCX H0 e s' h).elim
  | .ok .next, h => exact False.elim h
  | .ok .brk, h => exact False.elim h
  | .ok .cont, h => exact False.elim h
  | .ok (.ret u), ⟨v, H2, os, bare, un, ok2, rr, q⟩ =>
    have ev : v = .bl true := q
    subst ev
    have eu : u = Value.bool true := rr
    subst eu
    have rest : ∀ b o, b ∉ ts → s₁.heap.get? b = some o → s'.heap.get? b = some o := fun b o nb e => by
      match z : H0 b with
      | none => exact un.keep b o e z (fun m => (List.not_mem_nil m).elim) (fun m => (List.not_mem_nil m).elim)
      | some u =>
        rcases atLaw_inv z with ⟨m, _⟩ | ⟨_, _, _, rfl⟩
        · exact absurd m nb
        · have e1 := (ok0 b _ z).1
          have e2 := (ok2 b _ (un.frzs b _ _ z)).1
          exact e2.trans (e1.symm.trans e)
    have grew : ∀ b ∈ ts, ∃ more : Array Value, s'.heap.get? b = some { cls := .none, data := .fields more } := fun b m => by
      obtain ⟨more, z⟩ := un.tbls b #[] (atLaw_t m)
      exact ⟨_, ok2 b _ z⟩
    refine ⟨rfl, ⟨fun b o e => ?_, fun b o e => ?_⟩, os, bare⟩
    · by_cases m : b ∈ ts
      · obtain ⟨p, hp, rfl⟩ := ofT b m
        obtain ⟨more, hm⟩ := grew _ m
        have q := (hT p hp).symm.trans e
        cases q
        exact .inr (.inl ⟨((C p hp).tab (hT p hp)).isCodeTable, rfl, #[], more, rfl, by rw [Array.empty_append]; exact hm⟩)
      · exact .inl (rest b o m e)
    · by_cases m : b ∈ ts
      · obtain ⟨more, hm⟩ := grew b m
        exact ⟨_, hm⟩
      · exact ⟨o, rest b o m e⟩
end
/-- what a law's def keeps -/
def LawG (l : PySem.W.OpenLaw) (w : World) (K : Frg) (CX : CXT) (k n : Nat) (mg : Str → Option Value) (fa : Addr) (h : Heap) : Prop :=
  ∃ (cs : List (Addr × Addr)) (sp : Sp), (∀ p ∈ cs, h.get? p.2 = some { cls := .none, data := .fields #[] }) ∧ (∀ p ∈ cs, K.lookup p.2 = none) ∧ (∀ p ∈ cs, PySem.W.CodeHd h p.1 p.2) ∧
    (∀ (H : Hp) (a : Addr) (ns : List Int), ns.length ≤ n → (∀ p ∈ cs, H p.2 = some (.tbl #[])) → SqL K H a (ns.map V.int) → sp [.ref a] H (fun v _ => v = .bl true) fun _ _ _ => False) ∧
    ∀ base : Heap, K.In base → base.Ns mainGlobals mg → (∀ p ∈ cs, LamX.TabB base mg p.1 p.2) → FnG l.prog w K mg base CX k fa sp
theorem walk_G {l : PySem.W.OpenLaw} {n k : Nat} {q : Program} {loose : List Str} {XP : (Str → Option Value) → Heap → Prop} {YP : World → Heap → Prop} {d : DefRec} {CX : World → CXT}
    (hn : l.most = some n) (hn2 : n ≤ sizeLine) (hdf : d.params.defaults = []) (hr : Room k callerA)
    (F : ∀ (w : World) (mg : Str → Option Value) (fa : Addr) (h : Heap), YP w h → h.Ns mainGlobals mg → mg d.name = some (.ref fa) → ∃ K : Frg, K.In h ∧ LawG l w K (CX w) k n mg fa h)
    (hCX : ∀ (w : World) (H : Hp) (s : Shared) (e : Value) (s' : Shared), CX w [] H s (fun _ _ _ => False) e s' → False) :
    PySem.W.WalkO q loose XP YP l.row.toRowW d [] (fun f vs => PySem.call f vs) :=
  Att.attach_callB hn hdf fun w s₀ s₁ mg mb fa o pm cd doc a vs ns G Y ho hd hcd hmg hobj hints hlen hbits hg => by
    obtain ⟨K, KX, cs, sp, t1, t2, t3, t4, t5⟩ := F w mg fa _ Y G.T.g hmg
    exact law_run KX G.T.g G.T.b G.T.builtins G.T.nolimit hg t1 t2 t3 G.T.bmain hobj hints (Nat.le_trans hlen hn2) ⟨hr, rfl⟩ t5 (fun H h1 h2 => t4 H a ns hlen h1 h2) fun H e s' => hCX w H s₁ e s'
end Z
namespace Z
open PySem PySem.Spec PyProof.Rows L2 HandSHeadRun PySem.W PySem.Calls
/-- what is asked in a run of its own -/
def RunP (r : OpenRow) (n : Nat) (a : Ask) (M : Nat) (w : World) : Prop := ∀ os : OsState, (endF (stepQ (denQ tabQ) r.prog w) M r.prog w os).map (fun s => obsG n a (getT s)) = some (valZ a w)
theorem obs_add {n : Nat} {w : World} {fs1 fs2 : List (Frg → Bool)} {fn1 fn2 : List He5.DefA} {ts : List He.Tab} {tf : List (Frg → Addr)} {g : Addr → Option Obj} (h1 : obsG n ⟨fs1, fn1, ts, tf⟩ g = valZ ⟨fs1, fn1, ts, tf⟩ w) (h2 : obsG n ⟨fs2, fn2, [], []⟩ g = valZ ⟨fs2, fn2, [], []⟩ w) :
    obsG n ⟨fs1 ++ fs2, fn1 ++ fn2, ts, tf⟩ g = valZ ⟨fs1 ++ fs2, fn1 ++ fn2, ts, tf⟩ w := by
  unfold obsG obsZ valZ at *
  simp only [Prod.mk.injEq] at h1 h2 ⊢
  obtain ⟨⟨a1, a2⟩, a3⟩ := h1
  obtain ⟨⟨b1, b2⟩, b3⟩ := h2
  rw [Bool.and_eq_true] at a1 b1
  refine ⟨⟨?_, ?_⟩, a3⟩
  · rw [List.all_append, List.all_append, a1.1, a1.2, b1.1, b1.2]; rfl
  · rw [List.map_append, List.map_append, a2, b2]
theorem run_add {r : OpenRow} {q : Program} {n M : Nat} {loose : List PySem.Str} {w : World} {fs1 fs2 : List (Frg → Bool)} {fn1 fn2 : List He5.DefA} {ts : List He.Tab} {tf : List (Frg → Addr)}
    (h1 : RunEq r q (hookZ n ⟨fs1, fn1, ts, tf⟩) (fun s => obsG n ⟨fs1, fn1, ts, tf⟩ (getT s)) M loose w) (h2 : RunP r n ⟨fs2, fn2, [], []⟩ M w) :
    RunEq r q (hookZ n ⟨fs1 ++ fs2, fn1 ++ fn2, ts, tf⟩) (fun s => obsG n ⟨fs1 ++ fs2, fn1 ++ fn2, ts, tf⟩ (getT s)) M loose w := fun os => by
  have e1 := h1 os
  have e2 := h2 os
  cases z : endF (stepQ (denQ tabQ) r.prog w) M r.prog w os with
  | none => rw [z] at e1; cases e1
  | some s =>
    rw [z] at e1 e2
    have e1 := Option.some.inj e1
    have e2 := Option.some.inj e2
    have f1 := congrArg Prod.fst e1
    have f2 := congrArg (fun p => p.2.1) e1
    have f3 := congrArg (fun p => p.2.2) e1
    exact congrArg some (Prod.ext f1 (Prod.ext f2 (obs_add f3 e2)))
end Z
namespace Y
open PySem PySem.Spec PyProof.Rows L2 Z
/-! ### plain data, and the values that bear it in a frozen heap -/
inductive D where
  | non | bl (b : Bool) | int (i : Int) | str (s : Str) | lst (ds : List D) | tup (ds : List D) | obj (c : Str) (ns : List Str) (ds : List D) | ty (n : String) | glob (x : Str) | tape | fn (a : Addr) | dic (ks : List Key) (ds : List D) | dpl (ks : List (List Int)) (ds : List D)
/-! ### the tables of the code objects of defs that make lambdas -/
def lamNames : List Str := ["law", "overlay", "enlarged", "sampled", "layered", "masked", "uncovered", "_law_net_right", "_law_triples_right", "_law_shifts_right", "_law_rows_right", "_law_fixed_right", "_law_refusals_right", "_law_errors_right", "_law_far_right", "_law_round_right", "_law_apart", "_law_stepped", "_law_acted"]
def isFnB : Option Obj → Bool
  | some ⟨_, _, .func _, _⟩ => true
  | _ => false
def tabN (K : Frg) (x : Str) : Addr := He.tabOf K (cdAt K (He.ga K x))
def lamQ (x : Str) : Str := (x ++ ".<locals>.") ++ "<lambda>"
def tabsOf (K : Frg) : List (Addr × Str) := (lamNames.filter fun x => isFnB (K.lookup (He.ga K x))).map fun x => (tabN K x, lamQ x)
def tabA (K : Frg) : List Addr := (tabsOf K).map (·.1)
/-! ### dicts whose keys are tuples of ints -/
def tupI (k : List Int) : Int := reduceHash (Builtin.Tuple.tupleHashOf (k.map hashInt))
def entI (x : List Int × Addr × Value) : DictEntry := ⟨tupI x.1, .ref x.2.1, x.2.2⟩
def dxO (a : Addr) (es : Array DictEntry) (ep : Nat) : HO := .ext fun h => ∃ o, h.get? a = some o ∧ o.ExactDict ∧ o.data = .dict es ep
/-- the entries of such a dict -/
inductive DKs (K : Frg) (F : Hp) : List (List Int) → List (List Int × Addr × Value) → List V → Prop
  | nil : DKs K F [] [] []
  | cons {k : List Int} {b : Addr} {u : Value} {v : V} {ks : List (List Int)} {xs : List (List Int × Addr × Value)} {vs : List V} : SqT K F b (k.map V.int) → RelV v u → DKs K F ks xs vs → DKs K F (k :: ks) ((k, b, u) :: xs) (v :: vs)
theorem DKs.up {K : Frg} {F F' : Hp} {ks : List (List Int)} {xs : List (List Int × Addr × Value)} {vs : List V} (h : DKs K F ks xs vs) (s : Same F F') : DKs K F' ks xs vs := by
  induction h with
  | nil => exact .nil
  | cons h1 h2 _ ih => exact .cons (sqT s h1) h2 ih
mutual
inductive Rp (K : Frg) (ms : List Addr) (F : Hp) : V → D → Prop
  | non : Rp K ms F .non .non
  | bl (b : Bool) : Rp K ms F (.bl b) (.bl b)
  | int (i : Int) : Rp K ms F (.int i) (.int i)
  | str (s : Str) : Rp K ms F (.str s) (.str s)
  | ty (n : String) : Rp K ms F (.ty n) (.ty n)
  | glob (x : Str) : Rp K ms F (.ref (He.ga K x)) (.glob x)
  | tape {t : Addr} : t ∈ ms → t ∉ tabA K → Rp K ms F (.ref t) .tape
  | fn (a : Addr) : Rp K ms F (.ref a) (.fn a)
  | lst {a : Addr} {vs : List V} {ds : List D} : F a = some (.lst vs) → Rps K ms F vs ds → Rp K ms F (.ref a) (.lst ds)
  | tup {a : Addr} {vs : List V} {ds : List D} : SqT K F a vs → Rps K ms F vs ds → Rp K ms F (.ref a) (.tup ds)
  | obj {a dx : Addr} {c : Str} {ns : List Str} {vs : List V} {ds : List D} : F a = some (.ins (He.ga K c) dx (ns.zip vs)) → ns.length = vs.length → Rps K ms F vs ds → Rp K ms F (.ref a) (.obj c ns ds)
  | dic {a : Addr} {o : Obj} {ks : List Key} {vs : List V} {ds : List D} : F a = some (.frz o (.dK (ks.zip vs))) → ks.length = vs.length → Rps K ms F vs ds → Rp K ms F (.ref a) (.dic ks ds)
  | dpl {a : Addr} {es : Array DictEntry} {ep : Nat} {ks : List (List Int)} {xs : List (List Int × Addr × Value)} {vs : List V} {ds : List D} : F a = some (dxO a es ep) → (a == sysModules) = false → ks.length ≤ 100000 → es.toList = xs.map entI → (xs.map (·.1)).Nodup → DKs K F ks xs vs → Rps K ms F vs ds → Rp K ms F (.ref a) (.dpl ks ds)
inductive Rps (K : Frg) (ms : List Addr) (F : Hp) : List V → List D → Prop
  | nil : Rps K ms F [] []
  | cons {v : V} {d : D} {vs : List V} {ds : List D} : Rp K ms F v d → Rps K ms F vs ds → Rps K ms F (v :: vs) (d :: ds)
end
section
variable {K : Frg} {ms : List Addr} {F F' H : Hp}
mutual
theorem Rp.mono (s : Same F F') : ∀ (d : D) (v : V), Rp K ms F v d → Rp K ms F' v d
  | .non, _, h => by cases h; exact .non
  | .bl b, _, h => by cases h; exact .bl b
  | .int i, _, h => by cases h; exact .int i
  | .str x, _, h => by cases h; exact .str x
  | .ty x, _, h => by cases h; exact .ty x
  | .glob x, _, h => by cases h; exact .glob x
  | .tape, _, h => by cases h with | tape m n => exact .tape m n
  | .fn a, _, h => by cases h; exact .fn a
  | .lst ds, _, h => by cases h with | lst h1 h2 => exact .lst (s _ _ h1) (Rps.mono s ds _ h2)
  | .tup ds, _, h => by cases h with | tup h1 h2 => exact .tup (sqT s h1) (Rps.mono s ds _ h2)
  | .obj c ns ds, _, h => by cases h with | obj h1 h2 h3 => exact .obj (s _ _ h1) h2 (Rps.mono s ds _ h3)
  | .dic ks ds, _, h => by cases h with | dic h1 h2 h3 => exact .dic (s _ _ h1) h2 (Rps.mono s ds _ h3)
  | .dpl ks ds, _, h => by cases h with | dpl h1 h2 h3 h4 h5 h6 h7 => exact .dpl (s _ _ h1) h2 h3 h4 h5 (h6.up s) (Rps.mono s ds _ h7)
theorem Rps.mono (s : Same F F') : ∀ (ds : List D) (vs : List V), Rps K ms F vs ds → Rps K ms F' vs ds
  | [], _, h => by cases h; exact .nil
  | d :: ds, _, h => by cases h with | cons h1 h2 => exact .cons (Rp.mono s d _ h1) (Rps.mono s ds _ h2)
end
theorem Rp.up {v : V} {d : D} (h : Rp K ms F v d) (s : Same F F') : Rp K ms F' v d := Rp.mono s d v h
theorem Rps.up {v : List V} {d : List D} (h : Rps K ms F v d) (s : Same F F') : Rps K ms F' v d := Rps.mono s d v h
theorem Rps.len : ∀ {vs : List V} {ds : List D}, Rps K ms F vs ds → vs.length = ds.length
  | [], [], _ => rfl
  | _ :: _, _ :: _, h => by
    cases h with
    | cons _ h => simp only [List.length_cons]; rw [Rps.len h]
  | [], _ :: _, h => by cases h
  | _ :: _, [], h => by cases h
theorem Rps.app : ∀ {vs ws : List V} {ds es : List D}, Rps K ms F vs ds → Rps K ms F ws es → Rps K ms F (vs ++ ws) (ds ++ es)
  | [], _, [], _, _, h => h
  | _ :: _, _, _ :: _, _, h, h' => by
    cases h with
    | cons h1 h2 => exact .cons h1 (Rps.app h2 h')
  | [], _, _ :: _, _, h, _ => by cases h
  | _ :: _, _, [], _, h, _ => by cases h
theorem Rps.get : ∀ {vs : List V} {ds : List D} {i : Nat} {d : D}, Rps K ms F vs ds → ds[i]? = some d → ∃ v, vs[i]? = some v ∧ Rp K ms F v d
  | [], [], _, _, _, e => by simp at e
  | v :: _, _ :: _, 0, _, h, e => by
    cases h with
    | cons h1 _ => simp at e; subst e; exact ⟨v, rfl, h1⟩
  | _ :: vs, _ :: ds, i + 1, d, h, e => by
    cases h with
    | cons _ h2 =>
      obtain ⟨v, h3, h4⟩ := Rps.get (i := i) h2 (by simpa using e)
      exact ⟨v, by simpa using h3, h4⟩
  | [], _ :: _, _, _, h, _ => by cases h
  | _ :: _, [], _, _, h, _ => by cases h
theorem Rps.getV : ∀ {vs : List V} {ds : List D} {i : Nat} {v : V}, Rps K ms F vs ds → vs[i]? = some v → ∃ d, ds[i]? = some d ∧ Rp K ms F v d := fun {vs ds i v} h e => by
  have hi : i < vs.length := by
    rcases Nat.lt_or_ge i vs.length with z | z
    · exact z
    · rw [List.getElem?_eq_none z] at e; cases e
  have hd : i < ds.length := by rw [← h.len]; exact hi
  obtain ⟨w, h1, h2⟩ := h.get (i := i) (d := ds[i]) (List.getElem?_eq_getElem hd)
  rw [e] at h1
  cases h1
  exact ⟨_, List.getElem?_eq_getElem hd, h2⟩
theorem Rps.take : ∀ {vs : List V} {ds : List D} (n : Nat), Rps K ms F vs ds → Rps K ms F (vs.take n) (ds.take n)
  | _, _, 0, _ => .nil
  | [], [], _ + 1, _ => .nil
  | _ :: _, _ :: _, n + 1, h => by
    cases h with
    | cons h1 h2 => exact .cons h1 (Rps.take n h2)
  | [], _ :: _, _ + 1, h => by cases h
  | _ :: _, [], _ + 1, h => by cases h
theorem Rps.drop : ∀ {vs : List V} {ds : List D} (n : Nat), Rps K ms F vs ds → Rps K ms F (vs.drop n) (ds.drop n)
  | _, _, 0, h => h
  | [], [], _ + 1, _ => .nil
  | _ :: _, _ :: _, n + 1, h => by
    cases h with
    | cons h1 h2 => exact Rps.drop n h2
  | [], _ :: _, _ + 1, h => by cases h
  | _ :: _, [], _ + 1, h => by cases h
theorem Rps.flat {vs : List V} {ds : List D} (h : Rps K ms F vs ds) : ∀ n : Nat, Rps K ms F (List.replicate n vs).flatten (List.replicate n ds).flatten
  | 0 => .nil
  | n + 1 => by
    rw [List.replicate_succ, List.replicate_succ, List.flatten_cons, List.flatten_cons]
    exact h.app (Rps.flat h n)
theorem Rps.one {v : V} {d : D} (h : Rp K ms F v d) : Rps K ms F [v] [d] := .cons h .nil
theorem Rps.two {v w : V} {d e : D} (h : Rp K ms F v d) (h' : Rp K ms F w e) : Rps K ms F [v, w] [d, e] := .cons h (.cons h' .nil)
theorem Rps.ints : ∀ {vs : List V} {is : List Int}, Rps K ms F vs (is.map D.int) → vs = is.map V.int
  | [], [], _ => rfl
  | _ :: _, _ :: _, h => by
    cases h with
    | cons h1 h2 => cases h1; rw [Rps.ints h2]; rfl
  | [], _ :: _, h => by cases h
  | _ :: _, [], h => by cases h
theorem Rps.bls : ∀ {vs : List V} {is : List Bool}, Rps K ms F vs (is.map D.bl) → vs = is.map V.bl
  | [], [], _ => rfl
  | _ :: _, _ :: _, h => by
    cases h with
    | cons h1 h2 => cases h1; rw [Rps.bls h2]; rfl
  | [], _ :: _, h => by cases h
  | _ :: _, [], h => by cases h
theorem Rps.strs : ∀ {vs : List V} {is : List Str}, Rps K ms F vs (is.map D.str) → vs = is.map V.str
  | [], [], _ => rfl
  | _ :: _, _ :: _, h => by
    cases h with
    | cons h1 h2 => cases h1; rw [Rps.strs h2]; rfl
  | [], _ :: _, h => by cases h
  | _ :: _, [], h => by cases h
end
/-! ### as data of the library -/
mutual
def pd : D → Option PyData
  | .non => some .none
  | .bl b => some (.bool b)
  | .int i => some (.int i)
  | .str s => some (.str s)
  | .lst ds => (pds ds).map PyData.list
  | .tup ds => (pds ds).map PyData.tuple
  | .obj _ _ _ => none
  | .ty _ => none
  | .glob _ => none
  | .tape => none
  | .fn _ => none
  | .dic _ _ => none
  | .dpl _ _ => none
def pds : List D → Option (List PyData)
  | [] => some []
  | d :: ds => match pd d, pds ds with
    | some a, some b => some (a :: b)
    | _, _ => none
end
mutual
/-- == of plain data -/
def eqD : D → D → Bool
  | .non, .non => true
  | .bl a, .bl b => a == b
  | .bl a, .int j => (if a then 1 else 0) == j
  | .int i, .bl b => i == (if b then 1 else 0)
  | .int i, .int j => i == j
  | .str x, .str y => x == y
  | .lst xs, .lst ys => eqDs xs ys
  | .tup xs, .tup ys => eqDs xs ys
  | _, _ => false
def eqDs : List D → List D → Bool
  | [], [] => true
  | x :: xs, y :: ys => eqD x y && eqDs xs ys
  | _, _ => false
end
/-- data of at most so many layers, with texts of real signs -/
def okD : Nat → D → Bool
  | _, .non | _, .bl _ | _, .int _ => true
  | _, .str s => PyData.strOk s
  | n + 1, .lst ds => ds.all (okD n)
  | n + 1, .tup ds => ds.all (okD n)
  | _, _ => false
theorem okD_pd : ∀ (n : Nat) (d : D), okD n d = true → ∃ e, pd d = some e ∧ e.canLay0 = true ∧ e.depth ≤ n := by
  have key : ∀ (n : Nat) (P : D → Prop), (∀ d, okD n d = true → ∃ e, pd d = some e ∧ e.canLay0 = true ∧ e.depth ≤ n) → ∀ ds : List D, ds.all (okD n) = true → ∃ es, pds ds = some es ∧ PyData.canLayAll0 es = true ∧ PyData.depthAll es ≤ n := by
    intro n P ih ds
    induction ds with
    | nil => intro _; exact ⟨[], rfl, rfl, Nat.zero_le _⟩
    | cons d ds ih2 =>
      intro h
      rw [List.all_cons, Bool.and_eq_true] at h
      obtain ⟨e, h1, h2, h3⟩ := ih d h.1
      obtain ⟨es, h4, h5, h6⟩ := ih2 h.2
      refine ⟨e :: es, by simp [pds, h1, h4], by simp [PyData.canLayAll0, h2, h5], ?_⟩
      simp only [PyData.depthAll]
      omega
  intro n
  induction n with
  | zero =>
    intro d h
    cases d with
    | non => exact ⟨_, rfl, rfl, Nat.le_refl _⟩
    | bl b => exact ⟨_, rfl, rfl, Nat.le_refl _⟩
    | int i => exact ⟨_, rfl, rfl, Nat.le_refl _⟩
    | str s => exact ⟨_, rfl, by simpa [okD, PyData.canLay0] using h, Nat.le_refl _⟩
    | _ => simp [okD] at h
  | succ n ih =>
    intro d h
    cases d with
    | non => exact ⟨_, rfl, rfl, by simp [PyData.depth]⟩
    | bl b => exact ⟨_, rfl, rfl, by simp [PyData.depth]⟩
    | int i => exact ⟨_, rfl, rfl, by simp [PyData.depth]⟩
    | str s => exact ⟨_, rfl, by simpa [okD, PyData.canLay0] using h, by simp [PyData.depth]⟩
    | lst ds =>
      simp only [okD] at h
      obtain ⟨es, h1, h2, h3⟩ := key n (fun _ => True) ih ds h
      exact ⟨.list es, by simp [pd, h1], by simpa [PyData.canLay0] using h2, by simp only [PyData.depth]; omega⟩
    | tup ds =>
      simp only [okD] at h
      obtain ⟨es, h1, h2, h3⟩ := key n (fun _ => True) ih ds h
      exact ⟨.tuple es, by simp [pd, h1], by simpa [PyData.canLay0] using h2, by simp only [PyData.depth]; omega⟩
    | _ => simp [okD] at h
theorem pds_cons {x : D} {xs : List D} {as : List PyData} (h : pds (x :: xs) = some as) : ∃ a r, pd x = some a ∧ pds xs = some r ∧ as = a :: r := by
  unfold pds at h
  split at h
  · rename_i a r h1 h2
    cases h
    exact ⟨a, r, h1, h2, rfl⟩
  · cases h
mutual
theorem eqD_pd : ∀ (x y : D) (a b : PyData), pd x = some a → pd y = some b → eqD x y = PyData.eqv a b
  | .non, y, a, b, h1, h2 => by
    cases h1
    cases y <;> simp [pd] at h2 <;> first | (subst h2; simp [eqD, PyData.eqv]) | (obtain ⟨_, _, rfl⟩ := h2; simp [eqD, PyData.eqv])
  | .bl c, y, a, b, h1, h2 => by
    cases h1
    cases y <;> simp [pd] at h2 <;> first | (subst h2; simp [eqD, PyData.eqv]) | (obtain ⟨_, _, rfl⟩ := h2; simp [eqD, PyData.eqv])
  | .int c, y, a, b, h1, h2 => by
    cases h1
    cases y <;> simp [pd] at h2 <;> first | (subst h2; simp [eqD, PyData.eqv]) | (obtain ⟨_, _, rfl⟩ := h2; simp [eqD, PyData.eqv])
  | .str c, y, a, b, h1, h2 => by
    cases h1
    cases y <;> simp [pd] at h2 <;> first | (subst h2; simp [eqD, PyData.eqv]) | (obtain ⟨_, _, rfl⟩ := h2; simp [eqD, PyData.eqv])
  | .lst xs, y, a, b, h1, h2 => by
    simp [pd] at h1
    obtain ⟨as, h1, rfl⟩ := h1
    cases y with
    | lst ys =>
      simp [pd] at h2
      obtain ⟨bs, h2, rfl⟩ := h2
      simp only [eqD, PyData.eqv]
      exact eqDs_pd xs ys as bs h1 h2
    | _ => simp [pd] at h2 <;> first | (subst h2; simp [eqD, PyData.eqv]) | (obtain ⟨_, _, rfl⟩ := h2; simp [eqD, PyData.eqv])
  | .tup xs, y, a, b, h1, h2 => by
    simp [pd] at h1
    obtain ⟨as, h1, rfl⟩ := h1
    cases y with
    | tup ys =>
      simp [pd] at h2
      obtain ⟨bs, h2, rfl⟩ := h2
      simp only [eqD, PyData.eqv]
      exact eqDs_pd xs ys as bs h1 h2
    | _ => simp [pd] at h2 <;> first | (subst h2; simp [eqD, PyData.eqv]) | (obtain ⟨_, _, rfl⟩ := h2; simp [eqD, PyData.eqv])
  | .obj _ _ _, _, _, _, h1, _ => by simp [pd] at h1
  | .ty _, _, _, _, h1, _ => by simp [pd] at h1
  | .glob _, _, _, _, h1, _ => by simp [pd] at h1
  | .tape, _, _, _, h1, _ => by simp [pd] at h1
  | .fn _, _, _, _, h1, _ => by simp [pd] at h1
  | .dic _ _, _, _, _, h1, _ => by simp [pd] at h1
  | .dpl _ _, _, _, _, h1, _ => by simp [pd] at h1
theorem eqDs_pd : ∀ (xs ys : List D) (as bs : List PyData), pds xs = some as → pds ys = some bs → eqDs xs ys = PyData.eqvAll as bs
  | [], [], _, _, h1, h2 => by cases h1; cases h2; simp [eqDs, PyData.eqvAll]
  | [], _ :: _, _, _, h1, h2 => by
    cases h1
    obtain ⟨_, _, _, _, rfl⟩ := pds_cons h2
    simp [eqDs, PyData.eqvAll]
  | _ :: _, [], _, _, h1, h2 => by
    cases h2
    obtain ⟨_, _, _, _, rfl⟩ := pds_cons h1
    simp [eqDs, PyData.eqvAll]
  | x :: xs, y :: ys, _, _, h1, h2 => by
    obtain ⟨a, r, p1, p2, rfl⟩ := pds_cons h1
    obtain ⟨b, t, q1, q2, rfl⟩ := pds_cons h2
    simp only [eqDs, PyData.eqvAll]
    rw [eqD_pd x y a b p1 q1, eqDs_pd xs ys r t p2 q2]
end
section
variable {K : Frg} {ms : List Addr} {F : Hp}
mutual
theorem dp_of : ∀ (d : D) (v : V) (e : PyData), pd d = some e → Rp K ms F v d → Dp K F v e
  | .non, _, _, h, r => by cases h; cases r; exact .non
  | .bl b, _, _, h, r => by cases h; cases r; exact .bl b
  | .int i, _, _, h, r => by cases h; cases r; exact .int i
  | .str x, _, _, h, r => by cases h; cases r; exact .str x
  | .lst ds, _, _, h, r => by
    simp [pd] at h
    obtain ⟨es, h, rfl⟩ := h
    cases r with
    | lst h1 h2 => exact .lst (SqL.of h1) (dps_of ds _ es h h2)
  | .tup ds, _, _, h, r => by
    simp [pd] at h
    obtain ⟨es, h, rfl⟩ := h
    cases r with
    | tup h1 h2 => exact .tup h1 (dps_of ds _ es h h2)
  | .obj _ _ _, _, _, h, _ => by simp [pd] at h
  | .ty _, _, _, h, _ => by simp [pd] at h
  | .glob _, _, _, h, _ => by simp [pd] at h
  | .tape, _, _, h, _ => by simp [pd] at h
  | .fn _, _, _, h, _ => by simp [pd] at h
  | .dic _ _, _, _, h, _ => by simp [pd] at h
  | .dpl _ _, _, _, h, _ => by simp [pd] at h
theorem dps_of : ∀ (ds : List D) (vs : List V) (es : List PyData), pds ds = some es → Rps K ms F vs ds → DpAll K F vs es
  | [], _, _, h, r => by cases h; cases r; exact .nil
  | d :: ds, _, _, h, r => by
    obtain ⟨a, t, h1, h2, rfl⟩ := pds_cons h
    cases r with
    | cons r1 r2 => exact .cons (dp_of d _ a h1 r1) (dps_of ds _ t h2 r2)
end
end
end Y
namespace Y
open PySem PySem.Spec PyProof.Rows L2 Z
/-- an error: its class (.glob or .ty), the names of its fields, their values -/
structure Ex where
  c : D
  ns : List Str
  ds : List D
def clsV (K : Frg) : D → Option Value
  | .glob x => some (.ref (He.ga K x))
  | .ty n => some (.type n)
  | _ => none
def XR (K : Frg) (ms : List Addr) (F : Hp) (cls : Value) (d : Option Addr) (x : Ex) : Prop :=
  clsV K x.c = some cls ∧ (x.ns ≠ [] → ∃ a vs, d = some a ∧ F a = some (.xd (x.ns.zip vs)) ∧ x.ns.length = vs.length ∧ Rps K ms F vs x.ds)
/-- a thing that only one slot holds: a list that grows, an instance that is being made -/
inductive Mo where
  | lst (ds : List D) | ins (x : Addr) (c : Str) (ns : List Str) (ds : List D) | dct (kvs : List (List Int × D)) | exc (x : Ex) | dk (kds : List (Key × D)) | dt (w : World) (kds : List (List Key × D))
/-- a slot: not known, a plain value, a thing that only this slot holds -/
inductive Sl where
  | no | val (d : D) | mu (m : Mo)
inductive DRl (K : Frg) (ms : List Addr) (F : Hp) : List (List Int × D) → List (List Int × Addr × Value) → Prop
  | nil : DRl K ms F [] []
  | cons {k : List Int} {b : Addr} {u : Value} {v : V} {d : D} {kvs : List (List Int × D)} {xs : List (List Int × Addr × Value)} : SqT K F b (k.map V.int) → RelV v u → Rp K ms F v d → DRl K ms F kvs xs → DRl K ms F ((k, d) :: kvs) ((k, b, u) :: xs)
theorem DRl.up {K : Frg} {ms : List Addr} {F F' : Hp} {kvs : List (List Int × D)} {xs : List (List Int × Addr × Value)} (h : DRl K ms F kvs xs) (s : Same F F') : DRl K ms F' kvs xs := by
  induction h with
  | nil => exact .nil
  | cons h1 h2 h3 _ ih => exact .cons (sqT s h1) h2 (h3.up s) ih
/-- dicts whose keys are tuples of numbers and texts -/
inductive DRk (K : Frg) (ms : List Addr) (F : Hp) : List (List Key × D) → List (List Key × Addr × Value) → Prop
  | nil : DRk K ms F [] []
  | cons {k : List Key} {b : Addr} {u : Value} {v : V} {d : D} {kvs : List (List Key × D)} {xs : List (List Key × Addr × Value)} : SqT K F b (k.map kV) → RelV v u → Rp K ms F v d → DRk K ms F kvs xs → DRk K ms F ((k, d) :: kvs) ((k, b, u) :: xs)
theorem DRk.up {K : Frg} {ms : List Addr} {F F' : Hp} {kvs : List (List Key × D)} {xs : List (List Key × Addr × Value)} (h : DRk K ms F kvs xs) (s : Same F F') : DRk K ms F' kvs xs := by
  induction h with
  | nil => exact .nil
  | cons h1 h2 h3 _ ih => exact .cons (sqT s h1) h2 (h3.up s) ih
def entM (w : World) (x : List Key × Addr × Value) : DictEntry := ⟨reduceHash (Builtin.Tuple.tupleHashOf (x.1.map (keyH w))), .ref x.2.1, x.2.2⟩
/-- entries of a dict whose keys are numbers or texts -/
inductive Rkd (K : Frg) (ms : List Addr) (F : Hp) : List (Key × V) → List (Key × D) → Prop
  | nil : Rkd K ms F [] []
  | cons {k : Key} {v : V} {d : D} {kvs : List (Key × V)} {kds : List (Key × D)} : Rp K ms F v d → Rkd K ms F kvs kds → Rkd K ms F ((k, v) :: kvs) ((k, d) :: kds)
theorem Rkd.up {K : Frg} {ms : List Addr} {F F' : Hp} {kvs : List (Key × V)} {kds : List (Key × D)} (h : Rkd K ms F kvs kds) (s : Same F F') : Rkd K ms F' kvs kds := by
  induction h with
  | nil => exact .nil
  | cons h1 _ ih => exact .cons (h1.up s) ih
theorem XR.up {K : Frg} {ms : List Addr} {F F' : Hp} {cls : Value} {d : Option Addr} {x : Ex} (h : XR K ms F cls d x) (s : Same F F') : XR K ms F' cls d x :=
  ⟨h.1, fun n => let ⟨a, vs, h1, h2, h3, h4⟩ := h.2 n; ⟨a, vs, h1, s _ _ h2, h3, h4.up s⟩⟩
/-- a caught error at a -/
def XO (cls : Value) (d : Option Addr) (a : Addr) : HO := .ext fun h => ∃ (oe : Obj) (vs : Array Value), h.get? a = some oe ∧ Zc cls d oe ∧ oe.data = .fields vs
def MoR (K : Frg) (ms : List Addr) (F : Hp) (a : Addr) : Mo → HO → Prop
  | .exc x, o => ∃ cls d, o = XO cls d a ∧ XR K ms F cls d x
  | .dk kds, o => ∃ kvs, o = .dK kvs ∧ Rkd K ms F kvs kds
  | .dt w kds, o => ∃ es ep xs, o = dxO a es ep ∧ (a == sysModules) = false ∧ kds.length ≤ 100000 ∧ DRk K ms F kds xs ∧ es.toList = xs.map (entM w) ∧ (xs.map (·.1)).Nodup
  | .dct kvs, o => ∃ es ep xs, o = dxO a es ep ∧ (a == sysModules) = false ∧ kvs.length ≤ 100000 ∧ DRl K ms F kvs xs ∧ es.toList = xs.map entI ∧ (xs.map (·.1)).Nodup
  | .lst ds, o => ∃ vs, o = .lst vs ∧ Rps K ms F vs ds
  | .ins x c ns ds, o => x = a ∧ ∃ dx vs, o = .ins (He.ga K c) dx (ns.zip vs) ∧ ns.length = vs.length ∧ Rps K ms F vs ds
theorem MoR.up {K : Frg} {ms : List Addr} {F F' : Hp} {a : Addr} {m : Mo} {o : HO} (h : MoR K ms F a m o) (s : Same F F') : MoR K ms F' a m o := by
  cases m with
  | exc x => obtain ⟨c, d, e, r⟩ := h; exact ⟨c, d, e, r.up s⟩
  | dk kds => obtain ⟨kvs, e, r⟩ := h; exact ⟨kvs, e, r.up s⟩
  | dt w kds => obtain ⟨es, ep, xs, e, e1, e2, r, e3⟩ := h; exact ⟨es, ep, xs, e, e1, e2, r.up s, e3⟩
  | dct kvs => obtain ⟨es, ep, xs, e, e1, e2, r, e3⟩ := h; exact ⟨es, ep, xs, e, e1, e2, r.up s, e3⟩
  | lst ds => obtain ⟨vs, e, r⟩ := h; exact ⟨vs, e, r.up s⟩
  | ins x c ns ds => obtain ⟨ex, dx, vs, e, l, r⟩ := h; exact ⟨ex, dx, vs, e, l, r.up s⟩
abbrev Ev := List Sl
/-- the base of a def: the tapes, the heaps at its entry, what is wanted of an error -/
structure Bs where
  ms : List Addr
  F0 : Hp
  H0 : Hp
  Ed : Ex → Prop
/-- what a table of code objects tells: each of them is known, and bears the lambda's name -/
def TabF (F H : Hp) (P : Addr) (q : Str) : Prop := F P = none ∧ ∃ ps : Array Value, H P = some (.tbl ps) ∧ PySem.TriplesOk ps.toList ∧ ∀ (pos : Pos) (cv : Value), PySem.codeAmong pos ps.toList = some cv → ∃ c, cv = .ref c ∧ F c = some (LamX.CodeO c q)
theorem TabF.go {F H F' H' : Hp} {P : Addr} {q : Str} {ms : List Addr} (t : TabF F H P q) (g : Go ms F H F' H') (hm : P ∉ ms) : TabF F' H' P q := by
  obtain ⟨t0, ps, t1, t2, t3⟩ := t
  obtain ⟨g1, g2⟩ := g.mu P _ hm t0 t1
  exact ⟨g1, ps, g2, t2, fun pos cv hc => let ⟨c, e1, e2⟩ := t3 pos cv hc; ⟨c, e1, g.ff _ _ e2⟩⟩
structure Tp (K : Frg) (ms : List Addr) (F H : Hp) : Prop where
  sm : Same F H
  tape : ∀ t ∈ ms, t ∉ tabA K → Tape K F H t
  tabs : ∀ p ∈ tabsOf K, p.1 ∈ ms ∧ TabF F H p.1 p.2
theorem Tp.ne {K : Frg} {ms : List Addr} {F H : Hp} (h : Tp K ms F H) {a : Addr} (m : a ∈ ms) : H a ≠ none := by
  by_cases ha : a ∈ tabA K
  · obtain ⟨p, hp, rfl⟩ := List.mem_map.mp ha
    obtain ⟨_, _, ps, e, _⟩ := h.tabs p hp
    rw [e]
    exact fun z => nomatch z
  · exact (h.tape a m ha).ne
/-- a thing that is no tape and no table is written or frozen -/
theorem Tp.go1 {K : Frg} {ms ns : List Addr} {F H F' H' : Hp} (h : Tp K ms F H) (g : Go ns F H F' H') (hd : ∀ d ∈ ns, d ∉ ms) : Tp K ms F' H' :=
  ⟨g.fh, fun t m n => (h.tape t m n).go g fun z => hd t z m, fun p hp => ⟨(h.tabs p hp).1, (h.tabs p hp).2.go g fun z => hd _ z (h.tabs p hp).1⟩⟩
theorem Tp.go0 {K : Frg} {ms : List Addr} {F H F' H' : Hp} (h : Tp K ms F H) (g : Go [] F H F' H') : Tp K ms F' H' := h.go1 g fun _ z => nomatch z
theorem Tp.gox {K : Frg} {ms : List Addr} {F H F' H' : Hp} {d : Addr} (h : Tp K ms F H) (g : Go [d] F H F' H') (hd : d ∉ ms) : Tp K ms F' H' := h.go1 g fun x hx => by
  have : x = d := by simpa using hx
  rw [this]; exact hd
/-- what lies at an address of ms: no instance, no dict -/
theorem Tp.notIns {K : Frg} {ms : List Addr} {F H : Hp} (h : Tp K ms F H) {a C dx : Addr} {fs : List (Str × V)} (e : H a = some (.ins C dx fs)) : a ∉ ms := fun m => by
  by_cases ha : a ∈ tabA K
  · obtain ⟨p, hp, rfl⟩ := List.mem_map.mp ha
    obtain ⟨_, _, ps, e', _⟩ := h.tabs p hp
    rw [e] at e'
    cases e'
  · obtain ⟨_, xs, e', _⟩ := h.tape a m ha
    rw [e] at e'
    cases e'
structure Iv (K : Frg) (B : Bs) (F H : Hp) (σ : L2.St) (ρ : Ev) : Prop where
  go : Go B.ms B.F0 B.H0 F H
  tp : Tp K B.ms F H
  len : σ.length = ρ.length
  val : ∀ (i : Nat) (d : D), ρ[i]? = some (.val d) → ∃ v, σ[i]? = some (some v) ∧ Rp K B.ms F v d
  own : ∀ (i : Nat) (m : Mo), ρ[i]? = some (.mu m) → ∃ a o, σ[i]? = some (some (.ref a)) ∧ F a = none ∧ a ∉ B.ms ∧ B.H0 a = none ∧ H a = some o ∧ MoR K B.ms F a m o
  sep : ∀ (i j : Nat) (m n : Mo) (a : Addr), i ≠ j → ρ[i]? = some (.mu m) → ρ[j]? = some (.mu n) → σ[i]? = some (some (.ref a)) → σ[j]? ≠ some (some (.ref a))
section
variable {K : Frg} {B : Bs} {F H F' H' : Hp} {σ : L2.St} {ρ : Ev}
theorem Iv.same (I : Iv K B F H σ ρ) : Same F H := I.tp.1
theorem Iv.step (I : Iv K B F H σ ρ) (g : Go B.ms F H F' H') (t : Tp K B.ms F' H') : Iv K B F' H' σ ρ where
  go := I.go.trans g
  tp := t
  len := I.len
  val := fun i d e => let ⟨v, h1, h2⟩ := I.val i d e; ⟨v, h1, h2.up g.ff⟩
  own := fun i ds e => by
    obtain ⟨a, vs, h1, h2, h3, h4, h5, h6⟩ := I.own i ds e
    obtain ⟨p1, p2⟩ := g.mu a _ h3 h2 h5
    exact ⟨a, vs, h1, p1, h3, h4, p2, h6.up g.ff⟩
  sep := I.sep
theorem Iv.step0 (I : Iv K B F H σ ρ) (g : Go [] F H F' H') : Iv K B F' H' σ ρ := I.step g.nil (I.tp.go0 g)
/-- store a plain value -/
theorem Iv.set (I : Iv K B F H σ ρ) {v : V} {d : D} (i : Nat) (r : Rp K B.ms F v d) : Iv K B F H (σ.set i (some v)) (ρ.set i (.val d)) where
  go := I.go
  tp := I.tp
  len := by rw [List.length_set, List.length_set]; exact I.len
  val := fun j e h => by
    have hj := I.len
    by_cases hij : i = j
    · subst hij
      rcases Nat.lt_or_ge i ρ.length with z | z
      · rw [List.getElem?_set_self z] at h
        cases h
        exact ⟨v, List.getElem?_set_self (by omega), r⟩
      · rw [List.getElem?_eq_none (by rw [List.length_set]; exact z)] at h; cases h
    · rw [List.getElem?_set_ne hij] at h
      rw [List.getElem?_set_ne hij]
      exact I.val j e h
  own := fun j ds h => by
    have hj := I.len
    by_cases hij : i = j
    · subst hij
      rcases Nat.lt_or_ge i ρ.length with z | z
      · rw [List.getElem?_set_self z] at h; cases h
      · rw [List.getElem?_eq_none (by rw [List.length_set]; exact z)] at h; cases h
    · rw [List.getElem?_set_ne hij] at h
      rw [List.getElem?_set_ne hij]
      exact I.own j ds h
  sep := fun j k ds es a hjk h1 h2 h3 => by
    have key : ∀ (m : Nat) (ds : Mo), (ρ.set i (.val d))[m]? = some (.mu ds) → i ≠ m := fun m ds h e => by
      subst e
      rcases Nat.lt_or_ge i ρ.length with z | z
      · rw [List.getElem?_set_self z] at h; cases h
      · rw [List.getElem?_eq_none (by rw [List.length_set]; exact z)] at h; cases h
    have e1 := key j _ h1
    have e2 := key k _ h2
    rw [List.getElem?_set_ne e1] at h1 h3
    rw [List.getElem?_set_ne e2] at h2 ⊢
    exact I.sep j k ds es a hjk h1 h2 h3
/-- forget a slot -/
theorem Iv.wipe (I : Iv K B F H σ ρ) (i : Nat) : Iv K B F H (σ.set i none) (ρ.set i .no) where
  go := I.go
  tp := I.tp
  len := by rw [List.length_set, List.length_set]; exact I.len
  val := fun j e h => by
    have hj := I.len
    by_cases hij : i = j
    · subst hij
      rcases Nat.lt_or_ge i ρ.length with z | z
      · rw [List.getElem?_set_self z] at h; cases h
      · rw [List.getElem?_eq_none (by rw [List.length_set]; exact z)] at h; cases h
    · rw [List.getElem?_set_ne hij] at h
      rw [List.getElem?_set_ne hij]
      exact I.val j e h
  own := fun j ds h => by
    have hj := I.len
    by_cases hij : i = j
    · subst hij
      rcases Nat.lt_or_ge i ρ.length with z | z
      · rw [List.getElem?_set_self z] at h; cases h
      · rw [List.getElem?_eq_none (by rw [List.length_set]; exact z)] at h; cases h
    · rw [List.getElem?_set_ne hij] at h
      rw [List.getElem?_set_ne hij]
      exact I.own j ds h
  sep := fun j k ds es a hjk h1 h2 h3 => by
    have hj := I.len
    have key : ∀ (m : Nat) (ds : Mo), (ρ.set i .no)[m]? = some (.mu ds) → i ≠ m := fun m ds h e => by
      subst e
      rcases Nat.lt_or_ge i ρ.length with z | z
      · rw [List.getElem?_set_self z] at h; cases h
      · rw [List.getElem?_eq_none (by rw [List.length_set]; exact z)] at h; cases h
    have e1 := key j _ h1
    have e2 := key k _ h2
    rw [List.getElem?_set_ne e1] at h1 h3
    rw [List.getElem?_set_ne e2] at h2 ⊢
    exact I.sep j k ds es a hjk h1 h2 h3
end
def wipeR (ρ : Ev) : List Nat → Ev
  | [] => ρ
  | v :: vs => (wipeR ρ vs).set v .no
theorem Iv.wipes {K : Frg} {B : Bs} {F H : Hp} {σ : L2.St} {ρ : Ev} (I : Iv K B F H σ ρ) : ∀ vs : List Nat, Iv K B F H (L2.wipe σ vs) (wipeR ρ vs)
  | [] => I
  | v :: vs => (Iv.wipes I vs).wipe v
/-! ### a choice that nothing opens by itself -/
@[irreducible] def ifB (b : Bool) (p q : Prop) : Prop := if b = true then p else q
theorem ifB_eq (b : Bool) (p q : Prop) : ifB b p q = if b = true then p else q := by unfold ifB; rfl
theorem ifB_t {p q : Prop} (h : ifB true p q) : p := by rw [ifB_eq] at h; exact h
theorem ifB_f {p q : Prop} (h : ifB false p q) : q := by rw [ifB_eq] at h; exact h
theorem ifB_T {b : Bool} {p q : Prop} (e : b = true) (h : p) : ifB b p q := by rw [ifB_eq, if_pos e]; exact h
theorem ifB_F {b : Bool} {p q : Prop} (e : b = false) (h : q) : ifB b p q := by rw [ifB_eq, e]; exact h
theorem ifB_2 {b : Bool} {p q : Prop} (h : b = true → p) (h' : b = false → q) : ifB b p q := by
  cases b with
  | true => exact ifB_T rfl (h rfl)
  | false => exact ifB_F rfl (h' rfl)
theorem ifB_d {c : Prop} [Decidable c] {p q : Prop} (h : c → p) (h' : ¬ c → q) : ifB (decide c) p q := ifB_2 (fun e => h (of_decide_eq_true e)) (fun e => h' (of_decide_eq_false e))
/-! ### readings -/
abbrev Rd := Ev → (D → Prop) → Prop
abbrev RdT := Ev → (Bool → Prop) → Prop
abbrev RdA := Ev → (List D → Prop) → Prop
structure En where
  nx : Ev → Prop
  rt : D → Prop
  bk : Ev → Prop := fun _ => False
  ct : Ev → Prop := fun _ => False
abbrev RdS := Ev → En → Prop
def tE (K : Frg) (B : Bs) (r : Rd) : TE := fun σ H Q => ∃ F ρ Qd, Iv K B F H σ ρ ∧ r ρ Qd ∧ ∀ v F' H' d, Go B.ms F H F' H' → Tp K B.ms F' H' → Rp K B.ms F' v d → Qd d → Q v H'
def tT (K : Frg) (B : Bs) (r : RdT) : TT := fun σ H Q => ∃ F ρ Qd, Iv K B F H σ ρ ∧ r ρ Qd ∧ ∀ b F' H', Go B.ms F H F' H' → Tp K B.ms F' H' → Qd b → Q b H'
def tA (K : Frg) (B : Bs) (r : RdA) : TA := fun σ H Q => ∃ F ρ Qd, Iv K B F H σ ρ ∧ r ρ Qd ∧ ∀ vs F' H' ds, Go B.ms F H F' H' → Tp K B.ms F' H' → Rps K B.ms F' vs ds → Qd ds → Q vs H'
def tS (K : Frg) (B : Bs) (r : RdS) : TS := fun Dd σ H => ∃ F ρ En, Iv K B F H σ ρ ∧ r ρ En ∧ (∀ σ' ρ' F' H', Same F F' → Iv K B F' H' σ' ρ' → En.nx ρ' → Dd.nx σ' H') ∧
  (∀ v d F' H', Go B.ms B.F0 B.H0 F' H' → Tp K B.ms F' H' → Rp K B.ms F' v d → En.rt d → Dd.rt v H') ∧
  (∀ σ' ρ' F' H', Same F F' → Iv K B F' H' σ' ρ' → En.bk ρ' → Dd.bk σ' H') ∧ (∀ σ' ρ' F' H', Same F F' → Iv K B F' H' σ' ρ' → En.ct ρ' → Dd.ct σ' H')
def PEp (X : Cx) (B : Bs) (e : Expr) (r : Rd) : Prop := PE X e (tE X.K B r)
def PTp (X : Cx) (B : Bs) (e : Expr) (r : RdT) : Prop := PT X e (tT X.K B r)
def PWp (X : Cx) (B : Bs) (e : Expr) (r : RdT) : Prop := PW X e (tT X.K B r)
def PAp (X : Cx) (B : Bs) (es : List Expr) (r : RdA) : Prop := PA X es (tA X.K B r)
def PSp (X : Cx) (B : Bs) (st : Stmt) (r : RdS) : Prop := PS X st (tS X.K B r)
def PSsp (X : Cx) (B : Bs) (st : List Stmt) (r : RdS) : Prop := PSs X st (tS X.K B r)
theorem pt_imp {X : Cx} {e : Expr} {t t' : TT} (h : PT X e t) (f : ∀ σ H Q, t' σ H Q → t σ H Q) : PT X e t' := ⟨fun pins s σ H Q I z => h.run pins s σ H Q I (f σ H Q z)⟩
theorem pw_imp {X : Cx} {e : Expr} {t t' : TT} (h : PW X e t) (f : ∀ σ H Q, t' σ H Q → t σ H Q) : PW X e t' := ⟨fun w pins s σ H Q I z => h.run w pins s σ H Q I (f σ H Q z)⟩
theorem pa_imp {X : Cx} {e : List Expr} {t t' : TA} (h : PA X e t) (f : ∀ σ H Q, t' σ H Q → t σ H Q) : PA X e t' := ⟨fun p pins s σ H Q I z => h.run p pins s σ H Q I (f σ H Q z)⟩
theorem ps_imp {X : Cx} {e : Stmt} {t t' : TS} (h : PS X e t) (f : ∀ σ H Q, t' Q σ H → t Q σ H) : PS X e t' := ⟨fun pins s σ H Q I z => h.run pins s σ H Q I (f σ H Q z)⟩
theorem pss_imp {X : Cx} {e : List Stmt} {t t' : TS} (h : PSs X e t) (f : ∀ σ H Q, t' Q σ H → t Q σ H) : PSs X e t' := ⟨fun pins s σ H Q I z => h.run pins s σ H Q I (f σ H Q z)⟩
section
variable {X : Cx} {B : Bs} {a b c e : Expr} {es : List Expr} {ra rb rc r : Rd} {rt ru : RdT} {rl : RdA} {pos : Pos}
/-! ### names, constants -/
def rVar (i : Nat) : Rd := fun ρ Q => match ρ[i]? with
  | some (.val d) => Q d
  | _ => False
def rC (d : D) : Rd := fun _ Q => Q d
theorem y_var {i : Nat} {x : Str} (h : PE X (.Name x pos) (tVar i)) : PEp X B (.Name x pos) (rVar i) := pe_imp h fun σ H Q ⟨F, ρ, Qd, I, z, k⟩ => by
  unfold rVar at z
  split at z
  · rename_i d e
    obtain ⟨v, h1, h2⟩ := I.val i d e
    exact ⟨v, h1, k v F H d (Go.refl I.same) I.tp h2 z⟩
  · exact z.elim
theorem y_c {v : V} {d : D} (h : PE X e (tC v)) (hr : ∀ K ms F, Rp K ms F v d) : PEp X B e (rC d) := pe_imp h fun σ H Q ⟨F, ρ, Qd, I, z, k⟩ => k v F H d (Go.refl I.same) I.tp (hr _ _ _) z
theorem y_int {i j} : PEp X B (.Constant (.int i) j pos) (rC (.int i)) := y_c pe_int fun _ _ _ => .int i
theorem y_bl {b j} : PEp X B (.Constant (.bool b) j pos) (rC (.bl b)) := y_c pe_bl fun _ _ _ => .bl b
theorem y_non {j} : PEp X B (.Constant .none j pos) (rC .non) := y_c pe_non fun _ _ _ => .non
theorem y_str {x j} : PEp X B (.Constant (.str x) j pos) (rC (.str x)) := y_c pe_str fun _ _ _ => .str x
theorem y_globI {x : Str} {i : Int} (hg : Gl X x) (h : ∃ t, X.mg x = some (.int i t)) (hd : (x == ("__debug__" : Str)) = false := by decide) : PEp X B (.Name x pos) (rC (.int i)) := y_c (pe_globI hg h hd) fun _ _ _ => .int i
theorem y_globS {x z : Str} (hg : Gl X x) (h : ∃ t, X.mg x = some (.str z t)) (hd : (x == ("__debug__" : Str)) = false := by decide) : PEp X B (.Name x pos) (rC (.str z)) := y_c (pe_globS hg h hd) fun _ _ _ => .str z
theorem y_glob {x : Str} (hg : Gl X x) (h : X.mg x = some (.ref (He.ga X.K x))) (hd : (x == ("__debug__" : Str)) = false := by decide) : PEp X B (.Name x pos) (rC (.glob x)) :=
  pe_imp (pe_glob (v := .ref (He.ga X.K x)) hg h rfl hd) fun σ H Q ⟨F, ρ, Qd, I, z, k⟩ => k _ F H _ (Go.refl I.same) I.tp (.glob x) z
theorem y_ty {x : Str} {n : String} (hg : Gl X x) (hm : X.mg x = none) (hv : bootBuiltins x = some (.type n)) (hn : x ≠ "__name__" := by decide) (hd : (x == ("__debug__" : Str)) = false := by decide) : PEp X B (.Name x pos) (rC (.ty n)) := y_c (pe_bltn (v := .ty n) hg hm hv rfl hn hd) fun _ _ _ => .ty n
/-! ### two-place operations -/
def OpL (K : Frg) (ms : List Addr) (r : R2) (g : D → D → (D → Prop) → Prop) : Prop := ∀ (F H : Hp) (x y : V) (dx dy : D) (Qd : D → Prop) (Q : VK), Same F H → Rp K ms F x dx → Rp K ms F y dy → g dx dy Qd → (∀ v F' H' d, Go [] F H F' H' → Rp K ms F' v d → Qd d → Q v H') → r x y H Q
theorem tOp_of {g : D → D → (D → Prop) → Prop} {o : R2} (hl : OpL X.K B.ms o g) (σ : L2.St) (H : Hp) (Q : VK) (h : tE X.K B (fun ρ Q => ra ρ fun x => rb ρ fun y => g x y Q) σ H Q) : tOp o (tE X.K B ra) (tE X.K B rb) σ H Q := by
  obtain ⟨F, ρ, Qd, I, z, k⟩ := h
  refine ⟨F, ρ, _, I, z, fun v F1 H1 d g1 t1 r1 z1 => ⟨F1, ρ, _, I.step g1 t1, z1, fun u F2 H2 e g2 t2 r2 z2 => ?_⟩⟩
  exact hl F2 H2 v u d e Qd Q t2.1 (r1.up g2.ff) r2 z2 fun w F3 H3 d3 g3 r3 q3 => k w F3 H3 d3 ((g1.trans g2).trans g3.nil) (t2.go0 g3) r3 q3
theorem y_op {op : Operator} {g : D → D → (D → Prop) → Prop} {o : R2} (ho : OpR X (binaryOp op) o) (hl : OpL X.K B.ms o g) (ha : PEp X B a ra) (hb : PEp X B b rb) : PEp X B (.BinOp a op b pos) (fun ρ Q => ra ρ fun x => rb ρ fun y => g x y Q) :=
  pe_imp (pe_op ho ha hb) (tOp_of hl)
theorem y_cmp {op : CmpOp} {g : D → D → (D → Prop) → Prop} {o : R2} (ho : OpR X (compareOp op) o) (hl : OpL X.K B.ms o g) (ha : PEp X B a ra) (hb : PEp X B b rb) (hm : behindInMarks op b = false) : PEp X B (.Compare a [op] [b] pos) (fun ρ Q => ra ρ fun x => rb ρ fun y => g x y Q) :=
  pe_imp (pe_cmpR ho ha hb hm) (tOp_of hl)
def tst (d : D) (Q : Bool → Prop) : Prop := match d with
  | .bl b => Q b
  | _ => False
theorem tTest_of {t : TE} (h0 : ∀ σ H Q, tE X.K B r σ H Q → t σ H Q) (σ : L2.St) (H : Hp) (Q : Bool → Hp → Prop) (h : tT X.K B (fun ρ Q => r ρ fun d => tst d Q) σ H Q) : tTest t σ H Q := by
  obtain ⟨F, ρ, Qd, I, z, k⟩ := h
  refine h0 _ _ _ ⟨F, ρ, _, I, z, fun v F1 H1 d g1 t1 r1 z1 => ?_⟩
  unfold tst at z1
  split at z1
  · rename_i b
    cases r1
    exact ⟨b, rfl, k b F1 H1 g1 t1 z1⟩
  · exact z1.elim
theorem z_cmp {op : CmpOp} {g : D → D → (D → Prop) → Prop} {o : R2} (ho : OpR X (compareOp op) o) (hl : OpL X.K B.ms o g) (ha : PEp X B a ra) (hb : PEp X B b rb) (hm : behindInMarks op b = false) : PTp X B (.Compare a [op] [b] pos) (fun ρ Q => ra ρ fun x => rb ρ fun y => g x y fun d => tst d Q) :=
  pt_imp (pt_cmpR ho ha hb hm) (tTest_of (tOp_of hl))
theorem z_val (h : PEp X B e r) (he : ∀ whole, isTrue e X.env whole = (do let v ← whole; standAt e.pos; holding [v] (truthy v)) := by intro _; rfl) : PTp X B e (fun ρ Q => r ρ fun d => tst d Q) :=
  pt_imp (pt_val h he) (tTest_of fun _ _ _ z => z)
/-- a op b op' c -/
def chn (g g' : D → D → (D → Prop) → Prop) (ra rb rc : Rd) : Rd := fun ρ Q => ra ρ fun x => rb ρ fun y => g x y fun z => tst z fun k => ifB k (rc ρ fun w => g' y w Q) (Q (.bl false))
theorem tChain_of {g g' : D → D → (D → Prop) → Prop} {o o' : R2} (hl : OpL X.K B.ms o g) (hl' : OpL X.K B.ms o' g') (σ : L2.St) (H : Hp) (Q : VK) (h : tE X.K B (chn g g' ra rb rc) σ H Q) : tChain o o' (tE X.K B ra) (tE X.K B rb) (tE X.K B rc) σ H Q := by
  obtain ⟨F, ρ, Qd, I, z, k⟩ := h
  refine ⟨F, ρ, _, I, z, fun v F1 H1 d g1 t1 r1 z1 => ⟨F1, ρ, _, I.step g1 t1, z1, fun u F2 H2 e g2 t2 r2 z2 => ?_⟩⟩
  refine hl F2 H2 v u d e _ _ t2.1 (r1.up g2.ff) r2 z2 fun w F3 H3 d3 g3 r3 q3 => ?_
  have t3 := t2.go0 g3
  unfold tst at q3
  split at q3
  · rename_i b
    cases r3
    refine ⟨b, rfl, ?_⟩
    cases b with
    | false => exact k _ F3 H3 _ ((g1.trans g2).trans g3.nil) t3 (.bl false) (ifB_f q3)
    | true => exact ⟨F3, ρ, _, ((I.step g1 t1).step g2 t2).step g3.nil t3, ifB_t q3, fun w4 F4 H4 d4 g4 t4 r4 z4 => hl' F4 H4 u w4 e d4 Qd Q t4.1 ((r2.up g3.ff).up g4.ff) r4 z4 fun w5 F5 H5 d5 g5 r5 q5 => k w5 F5 H5 d5 (((g1.trans g2).trans g3.nil).trans (g4.trans g5.nil)) (t4.go0 g5) r5 q5⟩
  · exact q3.elim
theorem y_chain {op op' : CmpOp} {g g' : D → D → (D → Prop) → Prop} {o o' : R2} (ho : OpR X (compareOp op) o) (hl : OpL X.K B.ms o g) (ho' : OpR X (compareOp op') o') (hl' : OpL X.K B.ms o' g') (ha : PEp X B a ra) (hb : PEp X B b rb) (hc : PEp X B c rc)
    (hm : lastMarks [op, op'] [b, c] = false := by with_unfolding_all rfl) : PEp X B (.Compare a [op, op'] [b, c] pos) (chn g g' ra rb rc) := pe_imp (pe_chain ho ho' ha hb hc hm) (tChain_of hl hl')
theorem z_chain {op op' : CmpOp} {g g' : D → D → (D → Prop) → Prop} {o o' : R2} (ho : OpR X (compareOp op) o) (hl : OpL X.K B.ms o g) (ho' : OpR X (compareOp op') o') (hl' : OpL X.K B.ms o' g') (ha : PEp X B a ra) (hb : PEp X B b rb) (hc : PEp X B c rc)
    (hm : lastMarks [op, op'] [b, c] = false := by with_unfolding_all rfl) : PTp X B (.Compare a [op, op'] [b, c] pos) (fun ρ Q => chn g g' ra rb rc ρ fun d => tst d Q) := pt_imp (pt_chain ho ho' ha hb hc hm) (tTest_of (tChain_of hl hl'))
/-! ### and, or, not, if -/
theorem z_and1 (ha : PTp X B a rt) : PWp X B (.BoolOp .And [a] pos) rt := pw_and1 ha
theorem z_or1 (ha : PTp X B a rt) : PWp X B (.BoolOp .Or [a] pos) rt := pw_or1 ha
theorem z_and {rest : List Expr} (ha : PTp X B a rt) (hb : PWp X B (.BoolOp .And (b :: rest) pos) ru) : PWp X B (.BoolOp .And (a :: b :: rest) pos) (fun ρ Q => rt ρ fun c => ifB c (ru ρ Q) (Q false)) :=
  pw_imp (pw_and ha hb) fun σ H Q ⟨F, ρ, Qd, I, z, k⟩ => ⟨F, ρ, _, I, z, fun b F1 H1 g1 t1 z1 => by
    cases b with
    | false => exact k false F1 H1 g1 t1 (ifB_f z1)
    | true => exact ⟨F1, ρ, _, I.step g1 t1, ifB_t z1, fun b F2 H2 g2 t2 z2 => k b F2 H2 (g1.trans g2) t2 z2⟩⟩
theorem z_or {rest : List Expr} (ha : PTp X B a rt) (hb : PWp X B (.BoolOp .Or (b :: rest) pos) ru) : PWp X B (.BoolOp .Or (a :: b :: rest) pos) (fun ρ Q => rt ρ fun c => ifB c (Q true) (ru ρ Q)) :=
  pw_imp (pw_or ha hb) fun σ H Q ⟨F, ρ, Qd, I, z, k⟩ => ⟨F, ρ, _, I, z, fun b F1 H1 g1 t1 z1 => by
    cases b with
    | true => exact k true F1 H1 g1 t1 (ifB_t z1)
    | false => exact ⟨F1, ρ, _, I.step g1 t1, ifB_f z1, fun b F2 H2 g2 t2 z2 => k b F2 H2 (g1.trans g2) t2 z2⟩⟩
theorem z_pt (h : PWp X B a rt) : PTp X B a rt := PW.pt h
theorem z_not (ha : PTp X B a rt) : PTp X B (.UnaryOp .Not a pos) (fun ρ Q => rt ρ fun c => Q (!c)) :=
  pt_imp (pt_not ha) fun σ H Q ⟨F, ρ, Qd, I, z, k⟩ => ⟨F, ρ, _, I, z, fun b F1 H1 g1 t1 z1 => k (!b) F1 H1 g1 t1 z1⟩
theorem y_one {op} (h : PEp X B a ra) : PEp X B (.BoolOp op [a] pos) ra := pe_one h
theorem y_and {rest : List Expr} (ha : PEp X B a ra) (hb : PEp X B (.BoolOp .And (b :: rest) pos) rb) : PEp X B (.BoolOp .And (a :: b :: rest) pos) (fun ρ Q => ra ρ fun d => tst d fun c => ifB c (rb ρ Q) (Q (.bl false))) :=
  pe_imp (pe_and ha hb) fun σ H Q ⟨F, ρ, Qd, I, z, k⟩ => ⟨F, ρ, _, I, z, fun v F1 H1 d g1 t1 r1 z1 => by
    unfold tst at z1
    split at z1
    · rename_i b
      cases r1
      refine ⟨b, rfl, ?_⟩
      cases b with
      | false => exact k _ F1 H1 _ g1 t1 (.bl false) (ifB_f z1)
      | true => exact ⟨F1, ρ, _, I.step g1 t1, ifB_t z1, fun w F2 H2 d g2 t2 r2 z2 => k w F2 H2 d (g1.trans g2) t2 r2 z2⟩
    · exact z1.elim⟩
theorem y_not (ha : PEp X B a ra) : PEp X B (.UnaryOp .Not a pos) (fun ρ Q => ra ρ fun d => tst d fun c => Q (.bl (!c))) :=
  pe_imp (pe_not ha) fun σ H Q ⟨F, ρ, Qd, I, z, k⟩ => ⟨F, ρ, _, I, z, fun v F1 H1 d g1 t1 r1 z1 => by
    unfold tst at z1
    split at z1
    · rename_i b
      cases r1
      exact ⟨b, rfl, k _ F1 H1 _ g1 t1 (.bl (!b)) z1⟩
    · exact z1.elim⟩
/-! ### arguments, displays -/
def aNil : RdA := fun _ Q => Q []
def aCons (ra : Rd) (rl : RdA) : RdA := fun ρ Q => ra ρ fun x => rl ρ fun xs => Q (x :: xs)
theorem a_nil : PAp X B [] aNil := pa_imp pa_nil fun σ H Q ⟨F, ρ, Qd, I, z, k⟩ => k [] F H [] (Go.refl I.same) I.tp .nil z
theorem a_cons (ha : PEp X B e ra) (hr : PAp X B es rl) (hs : starEach (e :: es) X.env = (false, eval e X.env) :: starEach es X.env := by rfl) : PAp X B (e :: es) (aCons ra rl) :=
  pa_imp (pa_cons ha hr hs) fun σ H Q ⟨F, ρ, Qd, I, z, k⟩ => ⟨F, ρ, _, I, z, fun v F1 H1 d g1 t1 r1 z1 => ⟨F1, ρ, _, I.step g1 t1, z1, fun vs F2 H2 ds g2 t2 r2 z2 => k (v :: vs) F2 H2 (d :: ds) (g1.trans g2) t2 (.cons (r1.up g2.ff) r2) z2⟩⟩
theorem y_tup {x1} (h : PAp X B es rl) : PEp X B (.Tuple es x1 pos) (fun ρ Q => rl ρ fun ds => ds.length ≤ 100000 ∧ Q (.tup ds)) :=
  pe_imp (pe_tupZ h) fun σ H Q ⟨F, ρ, Qd, I, z, k⟩ => ⟨F, ρ, _, I, z, fun vs F1 H1 ds g1 t1 r1 z1 => ⟨Nat.le_trans (by rw [r1.len]; exact z1.1) (by decide), fun p H2 hp e2 => by
    obtain ⟨F2, g2, q2, _⟩ := newE g1.fh hp e2
    exact k _ F2 H2 _ (g1.trans g2.nil) (t1.go0 g2) (.tup (SqT.of q2) (r1.up g2.ff)) z1.2⟩⟩
theorem y_lst (h : PAp X B es rl) : PEp X B (.List es pos) (fun ρ Q => rl ρ fun ds => ds.length ≤ 100000 ∧ Q (.lst ds)) :=
  pe_imp (pe_lstZ h) fun σ H Q ⟨F, ρ, Qd, I, z, k⟩ => ⟨F, ρ, _, I, z, fun vs F1 H1 ds g1 t1 r1 z1 => ⟨Nat.le_trans (by rw [r1.len]; exact z1.1) (by decide), fun p H2 hp e2 => by
    obtain ⟨F2, g2, q2, _⟩ := newE g1.fh hp e2
    exact k _ F2 H2 _ (g1.trans g2.nil) (t1.go0 g2) (.lst q2 (r1.up g2.ff)) z1.2⟩⟩
end
end Y
namespace Y
open PySem PySem.Spec PyProof.Rows L2 Z
/-! ### statements -/
section
variable {X : Cx} {B : Bs} {a b c e : Expr} {es : List Expr} {ra rb rc r : Rd} {rt ru : RdT} {rl : RdA} {pos : Pos} {st : Stmt} {rest : List Stmt} {s1 s2 : RdS}
theorem s_nil : PSsp X B [] (fun ρ E => E.nx ρ) := pss_imp pss_nil fun σ H Dd ⟨F, ρ, E, I, z, kn, _⟩ => kn σ ρ F H (Same.refl _) I z
theorem s_cons (h1 : PSp X B st s1) (h2 : PSsp X B rest s2) : PSsp X B (st :: rest) (fun ρ E => s1 ρ { E with nx := fun ρ' => s2 ρ' E }) :=
  pss_imp (pss_cons h1 h2) fun σ H Dd ⟨F, ρ, E, I, z, kn, kr, kb, kc⟩ => ⟨F, ρ, _, I, z, fun σ' ρ' F' H' s I' z' => ⟨F', ρ', E, I', z', fun σ2 ρ2 F2 H2 s' I2 z2 => kn σ2 ρ2 F2 H2 (s.trans s') I2 z2, kr, fun σ2 ρ2 F2 H2 s' I2 z2 => kb σ2 ρ2 F2 H2 (s.trans s') I2 z2, fun σ2 ρ2 F2 H2 s' I2 z2 => kc σ2 ρ2 F2 H2 (s.trans s') I2 z2⟩, kr, kb, kc⟩
theorem s_one (h1 : PSp X B st s1) : PSsp X B [st] s1 := pss_one h1
theorem s_ret (he : PEp X B e r) : PSp X B (.Return (some e) pos) (fun ρ E => r ρ E.rt) :=
  ps_imp (ps_ret he) fun σ H Dd ⟨F, ρ, E, I, z, kn, kr, kb, kc⟩ => ⟨F, ρ, _, I, z, fun v F' H' d g t r q => kr v d F' H' (I.go.trans g) t r q⟩
theorem s_never : PSp X B st (fun _ _ => False) := ps_imp ps_never fun σ H Dd ⟨F, ρ, E, I, z, _⟩ => z
theorem s_expr (he : PEp X B e r) (hs : swapsWith e none pos.line X.env = pure false := by rfl) : PSp X B (.Expr e pos) (fun ρ E => r ρ fun _ => E.nx ρ) :=
  ps_imp (ps_expr he hs) fun σ H Dd ⟨F, ρ, E, I, z, kn, kr, kb, kc⟩ => ⟨F, ρ, _, I, z, fun v F' H' d g t r q => kn σ ρ F' H' g.ff (I.step g t) q⟩
theorem s_if {bs cs : List Stmt} (hc : PTp X B c rt) (ha : PSsp X B bs s1) (hb : PSsp X B cs s2) : PSp X B (.If c bs cs pos) (fun ρ E => rt ρ fun k => ifB k (s1 ρ E) (s2 ρ E)) :=
  ps_imp (ps_if hc ha hb) fun σ H Dd ⟨F, ρ, E, I, z, kn, kr, kb, kc⟩ => ⟨F, ρ, _, I, z, fun k F1 H1 g1 t1 z1 => by
    have J := I.step g1 t1
    cases k with
    | true => exact ⟨F1, ρ, E, J, ifB_t z1, fun σ2 ρ2 F2 H2 s' I2 z2 => kn σ2 ρ2 F2 H2 (g1.ff.trans s') I2 z2, kr, fun σ2 ρ2 F2 H2 s' I2 z2 => kb σ2 ρ2 F2 H2 (g1.ff.trans s') I2 z2, fun σ2 ρ2 F2 H2 s' I2 z2 => kc σ2 ρ2 F2 H2 (g1.ff.trans s') I2 z2⟩
    | false => exact ⟨F1, ρ, E, J, ifB_f z1, fun σ2 ρ2 F2 H2 s' I2 z2 => kn σ2 ρ2 F2 H2 (g1.ff.trans s') I2 z2, kr, fun σ2 ρ2 F2 H2 s' I2 z2 => kb σ2 ρ2 F2 H2 (g1.ff.trans s') I2 z2, fun σ2 ρ2 F2 H2 s' I2 z2 => kc σ2 ρ2 F2 H2 (g1.ff.trans s') I2 z2⟩⟩
/-! ### targets -/
inductive Tg where
  | nm (i : Nat) | tp (is : List Nat)
def stN : List Nat → List D → Ev → (Ev → Prop) → Prop
  | [], [], ρ, Q => Q ρ
  | i :: is, d :: ds, ρ, Q => stN is ds (ρ.set i (.val d)) Q
  | _, _, _, _ => False
def tgD : Tg → D → Ev → (Ev → Prop) → Prop
  | .nm i, d, ρ, Q => Q (ρ.set i (.val d))
  | .tp is, .tup ds, ρ, Q => stN is ds ρ Q
  | .tp is, .lst ds, ρ, Q => stN is ds ρ Q
  | _, _, _, _ => False
def gNs : List Nat → TGs
  | [] => gNil
  | i :: is => gCons (gName i) (gNs is)
def tgV (K : Frg) : Tg → TG
  | .nm i => gName i
  | .tp is => fun v σ H Q => gTup K is.length (gNs is) v σ H Q ∨ gLst K is.length (gNs is) v σ H Q
theorem g_nm {i : Nat} {x : Str} (h : PG X (.Name x pos) (gName i)) : PG X (.Name x pos) (tgV X.K (.nm i)) := h
theorem g_tp {is : List Nat} {k : Nat} (hc : X.calm = true) (h : PGs X es (gNs is)) (hl : is.length = (assignEach es X.env).length := by rfl) (hst : (assignEach es X.env).findIdx? (·.1) = none := by rfl) : PG X (.Tuple es k pos) (tgV X.K (.tp is)) := by
  have h1 := pg_tup (pos := pos) (k := k) hc h hl.symm hst
  have h2 := pg_lst (pos := pos) (k := k) hc h hl.symm hst
  exact ⟨fun pins s σ H v u Q I r z => z.elim (h1.run pins s σ H v u Q I r) (h2.run pins s σ H v u Q I r)⟩
theorem stN_run {K : Frg} : ∀ {is : List Nat} {vs : List V} {ds : List D} {F H : Hp} {σ : L2.St} {ρ : Ev} {Qd : Ev → Prop} {Q : L2.St → Hp → Prop}, Iv K B F H σ ρ → Rps K B.ms F vs ds → stN is ds ρ Qd → (∀ σ' ρ', Iv K B F H σ' ρ' → Qd ρ' → Q σ' H) → gNs is vs σ H Q
  | [], [], [], F, H, σ, ρ, Qd, Q, I, _, z, k => ⟨rfl, k σ ρ I z⟩
  | i :: is, v :: vs, d :: ds, F, H, σ, ρ, Qd, Q, I, r, z, k => by
    cases r with
    | cons r1 r2 => exact ⟨v, vs, rfl, stN_run (I.set i r1) r2 z k⟩
  | [], _ :: _, [], _, _, _, _, _, _, _, r, _, _ => by cases r
  | [], _, _ :: _, _, _, _, _, _, _, _, _, z, _ => z.elim
  | _ :: _, _, [], _, _, _, _, _, _, _, _, z, _ => z.elim
  | _ :: _, [], _ :: _, _, _, _, _, _, _, _, r, _, _ => by cases r
theorem stN_len : ∀ {is : List Nat} {ds : List D} {ρ : Ev} {Qd : Ev → Prop}, stN is ds ρ Qd → ds.length = is.length
  | [], [], _, _, _ => rfl
  | _ :: is, _ :: ds, _, _, z => by simp only [List.length_cons]; rw [stN_len (is := is) (ds := ds) z]
  | [], _ :: _, _, _, z => z.elim
  | _ :: _, [], _, _, z => z.elim
theorem tg_run {K : Frg} {tg : Tg} {v : V} {d : D} {F H : Hp} {σ : L2.St} {ρ : Ev} {Qd : Ev → Prop} {Q : L2.St → Hp → Prop} (I : Iv K B F H σ ρ) (r : Rp K B.ms F v d) (z : tgD tg d ρ Qd) (k : ∀ σ' ρ', Iv K B F H σ' ρ' → Qd ρ' → Q σ' H) : tgV K tg v σ H Q := by
  cases tg with
  | nm i => exact k _ _ (I.set i r) z
  | tp is =>
    cases d with
    | tup ds =>
      cases r with
      | tup h1 h2 => exact .inl ⟨_, _, rfl, sqT I.same h1, by rw [h2.len]; exact stN_len z, stN_run I h2 z k⟩
    | lst ds =>
      cases r with
      | lst h1 h2 => exact .inr ⟨_, _, rfl, SqL.of (I.same _ _ h1), by rw [h2.len]; exact stN_len z, stN_run I h2 z k⟩
    | _ => exact z.elim
/-- a target touches its own slots alone -/
def Tg.slots : Tg → List Nat
  | .nm i => [i]
  | .tp is => is
theorem wipe_get (σ : L2.St) : ∀ (vs : List Nat) (j : Nat), (L2.wipe σ vs)[j]? = if j ∈ vs then (if j < σ.length then some none else none) else σ[j]?
  | [], j => by simp [L2.wipe]
  | v :: vs, j => by
    unfold L2.wipe
    rw [List.getElem?_set, L2.wipe_length, wipe_get σ vs j]
    by_cases hv : v = j
    · subst hv; simp
    · rw [if_neg hv]
      have : (j ∈ v :: vs) = (j ∈ vs) := by simp [Ne.symm hv]
      simp only [this]
theorem wipe_set (σ : L2.St) {i : Nat} {x : Option V} {vs : List Nat} (h : i ∈ vs) : L2.wipe (σ.set i x) vs = L2.wipe σ vs := by
  apply List.ext_getElem?
  intro j
  rw [wipe_get, wipe_get, List.length_set]
  by_cases hj : j ∈ vs
  · rw [if_pos hj, if_pos hj]
  · rw [if_neg hj, if_neg hj, List.getElem?_set_ne (fun (e : i = j) => hj (e ▸ h))]
theorem gNs_wipe {vs0 : List Nat} {H : Hp} {Q : L2.St → Hp → Prop} : ∀ {is : List Nat} {vs : List V} {σ : L2.St}, (∀ i ∈ is, i ∈ vs0) → gNs is vs σ H Q → gNs is vs σ H fun σ2 H2 => L2.wipe σ2 vs0 = L2.wipe σ vs0 ∧ Q σ2 H2
  | [], _, _, _, h => ⟨h.1, rfl, h.2⟩
  | i :: is, vs, σ, hm, ⟨v, r, e, h⟩ => by
    refine ⟨v, r, e, ?_⟩
    have := gNs_wipe (is := is) (fun j hj => hm j (List.mem_cons_of_mem _ hj)) h
    rw [wipe_set σ (hm i List.mem_cons_self)] at this
    exact this
theorem tg_wipe {K : Frg} {tg : Tg} {vs0 : List Nat} {v : V} {σ : L2.St} {H : Hp} {Q : L2.St → Hp → Prop} (hm : ∀ i ∈ tg.slots, i ∈ vs0) (h : tgV K tg v σ H Q) : tgV K tg v σ H fun σ2 H2 => L2.wipe σ2 vs0 = L2.wipe σ vs0 ∧ Q σ2 H2 := by
  cases tg with
  | nm i => exact ⟨wipe_set σ (hm i List.mem_cons_self), h⟩
  | tp is =>
    rcases h with ⟨a, xs, e, h1, h2, h3⟩ | ⟨a, xs, e, h1, h2, h3⟩
    · exact .inl ⟨a, xs, e, h1, h2, gNs_wipe hm h3⟩
    · exact .inr ⟨a, xs, e, h1, h2, gNs_wipe hm h3⟩
/-! ### assignments -/
theorem asg_of {te : TE} {tg : Tg} (h0 : ∀ σ H Q, tE X.K B r σ H Q → te σ H Q) (σ : L2.St) (H : Hp) (Dd : Ends) (h : tS X.K B (fun ρ E => r ρ fun d => tgD tg d ρ E.nx) Dd σ H) : tAsg te (tgV X.K tg) Dd σ H := by
  obtain ⟨F, ρ, E, I, z, kn, kr, kb, kc⟩ := h
  exact h0 _ _ _ ⟨F, ρ, _, I, z, fun v F' H' d g t r q => tg_run (I.step g t) r q fun σ' ρ' I' z' => kn σ' ρ' F' H' g.ff I' z'⟩
theorem s_set {i : Nat} {x : Str} {pos' : Pos} (hN : X.N.Nodup) (hi : X.N[i]? = some x) (hx : Loc X.env.scope x) (he : PEp X B e r) (hs : swapsWith e (some (.Name x pos')) pos.line X.env = pure false := by rfl) (hf : X.fn x = true ∨ X.env.scope.names.lookup x = some .local := by first | exact .inl rfl | exact .inr rfl | assumption) :
    PSp X B (.Assign [.Name x pos'] e pos) (fun ρ E => r ρ fun d => E.nx (ρ.set i (.val d))) := ps_imp (ps_set hN hi hx he hs hf) (asg_of (tg := .nm i) fun _ _ _ z => z)
theorem s_asg {tg : Expr} {t : Tg} (he : PEp X B e r) (hg : PG X tg (tgV X.K t)) (hs : swapsWithSole [tg] e pos.line X.env = pure false := by rfl) (hw : swappedStores [tg] e X.env = pure none := by rfl)
    (h1 : (assignEach [tg] X.env).map (·.2) = [assign tg X.env] := by rfl) : PSp X B (.Assign [tg] e pos) (fun ρ E => r ρ fun d => tgD t d ρ E.nx) := ps_imp (ps_asg he hg hs hw h1) (asg_of (tg := t) fun _ _ _ z => z)
/-! ### loops -/
end
/-- an iterator that hands out the data ds -/
def Sqs (K : Frg) (ms : List Addr) (F : Hp) (J : It) (ds : List D) : Prop := ∃ (G : Hp → Prop) (Yd : Nat → Hp → V → Hp → Prop), Walk J ds.length G Yd ∧ (∀ F1 H1, Same F F1 → Same F1 H1 → G H1) ∧
  ∀ (i : Nat) (F1 H1 : Hp) (x : V) (H1' : Hp) (d : D), Same F F1 → Same F1 H1 → Yd i H1 x H1' → ds[i]? = some d → ∃ F2, Go [] F1 H1 F2 H1' ∧ Rp K ms F2 x d
def tI (K : Frg) (B : Bs) (r : RdA) : L2.TI := fun σ H R => ∃ F ρ Qd, Iv K B F H σ ρ ∧ r ρ Qd ∧ ∀ J F' H' ds, Go B.ms F H F' H' → Tp K B.ms F' H' → Sqs K B.ms F' J ds → Qd ds → R J H'
def PIp (X : Cx) (B : Bs) (tg iter : Expr) (r : RdA) : Prop := PI X tg iter (tI X.K B r)
theorem pi_imp {X : Cx} {tg it : Expr} {t t' : L2.TI} (h : PI X tg it t) (f : ∀ σ H R, t' σ H R → t σ H R) : PI X tg it t' := ⟨fun pins s σ H R I z => h.run pins s σ H R I (f σ H R z)⟩
/-- a for, turn by turn -/
def forP (tg : Tg) (sb : RdS) (E : En) : List D → Ev → Prop
  | [], ρ => E.nx ρ
  | d :: ds, ρ => tgD tg d ρ fun ρ1 => sb ρ1 { E with nx := forP tg sb E ds, ct := forP tg sb E ds, bk := E.nx }
/-- a for, by what holds behind each turn -/
def forI (tg : Tg) (sb : RdS) (E : En) (ds : List D) (ρ : Ev) : Prop := ∃ I : Nat → Ev → Prop, I 0 ρ ∧ (∀ (i : Nat) (d : D) (ρ' : Ev), ds[i]? = some d → I i ρ' → tgD tg d ρ' fun ρ1 => sb ρ1 { E with nx := I (i + 1), ct := I (i + 1), bk := E.nx }) ∧ ∀ ρ', I ds.length ρ' → E.nx ρ'
theorem lt_of_get {α : Type} {ds : List α} {i : Nat} {d : α} (h : ds[i]? = some d) : i < ds.length := by
  rcases Nat.lt_or_ge i ds.length with z | z
  · exact z
  · rw [List.getElem?_eq_none z] at h; cases h
theorem drop_of_get {α : Type} {ds : List α} {i : Nat} {d : α} (h : ds[i]? = some d) : ds.drop i = d :: ds.drop (i + 1) := by
  have hi := lt_of_get h
  rw [List.getElem?_eq_getElem hi] at h
  cases h
  exact List.drop_eq_getElem_cons hi
/-- a comprehension, item by item -/
def mapP (tg : Tg) (rt : RdT) (re : Rd) (ρ : Ev) : List D → (List D → Prop) → Prop
  | [], Q => Q []
  | d :: ds, Q => tgD tg d ρ fun ρ2 => rt ρ2 fun k => ifB k (re ρ2 fun y => mapP tg rt re ρ ds fun ys => Q (y :: ys)) (mapP tg rt re ρ ds Q)
/-- a comprehension, by what holds of the items made so far -/
def mapI (tg : Tg) (rt : RdT) (re : Rd) (ρ : Ev) (ds : List D) (Q : List D → Prop) : Prop := ∃ J : Nat → List D → Prop, J 0 [] ∧ (∀ (i : Nat) (d : D) (acc : List D), ds[i]? = some d → J i acc → tgD tg d ρ fun ρ2 => rt ρ2 fun k => ifB k (re ρ2 fun y => J (i + 1) (acc ++ [y])) (J (i + 1) acc)) ∧ ∀ out, J ds.length out → Q out
theorem mapI_of {tg : Tg} {rt : RdT} {re : Rd} {ρ : Ev} {ds : List D} {Q : List D → Prop} (h : mapP tg rt re ρ ds Q) : mapI tg rt re ρ ds Q := by
  refine ⟨fun i acc => mapP tg rt re ρ (ds.drop i) fun zs => Q (acc ++ zs), h, fun i d acc hd z => ?_, fun out z => ?_⟩
  · dsimp only at z
    rw [drop_of_get hd] at z
    simp only [List.append_assoc, List.singleton_append]
    exact z
  · dsimp only at z
    rw [List.drop_length] at z
    have z2 : Q (out ++ []) := z
    rw [List.append_nil] at z2
    exact z2
section
variable {X : Cx} {B : Bs} {a b c e : Expr} {es : List Expr} {ra rb rc r : Rd} {rt ru : RdT} {rl : RdA} {pos : Pos} {st : Stmt} {rest : List Stmt} {s1 s2 : RdS}
theorem s_for {iter tg : Expr} {t : Tg} {body : List Stmt} (hp : PassesOwn (model X.prog X.w) X.A X.env X.xe) (hc : X.calm = true) (hi : PIp X B tg iter rl) (hg : PG X tg (tgV X.K t)) (hb : PSsp X B body s1) (hs : ∀ x, foldedSetIterable iter X.env x = pure x := by intro _; rfl) :
    PSp X B (.For tg iter body [] pos) (fun ρ E => rl ρ fun ds => forI t s1 E ds ρ) :=
  ps_imp (ps_for hp hc hi hg hb hs) fun σ H Dd ⟨F, ρ, E, I, z, kn, kr, kb, kc⟩ => ⟨F, ρ, _, I, z, fun J F1 H1 ds g1 t1 ⟨G, Yd, w, hG, hY⟩ ⟨Iw, z1, zs, zf⟩ => by
    refine for_it w (fun i σ' H' => ∃ F' ρ', Same F1 F' ∧ Iv X.K B F' H' σ' ρ' ∧ Iw i ρ') ⟨F1, ρ, Same.refl _, I.step g1 t1, z1⟩ (fun i σ' H' _ ⟨F', ρ', s', I', _⟩ => hG F' H' s' I'.same) ?_ ?_
    · rintro i x σ' H' H'' hi ⟨F', ρ', s', I', z'⟩ hy
      have z' := zs i ds[i] ρ' (List.getElem?_eq_getElem hi) z'
      obtain ⟨F2, g2, r2⟩ := hY i F' H' x H'' ds[i] s' I'.same hy (List.getElem?_eq_getElem hi)
      have J2 := I'.step0 g2
      refine tg_run J2 r2 z' fun σ3 ρ3 I3 z3 => ⟨F2, ρ3, _, I3, z3, ?_, kr, ?_, ?_⟩
      · exact fun σ4 ρ4 F4 H4 s4 I4 z4 => ⟨F4, ρ4, (s'.trans g2.ff).trans s4, I4, z4⟩
      · exact fun σ4 ρ4 F4 H4 s4 I4 z4 => kn σ4 ρ4 F4 H4 (((g1.ff.trans s').trans g2.ff).trans s4) I4 z4
      · exact fun σ4 ρ4 F4 H4 s4 I4 z4 => ⟨F4, ρ4, (s'.trans g2.ff).trans s4, I4, z4⟩
    · rintro σ' H' ⟨F', ρ', s', I', z'⟩
      exact kn σ' ρ' F' H' (g1.ff.trans s') I' (zf ρ' z')⟩
/-! ### iterables -/
theorem i_lst {tg l : Expr} (hl : PE X l (tE X.K B r)) : PI X tg l (tI X.K B (fun ρ Q => r ρ fun d => match d with | .lst ds => Q ds | _ => False)) :=
  pi_imp (pi_list hl) fun σ H R ⟨F, ρ, Qd, I, z, k⟩ => ⟨F, ρ, _, I, z, fun v F1 H1 d g1 t1 r1 z1 => by
    split at z1
    · rename_i ds
      cases r1 with
      | @lst a vs _ h1 h2 =>
        refine ⟨a, rfl, ⟨vs, SqL.of (t1.1 _ _ h1)⟩, k _ F1 H1 ds g1 t1 ⟨_, _, by rw [← h2.len]; exact walk_list (K := X.K) (a := a) (xs := vs), fun F2 H2 s s' => SqL.of (s' _ _ (s _ _ h1)), ?_⟩ z1⟩
        rintro i F2 H2 x H2' d s s' ⟨rfl, hx⟩ hd
        obtain ⟨v, hv, hr⟩ := h2.get hd
        rw [hx] at hv
        cases hv
        exact ⟨F2, Go.refl s', hr.up s⟩
    · exact z1.elim⟩
theorem i_tup {tg l : Expr} (hl : PE X l (tE X.K B r)) : PI X tg l (tI X.K B (fun ρ Q => r ρ fun d => match d with | .tup ds => Q ds | _ => False)) :=
  pi_imp (pi_tup hl) fun σ H R ⟨F, ρ, Qd, I, z, k⟩ => ⟨F, ρ, _, I, z, fun v F1 H1 d g1 t1 r1 z1 => by
    split at z1
    · rename_i ds
      cases r1 with
      | @tup a vs _ h1 h2 =>
        refine ⟨a, rfl, ⟨vs, sqT t1.1 h1⟩, k _ F1 H1 ds g1 t1 ⟨_, _, by rw [← h2.len]; exact walk_tup (K := X.K) (a := a) (xs := vs), fun F2 H2 s s' => sqT s' (sqT s h1), ?_⟩ z1⟩
        rintro i F2 H2 x H2' d s s' ⟨rfl, hx⟩ hd
        obtain ⟨v, hv, hr⟩ := h2.get hd
        rw [hx] at hv
        cases hv
        exact ⟨F2, Go.refl s', hr.up s⟩
    · exact z1.elim⟩
/-- lo, lo + 1, .. -/
def rngD (lo : Int) (n : Nat) : List D := (List.range n).map fun i => .int (lo + (i : Nat))
theorem rng_sqs {K : Frg} {ms : List Addr} {F : Hp} {lo : Int} {n : Nat} : Sqs K ms F (Itr lo n) (rngD lo n) := by
  refine ⟨_, _, by rw [show (rngD lo n).length = n by simp [rngD]]; exact walk_range, fun _ _ _ _ => trivial, ?_⟩
  rintro i F2 H2 x H2' d s s' ⟨rfl, rfl⟩ hd
  have hi : i < n := by
    rcases Nat.lt_or_ge i n with z | z
    · exact z
    · rw [List.getElem?_eq_none (by simp [rngD]; exact z)] at hd; cases hd
  simp [rngD, hi] at hd
  subst hd
  exact ⟨F2, Go.refl s', .int _⟩
def rng1 (ds : List D) (Q : List D → Prop) : Prop := match ds with
  | [.int j] => -(2 ^ 62) ≤ j ∧ j < 2 ^ 62 ∧ Q (rngD 0 j.toNat)
  | _ => False
def rng2 (ds : List D) (Q : List D → Prop) : Prop := match ds with
  | [.int i, .int j] => (-(2 ^ 62) ≤ i ∧ i < 2 ^ 62 ∧ -(2 ^ 62) ≤ j ∧ j < 2 ^ 62) ∧ Q (rngD i (j - i).toNat)
  | _ => False
theorem i_rng1 {tg a : Expr} {p : Pos} (hg : Gl X "range") (hm : X.mg "range" = none) (ha : PAp X B [a] rl) (hs : starEach [a] X.env = [(false, eval a X.env)] := by rfl) : PIp X B tg (.Call (.Name "range" p) [a] [] pos) (fun ρ Q => rl ρ fun ds => rng1 ds Q) :=
  pi_imp (pi_range1 hg hm ha hs) fun σ H R ⟨F, ρ, Qd, I, z, k⟩ => ⟨F, ρ, _, I, z, fun vs F1 H1 ds g1 t1 r1 z1 => by
    unfold rng1 at z1
    split at z1
    · cases r1 with
      | cons r1 r2 =>
        cases r1
        cases r2
        exact ⟨_, rfl, z1.1, z1.2.1, k _ F1 H1 _ g1 t1 rng_sqs z1.2.2⟩
    · exact z1.elim⟩
theorem i_rng2 {tg a b : Expr} {p : Pos} (hg : Gl X "range") (hm : X.mg "range" = none) (ha : PAp X B [a, b] rl) (hs : starEach [a, b] X.env = [(false, eval a X.env), (false, eval b X.env)] := by rfl) (hs2 : starEach [b] X.env = [(false, eval b X.env)] := by rfl) :
    PIp X B tg (.Call (.Name "range" p) [a, b] [] pos) (fun ρ Q => rl ρ fun ds => rng2 ds Q) :=
  pi_imp (pi_range2 hg hm ha hs hs2) fun σ H R ⟨F, ρ, Qd, I, z, k⟩ => ⟨F, ρ, _, I, z, fun vs F1 H1 ds g1 t1 r1 z1 => by
    unfold rng2 at z1
    split at z1
    · cases r1 with
      | cons r1 r2 =>
        cases r1
        cases r2 with
        | cons r2 r3 =>
          cases r2
          cases r3
          exact ⟨_, _, rfl, z1.1, k _ F1 H1 _ g1 t1 rng_sqs z1.2⟩
    · exact z1.elim⟩
end
end Y
namespace Y
open PySem PySem.Spec PyProof.Rows L2 Z
/-! ### comprehensions -/
def Bs.nox (B : Bs) : Bs := { B with Ed := fun _ => False }
theorem Iv.nox {K : Frg} {B : Bs} {F H : Hp} {σ : L2.St} {ρ : Ev} (I : Iv K B F H σ ρ) : Iv K B.nox F H σ ρ := ⟨I.go, I.tp, I.len, I.val, I.own, I.sep⟩
theorem Tp.put {K : Frg} {ms : List Addr} {F H F1 H1 F2 H2 : Hp} {d : Addr} (h0 : Tp K ms F H) (hd : H d = none) (h : Tp K ms F1 H1) (g : Go [d] F1 H1 F2 H2) : Tp K ms F2 H2 := h.gox g fun m => h0.ne m hd
section
variable {X : Cx} {B : Bs} {a b c e : Expr} {es : List Expr} {ra rb rc r : Rd} {rt ru : RdT} {rl : RdA} {pos : Pos} {st : Stmt} {rest : List Stmt} {s1 s2 : RdS}
def rYes : RdT := fun _ Q => Q true
theorem c_nil : PTs X [] (tT X.K B rYes) := ⟨fun pins s σ H Q I ⟨F, ρ, Qd, J, z, k⟩ => (pts_nil (X := X)).run pins s σ H Q I (k true F H (Go.refl J.same) J.tp z)⟩
theorem c_one (h : PTp X B c rt) : PTs X [c] (tT X.K B rt) := pts_one h
theorem lc_of {K : Frg} {t : Tg} {wi : L2.TI} {vs : List Nat} {re : Rd} (hw : ∀ i ∈ t.slots, i ∈ vs) (h0 : ∀ σ H R, tI K B rl σ H R → wi σ H R) (σ : L2.St) (H : Hp) (Q : VK) (h : tE K B (fun ρ Q => rl ρ fun ds => ds.length ≤ 100000 ∧ mapI t rt re (wipeR ρ vs) ds fun ys => Q (.lst ys)) σ H Q) :
    tLcZ wi (tgV K t) (tT K B.nox rt) (tE K B.nox re) vs σ H Q := by
  obtain ⟨F, ρ, Qd, I, z, k⟩ := h
  refine h0 _ _ _ ⟨F, ρ, _, I, z, fun J F1 H1 ds g1 t1 ⟨G, Yd, w, hG, hY⟩ ⟨hn, Jw, z1, zs, zf⟩ => ?_⟩
  have I1 := (I.step g1 t1).nox.wipes vs
  refine lc_go w t1.1 (ms := B.ms) (fun t m => t1.ne m) (fun F H => Tp K B.ms F H) t1 (fun D F1 H1 F2 H2 hD h g => t1.put hD h g) (fun F2 H2 g _ => hG F2 H2 g.ff g.fh)
    (fun i acc F2 => ∃ ys, Rps K B.ms F2 acc ys ∧ Jw i ys) ⟨[], .nil, z1⟩ (fun i acc F2 F3 s ⟨ys, h1, h2⟩ => ⟨ys, h1.up s, h2⟩) hn ?_ ?_
  · rintro i x acc F2 H2 H2' hi hl ⟨ys, hys, zz⟩ g2 t2 hy Kp Sk kp sk
    have zz := zs i ds[i] ys (List.getElem?_eq_getElem hi) zz
    obtain ⟨F3, g3, r3⟩ := hY i F2 H2 x H2' ds[i] g2.ff g2.fh hy (List.getElem?_eq_getElem hi)
    have I2 := (I1.step g2 t2).step0 g3
    have t3 := t2.go0 g3
    have e : L2.wipe (L2.wipe σ vs) vs = L2.wipe σ vs := by
      apply List.ext_getElem?
      intro j
      rw [wipe_get, L2.wipe_length, wipe_get]
      by_cases hj : j ∈ vs
      · rw [if_pos hj, if_pos hj]
      · rw [if_neg hj]
    have q := tg_wipe (K := K) (v := x) (σ := L2.wipe σ vs) (H := H2') (Q := fun σ2 H2 => tT K B.nox rt σ2 H2 fun b H3 => if b = true then tE K B.nox re σ2 H3 Kp else Sk H3) hw (tg_run I2 r3 zz fun σ4 ρ4 I4 z4 => by
      refine ⟨F3, ρ4, _, I4, z4, fun b F5 H5 g5 t5 z5 => ?_⟩
      cases b with
      | false => exact sk F5 H5 (g3.nil.trans g5) t5 ⟨ys, (hys.up g3.ff).up g5.ff, ifB_f z5⟩
      | true => exact ⟨F5, ρ4, _, I4.step g5 t5, ifB_t z5, fun v F6 H6 d g6 t6 r6 z6 => kp v F6 H6 (g3.nil.trans (g5.trans g6)) t6 ⟨ys ++ [d], (((hys.up g3.ff).up g5.ff).up g6.ff).app (.one r6), z6⟩⟩)
    rw [e] at q
    exact q
  · rintro D ys F2 H2 g2 t2 hD _ ⟨zs', hz, zz⟩
    exact k _ F2 H2 _ (g1.trans g2) t2 (.lst hD hz) (zf _ zz)
theorem y_lc {elt tg iter : Expr} {ifs : List Expr} {scope : Scope} {own : List (Str × Nat)} {t : Tg} {re : Rd} (hc : X.calm = true) (hN : X.N.Nodup) (hi : PIp X B tg iter rl) (ok : BlkOk X.N X.env.scope scope own)
    (hg : ∀ (s : Shared) (H : Hp) (C : Addr) (cl : List (Str × Addr)) (fp : List Addr), PG (X.blk s H scope (compEnvC scope cl C X.env) fp) tg (tgV X.K t)) (ht : ∀ (s : Shared) (H : Hp) (C : Addr) (cl : List (Str × Addr)) (fp : List Addr), PTs (X.blk s H scope (compEnvC scope cl C X.env) fp) ifs (tT X.K B.nox rt))
    (he : ∀ (s : Shared) (H : Hp) (C : Addr) (cl : List (Str × Addr)) (fp : List Addr), PEp (X.blk s H scope (compEnvC scope cl C X.env) fp) B.nox elt re) (hw : ∀ i ∈ t.slots, i ∈ own.map (·.2) := by decide) (hs : ∀ x, foldedSetIterable iter X.env x = pure x := by intro _; rfl) :
    PEp X B (.ListComp elt [⟨tg, iter, ifs, 0⟩] scope pos) (fun ρ Q => rl ρ fun ds => ds.length ≤ 100000 ∧ mapI t rt re (wipeR ρ (own.map (·.2))) ds fun ys => Q (.lst ys)) :=
  pe_imp (pe_lcZ (pe_lc (te := tE X.K B.nox re) hc hN hi ok hg ht he hs)) (lc_of hw fun _ _ _ z => z)
end
/-! ### defs -/
abbrev RdF := List D → (D → Prop) → (Ex → Prop) → Prop
def spP (K : Frg) (R : RdF) : Sp := fun vs H Q E => ∃ ms F ds Qd Ed, Tp K ms F H ∧ Rps K ms F vs ds ∧ R ds Qd Ed ∧ (∀ v F' H' d, Go ms F H F' H' → Tp K ms F' H' → Rp K ms F' v d → Qd d → Q v H') ∧
  (∀ cls d F' H' x, Go ms F H F' H' → Tp K ms F' H' → XR K ms F' cls d x → Ed x → E cls d H')
def EE (K : Frg) (B : Bs) : XK := fun cls d H' => ∃ F' x, Go B.ms B.F0 B.H0 F' H' ∧ Tp K B.ms F' H' ∧ XR K B.ms F' cls d x ∧ B.Ed x
abbrev Px (X : Cx) (B : Bs) : Prop := Passes (L2.CX X.prog X.w) X (EE X.K B)
theorem px_nox {X : Cx} {B : Bs} : Px X B.nox := fun pins σ H s e s' I ⟨_, _, _, _, _, _, _, _, _, _, _, _, F', x, _, _, _, z⟩ => z.elim
def ar0 (P : (D → Prop) → (Ex → Prop) → Prop) : RdF := fun ds Q E => match ds with | [] => P Q E | _ => False
def ar1 (P : D → (D → Prop) → (Ex → Prop) → Prop) : RdF := fun ds Q E => match ds with | [a] => P a Q E | _ => False
def ar2 (P : D → D → (D → Prop) → (Ex → Prop) → Prop) : RdF := fun ds Q E => match ds with | [a, b] => P a b Q E | _ => False
def ar3 (P : D → D → D → (D → Prop) → (Ex → Prop) → Prop) : RdF := fun ds Q E => match ds with | [a, b, c] => P a b c Q E | _ => False
def ar4 (P : D → D → D → D → (D → Prop) → (Ex → Prop) → Prop) : RdF := fun ds Q E => match ds with | [a, b, c, d] => P a b c d Q E | _ => False
def ar5 (P : D → D → D → D → D → (D → Prop) → (Ex → Prop) → Prop) : RdF := fun ds Q E => match ds with | [a, b, c, d, e] => P a b c d e Q E | _ => False
theorem arl0 {P} : ∀ ds Q E, ar0 P ds Q E → ds.length = 0 := fun ds Q E h => by unfold ar0 at h; split at h; rfl; exact h.elim
theorem arl1 {P} : ∀ ds Q E, ar1 P ds Q E → ds.length = 1 := fun ds Q E h => by unfold ar1 at h; split at h; rfl; exact h.elim
theorem arl2 {P} : ∀ ds Q E, ar2 P ds Q E → ds.length = 2 := fun ds Q E h => by unfold ar2 at h; split at h; rfl; exact h.elim
theorem arl3 {P} : ∀ ds Q E, ar3 P ds Q E → ds.length = 3 := fun ds Q E h => by unfold ar3 at h; split at h; rfl; exact h.elim
section
variable {P : Program} {w : World} {K : Frg} {mg : Str → Option Value} {base : Heap}
def startE (n : Nat) (ds : List D) : Ev := ds.map Sl.val ++ List.replicate (n - ds.length) .no
theorem iv_start {B : Bs} {N : List Str} {vs : List V} {ds : List D} (t : Tp K B.ms B.F0 B.H0) (r : Rps K B.ms B.F0 vs ds) : Iv K B B.F0 B.H0 (L2.start N vs) (startE N.length ds) where
  go := Go.refl t.1
  tp := t
  len := by simp [L2.start, startE, r.len]
  val := fun i d h => by
    unfold startE at h
    have hi : i < ds.length := by
      rcases Nat.lt_or_ge i ds.length with z | z
      · exact z
      · rw [List.getElem?_append_right (by simpa using z), List.getElem?_replicate] at h
        split at h <;> cases h
    rw [List.getElem?_append_left (by simpa using hi), List.getElem?_map] at h
    have hd : ds[i]? = some d := by
      rw [List.getElem?_eq_getElem hi] at h ⊢
      simpa using h
    obtain ⟨v, h1, h2⟩ := r.get hd
    refine ⟨v, ?_, h2⟩
    unfold L2.start
    rw [List.getElem?_append_left (by simp [r.len]; exact hi), List.getElem?_map, h1]
    rfl
  own := fun i m h => by
    unfold startE at h
    rcases Nat.lt_or_ge i ds.length with z | z
    · rw [List.getElem?_append_left (by simpa using z), List.getElem?_map, List.getElem?_eq_getElem z] at h
      cases h
    · rw [List.getElem?_append_right (by simpa using z), List.getElem?_replicate] at h
      split at h <;> cases h
  sep := fun i j m n a _ h _ _ => by
    exfalso
    unfold startE at h
    rcases Nat.lt_or_ge i ds.length with z | z
    · rw [List.getElem?_append_left (by simpa using z), List.getElem?_map, List.getElem?_eq_getElem z] at h
      cases h
    · rw [List.getElem?_append_right (by simpa using z), List.getElem?_replicate] at h
      split at h <;> cases h
theorem px_of {N : List Str} {qual : Str} {scope : Scope} {f : Addr} {cdv : Value} {A : Around} {outer : List Env} {s : Shared} {H : Hp} {E : XK} {B : Bs} (h : ∀ cls d H', EE K B cls d H' → E cls d H') : Px (cxOf (L2.CX P w) P w K mg base N qual scope f cdv A outer s H E) B := by
  have tk : Takes (cxOf (L2.CX P w) P w K mg base N qual scope f cdv A outer s H E) (fun cls d _ H => E cls d H) := takes_of rfl rfl rfl rfl
  exact passes_call tk fun cls d σ H z => h cls d H z
theorem po_of {N : List Str} {qual : Str} {scope : Scope} {f : Addr} {cdv : Value} {A : Around} {outer : List Env} {s : Shared} {H : Hp} {E : XK} :
    PassesOwn (model P w) (cxOf (L2.CX P w) P w K mg base N qual scope f cdv A outer s H E).A (cxOf (L2.CX P w) P w K mg base N qual scope f cdv A outer s H E).env (cxOf (L2.CX P w) P w K mg base N qual scope f cdv A outer s H E).xe := passes_of rfl
/-- a def by its body -/
theorem y_fn {x qual : Str} {st : Stmt} {f : Addr} {N ps : List Str} {k : Nat} {R : RdF} (F : DefAt K x qual st f) (S : FnScope N ps (defScope st)) (len : ∀ ds Q E, R ds Q E → ds.length = ps.length)
    (hb : ∀ (kV doc pm : Value) (an : Option Addr) (cdv ct : Value) (us : List Value), us.length = ps.length → bindArgs (PySem.W.fnOf x qual (defArgs st) (defBody st) (defScope st) .none kV doc pm an cdv ct) ⟨us, []⟩ = pure (ps.zip us))
    (hbody : ∀ (cdv : Value) (A : Around) (outer : List Env) (s : Shared) (H : Hp) (E : XK) (B : Bs), Same B.F0 B.H0 → RoomG k (A.deeper (envOfC qual (defScope st) s.heap.objs.size f cdv)) → Px (cxOf (L2.CX P w) P w K mg base N qual (defScope st) f cdv A outer s H E) B →
      PassesOwn (model P w) (cxOf (L2.CX P w) P w K mg base N qual (defScope st) f cdv A outer s H E).A (cxOf (L2.CX P w) P w K mg base N qual (defScope st) f cdv A outer s H E).env (cxOf (L2.CX P w) P w K mg base N qual (defScope st) f cdv A outer s H E).xe →
      ∃ r, PSsp (cxOf (L2.CX P w) P w K mg base N qual (defScope st) f cdv A outer s H E) B (defBody st) r ∧ ∀ ds Q, R ds Q B.Ed → r (startE N.length ds) { nx := fun _ => Q .non, rt := Q }) : FnG P w K mg base (L2.CX P w) (k + 1) f (spP K R) := by
  refine zfnG F S (fun vs H Q E ⟨ms, F, ds, Qd, Ed, _, r, h, _⟩ => by rw [r.len]; exact len _ _ _ h) hb fun cdv A outer s H vs Q E hr h => ?_
  obtain ⟨ms, F, ds, Qd, Ed, t, r, h, kq, ke⟩ := h
  obtain ⟨rr, h1, h2⟩ := hbody cdv A outer s H E ⟨ms, F, H, Ed⟩ t.1 hr (px_of fun cls d H' ⟨F', x, g, t', xr, z⟩ => ke cls d F' H' x g t' xr z) po_of
  refine ⟨_, h1, F, _, _, iv_start (B := ⟨ms, F, H, Ed⟩) t r, h2 ds Qd h, ?_, ?_, ?_, ?_⟩
  · intro σ' ρ' F' H' _ I' z
    exact kq .non F' H' .non I'.go I'.tp .non z
  · intro v d F' H' g t' r' z
    exact kq v F' H' d g t' r' z
  · intro _ _ _ _ _ _ z; exact z
  · intro _ _ _ _ _ _ z; exact z
end
/-! ### calls -/
section
variable {X : Cx} {B : Bs} {a b c e o : Expr} {es : List Expr} {ra rb rc r ro : Rd} {rt ru : RdT} {rl : RdA} {pos p0 apos : Pos} {R : RdF} {k : Nat} {f C g p : Addr} {x m : Str}
theorem sp_call {K : Frg} {F H F1 H1 : Hp} {σ : L2.St} {ρ : Ev} {vs : List V} {ds : List D} {Qd : D → Prop} {Q : VK} (I : Iv K B F H σ ρ) (kk : ∀ v F' H' d, Go B.ms F H F' H' → Tp K B.ms F' H' → Rp K B.ms F' v d → Qd d → Q v H') (g1 : Go B.ms F H F1 H1) (t1 : Tp K B.ms F1 H1) (r1 : Rps K B.ms F1 vs ds) (h : R ds Qd B.Ed) : spP K R vs H1 Q (EE K B) :=
  ⟨B.ms, F1, ds, Qd, B.Ed, t1, r1, h, fun v F2 H2 d g2 t2 r2 q2 => kk v F2 H2 d (g1.trans g2) t2 r2 q2, fun cls d F2 H2 x g2 t2 xr q => ⟨F2, x, (I.go.trans g1).trans g2, t2, xr, q⟩⟩
theorem y_call (F : FnG X.prog X.w X.K X.mg X.base (L2.CX X.prog X.w) k f (spP X.K R)) (hr : RoomG k X.A) (hg : Gl X x) (hm : X.mg x = some (.ref f)) (hk : PySem.W.keepIn X.K (.ref f) = true) (hx : Px X B)
    (ha : PAp X B (e :: es) rl) (hdb : (x == ("__debug__" : Str)) = false := by decide) (he : starEach (e :: es) X.env = (false, eval e X.env) :: starEach es X.env := by rfl) (hpl : (backTo pos (starEach es X.env)).any (·.1) = false := by rfl) :
    PEp X B (.Call (.Name x p0) (e :: es) [] pos) (fun ρ Q => rl ρ fun ds => R ds Q B.Ed) :=
  pe_imp (gcall (F.at hr) hg hm hk hx ha hdb he hpl) fun σ H Q ⟨F, ρ, Qd, I, z, k⟩ => ⟨F, ρ, _, I, z, fun vs F1 H1 ds g1 t1 r1 z1 => sp_call I k g1 t1 r1 z1⟩
theorem y_call0 (F : FnG X.prog X.w X.K X.mg X.base (L2.CX X.prog X.w) k f (spP X.K R)) (hr : RoomG k X.A) (hg : Gl X x) (hm : X.mg x = some (.ref f)) (hk : PySem.W.keepIn X.K (.ref f) = true) (hx : Px X B) (hdb : (x == ("__debug__" : Str)) = false := by decide) :
    PEp X B (.Call (.Name x p0) [] [] pos) (fun ρ Q => R [] Q B.Ed) :=
  pe_imp (gcall0 (F.at hr) hg hm hk hx hdb) fun σ H Q ⟨F, ρ, Qd, I, z, k⟩ => sp_call (vs := []) (ds := []) I k (Go.refl I.same) I.tp .nil z
/-- an object of the classes cs with the fields ns -/
def asO (cs : List Str) (ns : List Str) (o : D) (k : Prop) : Prop := match o with
  | .obj c n _ => c ∈ cs ∧ n = ns ∧ k
  | _ => False
theorem look_none : ∀ {ns : List Str} {vs : List V} {m : Str}, (ns.all fun y => !(m == y)) = true → (ns.zip vs).lookup m = none
  | [], _, _, _ => rfl
  | _ :: _, [], _, _ => rfl
  | n :: ns, v :: vs, m, h => by
    rw [List.all_cons, Bool.and_eq_true] at h
    have h1 : (m == n) = false := by simpa using h.1
    rw [List.zip_cons_cons, List.lookup_cons, h1]
    exact look_none h.2
theorem y_meth {cs ns : List Str} {pl : Sem Bool} (ho : PEp X B o ro) (hc : ∀ c ∈ cs, Cls X.K (He.ga X.K c) ∧ Meth X.K (He.ga X.K c) m f) (F : FnG X.prog X.w X.K X.mg X.base (L2.CX X.prog X.w) k f (spP X.K R)) (hr : RoomG k X.A) (hx : Px X B) (ha : PAp X B (e :: es) rl)
    (hn : (ns.all fun y => !(m == y)) = true := by decide +kernel)
    (hst : starEach (e :: es) X.env = (false, eval e X.env) :: starEach es X.env := by rfl) (hpl : (backTo pos (starEach es X.env)).any (·.1) = false := by rfl)
    (ht : eval (.Call (.Attribute o m apos) (e :: es) [] pos) X.env = (do
      let ov ← eval o X.env
      standAt apos.atName
      let (f, first) ← holding [ov] (getMethod ov m pl)
      callWith pos f first (backTo pos (starEach (e :: es) X.env)) (backToKw pos (keywordEach [] X.env))) := by rfl) :
    PEp X B (.Call (.Attribute o m apos) (e :: es) [] pos) (fun ρ Q => ro ρ fun d => asO cs ns d (rl ρ fun ds => R (d :: ds) Q B.Ed)) := by
  refine ⟨fun pins s σ H Q I h => ?_⟩
  obtain ⟨F0, ρ, Qd, J, z, kk⟩ := h
  refine PySem.W.methodCall_KW (pl := pl) (thn (ho.run pins s σ H (fun v H1 => ∃ F1 d, Go B.ms F0 H F1 H1 ∧ Tp X.K B.ms F1 H1 ∧ Rp X.K B.ms F1 v d ∧ asO cs ns d (rl ρ fun ds => R (d :: ds) Qd B.Ed)) I ⟨F0, ρ, _, J, z, fun v F1 H1 d g1 t1 r1 z1 => ⟨F1, d, g1, t1, r1, z1⟩⟩) fun u s1 ⟨v, H1, I1, rx, F1, d, g1, t1, r1, z1⟩ => ?_) ht
  unfold asO at z1
  split at z1
  · obtain ⟨hcs, rfl, z2⟩ := z1
    cases r1 with
    | @obj a dx _ _ vs ds h1 h2 h3 =>
      obtain rfl : u = Value.ref a := rx
      obtain ⟨c1, m1⟩ := hc _ hcs
      refine getmeth_ok I1 (t1.1 _ _ h1) c1 m1 (look_none hn) ?_
      refine PySem.W.callWith_K (first := [.ref a]) (h₀ := X.base) I.ok.mod.kin m1.kp (thn (ha.run pos pins s1 σ H1 (fun vs H2 => ∃ F2 ds', Go B.ms F1 H1 F2 H2 ∧ Tp X.K B.ms F2 H2 ∧ Rps X.K B.ms F2 vs ds' ∧ R (_ :: ds') Qd B.Ed) I1 ⟨F1, ρ, _, J.step g1 t1, z2, fun vs F2 H2 ds g2 t2 r2 z3 => ⟨F2, ds, g2, t2, r2, z3⟩⟩) fun us s2 ⟨vs', H2, I2, rv, F2, ds', g2, t2, r2, z3⟩ => ⟨I2.kIn, ?_⟩) hst hpl
      exact wpAny_call (run_fnA (us := .ref a :: us) (vs := .ref a :: vs') (F.at hr) hx I2 (.cons rfl rv) (sp_call (vs := .ref a :: vs') J kk (g1.trans g2) t2 (.cons (.obj (g2.ff _ _ h1) h2 (h3.up g2.ff)) r2) z3))
  · exact z1.elim
theorem y_meth0 {cs ns : List Str} {pl : Sem Bool} (ho : PEp X B o ro) (hc : ∀ c ∈ cs, Cls X.K (He.ga X.K c) ∧ Meth X.K (He.ga X.K c) m f) (F : FnG X.prog X.w X.K X.mg X.base (L2.CX X.prog X.w) k f (spP X.K R)) (hr : RoomG k X.A) (hx : Px X B)
    (hn : (ns.all fun y => !(m == y)) = true := by decide +kernel)
    (ht : eval (.Call (.Attribute o m apos) [] [] pos) X.env = (do
      let ov ← eval o X.env
      standAt apos.atName
      let (f, first) ← holding [ov] (getMethod ov m pl)
      callWith pos f first (backTo pos (starEach [] X.env)) (backToKw pos (keywordEach [] X.env))) := by rfl) :
    PEp X B (.Call (.Attribute o m apos) [] [] pos) (fun ρ Q => ro ρ fun d => asO cs ns d (R [d] Q B.Ed)) := by
  refine ⟨fun pins s σ H Q I h => ?_⟩
  obtain ⟨F0, ρ, Qd, J, z, kk⟩ := h
  refine PySem.W.methodCall_KW (pl := pl) (thn (ho.run pins s σ H (fun v H1 => ∃ F1 d, Go B.ms F0 H F1 H1 ∧ Tp X.K B.ms F1 H1 ∧ Rp X.K B.ms F1 v d ∧ asO cs ns d (R [d] Qd B.Ed)) I ⟨F0, ρ, _, J, z, fun v F1 H1 d g1 t1 r1 z1 => ⟨F1, d, g1, t1, r1, z1⟩⟩) fun u s1 ⟨v, H1, I1, rx, F1, d, g1, t1, r1, z1⟩ => ?_) ht
  unfold asO at z1
  split at z1
  · obtain ⟨hcs, rfl, z2⟩ := z1
    cases r1 with
    | @obj a dx _ _ vs ds h1 h2 h3 =>
      obtain rfl : u = Value.ref a := rx
      obtain ⟨c1, m1⟩ := hc _ hcs
      refine getmeth_ok I1 (t1.1 _ _ h1) c1 m1 (look_none hn) ?_
      exact PySem.W.callWith_K0 (first := [.ref a]) I1.kIn m1.kp (wpAny_call (run_fnA (us := [.ref a]) (vs := [.ref a]) (F.at hr) hx I1 (.cons rfl .nil) (sp_call (vs := [.ref a]) J kk g1 t1 (.cons (.obj h1 h2 h3) .nil) z2)))
  · exact z1.elim
end
end Y
namespace Y
open PySem PySem.Spec PyProof.Rows L2 Z
section
variable {X : Cx} {B : Bs} {K : Frg} {ms : List Addr}
theorem line_ge : 100000 ≤ sizeLine := by decide
/-! ### + - * // % ** -/
def dAdd (x y : D) (Q : D → Prop) : Prop := match x, y with
  | .int i, .int j => Q (.int (i + j))
  | .str s, .str t => s.length + t.length ≤ 100000 ∧ Q (.str (s ++ t))
  | .lst xs, .lst ys => xs.length + ys.length ≤ 100000 ∧ Q (.lst (xs ++ ys))
  | .tup xs, .tup ys => xs ≠ [] ∧ ys ≠ [] ∧ xs.length + ys.length ≤ 100000 ∧ Q (.tup (xs ++ ys))
  | _, _ => False
theorem op_addY : OpR X (binaryOp .Add) (fun x y H Q => rI0 (fun i j => .int (i + j)) x y H Q ∨ (∃ i j, x = .str i ∧ y = .str j ∧ i.length + j.length ≤ sizeLine ∧ Q (.str (i ++ j)) H) ∨ rCatZ x y H Q ∨ rCatT X.K x y H Q) := op_add.or (op_add_str.or (op_catZ.or op_catT))
theorem addL : OpL K ms (fun x y H Q => rI0 (fun i j => .int (i + j)) x y H Q ∨ (∃ i j, x = .str i ∧ y = .str j ∧ i.length + j.length ≤ sizeLine ∧ Q (.str (i ++ j)) H) ∨ rCatZ x y H Q ∨ rCatT K x y H Q) dAdd := by
  intro F H x y dx dy Qd Q hs rx ry h k
  unfold dAdd at h
  split at h
  · cases rx; cases ry
    exact .inl ⟨_, _, rfl, rfl, k _ F H _ (Go.refl hs) (.int _) h⟩
  · cases rx; cases ry
    exact .inr (.inl ⟨_, _, rfl, rfl, Nat.le_trans h.1 line_ge, k _ F H _ (Go.refl hs) (.str _) h.2⟩)
  · cases rx with
    | lst h1 h2 =>
      cases ry with
      | lst h3 h4 =>
        refine .inr (.inr (.inl ⟨_, _, _, _, rfl, rfl, hs _ _ h1, hs _ _ h3, by rw [h2.len, h4.len]; exact Nat.le_trans h.1 line_ge, fun p H2 hp e2 => ?_⟩))
        obtain ⟨F2, g2, q2, _⟩ := newE hs hp e2
        exact k _ F2 H2 _ g2 (.lst q2 ((h2.app h4).up g2.ff)) h.2
  · cases rx with
    | tup h1 h2 =>
      cases ry with
      | tup h3 h4 =>
        obtain ⟨n1, n2, n3, h⟩ := h
        have m1 := h2.len
        have m2 := h4.len
        refine .inr (.inr (.inr ⟨_, _, _, _, rfl, rfl, sqT hs h1, sqT hs h3, fun e => n1 ?_, by rw [m1, m2]; exact Nat.le_trans n3 line_ge, fun e => (n2 ?_).elim, fun _ p hp => ?_⟩))
        · rw [e] at m1; exact List.length_eq_zero_iff.mp m1.symm
        · rw [e] at m2; exact List.length_eq_zero_iff.mp m2.symm
        · obtain ⟨F2, g2, q2, _⟩ := newE hs hp rfl
          exact k _ F2 _ _ g2 (.tup (SqT.of q2) ((h2.app h4).up g2.ff)) h
  · exact h.elim
def dSub (x y : D) (Q : D → Prop) : Prop := match x, y with
  | .int i, .int j => Q (.int (i - j))
  | _, _ => False
theorem subL : OpL K ms (rI0 fun i j => .int (i - j)) dSub := by
  intro F H x y dx dy Qd Q hs rx ry h k
  unfold dSub at h
  split at h
  · cases rx; cases ry
    exact ⟨_, _, rfl, rfl, k _ F H _ (Go.refl hs) (.int _) h⟩
  · exact h.elim
def dMul (x y : D) (Q : D → Prop) : Prop := match x, y with
  | .int i, .int j => (Sz 5000 i ∧ Sz 5000 j) ∧ Q (.int (i * j))
  | .lst xs, .int n => (-(2 ^ 62) ≤ n ∧ n < 2 ^ 62 ∧ xs.length * n.toNat ≤ 100000) ∧ Q (.lst (List.replicate n.toNat xs).flatten)
  | _, _ => False
theorem op_repZ : OpR X (binaryOp .Mult) rRepZ := op_imp op_rep fun _ _ _ _ ⟨l, k, xs, e1, e2, h, h1, h2, hz, n⟩ => ⟨l, k, xs, e1, e2, h, h1, h2, hz, n.run⟩
theorem mulL : OpL K ms (fun x y H Q => rI CMulW (fun i j => .int (i * j)) x y H Q ∨ rRepZ x y H Q) dMul := by
  intro F H x y dx dy Qd Q hs rx ry h k
  unfold dMul at h
  split at h
  · cases rx; cases ry
    exact .inl ⟨_, _, rfl, rfl, mulOk h.1.1 h.1.2, k _ F H _ (Go.refl hs) (.int _) h.2⟩
  · cases rx with
    | lst h1 h2 =>
      cases ry
      obtain ⟨⟨a1, a2, a3⟩, h⟩ := h
      refine .inr ⟨_, _, _, rfl, rfl, hs _ _ h1, by omega, by omega, by rw [h2.len]; exact Nat.le_trans a3 line_ge, fun p H2 hp e2 => ?_⟩
      obtain ⟨F2, g2, q2, _⟩ := newE hs hp e2
      exact k _ F2 H2 _ g2 (.lst q2 ((h2.flat _).up g2.ff)) h
  · exact h.elim
/-- // and % by what is above 0 -/
def dDiv (x y : D) (Q : D → Prop) : Prop := match x, y with
  | .int i, .int j => (0 < j ∧ Sz 5000 j) ∧ Q (.int (i / j))
  | _, _ => False
theorem divL : OpL K ms (rI CDivW fun i j => .int (i / j)) dDiv := by
  intro F H x y dx dy Qd Q hs rx ry h k
  unfold dDiv at h
  split at h
  · cases rx; cases ry
    exact ⟨_, _, rfl, rfl, divOk h.1.1 h.1.2, k _ F H _ (Go.refl hs) (.int _) h.2⟩
  · exact h.elim
def dMod (x y : D) (Q : D → Prop) : Prop := match x, y with
  | .int i, .int j => 0 < j ∧ Q (.int (i % j))
  | _, _ => False
theorem modL : OpL K ms (rI (fun _ j => 0 < j) fun i j => .int (i % j)) dMod := by
  intro F H x y dx dy Qd Q hs rx ry h k
  unfold dMod at h
  split at h
  · cases rx; cases ry
    exact ⟨_, _, rfl, rfl, h.1, k _ F H _ (Go.refl hs) (.int _) h.2⟩
  · exact h.elim
/-- // by what is not 0 -/
def dDivZ (x y : D) (Q : D → Prop) : Prop := match x, y with
  | .int i, .int j => (j ≠ 0 ∧ Sz 8000 j) ∧ Q (.int (i.fdiv j))
  | _, _ => False
def dPow (x y : D) (Q : D → Prop) : Prop := match x, y with
  | .int i, .int j => (0 ≤ j ∧ j ≤ 1000 ∧ i.natAbs < 18446744073709551616) ∧ Q (.int (i ^ j.toNat))
  | _, _ => False
def dNeg (x : D) (Q : D → Prop) : Prop := match x with
  | .int i => Q (.int (-i))
  | _ => False
/-! ### < <= > >= == != is in -/
def dCmp (f : Int → Int → Bool) (x y : D) (Q : D → Prop) : Prop := match x, y with
  | .int i, .int j => Q (.bl (f i j))
  | _, _ => False
theorem cmpL {f : Int → Int → Bool} : OpL K ms (rI0 fun i j => .bl (f i j)) (dCmp f) := by
  intro F H x y dx dy Qd Q hs rx ry h k
  unfold dCmp at h
  split at h
  · cases rx; cases ry
    exact ⟨_, _, rfl, rfl, k _ F H _ (Go.refl hs) (.bl _) h⟩
  · exact h.elim
def dEq (x y : D) (Q : D → Prop) : Prop := match x, y with
  | .int i, .int j => Q (.bl (decide (i = j)))
  | .str i, .str j => Q (.bl (decide (i = j)))
  | .bl i, .bl j => Q (.bl (decide (i = j)))
  | _, _ => (okD 8 x = true ∧ okD 8 y = true) ∧ Q (.bl (eqD x y))
def dNe (x y : D) (Q : D → Prop) : Prop := match x, y with
  | .int i, .int j => Q (.bl (!decide (i = j)))
  | .str i, .str j => Q (.bl (!decide (i = j)))
  | .bl i, .bl j => Q (.bl (!decide (i = j)))
  | _, _ => (okD 8 x = true ∧ okD 8 y = true) ∧ Q (.bl (!eqD x y))
theorem shaped_of {n : Nat} {e : PyData} (h1 : e.canLay0 = true) (h2 : e.depth ≤ n) (hn : n ≤ 64) : SeqAt.shaped e = true := by
  unfold SeqAt.shaped
  rw [h1, Bool.true_and]
  exact decide_eq_true (by omega)
theorem eqL : OpL K ms (fun x y H Q => rEq x y H Q ∨ rEqD K x y H Q) dEq := by
  intro F H x y dx dy Qd Q hs rx ry h k
  unfold dEq at h
  split at h
  · cases rx; cases ry
    refine .inl ⟨rfl, k _ F H _ (Go.refl hs) (.bl _) ?_⟩
    simpa using h
  · cases rx; cases ry
    refine .inl ⟨rfl, k _ F H _ (Go.refl hs) (.bl _) ?_⟩
    simpa using h
  · cases rx; cases ry
    refine .inl ⟨rfl, k _ F H _ (Go.refl hs) (.bl _) ?_⟩
    simpa using h
  · obtain ⟨⟨h1, h2⟩, h⟩ := h
    obtain ⟨e1, a1, a2, a3⟩ := okD_pd 8 _ h1
    obtain ⟨e2, b1, b2, b3⟩ := okD_pd 8 _ h2
    refine .inr ⟨e1, e2, dp_mono hs _ _ (dp_of _ _ _ a1 rx), dp_mono hs _ _ (dp_of _ _ _ b1 ry), shaped_of a2 a3 (by decide), shaped_of b2 b3 (by decide), k _ F H _ (Go.refl hs) (.bl _) ?_⟩
    rw [← eqD_pd _ _ _ _ a1 b1]
    exact h
theorem neL : OpL K ms (fun x y H Q => rNe x y H Q ∨ rNeD K x y H Q) dNe := by
  intro F H x y dx dy Qd Q hs rx ry h k
  unfold dNe at h
  split at h
  · cases rx; cases ry
    refine .inl ⟨rfl, k _ F H _ (Go.refl hs) (.bl _) ?_⟩
    simpa using h
  · cases rx; cases ry
    refine .inl ⟨rfl, k _ F H _ (Go.refl hs) (.bl _) ?_⟩
    simpa using h
  · cases rx; cases ry
    refine .inl ⟨rfl, k _ F H _ (Go.refl hs) (.bl _) ?_⟩
    simpa using h
  · obtain ⟨⟨h1, h2⟩, h⟩ := h
    obtain ⟨e1, a1, a2, a3⟩ := okD_pd 8 _ h1
    obtain ⟨e2, b1, b2, b3⟩ := okD_pd 8 _ h2
    refine .inr ⟨e1, e2, dp_mono hs _ _ (dp_of _ _ _ a1 rx), dp_mono hs _ _ (dp_of _ _ _ b1 ry), shaped_of a2 a3 (by decide), shaped_of b2 b3 (by decide), k _ F H _ (Go.refl hs) (.bl _) ?_⟩
    rw [← eqD_pd _ _ _ _ a1 b1]
    exact h
def isNon : D → Bool
  | .non => true
  | _ => false
def dIsN (x y : D) (Q : D → Prop) : Prop := match y with
  | .non => Q (.bl (isNon x))
  | _ => False
def dNotN (x y : D) (Q : D → Prop) : Prop := match y with
  | .non => Q (.bl (!isNon x))
  | _ => False
/-- x in a list of data, in a tuple of flat data, in a text -/
def flatD : D → Bool
  | .non | .bl _ | .int _ | .str _ => true
  | _ => false
def anyD (x : D) (ds : List D) : Bool := ds.any fun z => eqD z x
def dIn (neg : Bool) (x y : D) (Q : D → Prop) : Prop := match x, y with
  | .str s, .str t => Q (.bl (neg != !(Builtin.Str.occurrences t s 0 t.length 1).isEmpty))
  | x, .lst ds => (okD 8 x = true ∧ okD 8 (.lst ds) = true) ∧ Q (.bl (neg != anyD x ds))
  | x, .tup ds => (flatD x = true ∧ ds.all flatD = true) ∧ Q (.bl (neg != anyD x ds))
  | _, _ => False
theorem pds_any {x : D} {e : PyData} (hx : pd x = some e) : ∀ {ds : List D} {es : List PyData}, pds ds = some es → (es.any fun z => PyData.eqv z e) = anyD x ds
  | [], _, h => by cases h; rfl
  | d :: ds, _, h => by
    obtain ⟨a, r, h1, h2, rfl⟩ := pds_cons h
    have := pds_any hx h2
    simp only [anyD, List.any_cons] at this ⊢
    rw [← eqD_pd _ _ _ _ h1 hx, this]
theorem flat_of {F : Hp} {x : V} {d : D} (r : Rp K ms F x d) (h : flatD d = true) : flatV x = true := by
  cases r <;> first | rfl | simp [flatD] at h
theorem flats_of {F : Hp} : ∀ {xs : List V} {ds : List D}, Rps K ms F xs ds → ds.all flatD = true → xs.all flatV = true
  | [], [], _, _ => rfl
  | _ :: _, _ :: _, h, z => by
    cases h with
    | cons h1 h2 =>
      rw [List.all_cons, Bool.and_eq_true] at z ⊢
      exact ⟨flat_of h1 z.1, flats_of h2 z.2⟩
  | [], _ :: _, h, _ => by cases h
  | _ :: _, [], h, _ => by cases h
theorem eqV_of {F : Hp} {x y : V} {d e : D} (r : Rp K ms F x d) (r' : Rp K ms F y e) (h : flatD d = true) (h' : flatD e = true) : eqV x y = eqD d e := by
  cases r <;> cases r' <;> first | rfl | (simp [flatD] at h; done) | (simp [flatD] at h'; done) | (simp [eqV, eqD]; done)
theorem inV_of {F : Hp} {x : V} {d : D} (r : Rp K ms F x d) (h : flatD d = true) : ∀ {xs : List V} {ds : List D}, Rps K ms F xs ds → ds.all flatD = true → inV x xs = anyD d ds
  | [], [], _, _ => rfl
  | _ :: _, _ :: _, q, z => by
    cases q with
    | cons h1 h2 =>
      rw [List.all_cons, Bool.and_eq_true] at z
      have := inV_of r h h2 z.2
      simp only [inV, anyD, List.any_cons] at this ⊢
      rw [eqV_of h1 r z.1 h, this]
  | [], _ :: _, h, _ => by cases h
  | _ :: _, [], h, _ => by cases h
theorem inL : OpL K ms (fun x y H Q => (∃ i j, x = .str i ∧ y = .str j ∧ Q (.bl (!(Builtin.Str.occurrences j i 0 j.length 1).isEmpty)) H) ∨ rInD K x y H Q ∨ rIn K false x y H Q) (dIn false) := by
  intro F H x y dx dy Qd Q hs rx ry h k
  unfold dIn at h
  split at h
  · cases rx; cases ry
    refine .inl ⟨_, _, rfl, rfl, k _ F H _ (Go.refl hs) (.bl _) ?_⟩
    simpa using h
  · obtain ⟨⟨h1, h2⟩, h⟩ := h
    obtain ⟨e1, a1, a2, a3⟩ := okD_pd 8 _ h1
    obtain ⟨e2, b1, b2, b3⟩ := okD_pd 8 _ h2
    simp [pd] at b1
    obtain ⟨es, b1, rfl⟩ := b1
    refine .inr (.inl ⟨e1, es, dp_mono hs _ _ (dp_of _ _ _ a1 rx), dp_mono hs _ _ (dp_of (K := K) (ms := ms) _ _ _ (by simp [pd, b1]) ry), shaped_of a2 a3 (by decide), shaped_of b2 b3 (by decide), k _ F H _ (Go.refl hs) (.bl _) ?_⟩)
    rw [pds_any a1 b1]
    simpa using h
  · cases ry with
    | tup h1 h2 =>
      obtain ⟨⟨f1, f2⟩, h⟩ := h
      refine .inr (.inr ⟨_, _, rfl, .inr (sqT hs h1), flat_of rx f1, flats_of h2 f2, k _ F H _ (Go.refl hs) (.bl _) ?_⟩)
      rw [if_neg (by decide), inV_of rx f1 h2 f2]
      simpa using h
  · exact h.elim
theorem op_inY (hu : X.A.units + 65 < cLine) : OpR X (compareOp .In) (fun x y H Q => (∃ i j, x = .str i ∧ y = .str j ∧ Q (.bl (!(Builtin.Str.occurrences j i 0 j.length 1).isEmpty)) H) ∨ rInD X.K x y H Q ∨ rIn X.K false x y H Q) := op_in_str.or ((op_inD hu).or op_in_seq)
theorem op_eqY (hu : X.A.units + 64 < cLine) : OpR X (compareOp .Eq) (fun x y H Q => rEq x y H Q ∨ rEqD X.K x y H Q) := op_eq.or (op_eqD hu)
theorem op_neY (hu : X.A.units + 64 < cLine) : OpR X (compareOp .NotEq) (fun x y H Q => rNe x y H Q ∨ rNeD X.K x y H Q) := op_ne.or (op_neD hu)
theorem op_mulY : OpR X (binaryOp .Mult) (fun x y H Q => rI CMulW (fun i j => .int (i * j)) x y H Q ∨ rRepZ x y H Q) := op_mulW.or op_repZ
end
end Y
namespace Y
open PySem PySem.Spec PyProof.Rows L2 Z
section
variable {X : Cx} {B : Bs} {K : Frg} {ms : List Addr} {a b c e o : Expr} {es : List Expr} {ra rb rc r ro : Rd} {rt ru : RdT} {rl : RdA} {pos p0 apos : Pos} {R : RdF} {k : Nat} {f C g p : Addr} {x m : Str} {s1 s2 : RdS}
/-! ### xs[i], xs[i:j] -/
def dIx (x y : D) (Q : D → Prop) : Prop := match x, y with
  | .lst ds, .int i => (match atI ds i with | some d => Q d | none => False)
  | .tup ds, .int i => (match atI ds i with | some d => Q d | none => False)
  | .str s, .int i => s.length ≤ 100000 ∧ (match atI s.cps.toList i with | some c => Q (.str ⟨#[c]⟩) | none => False)
  | _, _ => False
theorem atI_rps {F : Hp} {vs : List V} {ds : List D} {i : Int} {d : D} (r : Rps K ms F vs ds) (h : atI ds i = some d) : ∃ v, atI vs i = some v ∧ Rp K ms F v d := by
  unfold atI at h ⊢
  rw [r.len]
  cases e : ixN ds.length i with
  | none => rw [e] at h; cases h
  | some j =>
    rw [e] at h
    obtain ⟨v, h1, h2⟩ := r.get (i := j) (d := d) h
    exact ⟨v, h1, h2⟩
theorem ixL' : OpL K ms (rIx K) dIx := by
  intro F H x y dx dy Qd Q hs rx ry h k
  unfold dIx at h
  split at h
  · split at h
    · rename_i d e
      cases rx with
      | lst h1 h2 =>
        cases ry
        obtain ⟨v, e1, e2⟩ := atI_rps h2 e
        exact .inl ⟨_, _, _, v, rfl, rfl, SqL.of (hs _ _ h1), e1, k v F H d (Go.refl hs) e2 h⟩
    · exact h.elim
  · split at h
    · rename_i d e
      cases rx with
      | tup h1 h2 =>
        cases ry
        obtain ⟨v, e1, e2⟩ := atI_rps h2 e
        exact .inr (.inl ⟨_, _, _, v, rfl, rfl, sqT hs h1, e1, k v F H d (Go.refl hs) e2 h⟩)
    · exact h.elim
  · obtain ⟨hz, h⟩ := h
    split at h
    · rename_i d e
      cases rx
      cases ry
      exact .inr (.inr ⟨_, _, _, rfl, rfl, Nat.le_trans hz line_ge, e, k _ F H _ (Go.refl hs) (.str _) h⟩)
    · exact h.elim
  · exact h.elim
theorem y_ix (ha : PEp X B a ra) (hb : PEp X B b rb) (hs : PlainIx b) : PEp X B (.Subscript a b pos) (fun ρ Q => ra ρ fun x => rb ρ fun y => dIx x y Q) := pe_imp (pe_ix ix_seq ha hb hs) (tOp_of ixL')
def cutD {α : Type} (xs : List α) (lo hi : Option Int) : List α := (xs.drop (HT.sIx xs.length 0 lo)).take (HT.sIx xs.length xs.length hi - HT.sIx xs.length 0 lo)
theorem cut_rps {F : Hp} {vs : List V} {ds : List D} (r : Rps K ms F vs ds) (lo hi : Option Int) : Rps K ms F (cutV vs lo hi) (cutD ds lo hi) := by
  unfold cutV cutD
  rw [r.len]
  exact (r.drop _).take _
@[irreducible] def dSl (x : D) (lo hi : Option Int) (Q : D → Prop) : Prop := match x with
  | .lst ds => Q (.lst (cutD ds lo hi))
  | .str s => s.length ≤ 100000 ∧ Q (.str (cutS s lo hi))
  | .tup ds => ¬ (HT.sIx ds.length 0 lo = 0 ∧ HT.sIx ds.length ds.length hi = ds.length) ∧ Q (.tup (cutD ds lo hi))
  | _ => False
abbrev RdO := Ev → (Option Int → Prop) → Prop
def tO (K : Frg) (B : Bs) (r : RdO) : TO := fun σ H Q => ∃ F ρ Qd, Iv K B F H σ ρ ∧ r ρ Qd ∧ ∀ o F' H', Go B.ms F H F' H' → Tp K B.ms F' H' → Qd o → Q o H'
theorem po_imp {X : Cx} {e : Option Expr} {t t' : TO} (h : PO X e t) (f : ∀ σ H Q, t' σ H Q → t σ H Q) : PO X e t' := ⟨fun pins s σ H Q I z => h.run pins s σ H Q I (f σ H Q z)⟩
theorem o_none : PO X none (tO X.K B fun _ Q => Q none) := po_imp po_none fun σ H Q ⟨F, ρ, Qd, I, z, k⟩ => k none F H (Go.refl I.same) I.tp z
def asI (d : D) (Q : Int → Prop) : Prop := match d with
  | .int i => Q i
  | _ => False
theorem o_some (h : PEp X B e r) : PO X (some e) (tO X.K B fun ρ Q => r ρ fun d => asI d fun i => Q (some i)) := po_imp (po_some h) fun σ H Q ⟨F, ρ, Qd, I, z, k⟩ => ⟨F, ρ, _, I, z, fun v F1 H1 d g1 t1 r1 z1 => by
  unfold asI at z1
  split at z1
  · cases r1
    exact ⟨_, rfl, k _ F1 H1 g1 t1 z1⟩
  · exact z1.elim⟩
theorem y_sl {lo hi : Option Expr} {rlo rhi : RdO} {p2 : Pos} (he : PEp X B e r) (hl : PO X lo (tO X.K B rlo)) (hh : PO X hi (tO X.K B rhi)) : PEp X B (.Subscript e (.Slice lo hi none p2) pos) (fun ρ Q => r ρ fun d => rlo ρ fun l => rhi ρ fun h => dSl d l h Q) :=
  pe_imp (pe_slice (sl_listZ.or (sl_str.or sl_tup)) he hl hh) fun σ H Q ⟨F, ρ, Qd, I, z, k⟩ => ⟨F, ρ, _, I, z, fun v F1 H1 d g1 t1 r1 z1 => ⟨F1, ρ, _, I.step g1 t1, z1, fun l F2 H2 g2 t2 z2 => ⟨F2, ρ, _, (I.step g1 t1).step g2 t2, z2, fun h F3 H3 g3 t3 z3 => by
    have g13 := (g1.trans g2).trans g3
    have r3 := (r1.up g2.ff).up g3.ff
    unfold dSl at z3
    split at z3
    · cases r3 with
      | lst h1 h2 =>
        refine .inl ⟨_, _, rfl, SqL.of (t3.1 _ _ h1), fun p H4 hp e4 => ?_⟩
        obtain ⟨F4, g4, q4, _⟩ := newE t3.1 hp e4
        exact k _ F4 H4 _ (g13.trans g4.nil) (t3.go0 g4) (.lst q4 ((cut_rps h2 l h).up g4.ff)) z3
    · cases r3
      exact .inr (.inl ⟨_, rfl, Nat.le_trans z3.1 line_ge, k _ F3 H3 _ g13 t3 (.str _) z3.2⟩)
    · cases r3 with
      | tup h1 h2 =>
        refine .inr (.inr ⟨_, _, rfl, sqT t3.1 h1, by rw [h2.len]; exact z3.1, fun p hp => ?_⟩)
        obtain ⟨F4, g4, q4, _⟩ := newE t3.1 hp rfl
        exact k _ F4 _ _ (g13.trans g4.nil) (t3.go0 g4) (.tup (SqT.of q4) ((cut_rps h2 l h).up g4.ff)) z3.2
    · exact z3.elim⟩⟩⟩
/-! ### fields, properties -/
def ixOf : List Str → Str → Option Nat
  | [], _ => none
  | n :: ns, f => if (f == n) = true then some 0 else (ixOf ns f).map (· + 1)
theorem look_ix : ∀ {ns : List Str} {vs : List V} {f : Str} {j : Nat}, ns.length = vs.length → ixOf ns f = some j → (ns.zip vs).lookup f = vs[j]?
  | [], _, _, _, _, h => by simp [ixOf] at h
  | _ :: _, [], _, _, h, _ => by simp at h
  | n :: ns, v :: vs, f, j, hl, h => by
    unfold ixOf at h
    rw [List.zip_cons_cons, List.lookup_cons]
    by_cases e : (f == n) = true
    · rw [if_pos e] at h
      cases h
      rw [e]
      rfl
    · rw [if_neg e] at h
      obtain ⟨i, h1, rfl⟩ := Option.map_eq_some_iff.mp h
      have e2 : (f == n) = false := by simpa using e
      rw [e2, List.getElem?_cons_succ]
      exact look_ix (by simpa using hl) h1
def fldD (cs ns : List Str) (j : Nat) (o : D) (Q : D → Prop) : Prop := match o with
  | .obj c n ds => (c ∈ cs ∧ n = ns) ∧ (match ds[j]? with | some d => Q d | none => False)
  | _ => False
theorem y_fld {cs ns : List Str} {fl : Str} {j : Nat} (he : PEp X B e r) (hc : ∀ c ∈ cs, Cls X.K (He.ga X.K c) ∧ NoAttr X.K (He.ga X.K c) fl) (hj : ixOf ns fl = some j := by decide +kernel) (hb : attributeBase e fl X.env (eval e X.env) = eval e X.env := by rfl) :
    PEp X B (.Attribute e fl pos) (fun ρ Q => r ρ fun o => fldD cs ns j o Q) :=
  pe_imp (pe_fld he hb) fun σ H Q ⟨F, ρ, Qd, I, z, k⟩ => ⟨F, ρ, _, I, z, fun v F1 H1 d g1 t1 r1 z1 => by
    unfold fldD at z1
    split at z1
    · obtain ⟨⟨h1, rfl⟩, z1⟩ := z1
      split at z1
      · rename_i dd e
        cases r1 with
        | @obj a dx _ _ vs _ h2 h3 h4 =>
          obtain ⟨v, e1, e2⟩ := h4.get e
          exact ⟨_, _, dx, _, v, rfl, t1.1 _ _ h2, (hc _ h1).1, (hc _ h1).2, by rw [look_ix h3 hj, e1], k v F1 H1 dd g1 t1 e2 z1⟩
      · exact z1.elim
    · exact z1.elim⟩
theorem cls_some {C : Addr} (c1 : Cls K C) : (PySem.W.clsIn K C).isSome = true := by
  obtain ⟨cd, hc, _⟩ := PySem.W.any_some c1.hd
  rw [hc]
  rfl
theorem y_prop {cs ns : List Str} (he : PEp X B e r) (hc : ∀ c ∈ cs, Cls X.K (He.ga X.K c) ∧ ∃ p, PropOf X.K (He.ga X.K c) m p g) (F : FnG X.prog X.w X.K X.mg X.base (L2.CX X.prog X.w) k g (spP X.K R)) (hr : RoomG (k + 1) X.A) (hx : Passes (L2.CX X.prog X.w) X.nox (EE X.K B.nox))
    (hab : attributeBase e m X.env (eval e X.env) = eval e X.env := by rfl) : PEp X B (.Attribute e m pos) (fun ρ Q => r ρ fun o => asO cs ns o (R [o] Q fun _ => False)) := by
  refine ⟨fun pins s σ H Q I h => ?_⟩
  obtain ⟨F0, ρ, Qd, J, z, kk⟩ := h
  refine attr_of hab (thn (he.run pins s σ H (fun v H1 => ∃ F1 d, Go B.ms F0 H F1 H1 ∧ Tp X.K B.ms F1 H1 ∧ Rp X.K B.ms F1 v d ∧ asO cs ns d (R [d] Qd fun _ => False)) I ⟨F0, ρ, _, J, z, fun v F1 H1 d g1 t1 r1 z1 => ⟨F1, d, g1, t1, r1, z1⟩⟩) fun u s1 ⟨v, H1, I1, rx, F1, d, g1, t1, r1, z1⟩ => ?_)
  unfold asO at z1
  split at z1
  · obtain ⟨hcs, rfl, z2⟩ := z1
    cases r1 with
    | @obj a dx _ _ vs ds h1 h2 h3 =>
      obtain rfl : u = Value.ref a := rx
      obtain ⟨c1, p, hp⟩ := hc _ hcs
      have ea := t1.1 _ _ h1
      obtain ⟨mA, O, _, _, _, _⟩ := ins_get I1.hok ea
      obtain ⟨od, J1, _⟩ := O.look
      obtain ⟨rest, hrec⟩ := hp.rec_
      have I2 := I1.tok (s1.toks + 1)
      have hcl := cls_some c1
      refine PySem.W.get_bind I1.kIn J1 (PySem.W.plainGet_of (c1.get m)).1 (PySem.W.findObj_data hcl hp.at_ hp.get hp.tak) (PySem.W.plainGet_of (c1.get m)).2 (wpAny_call (PySem.W.prop_get (s := { s1 with toks := s1.toks + 1 }) I1.kIn hrec ?_))
      have q : spP X.K R [.ref a] H1 Q (EE X.K B.nox) := sp_call (B := B.nox) (vs := [.ref a]) J.nox kk g1 t1 (.cons (.obj h1 h2 h3) .nil) z2
      refine codeAny_mono (F X.A.in1 X.stack { s1 with toks := s1.toks + 1 } H1 [.ref a] [.ref a] Q _ hr.in1 I2.env0.in1 (.cons rfl .nil) q) fun r s' hq => ?_
      cases r with
      | error er => exact False.elim (hx pins σ H1 { s1 with toks := s1.toks + 1 } er s' (I2.wish _) hq)
      | ok fl =>
        cases fl with
        | ret u =>
          obtain ⟨v, H', I3, rv, q3⟩ := I2.after hq
          show wpAny _ _ (handedOut u) _ _ _
          rw [PySem.W.handedOut_of (handed_of rv)]
          exact wpAny_pure ⟨v, H', I3, rv, q3⟩
        | next => exact False.elim hq
        | brk => exact False.elim hq
        | cont => exact False.elim hq
  · exact z1.elim
/-! ### builtins -/
def CalL (K : Frg) (ms : List Addr) (r : List V → Hp → VK → Prop) (g : List D → (D → Prop) → Prop) : Prop := ∀ (F H : Hp) (xs : List V) (ds : List D) (Qd : D → Prop) (Q : VK), Same F H → Rps K ms F xs ds → g ds Qd → (∀ v F' H' d, Go [] F H F' H' → Rp K ms F' v d → Qd d → Q v H') → r xs H Q
theorem tCB_of {q : List V → Hp → VK → Prop} {g : List D → (D → Prop) → Prop} (hl : CalL X.K B.ms q g) (σ : L2.St) (H : Hp) (Q : VK) (h : tE X.K B (fun ρ Q => rl ρ fun ds => g ds Q) σ H Q) : tCB q (tA X.K B rl) σ H Q := by
  obtain ⟨F, ρ, Qd, I, z, k⟩ := h
  exact ⟨F, ρ, _, I, z, fun vs F1 H1 ds g1 t1 r1 z1 => hl F1 H1 vs ds Qd Q t1.1 r1 z1 fun w F2 H2 e g2 r2 z2 => k w F2 H2 e (g1.trans g2.nil) (t1.go0 g2) r2 z2⟩
theorem y_callB {id : String} {q : List V → Hp → VK → Prop} {g : List D → (D → Prop) → Prop} (hc : CallR X (.builtin id) q) (hl : CalL X.K B.ms q g) (hg : Gl X x) (hm : X.mg x = none) (hv : bootBuiltins x = some (.builtin id)) (ha : PAp X B (e :: es) rl) (hn : x ≠ "__name__" := by decide) (hdb : (x == ("__debug__" : Str)) = false := by decide)
    (he : starEach (e :: es) X.env = (false, eval e X.env) :: starEach es X.env := by rfl) (hpl : (backTo pos (starEach es X.env)).any (·.1) = false := by rfl) : PEp X B (.Call (.Name x p0) (e :: es) [] pos) (fun ρ Q => rl ρ fun ds => g ds Q) := pe_imp (pe_callB hc hg hm hv ha hn hdb he hpl) (tCB_of hl)
theorem y_callT {id : String} {q : List V → Hp → VK → Prop} {g : List D → (D → Prop) → Prop} (hc : CallR X (.type id) q) (hl : CalL X.K B.ms q g) (hg : Gl X x) (hm : X.mg x = none) (hv : bootBuiltins x = some (.type id)) (ha : PAp X B (e :: es) rl) (hn : x ≠ "__name__" := by decide) (hdb : (x == ("__debug__" : Str)) = false := by decide)
    (he : starEach (e :: es) X.env = (false, eval e X.env) :: starEach es X.env := by rfl) (hpl : (backTo pos (starEach es X.env)).any (·.1) = false := by rfl) : PEp X B (.Call (.Name x p0) (e :: es) [] pos) (fun ρ Q => rl ρ fun ds => g ds Q) := pe_imp (pe_callTy hc hg hm hv ha hn hdb he hpl) (tCB_of hl)
theorem rps1 {F : Hp} {xs : List V} {d : D} (r : Rps K ms F xs [d]) : ∃ x, xs = [x] ∧ Rp K ms F x d := by
  cases r with
  | cons r1 r2 => cases r2; exact ⟨_, rfl, r1⟩
theorem rps2 {F : Hp} {xs : List V} {d e : D} (r : Rps K ms F xs [d, e]) : ∃ x y, xs = [x, y] ∧ Rp K ms F x d ∧ Rp K ms F y e := by
  cases r with
  | cons r1 r2 =>
    obtain ⟨y, rfl, r3⟩ := rps1 r2
    exact ⟨_, _, rfl, r1, r3⟩
def dLen (ds : List D) (Q : D → Prop) : Prop := match ds with
  | [.lst xs] => Q (.int (xs.length : Int))
  | [.tup xs] => Q (.int (xs.length : Int))
  | [.str s] => s.length ≤ 100000 ∧ Q (.int (s.length : Int))
  | _ => False
theorem call_lenY : CallR X (.builtin "len") (fun xs H Q => (∃ p ys, xs = [.ref p] ∧ (SqL X.K H p ys ∨ SqT X.K H p ys) ∧ Q (.int ys.length) H) ∨ (∃ z, xs = [.str z] ∧ z.length ≤ sizeLine ∧ Q (.int z.length) H)) := call_len_seq.or call_len_str
theorem lenL : CalL K ms (fun xs H Q => (∃ p ys, xs = [.ref p] ∧ (SqL K H p ys ∨ SqT K H p ys) ∧ Q (.int ys.length) H) ∨ (∃ z, xs = [.str z] ∧ z.length ≤ sizeLine ∧ Q (.int z.length) H)) dLen := by
  intro F H xs ds Qd Q hs r h k
  unfold dLen at h
  split at h
  · obtain ⟨x, rfl, r1⟩ := rps1 r
    cases r1 with
    | lst h1 h2 => exact .inl ⟨_, _, rfl, .inl (SqL.of (hs _ _ h1)), by rw [h2.len]; exact k _ F H _ (Go.refl hs) (.int _) h⟩
  · obtain ⟨x, rfl, r1⟩ := rps1 r
    cases r1 with
    | tup h1 h2 => exact .inl ⟨_, _, rfl, .inr (sqT hs h1), by rw [h2.len]; exact k _ F H _ (Go.refl hs) (.int _) h⟩
  · obtain ⟨x, rfl, r1⟩ := rps1 r
    cases r1
    exact .inr ⟨_, rfl, Nat.le_trans h.1 line_ge, k _ F H _ (Go.refl hs) (.int _) h.2⟩
  · exact h.elim
def dAbs (ds : List D) (Q : D → Prop) : Prop := match ds with
  | [.int i] => Q (.int (if i < 0 then -i else i))
  | _ => False
def blsOf : List D → Option (List Bool)
  | [] => some []
  | .bl b :: ds => (blsOf ds).map (b :: ·)
  | _ => none
theorem blsOf_map : ∀ {ds : List D} {bs : List Bool}, blsOf ds = some bs → ds = bs.map D.bl
  | [], _, h => by cases h; rfl
  | .bl b :: ds, _, h => by
    unfold blsOf at h
    obtain ⟨r, h1, rfl⟩ := Option.map_eq_some_iff.mp h
    rw [blsOf_map h1]
    rfl
  | .non :: _, _, h => by simp [blsOf] at h
  | .int _ :: _, _, h => by simp [blsOf] at h
  | .str _ :: _, _, h => by simp [blsOf] at h
  | .lst _ :: _, _, h => by simp [blsOf] at h
  | .tup _ :: _, _, h => by simp [blsOf] at h
  | .obj _ _ _ :: _, _, h => by simp [blsOf] at h
  | .ty _ :: _, _, h => by simp [blsOf] at h
  | .glob _ :: _, _, h => by simp [blsOf] at h
  | .tape :: _, _, h => by simp [blsOf] at h
  | .fn _ :: _, _, h => by simp [blsOf] at h
  | .dic _ _ :: _, _, h => by simp [blsOf] at h
  | .dpl _ _ :: _, _, h => by simp [blsOf] at h
def dAll (f : List Bool → Bool) (ds : List D) (Q : D → Prop) : Prop := match ds with
  | [.lst xs] => (match blsOf xs with | some bs => Q (.bl (f bs)) | none => False)
  | _ => False
theorem allL {f : List Bool → Bool} : CalL K ms (fun vs H Q => ∃ (a : Addr) (bs : List Bool), vs = [V.ref a] ∧ SqL K H a (bs.map V.bl) ∧ Q (.bl (f bs)) H) (dAll f) := by
  intro F H xs ds Qd Q hs r h k
  unfold dAll at h
  split at h
  · obtain ⟨x, rfl, r1⟩ := rps1 r
    split at h
    · rename_i ds bs e
      obtain rfl := blsOf_map e
      cases r1 with
      | lst h1 h2 =>
        rw [h2.bls] at h1
        exact ⟨_, bs, rfl, SqL.of (hs _ _ h1), k _ F H _ (Go.refl hs) (.bl _) h⟩
    · exact h.elim
  · exact h.elim
def dList (ds : List D) (Q : D → Prop) : Prop := match ds with
  | [.lst xs] => Q (.lst xs)
  | [.tup xs] => Q (.lst xs)
  | _ => False
def dTuple (ds : List D) (Q : D → Prop) : Prop := match ds with
  | [.lst xs] => Q (.tup xs)
  | [.tup xs] => Q (.tup xs)
  | _ => False
theorem tupleL : CalL K ms (fun xs H Q => ∃ p ys, xs = [.ref p] ∧ ((SqL K H p ys ∧ ∀ l, H l = none → Q (.ref l) (upd H l (.tup ys))) ∨ (SqT K H p ys ∧ Q (.ref p) H))) dTuple := by
  intro F H xs ds Qd Q hs r h k
  unfold dTuple at h
  split at h
  · obtain ⟨x, rfl, r1⟩ := rps1 r
    cases r1 with
    | lst h1 h2 =>
      refine ⟨_, _, rfl, .inl ⟨SqL.of (hs _ _ h1), fun p hp => ?_⟩⟩
      obtain ⟨F2, g2, q2, _⟩ := newE hs hp rfl
      exact k _ F2 _ _ g2 (.tup (SqT.of q2) (h2.up g2.ff)) h
  · obtain ⟨x, rfl, r1⟩ := rps1 r
    cases r1 with
    | tup h1 h2 => exact ⟨_, _, rfl, .inr ⟨sqT hs h1, k _ F H _ (Go.refl hs) (.tup h1 h2) h⟩⟩
  · exact h.elim
/-! ### isinstance -/
def OwnC (K : Frg) (c : Str) : Prop := Cls K (He.ga K c) ∧ Own K (He.ga K c)
def tyD (K : Frg) : D → Option Value
  | .non => some (.type "NoneType")
  | .bl _ => some (.type "bool")
  | .int _ => some (.type "int")
  | .str _ => some (.type "str")
  | .lst _ => some (.type "list")
  | .tup _ => some (.type "tuple")
  | .dic _ _ => some (.type "dict")
  | .obj c _ _ => some (.ref (He.ga K c))
  | _ => none
theorem tyX_of {F H : Hp} {v : V} {d : D} {t : Value} (r : Rp K ms F v d) (hs : Same F H) (h : tyD K d = some t) (ho : ∀ c ns ds, d = .obj c ns ds → OwnC K c) : TyX K H v t := by
  cases r with
  | non => cases h; exact .base .non
  | bl b => cases h; exact .base (.bl b)
  | int i => cases h; exact tyI i
  | str s => cases h; exact .base (.str s)
  | ty n => cases h
  | glob x => cases h
  | fn a => cases h
  | tape m => cases h
  | lst h1 h2 => cases h; exact tyL (SqL.of (K := K) (hs _ _ h1))
  | tup h1 h2 => cases h; exact tyT (sqT hs h1)
  | obj h1 h2 h3 => cases h; exact tyO (ho _ _ _ rfl).1 (ho _ _ _ rfl).2 (hs _ _ h1)
  | dic h1 h2 h3 => cases h; exact .fDict (hs _ _ h1)
  | dpl _ _ _ _ _ _ _ => cases h
def dIsB (cs : List Str) (T : String) (d : D) (Q : D → Prop) : Prop := match d with
  | .non => Q (.bl false)
  | .bl _ => Q (.bl (T == "bool" || T == "int"))
  | .int _ => Q (.bl (T == "int"))
  | .str _ => Q (.bl (T == "str"))
  | .lst _ => Q (.bl (T == "list"))
  | .tup _ => Q (.bl (T == "tuple"))
  | .dic _ _ => Q (.bl (T == "dict"))
  | .obj c _ _ => c ∈ cs ∧ Q (.bl false)
  | _ => False
def dIs2 (g : D → (D → Prop) → Prop) (c : D) (ds : List D) (Q : D → Prop) : Prop := match ds with
  | [x, y] => y = c ∧ g x Q
  | _ => False
theorem isBL {cs : List Str} {T : String} (hT : T ∈ ["bool", "int", "str", "list", "tuple", "dict"]) (hc : ∀ c ∈ cs, OwnC K c) : CalL K ms (rIsi K) (dIs2 (dIsB cs T) (.ty T)) := by
  intro F H xs ds Qd Q hs r h k
  unfold dIs2 at h
  split at h
  · obtain ⟨x, y, rfl, r1, r2⟩ := rps2 r
    obtain ⟨rfl, h⟩ := h
    cases r2
    have fin : ∀ (t : Value) (b : Bool), TyX K H x t → PySem.W.kitOne K t (.type T) = some b → Qd (.bl b) → rIsi K [x, V.ty T] H Q := fun t b ty e q => ⟨_, _, t, _, b, rfl, .ty T, ty, e, k _ F H _ (Go.refl hs) (.bl _) q⟩
    have kb : ∀ (a : String) (b : Bool), (∀ T ∈ ["bool", "int", "str", "list", "tuple", "dict"], kitB a T = some (if a = "bool" then (T == "bool" || T == "int") else (T == a))) → b = (if a = "bool" then (T == "bool" || T == "int") else (T == a)) → PySem.W.kitOne K (.type a) (.type T) = some b := fun a b h e => by
      rw [e]
      exact kit_ty (h T hT)
    unfold dIsB at h
    split at h
    · refine fin _ false (tyX_of r1 hs rfl (fun _ _ _ z => nomatch z)) (kb "NoneType" _ (by decide +kernel) ?_) h
      simp at hT; rcases hT with rfl | rfl | rfl | rfl | rfl | rfl <;> decide
    · exact fin _ _ (tyX_of r1 hs rfl (fun _ _ _ z => nomatch z)) (kb "bool" _ (by decide +kernel) rfl) h
    · exact fin _ _ (tyX_of r1 hs rfl (fun _ _ _ z => nomatch z)) (kb "int" _ (by decide +kernel) rfl) h
    · exact fin _ _ (tyX_of r1 hs rfl (fun _ _ _ z => nomatch z)) (kb "str" _ (by decide +kernel) rfl) h
    · exact fin _ _ (tyX_of r1 hs rfl (fun _ _ _ z => nomatch z)) (kb "list" _ (by decide +kernel) rfl) h
    · exact fin _ _ (tyX_of r1 hs rfl (fun _ _ _ z => nomatch z)) (kb "tuple" _ (by decide +kernel) rfl) h
    · exact fin _ _ (tyX_of r1 hs rfl (fun _ _ _ z => nomatch z)) (kb "dict" _ (by decide +kernel) rfl) h
    · exact fin _ false (tyX_of r1 hs rfl (fun c _ _ z => by cases z; exact hc _ h.1)) ((hc _ h.1).2.kt T hT) h.2
    · exact h.elim
  · exact h.elim
def dIsO (cs cs' : List Str) (d : D) (Q : D → Prop) : Prop := match d with
  | .obj c _ _ => (c ∈ cs ∧ Q (.bl true)) ∨ (c ∈ cs' ∧ Q (.bl false))
  | .non | .bl _ | .int _ | .str _ | .lst _ | .tup _ | .dic _ _ => Q (.bl false)
  | _ => False
theorem isOL {cs cs' : List Str} {C : Str} (hC : OwnC K C) (hc : ∀ c ∈ cs, OwnC K c ∧ PySem.W.kitOne K (.ref (He.ga K c)) (.ref (He.ga K C)) = some true) (hc' : ∀ c ∈ cs', OwnC K c ∧ PySem.W.kitOne K (.ref (He.ga K c)) (.ref (He.ga K C)) = some false) : CalL K ms (rIsi K) (dIs2 (dIsO cs cs') (.glob C)) := by
  intro F H xs ds Qd Q hs r h k
  unfold dIs2 at h
  split at h
  · obtain ⟨x, y, rfl, r1, r2⟩ := rps2 r
    obtain ⟨rfl, h⟩ := h
    cases r2
    have fin : ∀ (t : Value) (b : Bool), TyX K H x t → PySem.W.kitOne K t (.ref (He.ga K C)) = some b → Qd (.bl b) → rIsi K [x, V.ref (He.ga K C)] H Q := fun t b ty e q => ⟨_, _, t, _, b, rfl, .own _, ty, e, k _ F H _ (Go.refl hs) (.bl _) q⟩
    unfold dIsO at h
    split at h
    · rcases h with ⟨h1, h⟩ | ⟨h1, h⟩
      · exact fin _ true (tyX_of r1 hs rfl (fun c _ _ z => by cases z; exact (hc _ h1).1)) (hc _ h1).2 h
      · exact fin _ false (tyX_of r1 hs rfl (fun c _ _ z => by cases z; exact (hc' _ h1).1)) (hc' _ h1).2 h
    · exact fin _ false (tyX_of r1 hs rfl (fun _ _ _ z => nomatch z)) (hC.2.kb "NoneType" (by decide)) h
    · exact fin _ false (tyX_of r1 hs rfl (fun _ _ _ z => nomatch z)) (hC.2.kb "bool" (by decide)) h
    · exact fin _ false (tyX_of r1 hs rfl (fun _ _ _ z => nomatch z)) (hC.2.kb "int" (by decide)) h
    · exact fin _ false (tyX_of r1 hs rfl (fun _ _ _ z => nomatch z)) (hC.2.kb "str" (by decide)) h
    · exact fin _ false (tyX_of r1 hs rfl (fun _ _ _ z => nomatch z)) (hC.2.kb "list" (by decide)) h
    · exact fin _ false (tyX_of r1 hs rfl (fun _ _ _ z => nomatch z)) (hC.2.kb "tuple" (by decide)) h
    · exact fin _ false (tyX_of r1 hs rfl (fun _ _ _ z => nomatch z)) (hC.2.kb "dict" (by decide)) h
    · exact h.elim
  · exact h.elim
end
end Y
namespace Y
open PySem PySem.Spec PyProof.Rows L2 Z
/-! ### things that one slot holds -/
section
variable {K : Frg} {B : Bs} {F H F' H' : Hp} {σ : L2.St} {ρ : Ev}
theorem Tp.nms {ms : List Addr} {p : Addr} (t : Tp K ms F H) (hp : H p = none) : p ∉ ms := fun m => t.ne m hp
theorem go_none {ms : List Addr} {F0 H0 F H : Hp} {p : Addr} (g : Go ms F0 H0 F H) (hf : Same F0 H0) (hp : H p = none) (hm : p ∉ ms) : H0 p = none := by
  cases e : H0 p with
  | none => rfl
  | some o =>
    cases e2 : F0 p with
    | some o' => have := g.fh p o' (g.ff p o' e2); rw [hp] at this; cases this
    | none => have := (g.mu p o hm e2 e).2; rw [hp] at this; cases this
/-- a new thing comes into a slot -/
theorem Iv.newM (I : Iv K B F H σ ρ) (h0 : Same B.F0 B.H0) {p : Addr} {o : HO} {m : Mo} {H2 : Hp} (i : Nat) (hp : H p = none) (e : H2 = upd H p o) (r : MoR K B.ms F p m o) : Iv K B F H2 (σ.set i (some (.ref p))) (ρ.set i (.mu m)) := by
  have nm := I.tp.nms hp
  have g : Go [] F H F H2 := by rw [e]; exact Go.newM I.same hp
  have I2 := I.step0 g
  have hn : ∀ (j : Nat) (n : Mo), ρ[j]? = some (.mu n) → σ[j]? ≠ some (some (.ref p)) := fun j n h z => by
    obtain ⟨a, o', h1, h2, h3, h4, h5, h6⟩ := I.own j n h
    rw [z] at h1
    cases h1
    rw [hp] at h5
    cases h5
  have hl := I.len
  refine ⟨I2.go, I2.tp, by rw [List.length_set, List.length_set]; exact I.len, fun j d h => ?_, fun j n h => ?_, fun j k n n' a hjk h1 h2 h3 => ?_⟩
  · by_cases hij : i = j
    · subst hij
      rcases Nat.lt_or_ge i ρ.length with z | z
      · rw [List.getElem?_set_self z] at h; cases h
      · rw [List.getElem?_eq_none (by rw [List.length_set]; exact z)] at h; cases h
    · rw [List.getElem?_set_ne hij] at h ⊢
      exact I2.val j d h
  · by_cases hij : i = j
    · subst hij
      rcases Nat.lt_or_ge i ρ.length with z | z
      · rw [List.getElem?_set_self z] at h
        cases h
        exact ⟨p, o, List.getElem?_set_self (by omega), same_none I.same hp, nm, go_none I.go h0 hp nm, by rw [e]; exact upd_same, r⟩
      · rw [List.getElem?_eq_none (by rw [List.length_set]; exact z)] at h; cases h
    · rw [List.getElem?_set_ne hij] at h ⊢
      exact I2.own j n h
  · by_cases hij : i = j
    · subst hij
      have hik : i ≠ k := hjk
      rw [List.getElem?_set_ne hik] at h2 ⊢
      rcases Nat.lt_or_ge i σ.length with z | z
      · rw [List.getElem?_set_self z] at h3
        cases h3
        exact hn k n' h2
      · rw [List.getElem?_eq_none (by rw [List.length_set]; exact z)] at h3; cases h3
    · rw [List.getElem?_set_ne hij] at h1 h3
      by_cases hik : i = k
      · subst hik
        rcases Nat.lt_or_ge i σ.length with z | z
        · rw [List.getElem?_set_self z]
          intro q
          cases q
          exact hn j n h1 h3
        · rw [List.getElem?_eq_none (by rw [List.length_set]; exact z)]
          intro q; cases q
      · rw [List.getElem?_set_ne hik] at h2 ⊢
        exact I.sep j k n n' a hjk h1 h2 h3
/-- a thing changes in its place -/
theorem Iv.put (I : Iv K B F H σ ρ) {a : Addr} {o : HO} {m m' : Mo} {H2 : Hp} (i : Nat) (hi : ρ[i]? = some (.mu m)) (ha : σ[i]? = some (some (.ref a))) (e : H2 = upd H a o) (r : MoR K B.ms F a m' o) : Iv K B F H2 σ (ρ.set i (.mu m')) := by
  obtain ⟨a', o', h1, fa, nm, h0, h5, _⟩ := I.own i m hi
  rw [ha] at h1
  cases h1
  have gp : Go [a] F H F H2 := by rw [e]; exact Go.put I.same fa
  have go : Go B.ms B.F0 B.H0 F H2 := ((I.go.sub (ms' := a :: B.ms) fun x hx => List.mem_cons_of_mem _ hx).trans (gp.sub fun x hx => by
    have : x = a := by simpa using hx
    rw [this]; exact List.mem_cons_self)).drop h0
  have ho : ∀ b, b ≠ a → H2 b = H b := fun b hb => by rw [e]; exact upd_ne hb
  refine ⟨go, I.tp.gox gp nm, by rw [List.length_set]; exact I.len, fun j d h => ?_, fun j n h => ?_, fun j k n n' b hjk h1 h2 h3 => ?_⟩
  · by_cases hij : i = j
    · subst hij
      rcases Nat.lt_or_ge i ρ.length with z | z
      · rw [List.getElem?_set_self z] at h; cases h
      · rw [List.getElem?_eq_none (by rw [List.length_set]; exact z)] at h; cases h
    · rw [List.getElem?_set_ne hij] at h
      exact I.val j d h
  · by_cases hij : i = j
    · subst hij
      rcases Nat.lt_or_ge i ρ.length with z | z
      · rw [List.getElem?_set_self z] at h
        cases h
        exact ⟨a, o, ha, fa, nm, h0, by rw [e]; exact upd_same, r⟩
      · rw [List.getElem?_eq_none (by rw [List.length_set]; exact z)] at h; cases h
    · rw [List.getElem?_set_ne hij] at h
      obtain ⟨b, u, b1, b2, b3, b4, b5, b6⟩ := I.own j n h
      have hb : b ≠ a := fun q => by
        subst q
        exact I.sep i j m n b hij hi h ha b1
      exact ⟨b, u, b1, b2, b3, b4, by rw [ho b hb]; exact b5, b6⟩
  · have w : ∀ (q : Nat) (n : Mo), (ρ.set i (.mu m'))[q]? = some (.mu n) → ∃ n' : Mo, ρ[q]? = some (.mu n') := fun q n h => by
      by_cases hq : i = q
      · subst hq; exact ⟨m, hi⟩
      · rw [List.getElem?_set_ne hq] at h; exact ⟨n, h⟩
    obtain ⟨n1, w1⟩ := w j n h1
    obtain ⟨n2, w2⟩ := w k n' h2
    exact I.sep j k n1 n2 b hjk w1 w2 h3
/-- a list that grew is plain data from now on -/
theorem Iv.freeze (I : Iv K B F H σ ρ) {ds : List D} (i : Nat) (hi : ρ[i]? = some (.mu (.lst ds))) : ∃ F2, Same F F2 ∧ Iv K B F2 H σ (ρ.set i (.val (.lst ds))) := by
  obtain ⟨a, o, ha, fa, nm, h0, h5, vs, rfl, hr⟩ := I.own i _ hi
  have gp : Go [a] F H (upd F a (.lst vs)) H := Go.freeze I.same fa h5
  have go : Go B.ms B.F0 B.H0 (upd F a (.lst vs)) H := ((I.go.sub (ms' := a :: B.ms) fun x hx => List.mem_cons_of_mem _ hx).trans (gp.sub fun x hx => by
    have : x = a := by simpa using hx
    rw [this]; exact List.mem_cons_self)).drop h0
  refine ⟨upd F a (.lst vs), gp.ff, go, I.tp.gox gp nm, by rw [List.length_set]; exact I.len, fun j d h => ?_, fun j n h => ?_, fun j k n n' b hjk h1 h2 h3 => ?_⟩
  · by_cases hij : i = j
    · subst hij
      rcases Nat.lt_or_ge i ρ.length with z | z
      · rw [List.getElem?_set_self z] at h
        cases h
        exact ⟨.ref a, ha, .lst upd_same (hr.up gp.ff)⟩
      · rw [List.getElem?_eq_none (by rw [List.length_set]; exact z)] at h; cases h
    · rw [List.getElem?_set_ne hij] at h
      obtain ⟨v, h1, h2⟩ := I.val j d h
      exact ⟨v, h1, h2.up gp.ff⟩
  · by_cases hij : i = j
    · subst hij
      rcases Nat.lt_or_ge i ρ.length with z | z
      · rw [List.getElem?_set_self z] at h; cases h
      · rw [List.getElem?_eq_none (by rw [List.length_set]; exact z)] at h; cases h
    · rw [List.getElem?_set_ne hij] at h
      obtain ⟨b, u, b1, b2, b3, b4, b5, b6⟩ := I.own j n h
      have hb : b ≠ a := fun q => by
        subst q
        exact I.sep i j _ n b hij hi h ha b1
      exact ⟨b, u, b1, by rw [upd_ne hb]; exact b2, b3, b4, b5, b6.up gp.ff⟩
  · have w : ∀ (q : Nat) (n : Mo), (ρ.set i (.val (.lst ds)))[q]? = some (.mu n) → ρ[q]? = some (.mu n) := fun q n h => by
      by_cases hq : i = q
      · subst hq
        rcases Nat.lt_or_ge i ρ.length with z | z
        · rw [List.getElem?_set_self z] at h; cases h
        · rw [List.getElem?_eq_none (by rw [List.length_set]; exact z)] at h; cases h
      · rw [List.getElem?_set_ne hq] at h; exact h
    exact I.sep j k n n' b hjk (w _ _ h1) (w _ _ h2) h3
end
section
variable {X : Cx} {B : Bs} {K : Frg} {ms : List Addr} {a b c e o : Expr} {es : List Expr} {ra rb rc r ro : Rd} {rt ru : RdT} {rl : RdA} {pos p0 apos : Pos} {R : RdF} {k : Nat} {f C g p : Addr} {x m : Str} {s1 s2 : RdS}
def appM (i : Nat) (ρ : Ev) (d : D) (Q : Ev → Prop) : Prop := match ρ[i]? with
  | some (.mu (.lst ds)) => ds.length < 100000 ∧ Q (ρ.set i (.mu (.lst (ds ++ [d]))))
  | _ => False
def frzM (i : Nat) (ρ : Ev) (Q : Ev → Prop) : Prop := match ρ[i]? with
  | some (.mu (.lst ds)) => Q (ρ.set i (.val (.lst ds)))
  | _ => False
/-! ### operators of own classes -/
theorem sp_callG {K : Frg} {F1 H1 : Hp} {vs : List V} {ds : List D} {Qd : D → Prop} {Q : VK} (g0 : Go B.ms B.F0 B.H0 F1 H1) (t1 : Tp K B.ms F1 H1) (r1 : Rps K B.ms F1 vs ds) (kk : ∀ v F' H' d, Go B.ms F1 H1 F' H' → Tp K B.ms F' H' → Rp K B.ms F' v d → Qd d → Q v H') (h : R ds Qd B.Ed) : spP K R vs H1 Q (EE K B) :=
  ⟨B.ms, F1, ds, Qd, B.Ed, t1, r1, h, fun v F2 H2 d g2 t2 r2 q2 => kk v F2 H2 d g2 t2 r2 q2, fun cls d F2 H2 x g2 t2 xr q => ⟨F2, x, g0.trans g2, t2, xr, q⟩⟩
def OpI (K : Frg) (B : Bs) (r : R2) (g : D → D → (D → Prop) → Prop) : Prop := ∀ (F H : Hp) (x y : V) (dx dy : D) (Qd : D → Prop) (Q : VK), Go B.ms B.F0 B.H0 F H → Tp K B.ms F H → Rp K B.ms F x dx → Rp K B.ms F y dy → g dx dy Qd → (∀ v F' H' d, Go B.ms F H F' H' → Tp K B.ms F' H' → Rp K B.ms F' v d → Qd d → Q v H') → r x y H Q
theorem tOpI_of {g : D → D → (D → Prop) → Prop} {o : R2} (hl : OpI X.K B o g) (σ : L2.St) (H : Hp) (Q : VK) (h : tE X.K B (fun ρ Q => ra ρ fun x => rb ρ fun y => g x y Q) σ H Q) : tOp o (tE X.K B ra) (tE X.K B rb) σ H Q := by
  obtain ⟨F, ρ, Qd, I, z, k⟩ := h
  refine ⟨F, ρ, _, I, z, fun v F1 H1 d g1 t1 r1 z1 => ⟨F1, ρ, _, I.step g1 t1, z1, fun u F2 H2 e g2 t2 r2 z2 => ?_⟩⟩
  exact hl F2 H2 v u d e Qd Q ((I.go.trans g1).trans g2) t2 (r1.up g2.ff) r2 z2 fun w F3 H3 d3 g3 t3 r3 q3 => k w F3 H3 d3 ((g1.trans g2).trans g3) t3 r3 q3
theorem y_opI {op : Operator} {g : D → D → (D → Prop) → Prop} {o : R2} (ho : OpR X (binaryOp op) o) (hl : OpI X.K B o g) (ha : PEp X B a ra) (hb : PEp X B b rb) : PEp X B (.BinOp a op b pos) (fun ρ Q => ra ρ fun x => rb ρ fun y => g x y Q) := pe_imp (pe_op ho ha hb) (tOpI_of hl)
theorem y_cmpI {op : CmpOp} {g : D → D → (D → Prop) → Prop} {o : R2} (ho : OpR X (compareOp op) o) (hl : OpI X.K B o g) (ha : PEp X B a ra) (hb : PEp X B b rb) (hm : behindInMarks op b = false) : PEp X B (.Compare a [op] [b] pos) (fun ρ Q => ra ρ fun x => rb ρ fun y => g x y Q) := pe_imp (pe_cmpR ho ha hb hm) (tOpI_of hl)
theorem z_cmpI {op : CmpOp} {g : D → D → (D → Prop) → Prop} {o : R2} (ho : OpR X (compareOp op) o) (hl : OpI X.K B o g) (ha : PEp X B a ra) (hb : PEp X B b rb) (hm : behindInMarks op b = false) : PTp X B (.Compare a [op] [b] pos) (fun ρ Q => ra ρ fun x => rb ρ fun y => g x y fun d => tst d Q) :=
  pt_imp (pt_cmpR ho ha hb hm) (tTest_of (tOpI_of hl))
/-- both of the own class C -/
def dBinO (B : Bs) (R : RdF) (C : Str) (ns : List Str) (x y : D) (Q : D → Prop) : Prop := asO [C] ns x (asO [C] ns y (R [x, y] Q B.Ed))
theorem asO_of {K : Frg} {ms : List Addr} {F : Hp} {cs ns : List Str} {v : V} {d : D} {k : Prop} (r : Rp K ms F v d) (h : asO cs ns d k) : ∃ a dx fs c, v = .ref a ∧ c ∈ cs ∧ F a = some (.ins (He.ga K c) dx fs) ∧ k := by
  unfold asO at h
  split at h
  · obtain ⟨h1, rfl, h2⟩ := h
    cases r with
    | obj h3 h4 h5 => exact ⟨_, _, _, _, rfl, h1, h3, h2⟩
  · exact h.elim
/-- == and != of an own class: the right one any value with a type that is known -/
def dEqO (B : Bs) (R : RdF) (neg : Bool) (C : Str) (ns cs : List Str) (x y : D) (Q : D → Prop) : Prop := asO [C] ns x ((match y with | .obj c _ _ => c ∈ cs | .ty _ | .glob _ | .tape | .fn _ | .dpl _ _ => False | _ => True) ∧ R [x, y] (fun d => tst d fun b => Q (.bl (neg != b))) B.Ed)
theorem eqOL {C : Str} {ns cs : List Str} {neg : Bool} (hC : OwnC K C) (hc : ∀ c ∈ cs, OwnC K c ∧ PySem.W.notFirst K (He.ga K C) (.ref (He.ga K c)) = true) : OpI K B (rEqO neg K (He.ga K C) (spP K R) (EE K B)) (dEqO B R neg C ns cs) := by
  intro F H x y dx dy Qd Q g0 t0 rx ry h k
  obtain ⟨a, d1, f1, c1, rfl, hc1, h1, ht, hh⟩ := asO_of rx h
  obtain rfl : c1 = C := by simpa using hc1
  have ty : ∃ t, TyX K H y t ∧ PySem.W.notFirst K (He.ga K c1) t = true := by
    cases dy with
    | obj c _ _ => exact ⟨_, tyX_of ry t0.1 rfl (fun _ _ _ z => by cases z; exact (hc _ ht).1), (hc _ ht).2⟩
    | non => exact ⟨_, tyX_of ry t0.1 rfl (fun _ _ _ z => nomatch z), hC.2.nf _ (by decide)⟩
    | bl _ => exact ⟨_, tyX_of ry t0.1 rfl (fun _ _ _ z => nomatch z), hC.2.nf _ (by decide)⟩
    | int _ => exact ⟨_, tyX_of ry t0.1 rfl (fun _ _ _ z => nomatch z), hC.2.nf _ (by decide)⟩
    | str _ => exact ⟨_, tyX_of ry t0.1 rfl (fun _ _ _ z => nomatch z), hC.2.nf _ (by decide)⟩
    | lst _ => exact ⟨_, tyX_of ry t0.1 rfl (fun _ _ _ z => nomatch z), hC.2.nf _ (by decide)⟩
    | tup _ => exact ⟨_, tyX_of ry t0.1 rfl (fun _ _ _ z => nomatch z), hC.2.nf _ (by decide)⟩
    | dic _ _ => exact ⟨_, tyX_of ry t0.1 rfl (fun _ _ _ z => nomatch z), hC.2.nf _ (by decide)⟩
    | _ => exact ht.elim
  obtain ⟨t, ty1, ty2⟩ := ty
  refine ⟨a, d1, f1, t, rfl, t0.1 _ _ h1, ty1, ty2, sp_callG g0 t0 (.cons rx (.cons ry .nil)) (fun v F' H' d g t r q => ?_) hh⟩
  unfold tst at q
  split at q
  · cases r
    refine ⟨_, rfl, k _ F' H' _ g t (.bl _) ?_⟩
    cases neg <;> simpa using q
  · exact q.elim
/-- x in o -/
def dInO (B : Bs) (R : RdF) (neg : Bool) (C : Str) (ns : List Str) (x y : D) (Q : D → Prop) : Prop := asO [C] ns y (R [y, x] (fun d => tst d fun b => Q (.bl (neg != b))) B.Ed)
end
end Y
namespace Y
open PySem PySem.Spec PyProof.Rows L2 Z
/-! ### making instances -/
def spI (K : Frg) (C : Str) (R : RdF) : Sp := fun vs H Q E => ∃ ms F Hb x args ds Qd Ed, vs = .ref x :: args ∧ Go ms F Hb F H ∧ Same F Hb ∧ Hb x = none ∧ Tp K ms F H ∧ (∃ dx, H x = some (.ins (He.ga K C) dx [])) ∧ Rps K ms F args ds ∧ R ds Qd Ed ∧
  (∀ F' H' o ns fs, Go ms F Hb F' H' → Tp K ms F' H' → F' x = none → H' x = some o → MoR K ms F' x (.ins x C ns fs) o → Qd (.obj C ns fs) → Q .non H') ∧ (∀ cls d F' H' y, Go ms F Hb F' H' → Tp K ms F' H' → XR K ms F' cls d y → Ed y → E cls d H')
theorem spI_of {K : Frg} {C : Str} {R : RdF} {E : XK} (vs : List V) (H : Hp) (Q : VK) (h : spP K R vs H Q E) : ∀ x dx, H x = none → H dx = none → dx ≠ x → spI K C R (.ref x :: vs) (upd (upd H dx (.own x)) x (.ins (He.ga K C) dx [])) (fun v H2 => v = .non ∧ Q (.ref x) H2) E := by
  obtain ⟨ms, F, ds, Qd, Ed, t, r, h, kq, ke⟩ := h
  intro x dx nx nd ne
  have g1 : Go [] F H F (upd H dx (.own x)) := Go.newM t.1 nd
  have nx1 : (upd H dx (.own x)) x = none := by rw [upd_ne (Ne.symm ne)]; exact nx
  have g2 : Go [] F (upd H dx (.own x)) F (upd (upd H dx (.own x)) x (.ins (He.ga K C) dx [])) := Go.newM g1.fh nx1
  have g12 := g1.trans g2
  have nm := t.nms nx
  refine ⟨ms, F, H, x, vs, ds, Qd, Ed, rfl, g12.nil, t.1, nx, t.go0 g12, ⟨dx, upd_same⟩, r, h, fun F' H' o ns fs g3 t3 fx hx mo q => ⟨rfl, ?_⟩, fun cls d F' H' y g3 t3 xr q => ke cls d F' H' y g3 t3 xr q⟩
  obtain ⟨_, dx', ws, rfl, hl, hr⟩ := mo
  have g4 : Go [x] F' H' (upd F' x (.ins (He.ga K C) dx' (ns.zip ws))) H' := Go.freeze t3.1 fx hx
  have g5 : Go ms F H (upd F' x (.ins (He.ga K C) dx' (ns.zip ws))) H' := ((g3.sub (ms' := x :: ms) fun y hy => List.mem_cons_of_mem _ hy).trans (g4.sub fun y hy => by
    have : y = x := by simpa using hy
    rw [this]; exact List.mem_cons_self)).drop nx
  exact kq _ _ H' _ g5 (t3.gox g4 nm) (.obj upd_same hl (hr.up g4.ff)) q
def finI (x : Addr) (C : Str) (Q : D → Prop) (ρ : Ev) : Prop := match ρ[0]? with
  | some (Sl.mu (Mo.ins y c ns fs)) => (y = x ∧ c = C) ∧ Q (.obj c ns fs)
  | _ => False
section
variable {P : Program} {w : World} {K : Frg} {mg : Str → Option Value} {base : Heap}
theorem y_initB {C qual : Str} {st : Stmt} {f : Addr} {N ps : List Str} {k : Nat} {R : RdF} (S : FnScope N ps (defScope st)) (len : ∀ ds Q E, R ds Q E → ds.length + 1 = ps.length)
    (hbody : ∀ (cdv : Value) (A : Around) (outer : List Env) (s : Shared) (H : Hp) (E : XK) (B : Bs), Same B.F0 B.H0 → RoomG k (A.deeper (envOfC qual (defScope st) s.heap.objs.size f cdv)) → Px (cxOf (L2.CX P w) P w K mg base N qual (defScope st) f cdv A outer s H E) B →
      PassesOwn (model P w) (cxOf (L2.CX P w) P w K mg base N qual (defScope st) f cdv A outer s H E).A (cxOf (L2.CX P w) P w K mg base N qual (defScope st) f cdv A outer s H E).env (cxOf (L2.CX P w) P w K mg base N qual (defScope st) f cdv A outer s H E).xe →
      ∃ r, PSsp (cxOf (L2.CX P w) P w K mg base N qual (defScope st) f cdv A outer s H E) B (defBody st) r ∧ ∀ x ds Q, R ds Q B.Ed → r (.mu (.ins x C [] []) :: startE (N.length - 1) ds) { nx := finI x C Q, rt := fun _ => False }) (cdv : Value) (A : Around) (outer : List Env) (s : Shared) (H : Hp) (vs : List V) (Q : VK) (E : XK) (hr : RoomG k (A.deeper (envOfC qual (defScope st) s.heap.objs.size f cdv))) (h : spI K C R vs H Q E) :
    ∃ t, PSs (cxOf (L2.CX P w) P w K mg base N qual (defScope st) f cdv A outer s H E) (defBody st) t ∧ t { nx := fun _ H' => Q .non H', rt := Q } (start N vs) H := by
  obtain ⟨ms, F, Hb, x, args, ds, Qd, Ed, rfl, g0, sb, nx, t, ⟨dx, hx⟩, r, h, kq, ke⟩ := h
  obtain ⟨rr, h1, h2⟩ := hbody cdv A outer s H E ⟨ms, F, Hb, Ed⟩ sb hr (px_of fun cls d H' ⟨F', y, g, t', xr, z⟩ => ke cls d F' H' y g t' xr z) po_of
  have hN : 1 ≤ N.length := by
    have e1 := len _ _ _ h
    have e2 := congrArg List.length S.pre
    rw [List.length_take] at e2
    omega
  have nm : x ∉ ms := t.notIns hx
  have iv : Iv K ⟨ms, F, Hb, Ed⟩ F H (L2.start N (.ref x :: args)) (.mu (.ins x C [] []) :: startE (N.length - 1) ds) := by
    refine ⟨g0, t, ?_, fun i d h => ?_, fun i m h => ?_, fun i j m n a hij h1 h2 h3 => ?_⟩
    · simp [L2.start, startE, r.len]
      omega
    · cases i with
      | zero => cases h
      | succ i =>
        rw [List.getElem?_cons_succ] at h
        unfold startE at h
        have hi : i < ds.length := by
          rcases Nat.lt_or_ge i ds.length with z | z
          · exact z
          · rw [List.getElem?_append_right (by simpa using z), List.getElem?_replicate] at h
            split at h <;> cases h
        rw [List.getElem?_append_left (by simpa using hi), List.getElem?_map, List.getElem?_eq_getElem hi] at h
        have hd : ds[i]? = some d := by
          rw [List.getElem?_eq_getElem hi]
          simpa using h
        obtain ⟨v, h1, h2⟩ := r.get hd
        refine ⟨v, ?_, h2⟩
        unfold L2.start
        rw [List.getElem?_append_left (by simp [r.len]; omega), List.getElem?_map, List.getElem?_cons_succ, h1]
        rfl
    · cases i with
      | zero =>
        cases h
        exact ⟨x, _, rfl, same_none sb nx, nm, nx, hx, rfl, dx, [], rfl, rfl, .nil⟩
      | succ i =>
        exfalso
        rw [List.getElem?_cons_succ] at h
        unfold startE at h
        rcases Nat.lt_or_ge i ds.length with z | z
        · rw [List.getElem?_append_left (by simpa using z), List.getElem?_map, List.getElem?_eq_getElem z] at h
          cases h
        · rw [List.getElem?_append_right (by simpa using z), List.getElem?_replicate] at h
          split at h <;> cases h
    · have key : ∀ (i : Nat) (m : Mo), (Sl.mu (.ins x C [] []) :: startE (N.length - 1) ds)[i]? = some (.mu m) → i = 0 := fun i m h => by
        cases i with
        | zero => rfl
        | succ i =>
          exfalso
          rw [List.getElem?_cons_succ] at h
          unfold startE at h
          rcases Nat.lt_or_ge i ds.length with z | z
          · rw [List.getElem?_append_left (by simpa using z), List.getElem?_map, List.getElem?_eq_getElem z] at h
            cases h
          · rw [List.getElem?_append_right (by simpa using z), List.getElem?_replicate] at h
            split at h <;> cases h
      exact absurd ((key i m h1).trans (key j n h2).symm) hij
  refine ⟨_, h1, F, _, _, iv, h2 x ds Qd h, ?_, ?_, ?_, ?_⟩
  · intro σ' ρ' F' H' _ I' z
    have z' : finI x C Qd ρ' := z
    clear z
    unfold finI at z'
    split at z'
    · rename_i y c ns fs e
      obtain ⟨⟨rfl, rfl⟩, z'⟩ := z'
      obtain ⟨a, o, b1, b2, b3, b4, b5, b6⟩ := I'.own 0 _ e
      obtain ⟨ea, _⟩ := id b6
      subst ea
      exact kq F' H' o ns fs I'.go I'.tp b2 b5 b6 z'
    · exact z'.elim
  · intro v d F' H' g t' r' z
    exact z.elim
  · intro _ _ _ _ _ _ z; exact z
  · intro _ _ _ _ _ _ z; exact z
theorem y_init {C x qual : Str} {st : Stmt} {f : Addr} {N ps : List Str} {k : Nat} {R : RdF} (F : DefAt K x qual st f) (S : FnScope N ps (defScope st)) (len : ∀ ds Q E, R ds Q E → ds.length + 1 = ps.length)
    (hb : ∀ (kV doc pm : Value) (an : Option Addr) (cdv ct : Value) (us : List Value), us.length = ps.length → bindArgs (PySem.W.fnOf x qual (defArgs st) (defBody st) (defScope st) .none kV doc pm an cdv ct) ⟨us, []⟩ = pure (ps.zip us))
    (hbody : ∀ (cdv : Value) (A : Around) (outer : List Env) (s : Shared) (H : Hp) (E : XK) (B : Bs), Same B.F0 B.H0 → RoomG k (A.deeper (envOfC qual (defScope st) s.heap.objs.size f cdv)) → Px (cxOf (L2.CX P w) P w K mg base N qual (defScope st) f cdv A outer s H E) B →
      PassesOwn (model P w) (cxOf (L2.CX P w) P w K mg base N qual (defScope st) f cdv A outer s H E).A (cxOf (L2.CX P w) P w K mg base N qual (defScope st) f cdv A outer s H E).env (cxOf (L2.CX P w) P w K mg base N qual (defScope st) f cdv A outer s H E).xe →
      ∃ r, PSsp (cxOf (L2.CX P w) P w K mg base N qual (defScope st) f cdv A outer s H E) B (defBody st) r ∧ ∀ x ds Q, R ds Q B.Ed → r (.mu (.ins x C [] []) :: startE (N.length - 1) ds) { nx := finI x C Q, rt := fun _ => False }) : FnG P w K mg base (L2.CX P w) (k + 1) f (spI K C R) := by
  exact zfnG F S (fun vs H Q E ⟨ms, F, Hb, x, args, ds, Qd, Ed, e, _, _, _, _, _, r, h, _⟩ => by rw [e, List.length_cons, r.len]; exact len _ _ _ h) hb (y_initB S len hbody)
/-! ### a def with one default -/
end
end Y
namespace Y
open PySem PySem.Spec PyProof.Rows L2 Z
section
variable {X : Cx} {B : Bs} {K : Frg} {ms : List Addr} {a b c e o : Expr} {es : List Expr} {ra rb rc r ro : Rd} {rt ru : RdT} {rl : RdA} {pos p0 apos : Pos} {R : RdF} {k : Nat} {f g p : Addr} {x m : Str} {s1 s2 : RdS}
theorem y_make {C : Str} (M : Mk X.K (He.ga X.K C) f) (F : FnG X.prog X.w X.K X.mg X.base (L2.CX X.prog X.w) k f (spI X.K C R)) (hr : RoomG (k + 1) X.A) (hg : Gl X C) (hm : X.mg C = some (.ref (He.ga X.K C))) (hx : Px X B) (ha : PAp X B (e :: es) rl) (hdb : (C == ("__debug__" : Str)) = false := by decide)
    (he : starEach (e :: es) X.env = (false, eval e X.env) :: starEach es X.env := by rfl) (hpl : (backTo pos (starEach es X.env)).any (·.1) = false := by rfl) : PEp X B (.Call (.Name C p0) (e :: es) [] pos) (fun ρ Q => rl ρ fun ds => R ds Q B.Ed) :=
  pe_imp (gmake (spM := spP X.K R) (fun vs H Q h x dx h1 h2 h3 => spI_of vs H Q h x dx h1 h2 h3) M F hr hg hm hx ha hdb he hpl) fun σ H Q ⟨F, ρ, Qd, I, z, k⟩ => ⟨F, ρ, _, I, z, fun vs F1 H1 ds g1 t1 r1 z1 => sp_call I k g1 t1 r1 z1⟩
def putM (C : Str) (ns : List Str) (fl : Str) (i : Nat) (ρ : Ev) (d : D) (Q : Ev → Prop) : Prop := match ρ[i]? with
  | some (Sl.mu (Mo.ins y c n ds)) => (c = C ∧ n = ns) ∧ Q (ρ.set i (.mu (.ins y C (ns ++ [fl]) (ds ++ [d]))))
  | _ => False
theorem putF_new {f : Str} {v : V} : ∀ {ns : List Str} {vs : List V}, ns.length = vs.length → (ns.all fun y => !(f == y)) = true → putF f v (ns.zip vs) = (ns ++ [f]).zip (vs ++ [v])
  | [], [], _, _ => rfl
  | n :: ns, u :: vs, hl, h => by
    rw [List.all_cons, Bool.and_eq_true] at h
    have h1 : ¬ n = f := fun e => by
      have := h.1
      rw [e] at this
      simp at this
    show putF f v ((n, u) :: ns.zip vs) = (n, u) :: (ns ++ [f]).zip (vs ++ [v])
    unfold putF
    rw [if_neg h1, putF_new (by simpa using hl) h.2]
  | [], _ :: _, hl, _ => by simp at hl
  | _ :: _, [], hl, _ => by simp at hl
/-- self.f = v in the making -/
def gFld (K : Frg) (ta : TE) (f : Str) : TG := fun v σ H Q => ta σ H fun x H2 => ∃ a C dx fs, x = .ref a ∧ H2 a = some (.ins C dx fs) ∧ Cls K C ∧ NoAttr K C f ∧ fs.length < 1000 ∧ Q σ (upd H2 a (.ins C dx (putF f v fs)))
theorem pg_fld {ta : TE} {fl : Str} (ha : PE X o ta) : PG X (.Attribute o fl pos) (gFld X.K ta fl) := by
  refine ⟨fun pins s σ H v u Q I r h => ?_⟩
  refine PySem.W.kas_attr (thn (ha.run pins s σ H _ I h) fun ov s2 ⟨x, H2, I2, rx, a, C, dx, fs, ex, ea, c, n, l, q2⟩ => ?_)
  subst ex
  obtain rfl : ov = Value.ref a := rx
  exact setattr_ok I2 ea c n l r fun s3 I3 => ⟨σ, _, I3, q2⟩
theorem fld_run {C fl : Str} {ns : List Str} {i : Nat} {F H : Hp} {σ : L2.St} {ρ : Ev} {v : V} {d : D} {Qd : Ev → Prop} {Q : L2.St → Hp → Prop} (hc : Cls K (He.ga K C)) (hn : NoAttr K (He.ga K C) fl) (hf : (ns.all fun y => !(fl == y)) = true) (hl : ns.length < 1000) (I : Iv K B F H σ ρ) (r : Rp K B.ms F v d) (z : putM C ns fl i ρ d Qd)
    (kk : ∀ ρ' H', Iv K B F H' σ ρ' → Qd ρ' → Q σ H') : gFld K (tVar i) fl v σ H Q := by
  unfold putM at z
  split at z
  · rename_i y c n ds e
    obtain ⟨⟨rfl, rfl⟩, z⟩ := z
    obtain ⟨a, oo, h1, fa, nm, h0, h5, ey, dx, vs, rfl, h6, h7⟩ := I.own i _ e
    subst ey
    refine ⟨.ref y, h1, y, _, dx, _, rfl, h5, hc, hn, ?_, kk _ _ (I.put (m' := .ins y c (n ++ [fl]) (ds ++ [d])) i e h1 rfl ⟨rfl, dx, vs ++ [v], by rw [putF_new h6 hf], by simp [h6], h7.app (.one r)⟩) z⟩
    rw [List.length_zip]
    omega
  · exact z.elim
theorem s_fld {C fl : Str} {ns : List Str} {i : Nat} {ox : Str} {op pos' : Pos} (hc : Cls X.K (He.ga X.K C)) (hn : NoAttr X.K (He.ga X.K C) fl) (hv : PE X (.Name ox op) (tVar i)) (he : PEp X B e r) (hs : swapsWith e (some (.Attribute (.Name ox op) fl pos')) pos.line X.env = pure false := by rfl)
    (hf : (ns.all fun y => !(fl == y)) = true := by decide +kernel) (hl : ns.length < 1000 := by decide) : PSp X B (.Assign [.Attribute (.Name ox op) fl pos'] e pos) (fun ρ E => r ρ fun d => putM C ns fl i ρ d E.nx) :=
  ps_imp (ps_fld hv he hs) fun σ H Dd ⟨F, ρ, E, I, z, kn, kr, kb, kc⟩ => ⟨F, ρ, _, I, z, fun v F1 H1 d g1 t1 r1 z1 => by
    exact fld_run hc hn hf hl (I.step g1 t1) r1 z1 fun ρ' H' I' z' => kn σ ρ' F1 H' g1.ff I' z'⟩
/-- self.f, self.g = e -/
theorem s_fld2 {C f1 f2 : Str} {ns : List Str} {i : Nat} {ox oy : Str} {op oq p1 p2 tp : Pos} {kt : Nat} (hcm : X.calm = true) (hc : Cls X.K (He.ga X.K C)) (hn1 : NoAttr X.K (He.ga X.K C) f1) (hn2 : NoAttr X.K (He.ga X.K C) f2) (hv : PE X (.Name ox op) (tVar i)) (hv2 : PE X (.Name oy oq) (tVar i)) (he : PEp X B e r)
    (hs : swapsWithSole [.Tuple [.Attribute (.Name ox op) f1 p1, .Attribute (.Name oy oq) f2 p2] kt tp] e pos.line X.env = pure false := by rfl) (hw : swappedStores [.Tuple [.Attribute (.Name ox op) f1 p1, .Attribute (.Name oy oq) f2 p2] kt tp] e X.env = pure none := by rfl)
    (hf1 : (ns.all fun y => !(f1 == y)) = true := by decide +kernel) (hf2 : ((ns ++ [f1]).all fun y => !(f2 == y)) = true := by decide +kernel) (hl : ns.length < 900 := by decide) :
    PSp X B (.Assign [.Tuple [.Attribute (.Name ox op) f1 p1, .Attribute (.Name oy oq) f2 p2] kt tp] e pos) (fun ρ E => r ρ fun d => match d with | .tup [d1, d2] => putM C ns f1 i ρ d1 fun ρ1 => putM C (ns ++ [f1]) f2 i ρ1 d2 E.nx | _ => False) :=
  ps_imp (ps_asg (tg := .Tuple [.Attribute (.Name ox op) f1 p1, .Attribute (.Name oy oq) f2 p2] kt tp) he (pg_tup (n := 2) hcm (pgs_cons (pg_fld hv) (pgs_cons (pg_fld hv2) pgs_nil))) hs hw) fun σ H Dd ⟨F, ρ, E, I, z, kn, kr, kb, kc⟩ => ⟨F, ρ, _, I, z, fun v F1 H1 d g1 t1 r1 z1 => by
    split at z1
    · rename_i d1 d2
      cases r1 with
      | tup h1 h2 =>
        obtain ⟨v1, v2, rfl, q1, q2⟩ := rps2 h2
        refine ⟨_, _, rfl, sqT t1.1 h1, rfl, v1, [v2], rfl, fld_run hc hn1 hf1 (by omega) (I.step g1 t1) q1 z1 fun ρ' H' I' z' => ⟨v2, [], rfl, fld_run hc hn2 hf2 (by rw [List.length_append]; show ns.length + 1 < 1000; omega) I' q2 z' fun ρ2 H2 I2 z2 => ⟨rfl, kn σ ρ2 F1 H2 g1.ff I2 z2⟩⟩⟩
    · exact z1.elim⟩
/-! ### static methods, class methods -/
structure SMet (K : Frg) (C : Addr) (m : Str) (p g : Addr) : Prop where
  rd : ClX.CRead K C (.type "type")
  at_ : PySem.W.findCls K (.ref C) (.type "type") m = some (.get (.builtin "staticmethod.__get__") (.ref p) .none (.ref C))
  rc : ∃ rest, PySem.W.recIn K p "staticmethod" = some (.ref g :: rest)
  kp : PySem.W.keepIn K (.ref g) = true
theorem getsm {C : Addr} {pins : List (Addr × Obj)} {σ : L2.St} {H : Hp} {s : Shared} {A : Around} {E : Value → Shared → Prop} {pl : Sem Bool} {Q : Value × List Value → Shared → Prop} (I : L2.Inv X pins σ H s) (k : SMet X.K C m p g) (h : ∀ s', L2.Inv X pins σ H s' → Q (.ref g, []) s') : wpAny (model X.prog X.w) A (getMethod (.ref C) m pl) Q E s := by
  obtain ⟨rest, hp⟩ := k.rc
  refine PySem.W.method_cls I.kIn k.rd.ga (PySem.W.cls_bind I.kIn k.rd.rd k.at_ ?_)
  refine wpAny_call (PySem.W.sm_get (s := { s with toks := s.toks + 1 }) I.kIn hp (PySem.W.handed_on rfl ?_))
  exact h _ (I.tok _)
theorem y_smeth {C : Str} {pl : Sem Bool} {cp : Pos} (hg : Gl X C) (hm : X.mg C = some (.ref (He.ga X.K C))) (k0 : SMet X.K (He.ga X.K C) m p g) (F : FnG X.prog X.w X.K X.mg X.base (L2.CX X.prog X.w) k g (spP X.K R)) (hr : RoomG k X.A) (hx : Px X B) (ha : PAp X B (e :: es) rl) (hdb : (C == ("__debug__" : Str)) = false := by decide)
    (hst : starEach (e :: es) X.env = (false, eval e X.env) :: starEach es X.env := by rfl) (hpl : (backTo pos (starEach es X.env)).any (·.1) = false := by rfl)
    (ht : eval (.Call (.Attribute (.Name C cp) m apos) (e :: es) [] pos) X.env = (do
      let ov ← eval (.Name C cp) X.env
      standAt apos.atName
      let (f, first) ← holding [ov] (getMethod ov m pl)
      callWith pos f first (backTo pos (starEach (e :: es) X.env)) (backToKw pos (keywordEach [] X.env))) := by rfl) :
    PEp X B (.Call (.Attribute (.Name C cp) m apos) (e :: es) [] pos) (fun ρ Q => rl ρ fun ds => R ds Q B.Ed) := by
  refine ⟨fun pins s σ H Q I h => ?_⟩
  obtain ⟨F0, ρ, Qd, J, z, kk⟩ := h
  refine PySem.W.methodCall_KW (pl := pl) (ld_glob I hg hm ?_ hdb) ht
  refine getsm I k0 fun s1 I1 => ?_
  refine PySem.W.callWith_K (first := []) (h₀ := X.base) I.ok.mod.kin k0.kp (thn (ha.run pos pins s1 σ H (fun vs H2 => ∃ F2 ds', Go B.ms F0 H F2 H2 ∧ Tp X.K B.ms F2 H2 ∧ Rps X.K B.ms F2 vs ds' ∧ R ds' Qd B.Ed) I1 ⟨F0, ρ, _, J, z, fun vs F2 H2 ds g2 t2 r2 z3 => ⟨F2, ds, g2, t2, r2, z3⟩⟩) fun us s2 ⟨vs', H2, I2, rv, F2, ds', g2, t2, r2, z3⟩ => ⟨I2.kIn, ?_⟩) hst hpl
  exact wpAny_call (run_fnA (us := us) (vs := vs') (F.at hr) hx I2 rv (sp_call J kk g2 t2 r2 z3))
/-- C.m(*e) -/
def starD (d : D) (Q : List D → Prop) : Prop := match d with
  | .lst ds => Q ds
  | .tup ds => Q ds
  | _ => False
/-- C.m(), a class method -/
theorem y_cmeth0 {C : Str} {pl : Sem Bool} {cp : Pos} (hg : Gl X C) (hm : X.mg C = some (.ref (He.ga X.K C))) (rd : ClX.CRead X.K (He.ga X.K C) (.type "type")) (k0 : ClX.CMet X.K (He.ga X.K C) (.type "type") m p g) (F : FnG X.prog X.w X.K X.mg X.base (L2.CX X.prog X.w) k g (spP X.K R)) (hr : RoomG k X.A) (hx : Px X B) (hdb : (C == ("__debug__" : Str)) = false := by decide)
    (ht : eval (.Call (.Attribute (.Name C cp) m apos) [] [] pos) X.env = (do
      let ov ← eval (.Name C cp) X.env
      standAt apos.atName
      let (f, first) ← holding [ov] (getMethod ov m pl)
      callWith pos f first (backTo pos (starEach [] X.env)) (backToKw pos (keywordEach [] X.env))) := by rfl) :
    PEp X B (.Call (.Attribute (.Name C cp) m apos) [] [] pos) (fun ρ Q => R [.glob C] Q B.Ed) := by
  refine ⟨fun pins s σ H Q I h => ?_⟩
  obtain ⟨F0, ρ, Qd, J, z, kk⟩ := h
  refine PySem.W.methodCall_KW (pl := pl) (ld_glob I hg hm ?_ hdb) ht
  refine ClX.getmethcm_ok I rd k0 fun s1 I1 => ?_
  refine PySem.W.callWith_M0 (first := []) ⟨ClX.pin_at I1, I1.kIn⟩ k0.fi ?_
  exact run_cmA (us := []) (vs := []) (F.at hr) hx I1 .nil (sp_call (vs := [.ref _]) J kk (Go.refl J.same) J.tp (.cons (.glob C) .nil) z)
end
end Y
namespace Y
open PySem PySem.Spec PyProof.Rows L2 Z
section
variable {P : Program} {w : World} {K : Frg} {mg : Str → Option Value} {base : Heap}
/-- the tape's draw, as a plain promise -/
def rDraw : RdF := ar2 fun t n Q _ => match t, n with
  | .tape, .int n => (0 < n ∧ Sz 8000 n) ∧ ∀ d, 0 ≤ d → d < n → Q (.int d)
  | _, _ => False
theorem draw_of {k : Nat} {f : Addr} {CX : CXT} (F : FnR P w K mg base CX k f (spDraw K)) : FnG P w K mg base CX k f (spP K rDraw) := (FnG.of F).imp fun vs H Q E h => by
  obtain ⟨ms, F, ds, Qd, Ed, t, r, h, kq, ke⟩ := h
  unfold rDraw ar2 at h
  split at h
  · split at h
    · obtain ⟨v, u, rfl, r1, r2⟩ := rps2 r
      cases r2
      cases r1 with
      | @tape tt mt nt =>
        refine ⟨_, _, rfl, F, tt, _, rfl, rfl, t.1, t.tape _ mt nt, h.1.1, szLog h.1.2, fun d H' d0 d1 g tp => ?_⟩
        refine kq _ F H' _ (g.sub fun y hy => ?_) ⟨g.fh, fun y my ny => ?_, fun p hp => ⟨(t.tabs p hp).1, (t.tabs p hp).2.go g fun z => ?_⟩⟩ (.int d) (h.2 d d0 d1)
        · have : y = tt := by simpa using hy
          rw [this]; exact mt
        · by_cases e : y = tt
          · subst e; exact tp
          · exact (t.tape y my ny).go g (by simpa using e)
        · have e : p.1 = tt := by simpa using z
          exact nt (e ▸ List.mem_map.mpr ⟨p, hp, rfl⟩)
    · exact h.elim
  · exact h.elim
/-- law's promise, where the tables are empty -/
def spLawT (K : Frg) : Sp := Sp1 fun a H Q _ => ∃ (s : Addr) (ns : List Int), a = .ref s ∧ ns.length ≤ 63 ∧ SqL K H s (ns.map V.int) ∧ (∀ p ∈ tabsOf K, H p.1 = some (.tbl #[])) ∧ ∀ H', Q (.bl true) H'
/-- the heap but for the tables -/
def noTb (K : Frg) (H : Hp) : Hp := fun b => if b ∈ tabA K then none else H b
theorem noTb_same {K : Frg} {H : Hp} : Same (noTb K H) H := fun b u e => by
  unfold noTb at e
  split at e
  · cases e
  · exact e
theorem noTb_ne {K : Frg} {H : Hp} {a : Addr} (h : a ∉ tabA K) : noTb K H a = H a := if_neg h
theorem tab_in {K : Frg} {H : Hp} {a : Addr} (hT : ∀ p ∈ tabsOf K, H p.1 = some (.tbl #[])) (m : a ∈ tabA K) : H a = some (.tbl #[]) := by
  obtain ⟨p, hp, rfl⟩ := List.mem_map.mp m
  exact hT p hp
theorem noTb_sq {K : Frg} {H : Hp} {a : Addr} {xs : List V} (hT : ∀ p ∈ tabsOf K, H p.1 = some (.tbl #[])) (h : SqL K H a xs) : SqL K (noTb K H) a xs := by
  rcases h with (h | ⟨o, h⟩) | h
  · exact .inl (.inl (by show noTb K H a = _; rw [noTb_ne fun m => by rw [tab_in hT m] at h; cases h]; exact h))
  · exact .inl (.inr ⟨o, by show noTb K H a = _; rw [noTb_ne fun m => by rw [tab_in hT m] at h; cases h]; exact h⟩)
  · exact .inr h
theorem noTb_tab {K : Frg} {H F1 H1 : Hp} {p : Addr × Str} (hT : ∀ p ∈ tabsOf K, H p.1 = some (.tbl #[])) (g : Go [] (noTb K H) H F1 H1) (hp : p ∈ tabsOf K) : TabF F1 H1 p.1 p.2 := by
  have m : p.1 ∈ tabA K := List.mem_map.mpr ⟨p, hp, rfl⟩
  obtain ⟨e1, e2⟩ := g.mu p.1 _ (fun z => nomatch z) (show noTb K H p.1 = none from if_pos m) (hT p hp)
  exact ⟨e1, #[], e2, True.intro, fun pos cv hc => by
    have z : PySem.codeAmong pos [] = some cv := hc
    simp [PySem.codeAmong] at z⟩
theorem noTb_tape {K : Frg} {H F1 H1 : Hp} {t : Addr} (hT : ∀ p ∈ tabsOf K, H p.1 = some (.tbl #[])) (g : Go [] (noTb K H) H F1 H1) (tp : Tape K F1 H1 t) : t ∉ tabA K := fun m => by
  obtain ⟨p, hp, rfl⟩ := List.mem_map.mp m
  obtain ⟨_, ps, e, _⟩ := noTb_tab hT g hp
  obtain ⟨_, xs, e', _⟩ := tp
  rw [e] at e'
  cases e'
/-- the law: the tape first, then its own body -/
theorem y_law {qual px : Str} {st : Stmt} {f : Addr} {N : List Str} {k i : Nat} {xt : Str} {pt pc pn pa pp : Pos} {rest : List Stmt} (F : DefAt K "law" qual st f) (S : FnScope N [px] (defScope st))
    (hb : ∀ (kV doc pm : Value) (an : Option Addr) (cdv ct : Value) (us : List Value), us.length = 1 → bindArgs (PySem.W.fnOf "law" qual (defArgs st) (defBody st) (defScope st) .none kV doc pm an cdv ct) ⟨us, []⟩ = pure ([px].zip us))
    (hs : defBody st = .Assign [.Name xt pt] (.Call (.Name "_law_tape" pn) [.Name px pa] [] pc) pp :: rest)
    (FT : ∀ base, FnR P w K mg base (L2.CX P w) 1 (He.ga K "_law_tape") (spTape K)) (mt : mg "_law_tape" = some (.ref (He.ga K "_law_tape"))) (kt : PySem.W.keepIn K (.ref (He.ga K "_law_tape")) = true) (hk : 1 ≤ k) (h0 : N[0]? = some px) (hi : N[i]? = some xt) (hi0 : i ≠ 0)
    (hgl : ∀ cdv (s : Shared), (envOfC qual (defScope st) s.heap.objs.size f cdv).kindOf "_law_tape" = some .globalImplicit) (hvis : Vis (defScope st) px) (hloc : Loc (defScope st) xt)
    (hsw : ∀ cdv (s : Shared), swapsWith (.Call (.Name "_law_tape" pn) [.Name px pa] [] pc) (some (.Name xt pt)) pp.line (envOfC qual (defScope st) s.heap.objs.size f cdv) = pure false)
    (hst : ∀ cdv (s : Shared), starEach [.Name px pa] (envOfC qual (defScope st) s.heap.objs.size f cdv) = (false, eval (.Name px pa) (envOfC qual (defScope st) s.heap.objs.size f cdv)) :: starEach [] (envOfC qual (defScope st) s.heap.objs.size f cdv))
    (hpx : (px == ("__debug__" : Str)) = false) (hpc : (px == ("__classdict__" : Str)) = false)
    (hbody : ∀ (base : Heap) (cdv : Value), cdv = .ref (cdAt K f) → ∀ (A : Around) (outer : List Env) (s : Shared) (H : Hp) (E : XK) (B : Bs), Same B.F0 B.H0 → (∀ x, ¬ B.Ed x) → RoomG k (A.deeper (envOfC qual (defScope st) s.heap.objs.size f cdv)) → Px (cxOf (L2.CX P w) P w K mg base N qual (defScope st) f cdv A outer s H E) B →
      PassesOwn (model P w) (cxOf (L2.CX P w) P w K mg base N qual (defScope st) f cdv A outer s H E).A (cxOf (L2.CX P w) P w K mg base N qual (defScope st) f cdv A outer s H E).env (cxOf (L2.CX P w) P w K mg base N qual (defScope st) f cdv A outer s H E).xe →
      ∃ r, PSsp (cxOf (L2.CX P w) P w K mg base N qual (defScope st) f cdv A outer s H E) B rest r ∧ r ((List.replicate N.length .no).set i (.val .tape)) { nx := fun _ => False, rt := fun d => d = .bl true }) : ∀ base : Heap, FnG P w K mg base (L2.CX P w) (k + 1) f (spLawT K) := by
  refine fun base => zfnGC F S len1 hb fun cdv ecd A outer s H vs Q E hr h => ?_
  obtain ⟨_, rfl, sa, ns, rfl, hl, hS, hTb, kk⟩ := h
  have po := po_of (P := P) (w := w) (K := K) (mg := mg) (base := base) (N := N) (qual := qual) (scope := defScope st) (f := f) (cdv := cdv) (A := A) (outer := outer) (s := s) (H := H) (E := E)
  have key : ∀ (t : Addr) (F1 H1 : Hp), ∃ r, PSsp (cxOf (L2.CX P w) P w K mg base N qual (defScope st) f cdv A outer s H E) ⟨t :: tabA K, F1, H1, fun _ => False⟩ rest r ∧ (Same F1 H1 → r ((List.replicate N.length .no).set i (.val .tape)) { nx := fun _ => False, rt := fun d => d = .bl true }) := fun t F1 H1 => by
    by_cases hs : Same F1 H1
    · obtain ⟨r, h1, h2⟩ := hbody base cdv ecd A outer s H E ⟨t :: tabA K, F1, H1, fun _ => False⟩ hs (fun _ z => z) hr (px_of fun cls d H' ⟨F', x, g, t', xr, z⟩ => z.elim) po
      exact ⟨r, h1, fun _ => h2⟩
    · exact ⟨fun _ _ => False, pss_imp pss_never fun σ H Dd ⟨F, ρ, E, I, z, _⟩ => z, fun z => absurd z hs⟩
  rw [hs]
  refine ⟨_, pss_cons (t := tAsg (tFn (spTape K) E0 (tCons (tVar 0) tNil)) (gName i)) (u := fun Dd σ H' => ∃ (t : Addr) (F1 H1 : Hp) (r : RdS), PSsp (cxOf (L2.CX P w) P w K mg base N qual (defScope st) f cdv A outer s H E) ⟨t :: tabA K, F1, H1, fun _ => False⟩ rest r ∧ tS K ⟨t :: tabA K, F1, H1, fun _ => False⟩ r Dd σ H') ?_ ⟨fun pins s' σ H' D I ⟨t, F1, H1, r, hr, z⟩ => hr.run pins s' σ H' D I z⟩, ?_⟩
  · refine ps_set S.nd hi hloc (zcall (FT base) (hr.rm.mono hk) (hgl cdv s) mt kt passL (pa_cons (pe_var h0 hvis hpx hpc) pa_nil (hst cdv s)) (by decide) (hst cdv s) rfl) (hsw cdv s) (.inl rfl)
  · refine ⟨_, rfl, _, rfl, noTb K H, sa, ns, rfl, noTb_same, noTb_sq hTb hS, fun t F1 H1 g1 tp => ?_⟩
    have nt : t ∉ tabA K := noTb_tape hTb g1 tp
    obtain ⟨r, h1, h2⟩ := key t F1 H1
    refine ⟨t, F1, H1, r, h1, F1, _, _, ?_, h2 g1.fh, ?_, ?_, ?_, ?_⟩
    · have e : ∀ j : Nat, j ≠ i → ((List.replicate N.length Sl.no).set i (.val .tape))[j]? = if j < N.length then some .no else none := fun j hj => by
        rw [List.getElem?_set_ne (Ne.symm hj), List.getElem?_replicate]
      have hin : i < N.length := by
        rcases Nat.lt_or_ge i N.length with z | z
        · exact z
        · rw [List.getElem?_eq_none z] at hi; cases hi
      have hN1 : 1 ≤ N.length := by omega
      refine ⟨Go.refl g1.fh, ⟨g1.fh, fun y hy ny => ?_, fun p hp => ⟨List.mem_cons_of_mem _ (List.mem_map.mpr ⟨p, hp, rfl⟩), noTb_tab hTb g1 hp⟩⟩, ?_, fun j d hd => ?_, fun j m hm => ?_, fun j j' m n a hjj h1 h2 h3 => ?_⟩
      · rcases List.mem_cons.mp hy with e | e
        · rw [e]; exact tp
        · exact absurd e ny
      · simp [L2.start]; omega
      · by_cases hj : j = i
        · subst hj
          rw [List.getElem?_set_self (by simpa using hin)] at hd
          cases hd
          exact ⟨.ref t, List.getElem?_set_self (by simp [L2.start]; omega), .tape (by simp) nt⟩
        · rw [e j hj] at hd
          split at hd <;> cases hd
      · by_cases hj : j = i
        · subst hj
          rw [List.getElem?_set_self (by simpa using hin)] at hm
          cases hm
        · rw [e j hj] at hm
          split at hm <;> cases hm
      · exfalso
        by_cases hj : j = i
        · subst hj
          rw [List.getElem?_set_self (by simpa using hin)] at h1
          cases h1
        · rw [e j hj] at h1
          split at h1 <;> cases h1
    · intro _ _ _ _ _ _ z; exact z.elim
    · intro v d F' H' _ _ rr z
      have z' : d = .bl true := z
      subst z'
      cases rr
      exact kk H'
    · intro _ _ _ _ _ _ z; exact z
    · intro _ _ _ _ _ _ z; exact z
end
/-! ### texts -/
def strsOf : List D → Option (List Str)
  | [] => some []
  | .str b :: ds => (strsOf ds).map (b :: ·)
  | _ => none
theorem strsOf_map : ∀ {ds : List D} {bs : List Str}, strsOf ds = some bs → ds = bs.map D.str
  | [], _, h => by cases h; rfl
  | .str b :: ds, _, h => by
    unfold strsOf at h
    obtain ⟨r, h1, rfl⟩ := Option.map_eq_some_iff.mp h
    rw [strsOf_map h1]
    rfl
  | .non :: _, _, h => by simp [strsOf] at h
  | .int _ :: _, _, h => by simp [strsOf] at h
  | .bl _ :: _, _, h => by simp [strsOf] at h
  | .lst _ :: _, _, h => by simp [strsOf] at h
  | .tup _ :: _, _, h => by simp [strsOf] at h
  | .obj _ _ _ :: _, _, h => by simp [strsOf] at h
  | .ty _ :: _, _, h => by simp [strsOf] at h
  | .glob _ :: _, _, h => by simp [strsOf] at h
  | .tape :: _, _, h => by simp [strsOf] at h
  | .fn _ :: _, _, h => by simp [strsOf] at h
  | .dic _ _ :: _, _, h => by simp [strsOf] at h
  | .dpl _ _ :: _, _, h => by simp [strsOf] at h
def dJoin (x y : D) (Q : D → Prop) : Prop := match x, y with
  | .str a, .lst ds => (match strsOf ds with | some ys => (ys.map (·.length)).sum + ys.length * a.length ≤ 100000 ∧ Q (.str (Txt.join a ys)) | none => False)
  | _, _ => False
section
variable {X : Cx} {B : Bs} {K : Frg} {ms : List Addr} {a b c e o : Expr} {es : List Expr} {ra rb rc r ro : Rd} {rt ru : RdT} {rl : RdA} {pos p0 apos : Pos}
def isS (x : D) (k : Prop) : Prop := match x with
  | .str _ => k
  | _ => False
theorem isS_of {F : Hp} {v : V} {d : D} {k : Prop} (r : Rp K ms F v d) (h : isS d k) : (∃ a, v = .str a) ∧ k := by
  unfold isS at h
  split at h
  · cases r; exact ⟨⟨_, rfl⟩, h⟩
  · exact h.elim
theorem y_join (ho : PEp X B o ro) (he : PEp X B e r) (hs : starEach [e] X.env = [(false, eval e X.env)] := by rfl) (hbase : attributeBase o "join" X.env (eval o X.env) = eval o X.env := by rfl) (hline : (apos.endLine == pos.line) = true := by rfl) :
    PEp X B (.Call (.Attribute o "join" apos) [e] [] pos) (fun ρ Q => ro ρ fun x => isS x (r ρ fun y => dJoin x y Q)) := by
  refine pe_imp (pe_join ho he hs hbase hline) fun σ H Q ⟨F, ρ, Qd, I, z, k⟩ => ⟨F, ρ, _, I, z, fun v F1 H1 d g1 t1 r1 z1 => ?_⟩
  obtain ⟨⟨a, rfl⟩, z2⟩ := isS_of r1 z1
  cases r1
  refine ⟨⟨a, rfl⟩, F1, ρ, _, I.step g1 t1, z2, fun u F2 H2 d2 g2 t2 r2 z3 => ?_⟩
  unfold dJoin at z3
  split at z3
  · rename_i a' ds e1
    cases e1
    split at z3
    · rename_i ys e
      obtain rfl := strsOf_map e
      cases r2 with
      | lst h1 h2 =>
        have e2 := h2.strs
        subst e2
        exact ⟨_, _, ys, rfl, rfl, .inl (SqL.of (t2.1 _ _ h1)), Nat.le_trans z3.1 (by decide), k _ F2 H2 _ (g1.trans g2) t2 (.str _) z3.2⟩
    · exact z3.elim
  · exact z3.elim
end
theorem hu65 {k : Nat} {A : Around} (r : RoomG k A) : A.units + 65 < cLine := by have := r.rm.un; omega
theorem all0 {p : Str → Prop} : ∀ c ∈ ([] : List Str), p c := fun _ h => nomatch h
theorem all1 {p : Str → Prop} {C : Str} (h : p C) : ∀ c ∈ [C], p c := fun c hc => by
  have : c = C := by simpa using hc
  rw [this]; exact h
theorem all2 {p : Str → Prop} {C D : Str} (h : p C) (h' : p D) : ∀ c ∈ [C, D], p c := fun c hc => by
  rcases List.mem_cons.mp hc with rfl | hc
  · exact h
  · exact all1 h' c hc
theorem nf_self {K : Frg} {C : Addr} : PySem.W.notFirst K C (.ref C) = true := by simp [PySem.W.notFirst]
theorem ar0E {P} {ds : List D} {Q E} (h : ar0 P ds Q E) : ds = [] ∧ P Q E := by
  unfold ar0 at h; split at h
  · exact ⟨rfl, h⟩
  · exact h.elim
theorem ar1E {P} {ds : List D} {Q E} (h : ar1 P ds Q E) : ∃ a, ds = [a] ∧ P a Q E := by
  unfold ar1 at h; split at h
  · exact ⟨_, rfl, h⟩
  · exact h.elim
theorem ar2E {P} {ds : List D} {Q E} (h : ar2 P ds Q E) : ∃ a b, ds = [a, b] ∧ P a b Q E := by
  unfold ar2 at h; split at h
  · exact ⟨_, _, rfl, h⟩
  · exact h.elim
theorem ar3E {P} {ds : List D} {Q E} (h : ar3 P ds Q E) : ∃ a b c, ds = [a, b, c] ∧ P a b c Q E := by
  unfold ar3 at h; split at h
  · exact ⟨_, _, _, rfl, h⟩
  · exact h.elim
end Y
namespace Y
open PySem PySem.Spec PyProof.Rows L2 Z
/-! ### facts of the top for the pure layer -/
def bRd (x : Str) : Frg → Bool := fun K => PySem.W.readsIn K (He.ga K x) (.type "type") && He.eqO (PySem.W.specialIn K (.ref (He.ga K x)) "__getattribute__") (some (some (.builtin "type.__getattribute__")))
theorem rd_of {K : Frg} {x : Str} (h : bRd x K = true) : ClX.CRead K (He.ga K x) (.type "type") := by
  obtain ⟨h1, h2⟩ := He.ba h
  exact ⟨h1, He.eqO_ok h2⟩
def bSM (x m : Str) : Frg → Bool := fun K => bRd x K && (He5.wrapB K (He.ga K x) "staticmethod" "staticmethod.__get__" m && PySem.W.keepIn K (.ref (He5.wf K (He.ga K x) "staticmethod" m)))
theorem sm_of {K : Frg} {x m : Str} (h : bSM x m K = true) : SMet K (He.ga K x) m (He.ma K (He.ga K x) m) (He5.wf K (He.ga K x) "staticmethod" m) := by
  obtain ⟨h1, h⟩ := He.ba h
  obtain ⟨h2, h3⟩ := He.ba h
  obtain ⟨h4, h5⟩ := He5.wrapB_ok h2
  exact ⟨rd_of h1, h4, h5, h3⟩
def bCM (x m : Str) : Frg → Bool := fun K => He5.wrapB K (He.ga K x) "classmethod" "classmethod.__get__" m && PySem.W.fnIn K (He5.wf K (He.ga K x) "classmethod" m)
theorem cm_of {K : Frg} {x m : Str} (h : bCM x m K = true) : ClX.CMet K (He.ga K x) (.type "type") m (He.ma K (He.ga K x) m) (He5.wf K (He.ga K x) "classmethod" m) := by
  obtain ⟨h2, h3⟩ := He.ba h
  exact He5.cmet_of h2 h3
end Y
namespace Y
open PySem PySem.Spec PyProof.Rows L2 Z
section
variable {X : Cx} {B : Bs} {K : Frg} {ms : List Addr} {a b c e o : Expr} {es : List Expr} {ra rb rc r ro : Rd} {rt ru : RdT} {rl : RdA} {pos p0 apos : Pos} {s1 s2 : RdS}
/-- a statement and what follows, with a word between them -/
theorem s_cut {st : Stmt} {rest : List Stmt} (h1 : PSp X B st s1) (h2 : PSsp X B rest s2) : PSsp X B (st :: rest) (fun ρ E => ∃ Mid : Ev → Prop, s1 ρ { E with nx := Mid } ∧ ∀ ρ', Mid ρ' → s2 ρ' E) :=
  pss_imp (pss_cons h1 h2) fun σ H Dd ⟨F, ρ, E, I, ⟨Mid, z, zf⟩, kn, kr, kb, kc⟩ => ⟨F, ρ, _, I, z, fun σ' ρ' F' H' s I' z' => ⟨F', ρ', E, I', zf ρ' z', fun σ2 ρ2 F2 H2 s' I2 z2 => kn σ2 ρ2 F2 H2 (s.trans s') I2 z2, kr, fun σ2 ρ2 F2 H2 s' I2 z2 => kb σ2 ρ2 F2 H2 (s.trans s') I2 z2, fun σ2 ρ2 F2 H2 s' I2 z2 => kc σ2 ρ2 F2 H2 (s.trans s') I2 z2⟩, kr, kb, kc⟩
def dModZ (x y : D) (Q : D → Prop) : Prop := match x, y with
  | .int i, .int j => j ≠ 0 ∧ Q (.int (i.fmod j))
  | _, _ => False
def dIsBl (neg : Bool) (x y : D) (Q : D → Prop) : Prop := match x, y with
  | .bl i, .bl j => Q (.bl (neg != decide (i = j)))
  | _, _ => False
def dInt1 (ds : List D) (Q : D → Prop) : Prop := match ds with
  | [.int i] => Q (.int i)
  | [.bl b] => Q (.int (if b then 1 else 0))
  | _ => False
/-! ### texts and enumerate as what a loop walks -/
def chrs (s : Str) : List D := s.cps.toList.map fun c => .str ⟨#[c]⟩
theorem i_str {tg l : Expr} (hl : PEp X B l r) : PIp X B tg l (fun ρ Q => r ρ fun d => match d with | .str s => Q (chrs s) | _ => False) :=
  pi_imp (pi_str hl) fun σ H R ⟨F, ρ, Qd, I, z, k⟩ => ⟨F, ρ, _, I, z, fun v F1 H1 d g1 t1 r1 z1 => by
    split at z1
    · rename_i s
      cases r1
      refine ⟨s, rfl, k _ F1 H1 _ g1 t1 ⟨_, _, by rw [show (chrs s).length = s.cps.size by simp [chrs]]; exact walk_str (z := s), fun _ _ _ _ => trivial, ?_⟩ z1⟩
      rintro i F2 H2 x H2' d s1 s' ⟨rfl, cc, hx, rfl⟩ hd
      have : d = .str ⟨#[cc]⟩ := by
        unfold chrs at hd
        rw [List.getElem?_map, Array.getElem?_toList, hx] at hd
        exact (Option.some.inj hd).symm
      subst this
      exact ⟨F2, Go.refl s', .str _⟩
    · exact z1.elim⟩
def enumD (ds : List D) : List D := (List.range ds.length).map fun i => .tup [.int (i : Nat), (ds[i]?).getD .non]
/-- cls(..), cls a name that holds the class C -/
theorem y_makeL {C x : Str} {i k : Nat} {f : Addr} {R : RdF} (hv : PE X (.Name x p0) (tVar i)) (M : Mk X.K (He.ga X.K C) f) (F : FnG X.prog X.w X.K X.mg X.base (L2.CX X.prog X.w) k f (spI X.K C R)) (hr : RoomG (k + 1) X.A) (hx : Px X B) (ha : PAp X B (e :: es) rl)
    (he : starEach (e :: es) X.env = (false, eval e X.env) :: starEach es X.env := by rfl) (hpl : (backTo pos (starEach es X.env)).any (·.1) = false := by rfl) : PEp X B (.Call (.Name x p0) (e :: es) [] pos) (fun ρ Q => rVar i ρ fun d => d = .glob C ∧ rl ρ fun ds => R ds Q B.Ed) := by
  refine ⟨fun pins s σ H Q I h => ?_⟩
  obtain ⟨F0, ρ, Qd, J, z, kk⟩ := h
  refine wpAny_Call_Name_kw (thn ((y_var (B := B) hv).run pins s σ H (fun v H1 => ∃ F1 d, Go B.ms F0 H F1 H1 ∧ Tp X.K B.ms F1 H1 ∧ Rp X.K B.ms F1 v d ∧ d = .glob C ∧ rl ρ fun ds => R ds Qd B.Ed) I ⟨F0, ρ, _, J, z, fun v F1 H1 d g1 t1 r1 z1 => ⟨F1, d, g1, t1, r1, z1⟩⟩) fun u s1 ⟨v, H1, I1, rv, F1, d, g1, t1, r1, e1, z1⟩ => ?_)
  subst e1
  cases r1
  obtain rfl : u = Value.ref (He.ga X.K C) := rv
  refine PySem.W.callWith_K (h₀ := X.base) I.ok.mod.kin M.kp (thn (ha.run pos pins s1 σ H1 (fun vs H2 => ∃ F2 ds, Go B.ms F1 H1 F2 H2 ∧ Tp X.K B.ms F2 H2 ∧ Rps X.K B.ms F2 vs ds ∧ R ds Qd B.Ed) I1 ⟨F1, ρ, _, J.step g1 t1, z1, fun vs F2 H2 ds g2 t2 r2 z2 => ⟨F2, ds, g2, t2, r2, z2⟩⟩) fun us s2 ⟨vs, H2, I2, r, F2, ds, g2, t2, r2, z2⟩ => ⟨I2.kIn, ?_⟩) he hpl
  exact run_makeG M F hr hx I2 r (spI_of vs H2 Q (sp_call J kk (g1.trans g2) t2 r2 z2))
end
end Y
namespace Y
open PySem PySem.Spec PyProof.Rows L2 Z
/-! ### texts of data: repr -/
mutual
def toP : D → PyData
  | .non => .none
  | .bl b => .bool b
  | .int i => .int i
  | .str s => .str s
  | .lst ds => .list (toPs ds)
  | .tup ds => .tuple (toPs ds)
  | .obj _ _ _ => .none
  | .ty _ => .none
  | .glob _ => .none
  | .tape => .none
  | .fn _ => .none
  | .dic _ _ => .dict []
  | .dpl _ _ => .none
def toPs : List D → List PyData
  | [] => []
  | d :: ds => toP d :: toPs ds
end
mutual
/-- data that repr shows: with so many items and signs at most, so deep at most -/
def shP (n : Nat) : D → Prop
  | .non => True
  | .bl _ => True
  | .int i => Sz 1900 i
  | .str s => ∀ c ∈ s.cps.toList, c < 16 ^ 8
  | .lst ds => shPs n ds
  | .tup ds => shPs n ds
  | .obj _ _ _ => False
  | .ty _ => False
  | .glob _ => False
  | .tape => False
  | .fn _ => False
  | .dic _ _ => False
  | .dpl _ _ => False
def shPs (n : Nat) : List D → Prop
  | [] => True
  | d :: ds => shP n d ∧ shPs n ds
end
def shD (d : D) : Str := (toP d).shown
theorem sz1900 {i : Int} (h : Sz 1900 i) : i.natAbs.log2 < 1920 := Nat.lt_of_lt_of_le (PySem.Flt.log2_lt_of (by decide) h) (by decide)
mutual
theorem sh_able {n : Nat} : ∀ d : D, shP n d → (toP d).showable = true
  | .non, _ => rfl
  | .bl _, _ => rfl
  | .int i, h => by
    show decide _ = true
    exact decide_eq_true (sz1900 h)
  | .str _, _ => rfl
  | .lst ds, h => sh_ables ds h
  | .tup ds, h => sh_ables ds h
  | .obj _ _ _, h => h.elim
  | .ty _, h => h.elim
  | .glob _, h => h.elim
  | .tape, h => h.elim
  | .fn _, h => h.elim
  | .dic _ _, h => h.elim
  | .dpl _ _, h => h.elim
theorem sh_ables {n : Nat} : ∀ ds : List D, shPs n ds → PyData.showableAll (toPs ds) = true
  | [], _ => rfl
  | d :: ds, h => by
    show ((toP d).showable && PyData.showableAll (toPs ds)) = true
    rw [sh_able d h.1, sh_ables ds h.2]
    rfl
end
mutual
theorem sh_short {n : Nat} : ∀ d : D, shP n d → (toP d).leavesShort 1921 = true
  | .non, _ => rfl
  | .bl _, _ => rfl
  | .int i, h => by
    show decide ((PyData.shown (.int i)).length ≤ 1921) = true
    exact decide_eq_true (int_text_len_1921 (sz1900 h))
  | .str s, h => by
    show (s.cps.toList.all fun c => decide (c < 16 ^ 8)) = true
    exact List.all_eq_true.mpr fun c hc => decide_eq_true (h c hc)
  | .lst ds, h => sh_shorts ds h
  | .tup ds, h => sh_shorts ds h
  | .obj _ _ _, h => h.elim
  | .ty _, h => h.elim
  | .glob _, h => h.elim
  | .tape, h => h.elim
  | .fn _, h => h.elim
  | .dic _ _, h => h.elim
  | .dpl _ _, h => h.elim
theorem sh_shorts {n : Nat} : ∀ ds : List D, shPs n ds → PyData.leavesShortAll 1921 (toPs ds) = true
  | [], _ => rfl
  | d :: ds, h => by
    show ((toP d).leavesShort 1921 && PyData.leavesShortAll 1921 (toPs ds)) = true
    rw [sh_short d h.1, sh_shorts ds h.2]
    rfl
end
mutual
theorem sh_nodict {n : Nat} : ∀ d : D, shP n d → (toP d).hasDict = false
  | .non, _ => rfl
  | .bl _, _ => rfl
  | .int _, _ => rfl
  | .str _, _ => rfl
  | .lst ds, h => sh_nodicts ds h
  | .tup ds, h => sh_nodicts ds h
  | .obj _ _ _, h => h.elim
  | .ty _, h => h.elim
  | .glob _, h => h.elim
  | .tape, h => h.elim
  | .fn _, h => h.elim
  | .dic _ _, h => h.elim
  | .dpl _ _, h => h.elim
theorem sh_nodicts {n : Nat} : ∀ ds : List D, shPs n ds → PyData.hasDictAll (toPs ds) = false
  | [], _ => rfl
  | d :: ds, h => by
    show ((toP d).hasDict || PyData.hasDictAll (toPs ds)) = false
    rw [sh_nodict d h.1, sh_nodicts ds h.2]
    rfl
end
section
variable {X : Cx} {B : Bs} {pins : List (Addr × Obj)} {σ : L2.St} {H F : Hp} {s : Shared} {ms : List Addr}
mutual
theorem sh_reads {n : Nat} (I : L2.Inv X pins σ H s) (hs : Same F H) : ∀ (d : D) (v : V) (u : Value), shP n d → Rp X.K ms F v d → RelV v u → ∃ as, Reads s.heap u (toP d) as
  | .non, _, u, _, r, e => by
    cases r
    obtain rfl : u = Value.none := e
    exact ⟨_, .none⟩
  | .bl b, _, u, _, r, e => by
    cases r
    obtain rfl : u = Value.bool b := e
    exact ⟨_, .bool b⟩
  | .int i, _, u, _, r, e => by
    cases r
    obtain ⟨t, rfl⟩ := (show ∃ t, u = Value.int i t from e)
    exact ⟨_, .int i t⟩
  | .str x, _, u, _, r, e => by
    cases r
    obtain ⟨t, rfl⟩ := (show ∃ t, u = Value.str x t from e)
    exact ⟨_, .str x t⟩
  | .lst ds, _, u, h, r, e => by
    cases r with
    | @lst a vs _ h1 h2 =>
      obtain rfl : u = Value.ref a := e
      obtain ⟨_, its, n, rv, hg⟩ := I.hok a _ (hs _ _ h1)
      obtain ⟨as, q⟩ := sh_readss I hs ds vs its h h2 rv
      exact ⟨_, .list hg rfl rfl (by simpa using q)⟩
  | .tup ds, _, u, h, r, e => by
    cases r with
    | @tup a vs _ h1 h2 =>
      obtain rfl : u = Value.ref a := e
      obtain ⟨its, rv, ⟨o, hg, hc, n, hd⟩, _⟩ := I.tuple (sqT hs h1)
      obtain ⟨as, q⟩ := sh_readss I hs ds vs its h h2 rv
      exact ⟨_, .tuple hg hc hd (by simpa using q)⟩
  | .obj _ _ _, _, _, h, _, _ => h.elim
  | .ty _, _, _, h, _, _ => h.elim
  | .glob _, _, _, h, _, _ => h.elim
  | .tape, _, _, h, _, _ => h.elim
  | .fn _, _, _, h, _, _ => h.elim
  | .dic _ _, _, _, h, _, _ => h.elim
  | .dpl _ _, _, _, h, _, _ => h.elim
theorem sh_readss {n : Nat} (I : L2.Inv X pins σ H s) (hs : Same F H) : ∀ (ds : List D) (vs : List V) (us : List Value), shPs n ds → Rps X.K ms F vs ds → Vals vs us → ∃ as, ReadsAll s.heap us (toPs ds) as
  | [], _, _, _, r, e => by
    cases r
    cases e
    exact ⟨_, .nil⟩
  | d :: ds, _, _, h, r, e => by
    cases r with
    | cons r1 r2 =>
      cases e with
      | cons e1 e2 =>
        obtain ⟨as, q1⟩ := sh_reads I hs d _ _ h.1 r1 e1
        obtain ⟨bs, q2⟩ := sh_readss I hs ds _ _ h.2 r2 e2
        exact ⟨_, .cons q1 q2⟩
end
/-- .. or the empty dict -/
def shT (n : Nat) (d : D) : Prop := match d with
  | .dic ks ds => ks = [] ∧ ds = []
  | d => shP n d
theorem shT.of {n : Nat} {d : D} (h : shP n d) : shT n d := by cases d <;> first | exact h | exact h.elim
/-- repr of data -/
def rRepr (K : Frg) (xs : List V) (H : Hp) (Q : VK) : Prop := ∃ (ms : List Addr) (F : Hp) (v : V) (d : D) (n : Nat), xs = [v] ∧ Same F H ∧ Rp K ms F v d ∧ shT n d ∧ (toP d).bulk ≤ 8000 ∧ (toP d).depth ≤ 40 ∧ Q (.str (shD d)) H
theorem sh_len {n : Nat} {d : D} (h : shP n d) (hb : (toP d).bulk ≤ 8000) : (toP d).shown.length ≤ sizeLine := by
  have z := PyData.shown_le_bulk 1921 (by decide) (toP d) (sh_short d h)
  have : (2 : Nat) ^ 24 = 16777216 := by decide
  show _ ≤ 2 ^ 24
  omega
theorem call_reprD {k : Nat} (hr : RoomG k X.A) : CallR X (.builtin "repr") (rRepr X.K) := by
  intro pins s σ H xs us Q I r h
  obtain ⟨ms, F, v, d, n, rfl, hs, rd, hp, hb, hd, q⟩ := h
  obtain ⟨u, rfl, ru⟩ := vals1 r
  by_cases hdic : ∃ ks ds, d = .dic ks ds
  · obtain ⟨ks, ds, rfl⟩ := hdic
    obtain ⟨rfl, rfl⟩ := hp
    cases rd with
    | @dic a _ _ vs _ h1 h2 h3 =>
    cases h3
    obtain rfl : u = Value.ref a := ru
    obtain ⟨_, hz, vs', rel, o, es, ep, e1, e2, e3, e4, e5⟩ := dk_rd I.hok (.inr ⟨_, hs _ _ h1⟩)
    cases rel
    have ee : es.toList.map (·.key) = [] ∧ es.toList.map (·.val) = [] := by
      have e6 := e5.1
      generalize es.toList = l at e6
      cases e6
      exact ⟨rfl, rfl⟩
    have rr : Reads s.heap (.ref a) (.dict []) (a :: [] ++ []) := .dict e1 e2.1 e3 (by rw [ee.1]; exact .nil) (by rw [ee.2]; exact .nil)
    have hu := hr.units
    exact repr_of_reads' rr rfl (fun _ m => by
      have : sysModules = a := by simpa using m
      rw [this] at hz
      simp at hz) hr.gd (by show _ + (1 + 1) < _; omega) (fun _ _ e => e) (fun h' u' tk hk => ⟨.str _, H, I.kept hk, ⟨_, rfl⟩, q⟩) (by show 2 ≤ sizeLine; decide)
  have hp : shP n d := by
    cases d <;> first | exact hp | exact (hdic ⟨_, _, rfl⟩).elim
  have hl := sh_len hp hb
  have hu := hr.units
  obtain ⟨as, rr⟩ := sh_reads I hs d v u hp rd ru
  have fin : ∀ h' u' tk, (∀ b o, s.heap.get? b = some o → h'.get? b = some o) → EP X pins σ Q (.str (toP d).shown u') { s with heap := h', toks := tk } := fun h' u' tk hk => ⟨.str _, H, I.kept hk, ⟨_, rfl⟩, q⟩
  cases rd with
  | non =>
    obtain rfl : u = Value.none := ru
    exact PySem.P.repr_of_none (fin _ _ _ fun _ _ e => e)
  | bl b =>
    obtain rfl : u = Value.bool b := ru
    exact PySem.P.repr_of_bool (fin _ _ _ fun _ _ e => e)
  | int i =>
    obtain ⟨t, rfl⟩ := (show ∃ t, u = Value.int i t from ru)
    exact PySem.P.repr_of_int (sz1900 hp) (fin _ _ _ fun _ _ e => e)
  | str x =>
    obtain ⟨t, rfl⟩ := (show ∃ t, u = Value.str x t from ru)
    exact PySem.P.repr_of_str (fin _ _ _ fun _ _ e => e) hl
  | ty _ => exact hp.elim
  | glob _ => exact hp.elim
  | tape _ => exact hp.elim
  | fn _ => exact hp.elim
  | dic _ _ _ => exact hp.elim
  | dpl _ _ _ _ _ _ _ => exact hp.elim
  | obj _ _ _ => exact hp.elim
  | lst h1 h2 =>
    obtain rfl : u = Value.ref _ := ru
    exact repr_of_reads' rr (sh_able _ hp) (PyData.noDict_hsm (sh_nodict _ hp)) hr.gd (by omega) (fun _ _ e => e) fin hl
  | tup h1 h2 =>
    obtain rfl : u = Value.ref _ := ru
    exact repr_of_reads' rr (sh_able _ hp) (PyData.noDict_hsm (sh_nodict _ hp)) hr.gd (by omega) (fun _ _ e => e) fin hl
def dRepr (ds : List D) (Q : D → Prop) : Prop := match ds with
  | [d] => (shT 0 d ∧ (toP d).bulk ≤ 8000 ∧ (toP d).depth ≤ 40) ∧ Q (.str (shD d))
  | _ => False
theorem reprL {K : Frg} : CalL K ms (rRepr K) dRepr := by
  intro F H xs ds Qd Q hs r h k
  unfold dRepr at h
  split at h
  · obtain ⟨x, rfl, r1⟩ := rps1 r
    exact ⟨ms, F, x, _, 0, rfl, hs, r1, h.1.1, h.1.2.1, h.1.2.2, k _ F H _ (Go.refl hs) (.str _) h.2⟩
  · exact h.elim
end
end Y
namespace Y
open PySem PySem.Spec PyProof.Rows L2 Z
section
variable {X : Cx} {B : Bs} {K : Frg} {ms : List Addr} {a b c e o : Expr} {es : List Expr} {ra rb rc r ro : Rd} {rt ru : RdT} {rl : RdA} {pos p0 apos : Pos} {s1 s2 : RdS}
end
end Y
namespace Y
open PySem PySem.Spec PyProof.Rows L2 Z
/-! ### data that stand in the written part -/
inductive All2 {α β : Type} (f : α → β → Prop) : List α → List β → Prop
  | nil : All2 f [] []
  | cons {a : α} {b : β} {as : List α} {bs : List β} : f a b → All2 f as bs → All2 f (a :: as) (b :: bs)
theorem All2.len {α β : Type} {p : α → β → Prop} : ∀ {as : List α} {bs : List β}, All2 p as bs → as.length = bs.length
  | _, _, .nil => rfl
  | _, _, .cons _ t => by rw [List.length_cons, List.length_cons, t.len]
theorem All2.get {α β : Type} {p : α → β → Prop} : ∀ {as : List α} {bs : List β} {i : Nat} {a : α} {b : β}, All2 p as bs → as[i]? = some a → bs[i]? = some b → p a b
  | _, _, i, _, _, .nil, h, _ => by simp at h
  | _, _, 0, _, _, .cons h _, e1, e2 => by
    simp at e1 e2
    subst e1 e2
    exact h
  | _, _, i + 1, _, _, .cons _ t, e1, e2 => t.get (i := i) (by simpa using e1) (by simpa using e2)
/-- the value u of the written part bears d -/
def VD (K : Frg) (d : D) (u : Value) : Prop := ∃ v, RelV v u ∧ ∀ ms F, Rp K ms F v d
/-! ### a dict of the module with text keys -/
def EntD (K : Frg) (q : Str × D) (e : DictEntry) : Prop := (∃ t, e.key = .str q.1 t) ∧ VD K q.2 e.val
def KTab (K : Frg) (w : World) (x : Str) (tab : List (Str × D)) : Prop := ∃ es n, KDict K w (He.ga K x) es n ∧ All2 (EntD K) tab es.toList
/-- what a key finds -/
theorem ents_find {K : Frg} {z : Str} : ∀ {tab : List (Str × D)} {es : List DictEntry}, All2 (EntD K) tab es →
    (∃ d e, tab.lookup z = some d ∧ es.find? (·.key.isStr z) = some e ∧ VD K d e.val) ∨ (tab.lookup z = none ∧ es.find? (·.key.isStr z) = none ∧ es.any (·.refKey) = false)
  | _, _, .nil => .inr ⟨rfl, rfl, rfl⟩
  | q :: tab, e :: es, .cons h t => by
    obtain ⟨⟨tk, hk⟩, hv⟩ := h
    have hs : e.key.isStr z = decide (q.1 = z) := by rw [hk]; rfl
    by_cases c : q.1 = z
    · refine .inl ⟨q.2, e, ?_, ?_, hv⟩
      · rw [show (q :: tab) = (q.1, q.2) :: tab from rfl, List.lookup_cons, ← c]
        simp
      · rw [List.find?_cons, hs, decide_eq_true c]
    · have l1 : (q :: tab).lookup z = tab.lookup z := by
        rw [show (q :: tab) = (q.1, q.2) :: tab from rfl, List.lookup_cons]
        have : (z == q.1) = false := by
          rw [beq_eq_false_iff_ne]
          exact fun e => c e.symm
        rw [this]
      have l2 : (e :: es).find? (·.key.isStr z) = es.find? (·.key.isStr z) := by rw [List.find?_cons, hs, decide_eq_false c]
      rcases ents_find (z := z) t with ⟨d, e', h1, h2, h3⟩ | ⟨h1, h2, h3⟩
      · exact .inl ⟨d, e', l1.trans h1, l2.trans h2, h3⟩
      · refine .inr ⟨l1.trans h1, l2.trans h2, ?_⟩
        rw [List.any_cons, h3, Bool.or_false]
        unfold DictEntry.refKey
        rw [hk]
theorem KTab.ns {K : Frg} {w : World} {x : Str} {tab : List (Str × D)} (kt : KTab K w x tab) (z : Str) :
    (∃ d u, tab.lookup z = some d ∧ PySem.W.nsIn K (He.ga K x) z = some (some u) ∧ VD K d u) ∨ (tab.lookup z = none ∧ PySem.W.nsIn K (He.ga K x) z = some none) := by
  obtain ⟨es, n, kd, h⟩ := kt
  have e : PySem.W.nsIn K (He.ga K x) z = (match es.toList.find? (·.key.isStr z) with
      | some e => some (some e.val)
      | none => if es.toList.any (·.refKey) then none else some none) := by
    unfold PySem.W.nsIn
    rw [kd.at_]
    rfl
  rcases ents_find (z := z) h with ⟨d, e', h1, h2, h3⟩ | ⟨h1, h2, h3⟩
  · exact .inl ⟨d, e'.val, h1, by rw [e, h2], h3⟩
  · exact .inr ⟨h1, by rw [e, h2, h3]; rfl⟩
section
variable {X : Cx} {B : Bs} {K : Frg} {ms : List Addr} {a b c e o : Expr} {es : List Expr} {ra rb rc r ro : Rd} {rl : RdA} {pos p0 apos : Pos}
/-! ### d.items() -/
end
end Y
namespace Z
open PySem PySem.Spec PyProof.Rows L2
open PySem.W
section
variable {prog : Program} {w : World} {A : Around} {E : Value → Shared → Prop} {s : Shared} {K : Frg} {x C C' L f f' : Addr} {h₀ : Heap} {m : Str → Option Value} {ox : Obj} {od : Option Obj}
end
section
variable {X : Cx} {CX : CXT} {k : Nat} {f C C' p g g' : Addr} {sp : Sp} {E : XK} {x m : Str} {p0 pos apos : Pos} {e o a b : Expr} {es : List Expr} {ta tb : TE} {t : TA} {pins : List (Addr × Obj)} {σ : L2.St} {H : Hp} {s : Shared}
/-- what a op b asks of two own classes -/
structure Bin2 (K : Frg) (nm : String) (C C' g g' : Addr) : Prop where
  hr : ∃ rc, PySem.W.findIn K (.ref C) (dunderR nm) = some rc ∧ (rc = none ∨ ∃ g : Addr, rc = some (.ref g))
  hr' : ∃ rc, PySem.W.findIn K (.ref C') (dunderR nm) = some rc ∧ (rc = none ∨ ∃ g : Addr, rc = some (.ref g))
  hs' : PySem.W.findIn K (.ref C') (PySem.dunder nm) = some (some (.ref g'))
  hc : selfFirst K C = true
  hc' : selfFirst K C' = true
  hsub : subIn K (.ref C') (.ref C) = some false
  hn : C ≠ C'
/-- a op b, b of a built-in type -/
structure BinT (K : Frg) (nm : String) (C : Addr) (T : String) : Prop where
  hr : ∃ rc, PySem.W.findIn K (.ref C) (dunderR nm) = some rc ∧ (rc = none ∨ ∃ g : Addr, rc = some (.ref g))
  h1 : ∃ fo, PySem.W.findIn K (.type T) (PySem.dunder nm) = some fo
  h2 : ∃ ro, PySem.W.findIn K (.type T) (dunderR nm) = some ro
  hc : selfFirst K C = true
  hsub : subIn K (.type T) (.ref C) = some false
end
/-! ### facts -/
def rcB (K : Frg) (C : Addr) (nm : String) : Bool := match PySem.W.findIn K (.ref C) (dunderR nm) with
  | some none => true
  | some (some (.ref _)) => true
  | _ => false
theorem rcB_ok {K : Frg} {C : Addr} {nm : String} (h : rcB K C nm = true) : ∃ rc, PySem.W.findIn K (.ref C) (dunderR nm) = some rc ∧ (rc = none ∨ ∃ g : Addr, rc = some (.ref g)) := by
  unfold rcB at h
  split at h
  · rename_i e; exact ⟨_, e, .inl rfl⟩
  · rename_i g e; exact ⟨_, e, .inr ⟨g, rfl⟩⟩
  · cases h
end Z
namespace Y
open PySem PySem.Spec PyProof.Rows L2 Z
section
variable {X : Cx} {B : Bs} {K : Frg} {ms : List Addr} {a b c e o : Expr} {es : List Expr} {ra rb rc r ro : Rd} {rt ru : RdT} {rl : RdA} {pos p0 apos : Pos} {R : RdF} {k : Nat} {f g p : Addr} {x m : Str} {s1 s2 : RdS}
end
end Y
namespace Y
open PySem PySem.Spec PyProof.Rows L2 Z
section
variable {X : Cx} {B : Bs} {K : Frg} {ms : List Addr} {a b c e o : Expr} {es : List Expr} {ra rb rc r ro : Rd} {rt ru : RdT} {rl : RdA} {pos p0 apos : Pos} {R : RdF} {k : Nat} {f g p : Addr} {x m : Str}
/-! ### f-strings -/
inductive PJp (X : Cx) (B : Bs) : List Expr → List Rd → Prop
  | nil : PJp X B [] []
  | cons {e : Expr} {r : Rd} {es : List Expr} {rs : List Rd} : PEp X B e r → PJp X B es rs → PJp X B (e :: es) (r :: rs)
/-! ### repr of an own instance -/
/-! ### a constant of a class, by the class -/
end
end Y
namespace Y
open PySem PySem.Spec PyProof.Rows L2 Z
/-! ### a comprehension of two clauses, where no slot holds a thing of its own -/
def noMu (ρ : Ev) : Prop := (ρ.all fun s => match s with | .mu _ => false | _ => true) = true
theorem noMu_get {ρ : Ev} (h : noMu ρ) (i : Nat) (m : Mo) : ρ[i]? ≠ some (.mu m) := fun e => by
  have := List.all_eq_true.mp h _ (List.mem_of_getElem? e)
  cases this
theorem Iv.again {K : Frg} {B : Bs} {F H F' H' : Hp} {σ : L2.St} {ρ : Ev} (I : Iv K B F H σ ρ) (n : noMu ρ) (s : Same F F') (g : Go B.ms B.F0 B.H0 F' H') (t : Tp K B.ms F' H') : Iv K B F' H' σ ρ :=
  ⟨g, t, I.len, fun i d e => let ⟨v, h1, h2⟩ := I.val i d e; ⟨v, h1, h2.up s⟩, fun i m e => absurd e (noMu_get n i m), fun i j m _ a _ e _ => absurd e (noMu_get n i m)⟩
def mapI2 (t t1 : Tg) (rt : RdT) (rl1 : RdA) (rt1 : RdT) (re : Rd) (vs1 : List Nat) (ρ : Ev) (ds : List D) (Q : List D → Prop) : Prop := ∃ J : Nat → List D → Prop, J 0 [] ∧
  (∀ (i : Nat) (d : D) (acc : List D), ds[i]? = some d → J i acc → tgD t d ρ fun ρ2 => noMu ρ2 ∧ rt ρ2 fun k => ifB k (rl1 ρ2 fun es => ∃ L : Nat → List D → Prop, L 0 acc ∧
    (∀ (j : Nat) (e : D) (ac : List D), es[j]? = some e → L j ac → tgD t1 e (wipeR ρ2 vs1) fun ρ3 => rt1 ρ3 fun k1 => ifB k1 (re ρ3 fun y => ac.length < 100000 ∧ L (j + 1) (ac ++ [y])) (L (j + 1) ac)) ∧ ∀ ac, L es.length ac → J (i + 1) ac) (J (i + 1) acc)) ∧ ∀ out, J ds.length out → Q out
section
variable {X : Cx} {B : Bs} {rl : RdA} {pos : Pos}
theorem wipe_wipe (σ : L2.St) (vs : List Nat) : L2.wipe (L2.wipe σ vs) vs = L2.wipe σ vs := by
  apply List.ext_getElem?
  intro j
  rw [wipe_get, L2.wipe_length, wipe_get]
  by_cases hj : j ∈ vs
  · rw [if_pos hj, if_pos hj]
  · rw [if_neg hj]
theorem lc2_of {K : Frg} {t t1 : Tg} {vs vs1 : List Nat} {rt rt1 : RdT} {rl1 : RdA} {re : Rd} (hw : ∀ i ∈ t.slots, i ∈ vs) (hw1 : ∀ i ∈ t1.slots, i ∈ vs1) (σ : L2.St) (H : Hp) (Q : VK)
    (h : tE K B (fun ρ Q => rl ρ fun ds => mapI2 t t1 rt rl1 rt1 re vs1 (wipeR ρ vs) ds fun ys => Q (.lst ys)) σ H Q) :
    tLc2 (tI K B rl) (tgV K t) (tT K B.nox rt) (tI K B.nox rl1) (tgV K t1) (tT K B.nox rt1) (tE K B.nox re) vs vs1 σ H Q := by
  obtain ⟨F, ρ, Qd, I, z, k⟩ := h
  refine ⟨F, ρ, _, I, z, fun J F1 H1 ds g1 t1' ⟨G, Yd, w, hG, hY⟩ ⟨Jw, z1, zs, zf⟩ D hD => ?_⟩
  have I1 := (I.step g1 t1').nox.wipes vs
  have dm : D ∉ B.ms := fun m => t1'.ne m hD
  have st : ∀ {F2 H2 : Hp}, Go B.ms F1 H1 F2 H2 → Tp K B.ms F2 H2 → F2 D = none → ∀ o, Go B.ms F1 H1 F2 (upd H2 D o) ∧ Tp K B.ms F2 (upd H2 D o) := fun {F2 H2} gg m fd o => by
    have p : Go [D] F2 H2 F2 (upd H2 D o) := Go.put gg.fh fd
    have p2 : Go (D :: B.ms) F2 H2 F2 (upd H2 D o) := p.sub fun a ha => by
      rcases List.mem_cons.mp ha with e | e
      · rw [e]; exact List.mem_cons_self
      · cases e
    have g2 : Go (D :: B.ms) F1 H1 F2 H2 := gg.sub fun a ha => List.mem_cons_of_mem _ ha
    exact ⟨(g2.trans p2).drop hD, t1'.put hD m p⟩
  have fd1 := same_none t1'.1 hD
  refine ⟨fun i m H' => m = ds.length - i ∧ i ≤ ds.length ∧ ∃ F' acc ys, Go B.ms F1 H1 F' H' ∧ Tp K B.ms F' H' ∧ F' D = none ∧ H' D = some (.lst acc) ∧ Rps K B.ms F' acc ys ∧ Jw i ys, ⟨_, rfl, Nat.zero_le _, F1, [], [], (st (Go.refl t1'.1) t1' fd1 _).1, (st (Go.refl t1'.1) t1' fd1 _).2, fd1, upd_same, .nil, z1⟩, ?_⟩
  rintro i m H2 ⟨rfl, hi, F2, acc, ys, g2, t2, fd, hd, hr, hj⟩
  have hg := hG F2 H2 g2.ff g2.fh
  by_cases hlt : i < ds.length
  · refine .inr ⟨w.goes i H2 hlt hg, fun H' => ∃ F' acc ys, Go B.ms F1 H1 F' H' ∧ Tp K B.ms F' H' ∧ F' D = none ∧ H' D = some (.lst acc) ∧ Rps K B.ms F' acc ys ∧ Jw (i + 1) ys, fun H' p => ⟨_, by omega, rfl, hlt, p⟩, fun x H2' y => ?_⟩
    have hd1 := List.getElem?_eq_getElem hlt
    have zz := zs i ds[i] ys hd1 hj
    obtain ⟨F3, g3, r3⟩ := hY i F2 H2 x H2' ds[i] g2.ff g2.fh (w.yields i H2 x H2' hlt hg y) hd1
    have I2 := (I1.step g2 t2).step0 g3
    have t3 := t2.go0 g3
    obtain ⟨fd3, hd3⟩ := g3.mu D _ (fun z => nomatch z) fd hd
    have q := tg_wipe (K := K) (v := x) (σ := L2.wipe σ vs) (H := H2') (Q := fun σ2 H2 => tT K B.nox rt σ2 H2 fun b H3 => if b = true then tI K B.nox rl1 σ2 H3 fun J1 H4 => ∃ W1 : Nat → Nat → Hp → Prop, (∃ m, W1 0 m H4) ∧ ∀ j k H, W1 j k H →
      (J1.stop j H ∧ ∃ F' acc ys, Go B.ms F1 H1 F' H ∧ Tp K B.ms F' H ∧ F' D = none ∧ H D = some (.lst acc) ∧ Rps K B.ms F' acc ys ∧ Jw (i + 1) ys) ∨ (J1.go j H ∧ ∃ Nx1 : Hp → Prop, (∀ H', Nx1 H' → ∃ k', k' < k ∧ W1 (j + 1) k' H') ∧ ∀ x H', J1.yld j H x H' → tgV K t1 x (L2.wipe σ2 vs1) H' fun σ3 H5 => L2.wipe σ3 vs1 = L2.wipe σ2 vs1 ∧ tT K B.nox rt1 σ3 H5 fun b H6 =>
        if b = true then tE K B.nox re σ3 H6 fun y H7 => ∃ acc, H7 D = some (.lst acc) ∧ acc.length < sizeLine ∧ Nx1 (upd H7 D (.lst (acc ++ [y]))) else Nx1 H6)
      else ∃ F' acc ys, Go B.ms F1 H1 F' H3 ∧ Tp K B.ms F' H3 ∧ F' D = none ∧ H3 D = some (.lst acc) ∧ Rps K B.ms F' acc ys ∧ Jw (i + 1) ys) hw (tg_run I2 r3 zz fun σ4 ρ4 I4 ⟨nm, z4⟩ => by
      refine ⟨F3, ρ4, _, I4, z4, fun b F5 H5 g5 t5 z5 => ?_⟩
      obtain ⟨fd5, hd5⟩ := g5.mu D _ dm fd3 hd3
      have g25 : Go B.ms F1 H1 F5 H5 := (g2.trans g3.nil).trans g5
      cases b with
      | false => exact ⟨F5, acc, ys, g25, t5, fd5, hd5, (hr.up g3.ff).up g5.ff, ifB_f z5⟩
      | true =>
        refine ⟨F5, ρ4, _, I4.step g5 t5, ifB_t z5, fun J1 F6 H6 es g6 t6 ⟨G1, Y1, w1, hG1, hY1⟩ ⟨L, l0, ls, lf⟩ => ?_⟩
        obtain ⟨fd6, hd6⟩ := g6.mu D _ dm fd5 hd5
        have g26 : Go B.ms F1 H1 F6 H6 := g25.trans g6
        have I6 := (I4.step g5 t5).step g6 t6
        refine ⟨fun j k H' => k = es.length - j ∧ j ≤ es.length ∧ ∃ F' ac zs, Same F6 F' ∧ Go B.ms F1 H1 F' H' ∧ Tp K B.ms F' H' ∧ F' D = none ∧ H' D = some (.lst ac) ∧ Rps K B.ms F' ac zs ∧ L j zs, ⟨_, rfl, Nat.zero_le _, F6, acc, ys, Same.refl _, g26, t6, fd6, hd6, ((hr.up g3.ff).up g5.ff).up g6.ff, l0⟩, ?_⟩
        rintro j k H7 ⟨rfl, hjl, F7, ac, zs7, s7, g7, t7, fd7, hd7, hr7, hl7⟩
        have hg7 := hG1 F7 H7 s7 g7.fh
        by_cases hlt1 : j < es.length
        · refine .inr ⟨w1.goes j H7 hlt1 hg7, fun H' => ∃ F' ac zs, Same F6 F' ∧ Go B.ms F1 H1 F' H' ∧ Tp K B.ms F' H' ∧ F' D = none ∧ H' D = some (.lst ac) ∧ Rps K B.ms F' ac zs ∧ L (j + 1) zs, fun H' p => ⟨_, by omega, rfl, hlt1, p⟩, fun x7 H7' y7 => ?_⟩
          have he1 := List.getElem?_eq_getElem hlt1
          have zz7 := ls j es[j] zs7 he1 hl7
          obtain ⟨F8, g8, r8⟩ := hY1 j F7 H7 x7 H7' es[j] s7 g7.fh (w1.yields j H7 x7 H7' hlt1 hg7 y7) he1
          obtain ⟨fd8, hd8⟩ := g8.mu D _ (fun z => nomatch z) fd7 hd7
          have t8 := t7.go0 g8
          have g18 : Go B.ms F1 H1 F8 H7' := g7.trans g8.nil
          have I8 : Iv K B.nox F8 H7' (L2.wipe σ4 vs1) (wipeR ρ4 vs1) := (I6.again nm (s7.trans g8.ff) (((I.go.trans g1).trans g7).trans g8.nil) t8).wipes vs1
          have q2 := tg_wipe (K := K) (v := x7) (σ := L2.wipe σ4 vs1) (H := H7') (Q := fun σ3 H5 => tT K B.nox rt1 σ3 H5 fun b H6 => if b = true then tE K B.nox re σ3 H6 fun y H7 => ∃ acc, H7 D = some (.lst acc) ∧ acc.length < sizeLine ∧ (∃ F' ac zs, Same F6 F' ∧ Go B.ms F1 H1 F' (upd H7 D (.lst (acc ++ [y]))) ∧ Tp K B.ms F' (upd H7 D (.lst (acc ++ [y]))) ∧ F' D = none ∧ (upd H7 D (.lst (acc ++ [y]))) D = some (.lst ac) ∧ Rps K B.ms F' ac zs ∧ L (j + 1) zs)
            else ∃ F' ac zs, Same F6 F' ∧ Go B.ms F1 H1 F' H6 ∧ Tp K B.ms F' H6 ∧ F' D = none ∧ H6 D = some (.lst ac) ∧ Rps K B.ms F' ac zs ∧ L (j + 1) zs) hw1 (tg_run I8 r8 zz7 fun σ9 ρ9 I9 z9 => by
            refine ⟨F8, ρ9, _, I9, z9, fun b F10 H10 g10 t10 z10 => ?_⟩
            obtain ⟨fd10, hd10⟩ := g10.mu D _ dm fd8 hd8
            cases b with
            | false => exact ⟨F10, ac, zs7, (s7.trans g8.ff).trans g10.ff, g18.trans g10, t10, fd10, hd10, (hr7.up g8.ff).up g10.ff, ifB_f z10⟩
            | true =>
              refine ⟨F10, ρ9, _, I9.step g10 t10, ifB_t z10, fun v F11 H11 d g11 t11 r11 z11 => ?_⟩
              obtain ⟨fd11, hd11⟩ := g11.mu D _ dm fd10 hd10
              have hr11 := ((hr7.up g8.ff).up g10.ff).up g11.ff
              obtain ⟨a1, a2⟩ := st ((g18.trans g10).trans g11) t11 fd11 (.lst (ac ++ [v]))
              exact ⟨ac, hd11, by rw [hr11.len]; exact Nat.lt_of_lt_of_le z11.1 line_ge, F11, ac ++ [v], zs7 ++ [d], ((s7.trans g8.ff).trans g10.ff).trans g11.ff, a1, a2, fd11, upd_same, hr11.app (.one r11), z11.2⟩)
          rw [wipe_wipe] at q2
          exact q2
        · have e : j = es.length := by omega
          subst e
          exact .inl ⟨w1.stops H7 hg7, F7, ac, zs7, g7, t7, fd7, hd7, hr7, lf _ hl7⟩)
    rw [wipe_wipe] at q
    exact q
  · have e : i = ds.length := by omega
    subst e
    refine .inl ⟨w.stops H2 hg, ?_⟩
    have p : Go [D] F2 H2 (upd F2 D (.lst acc)) H2 := Go.freeze g2.fh fd hd
    have p2 : Go (D :: B.ms) F2 H2 (upd F2 D (.lst acc)) H2 := p.sub fun a ha => by
      rcases List.mem_cons.mp ha with e | e
      · rw [e]; exact List.mem_cons_self
      · cases e
    have g12 : Go B.ms F1 H1 (upd F2 D (.lst acc)) H2 := ((g2.sub (ms' := D :: B.ms) fun a ha => List.mem_cons_of_mem _ ha).trans p2).drop hD
    exact k _ _ H2 _ (g1.trans g12) (t1'.put hD t2 p) (.lst upd_same (hr.up p.ff)) (zf _ hj)
theorem y_lc2 {elt tg iter tg1 iter1 : Expr} {ifs ifs1 : List Expr} {scope : Scope} {own : List (Str × Nat)} {vs1 : List Nat} {t t1 : Tg} {rt rt1 : RdT} {rl1 : RdA} {re : Rd} (hc : X.calm = true) (hN : X.N.Nodup) (hi : PIp X B tg iter rl) (ok : BlkOk X.N X.env.scope scope own) (hv : ∀ i ∈ vs1, i ∈ own.map (·.2))
    (hg : ∀ (s : Shared) (H : Hp) (C : Addr) (cl : List (Str × Addr)) (fp : List Addr), PG (X.blk s H scope (compEnvC scope cl C X.env) fp) tg (tgV X.K t)) (ht : ∀ (s : Shared) (H : Hp) (C : Addr) (cl : List (Str × Addr)) (fp : List Addr), PTs (X.blk s H scope (compEnvC scope cl C X.env) fp) ifs (tT X.K B.nox rt))
    (hi1 : ∀ (s : Shared) (H : Hp) (C : Addr) (cl : List (Str × Addr)) (fp : List Addr), PIp (X.blk s H scope (compEnvC scope cl C X.env) fp) B.nox tg1 iter1 rl1)
    (hg1 : ∀ (s : Shared) (H : Hp) (C : Addr) (cl : List (Str × Addr)) (fp : List Addr), PG (X.blk s H scope (compEnvC scope cl C X.env) fp) tg1 (tgV X.K t1)) (ht1 : ∀ (s : Shared) (H : Hp) (C : Addr) (cl : List (Str × Addr)) (fp : List Addr), PTs (X.blk s H scope (compEnvC scope cl C X.env) fp) ifs1 (tT X.K B.nox rt1))
    (he : ∀ (s : Shared) (H : Hp) (C : Addr) (cl : List (Str × Addr)) (fp : List Addr), PEp (X.blk s H scope (compEnvC scope cl C X.env) fp) B.nox elt re) (hw : ∀ i ∈ t.slots, i ∈ own.map (·.2) := by decide) (hw1 : ∀ i ∈ t1.slots, i ∈ vs1 := by decide) (hs : ∀ x, foldedSetIterable iter X.env x = pure x := by intro _; rfl) (hs1 : ∀ env x, foldedSetIterable iter1 env x = pure x := by intro _ _; rfl) :
    PEp X B (.ListComp elt [⟨tg, iter, ifs, 0⟩, ⟨tg1, iter1, ifs1, 0⟩] scope pos) (fun ρ Q => rl ρ fun ds => mapI2 t t1 rt rl1 rt1 re vs1 (wipeR ρ (own.map (·.2))) ds fun ys => Q (.lst ys)) :=
  pe_imp (pe_lc2 (wi1 := tI X.K B.nox rl1) (te := tE X.K B.nox re) hc hN hi ok hv hg ht hi1 hg1 ht1 he hs hs1) (lc2_of hw hw1)
end
end Y
/-! ### enumerate of a tuple -/
namespace PySem
theorem meets_enumerate_newB1 {v : Value} {o : Obj} {H : Heap → Prop} (B : Begins v o H) :
    Meets (Builtin.«enumerate.__new__» ⟨[.type "enumerate", v], []⟩) (fun _ R s => H s.heap ∧
      R (.ok (.ret (.ref (s.heap.push o).objs.size))) { s with heap := (s.heap.push o).push { cls := .type "enumerate", data := .fields #[.none, .bool false, .ref s.heap.objs.size, rawInt 0, .none, .none] } }) :=
  .of_wp fun prog w A R s h => by
    obtain ⟨hp, g, d, tk, os⟩ := s; obtain ⟨h1, h⟩ := h
    have hsub := sub_enumerate
    have q1 : ∀ {A' : Around} {E : Value → Shared → Prop} {Q : Value → Shared → Prop}, Q (.ref hp.objs.size) ⟨hp.push o, g, d, tk, os⟩ → wpAny (model prog w) A' (pyIter v) Q E ⟨hp, g, d, tk, os⟩ :=
      fun q => B.iter prog w _ _ ⟨hp, g, d, tk, os⟩ _ h1 q
    wp_walk using q1
    refine wpAny_stack_any fun st => wpAny_pure ?_
    split
    · rename_i c _ _ _ _ _
      cases (c == Value.type "enumerate")
      · wp_walk using q1
        exact ⟨_, rfl, h⟩
      · wp_walk using q1
        exact ⟨_, rfl, h⟩
    · wp_walk using q1
      exact ⟨_, rfl, h⟩
section
variable {prog : Program} {w : World} {A : Around} {E : Value → Shared → Prop} {s : Shared}
theorem enum_begins1 {v : Value} {o : Obj} {H : Heap → Prop} {Q : Value → Shared → Prop} (B : Begins v o H) (h1 : H s.heap)
    (h : ∀ h', IsEnum h' (s.heap.objs.size + 1) s.heap.objs.size 0 .none → h'.get? s.heap.objs.size = some o → h'.objs.size = s.heap.objs.size + 2 →
      (∀ b o, s.heap.get? b = some o → h'.get? b = some o) → Q (.ref (s.heap.objs.size + 1)) { s with heap := h' }) :
    wpAny (model prog w) A (call (.type "enumerate") [v]) Q E s := by
  refine callType_new F.called_enumerate (by decide) (F.typeCall_enumerate_1 _) (F.newCall_enumerate_1 _) (fun obj => F.args_object_init_2 obj _) F.entry_enumerate_new
    (meets_enumerate_newB1 B) ⟨h1, ?_⟩
  have hz : (s.heap.push o).objs.size = s.heap.objs.size + 1 := Heap.size_push ..
  show _ ∧ _
  rw [hz]
  have he : IsEnum ((s.heap.push o).push { cls := .type "enumerate", data := .fields #[.none, .bool false, .ref s.heap.objs.size, rawInt 0, .none, .none] }) (s.heap.objs.size + 1) s.heap.objs.size 0 .none := by
    have := Heap.get?_push_size (s.heap.push o) (o := { cls := .type "enumerate", data := .fields #[.none, .bool false, .ref s.heap.objs.size, rawInt 0, .none, .none] }) rfl
    rw [hz] at this; exact this
  refine ⟨⟨_, he, rfl⟩, h _ he (Heap.get?_push_of_some _ (Heap.get?_push_size _ B.free)) (by rw [Heap.size_push, hz]) fun b o x => Heap.get?_push_of_some _ (Heap.get?_push_of_some _ x)⟩
end
end PySem
namespace Y
open PySem PySem.Spec PyProof.Rows L2 Z
def IteT (K : PySem.W.Frag) (a : Addr) : It :=
  ⟨fun i H => ∃ (xs : List V) (x : V), SqT K H a xs ∧ xs[i]? = some x, fun i H v H' => ∃ T x, v = .ref T ∧ H T = none ∧ H' = upd H T (.tup [.int (i : Nat), x]) ∧ ∀ xs, SqT K H a xs → xs[i]? = some x, fun i H => ∃ xs : List V, SqT K H a xs ∧ xs.length = i⟩
theorem turn_enumT {P : Program} {w : World} {K : PySem.W.Frag} {elts : List Expr} {kk : Nat} {tpos : Pos} (a e it : Addr) (hai : a ≠ it) (hea : e ≠ a) :
    Turn P w K (.Tuple elts kk tpos) (IteT K a) [e, it] e (fun i h => (∃ old, IsEnum h e it ((i : Nat) : Int) old) ∧ h.IsTupleIter it a i ∧ e ≠ it) where
  mem := by simp
  obj := fun i h st b hb => by
    obtain ⟨⟨old, he⟩, ⟨o, ho, hc, hd⟩, _⟩ := st
    have e' : b = e ∨ b = it := by simpa using hb
    rcases e' with z | z
    · rw [z]; exact ⟨_, he, fun v q => nomatch q⟩
    · rw [z]; exact ⟨o, ho, fun v q => by rw [hd] at q; cases q⟩
  keep := fun i h h' st k => let ⟨⟨old, he⟩, hi, hne⟩ := st; ⟨⟨old, k e (by simp) _ he⟩, hi.at fun o q => k it (by simp) o q, hne⟩
  item := by
    intro X hP hw hK hc i pins s σ H E I hf st hg
    subst hP hw hK
    obtain ⟨⟨old, he⟩, hit, hne⟩ := st
    obtain ⟨xs, x, hq, hx⟩ := hg
    obtain ⟨its, rv, p, hz⟩ := I.tuple hq
    obtain ⟨u, hu, ru⟩ := rv.get hx
    have hel : e < s.heap.objs.size := Heap.lt_size he
    have hil : it < s.heap.objs.size := by obtain ⟨_, q, _⟩ := hit; exact Heap.lt_size q
    have hT : s.heap.IsTuple a its.toArray := p
    have hil2 : i < its.toArray.size := by
      have hi := lt_of_get hu
      simpa using hi
    have D := Draws.tuple (prog := X.prog) (w := X.w) (A := X.A.in1) (I.ok.hd hc) it a hai its.toArray
    refine wpAny_pyNext_enum_itemD D he ⟨hit, hT⟩ hil2 hne (by simp [hne, hea]) fun x' h' tk hx' ho hst hTu hsz hk => ?_
    have hxe : x' = u := by
      have : its.toArray[i]? = some u := by simpa using hu
      exact Option.some.inj (hx'.symm.trans this)
    subst hxe
    refine ⟨_, rfl, wpAny_letOwnedTupleGo_enum (s := { s with heap := h', toks := tk + 1 }) ho fun h'' he' sb => ?_⟩
    have hT2 : h''.get? s.heap.objs.size = some { cls := .type "tuple", data := .seq #[.int i tk, x'] } := (sb.2 _ (Nat.ne_of_gt hel)).trans hTu
    have new : ObjOk X.prog X.w (upd H s.heap.objs.size (.tup [.int (i : Nat), x])) h'' s.heap.objs.size (.tup [.int (i : Nat), x]) :=
      ⟨by show 2 ≤ sizeLine; decide, [.int i tk, x'], .cons ⟨_, rfl⟩ (.cons ru .nil), ⟨_, hT2, rfl, _, rfl⟩⟩
    have I1 : L2.Inv X pins σ (upd H s.heap.objs.size (.tup [.int (i : Nat), x])) { s with heap := h'', toks := tk + 1 } :=
      I.turnedNew (ch := [e, it]) (fun b ob hb q => (sb.2 b (fun z => hb (by simp [z]))).trans (hk b ob (fun z => hb (by simp [z])) (fun z => hb (by simp [z])) q)) hf (Nat.le_refl _) new
    refine ⟨.ref s.heap.objs.size, _, I1, rfl, ⟨_, x, rfl, I.hok.fresh (Nat.le_refl _), rfl, fun ys hy => by rw [I.tuple_inj hy hq]; exact hx⟩, ⟨⟨x', ?_⟩, hst.1.at fun o q => (sb.2 it (Ne.symm hne)).trans q, hne⟩, fun b hb => ?_⟩
    · have e1 : ((i + 1 : Nat) : Int) = (i : Int) + 1 := by omega
      rw [e1]; exact he'
    · have hb' : b < s.heap.objs.size := by
        have e' : b = e ∨ b = it := by simpa using hb
        rcases e' with z | z
        · rw [z]; exact hel
        · rw [z]; exact hil
      rw [upd_ne (Nat.ne_of_lt hb')]
      exact (hf b hb).1
  done := by
    intro X hP hw hK hc i pins s σ H E I hf st hg
    subst hP hw hK
    obtain ⟨⟨old, he⟩, hit, hne⟩ := st
    obtain ⟨xs, hq, hx⟩ := hg
    obtain ⟨its, rv, p, hz⟩ := I.tuple hq
    obtain ⟨f0, f1, f2, f3, f4, f5⟩ := hf it (by simp)
    have hl := rv.length
    have hT : s.heap.IsTuple a its.toArray := p
    have hin : its.toArray.size = i := by simp; omega
    have D := Draws.tuple (prog := X.prog) (w := X.w) (A := X.A.in1) (I.ok.hd hc) it a hai its.toArray
    exact wpAny_pyNext_enum_endD D he (by rw [hin]; exact ⟨hit, hT⟩) fun h' eb => ⟨rfl, I.turned (t' := s.toks) (fun b o hb q => eb b o hb q) f0 f1 f3 f4 f5⟩
  self := fun A i s Q E st h => let ⟨⟨_, he⟩, _⟩ := st; wpAny_pyIter_enum he h
section
variable {X : Cx} {B : Bs} {K : Frg} {ms : List Addr} {a b c e o : Expr} {es : List Expr} {ra rb rc r ro : Rd} {rt ru : RdT} {rl : RdA} {pos p0 apos : Pos} {R : RdF} {k : Nat} {f g p : Addr} {x m : Str}
theorem pi_enumZ {ta : TA} {p pos tpos : Pos} {elts : List Expr} {kk : Nat} (hg : Gl X "enumerate") (hm : X.mg "enumerate" = none) (ha : PA X [e] ta) (hs : starEach [e] X.env = [(false, eval e X.env)] := by rfl) :
    PI X (.Tuple elts kk tpos) (.Call (.Name "enumerate" p) [e] [] pos) (fun σ H R => ta σ H fun vs H1 => ∃ a xs, vs = [.ref a] ∧ ((SqL X.K H1 a xs ∧ R (Ite X.K a) H1) ∨ (SqT X.K H1 a xs ∧ R (IteT X.K a) H1))) := by
  refine ⟨fun pins s σ H R I h => ?_⟩
  refine Call_ (ld_blt I hg hm boot_enumerate (PyProof.Rows.callWith_type1 (thn (ha.run pos pins s σ H _ I h) fun us s1 ⟨vs, H1, I1, r1, q1⟩ => ?_) hs rfl))
  obtain ⟨a, xs, ex, q⟩ := q1
  subst ex
  cases r1 with
  | cons r rr =>
    cases rr
    cases r
    rcases q with ⟨hq, q⟩ | ⟨hq, q⟩
    · obtain ⟨its, rv, p', hz⟩ := I1.list hq
      refine call_enumerate_list p'.isList fun h' he hit hsz hk => wpAny_pyIter_enum he ?_
      have I2 : L2.Inv X pins σ H1 { s1 with heap := h' } := I1.kept (t' := s1.toks) hk
      refine ⟨s1.heap.objs.size + 1, [s1.heap.objs.size + 1, s1.heap.objs.size], _, _, H1, rfl, I2, turn_enum a (s1.heap.objs.size + 1) s1.heap.objs.size, ⟨⟨.none, he⟩, hit, Nat.succ_ne_self _⟩, fun b hb => ?_, q⟩
      have e' : b = s1.heap.objs.size + 1 ∨ b = s1.heap.objs.size := by simpa using hb
      have hle : s1.heap.objs.size ≤ b := by
        rcases e' with z | z
        · rw [z]; exact Nat.le_add_right _ _
        · rw [z]; exact Nat.le_refl _
      exact I1.fpOk hle (I1.hok.fresh hle)
    · obtain ⟨its, rv, p', hz⟩ := I1.tuple hq
      have hT : s1.heap.IsTuple a its.toArray := p'
      have hal : a < s1.heap.objs.size := by obtain ⟨o, ho, _⟩ := hT; exact Heap.lt_size ho
      refine enum_begins1 (begins_tuple a its.toArray) hT fun h' he hit hsz hk => wpAny_pyIter_enum he ?_
      have I2 : L2.Inv X pins σ H1 { s1 with heap := h' } := I1.kept (t' := s1.toks) hk
      refine ⟨s1.heap.objs.size + 1, [s1.heap.objs.size + 1, s1.heap.objs.size], _, _, H1, rfl, I2, turn_enumT a (s1.heap.objs.size + 1) s1.heap.objs.size (Nat.ne_of_lt hal) (Nat.ne_of_gt (Nat.lt_succ_of_lt hal)), ⟨⟨.none, he⟩, ⟨_, hit, rfl, rfl⟩, Nat.succ_ne_self _⟩, fun b hb => ?_, q⟩
      have e' : b = s1.heap.objs.size + 1 ∨ b = s1.heap.objs.size := by simpa using hb
      have hle : s1.heap.objs.size ≤ b := by
        rcases e' with z | z
        · rw [z]; exact Nat.le_add_right _ _
        · rw [z]; exact Nat.le_refl _
      exact I1.fpOk hle (I1.hok.fresh hle)
def seqD (d : D) (Q : List D → Prop) : Prop := match d with
  | .lst xs => Q xs
  | .tup xs => Q xs
  | _ => False
/-- enumerate of a list or a tuple -/
theorem i_enumZ {p tpos : Pos} {elts : List Expr} {kk : Nat} (hg : Gl X "enumerate") (hm : X.mg "enumerate" = none) (he : PEp X B e r) (hs : starEach [e] X.env = [(false, eval e X.env)] := by rfl) :
    PIp X B (.Tuple elts kk tpos) (.Call (.Name "enumerate" p) [e] [] pos) (fun ρ Q => r ρ fun d => seqD d fun xs => Q (enumD xs)) :=
  pi_imp (pi_enumZ hg hm (pa_cons he pa_nil hs) hs) fun σ H R ⟨F, ρ, Qd, I, z, kk0⟩ => ⟨F, ρ, _, I, z, fun v F1 H1 d g1 t1 r1 z1 => by
    unfold seqD at z1
    have key : ∀ (ws : List V) (xs : List D) (F2 : Hp) (i : Nat) (H2 : Hp) (H2' : Hp) (y : V) (dd : D), Rps X.K B.ms F1 ws xs → Same F1 F2 → Same F2 H2 → (enumD xs)[i]? = some dd → (∃ T x, y = .ref T ∧ H2 T = none ∧ H2' = upd H2 T (.tup [.int (i : Nat), x]) ∧ ws[i]? = some x) → ∃ F3, Go [] F2 H2 F3 H2' ∧ Rp X.K B.ms F3 y dd := by
      rintro ws xs F2 i H2 H2' y dd h2 s s' hd ⟨T, v, rfl, hT, rfl, hv⟩
      obtain ⟨de, q1, q2⟩ := h2.getV hv
      have hi := lt_of_get q1
      have : dd = .tup [.int (i : Nat), de] := by
        unfold enumD at hd
        rw [List.getElem?_map, List.getElem?_range hi] at hd
        have := (Option.some.inj hd).symm
        dsimp only at this
        rw [q1] at this
        exact this
      subst this
      obtain ⟨F3, g3, q3, _⟩ := newE s' hT rfl
      exact ⟨F3, g3, .tup (SqT.of q3) (.cons (.int _) (.cons ((q2.up s).up g3.ff) .nil))⟩
    split at z1
    · rename_i xs
      cases r1 with
      | @lst a ws _ h1 h2 =>
        refine ⟨a, ws, rfl, .inl ⟨SqL.of (t1.1 _ _ h1), kk0 _ F1 H1 _ g1 t1 ⟨fun H => SqL X.K H a ws, fun i H2 y H2' => ∃ T x, y = .ref T ∧ H2 T = none ∧ H2' = upd H2 T (.tup [.int (i : Nat), x]) ∧ ws[i]? = some x, ⟨fun i H2 hi q => ⟨ws, ws[i]'(by simpa [enumD, h2.len] using hi), q, by simp⟩, fun H2 q => ⟨ws, q, by simp [enumD, h2.len]⟩, fun i H2 y H2' _ q ⟨T, x, e1, e2, e3, e4⟩ => ⟨T, x, e1, e2, e3, e4 ws q⟩⟩, fun F2 H2 s s' => SqL.of (s' _ _ (s _ _ h1)), fun i F2 H2 y H2' dd s s' hy hd => key ws xs F2 i H2 H2' y dd h2 s s' hd hy⟩ z1⟩⟩
    · rename_i xs
      cases r1 with
      | @tup a ws _ h1 h2 =>
        refine ⟨a, ws, rfl, .inr ⟨sqT t1.1 h1, kk0 _ F1 H1 _ g1 t1 ⟨fun H => SqT X.K H a ws, fun i H2 y H2' => ∃ T x, y = .ref T ∧ H2 T = none ∧ H2' = upd H2 T (.tup [.int (i : Nat), x]) ∧ ws[i]? = some x, ⟨fun i H2 hi q => ⟨ws, ws[i]'(by simpa [enumD, h2.len] using hi), q, by simp⟩, fun H2 q => ⟨ws, q, by simp [enumD, h2.len]⟩, fun i H2 y H2' _ q ⟨T, x, e1, e2, e3, e4⟩ => ⟨T, x, e1, e2, e3, e4 ws q⟩⟩, fun F2 H2 s s' => sqT s' (sqT s h1), fun i F2 H2 y H2' dd s s' hy hd => key ws xs F2 i H2 H2' y dd h2 s s' hd hy⟩ z1⟩⟩
    · exact z1.elim⟩
end
end Y
namespace Z
open PySem PySem.Spec PyProof.Rows L2
/-! ### one keyword -/
/-- a def called with one keyword behind the values -/
def FnK (P : Program) (w : World) (K : Frg) (mg : Str → Option Value) (base : Heap) (CX : CXT) (k : Nat) (f : Addr) (kn : Str) (sp : Sp) : Prop :=
  ∀ (A : Around) (outer : List Env) (s : Shared) (H : Hp) (us : List Value) (u : Value) (vs : List V) (z : V) (Q : VK) (E : XK), RoomG k A → Env0 P w K mg base A outer s H → Vals vs us → RelV z u → sp (vs ++ [z]) H Q E → codeAny (model P w) A (.call (.ref f) ⟨us, [(kn, u)]⟩) (CR CX outer P w H s Q E) s
section
variable {P : Program} {w : World} {K : Frg} {mg : Str → Option Value} {base : Heap}
theorem zfnK {x qual kn : Str} {st : Stmt} {f : Addr} {N ps : List Str} {k : Nat} {sp : Sp} {v : V} (F : ∃ fd, L2.FunD K x qual (defArgs st) (defBody st) (defScope st) [] [(kn, v)] f fd) (S : FnScope N ps (defScope st)) (len : ∀ vs H Q E, sp vs H Q E → vs.length = ps.length)
    (hb0 : ∀ (D : Addr) (doc pm : Value) (an : Option Addr) (cdv ct : Value) (us : List Value) (u : Value), us.length + 1 = ps.length → KwChain D [(kn, u)] (bindArgs (PySem.W.fnOf x qual (defArgs st) (defBody st) (defScope st) .none (.ref D) doc pm an cdv ct) ⟨us, []⟩) (ps.zip (us ++ [u])))
    (hb1 : ∀ (D : Addr) (doc pm : Value) (an : Option Addr) (cdv ct : Value) (us : List Value) (u : Value), us.length + 1 = ps.length → bindArgs (PySem.W.fnOf x qual (defArgs st) (defBody st) (defScope st) .none (.ref D) doc pm an cdv ct) ⟨us, [(kn, u)]⟩ = pure (ps.zip (us ++ [u])))
    (hbody : ∀ (cdv : Value) (A : Around) (outer : List Env) (s : Shared) (H : Hp) (vs : List V) (Q : VK) (E : XK), RoomG k (A.deeper (envOfC qual (defScope st) s.heap.objs.size f cdv)) → sp vs H Q E →
      ∃ t, PSs (cxOf (L2.CX P w) P w K mg base N qual (defScope st) f cdv A outer s H E) (defBody st) t ∧ t { nx := fun _ H' => Q .non H', rt := Q } (start N vs) H) :
    FnG P w K mg base (L2.CX P w) (k + 1) f (fun vs H Q E => sp (vs ++ [v]) H Q E) ∧ FnK P w K mg base (L2.CX P w) (k + 1) f kn sp := by
  obtain ⟨fd, F⟩ := F
  obtain ⟨oc, od, dV, kV, doc, pm, an, cdv, ct, osl, rfl, lk, hcd, hD, hK⟩ := F.ex
  have hD' : dV = .none := by
    rcases hD with ⟨_, z⟩ | ⟨z, _⟩
    · exact z
    · exact absurd rfl z
  subst hD'
  rcases hK with e | ⟨D, rfl, hq⟩
  · cases e
  obtain ⟨u0, hu0, ru0⟩ := hq (kn, v) List.mem_cons_self
  refine ⟨fun A outer s H us vs Q E hr e0 r hs => ?_, fun A outer s H us u vs z Q E hr e0 r rz hs => ?_⟩
  · have KX : K.In s.heap := e0.mod.kin.keeps fun b o e => (e0.bs b o e).1
    have hl := len _ _ _ _ hs
    have hu : us.length + 1 = ps.length := by
      have := r.length
      rw [List.length_append] at hl
      simp only [List.length_cons, List.length_nil] at hl
      omega
    refine StX.run_bnd lk hcd S hr.rm e0 (G := fun xs H2 => xs = vs ++ [v] ∧ H2 = H) (fun A' Ex Q' h => ?_) fun s2 H2 xs g hr' => ?_
    · refine (KwChain.looks KX (fun q hq' => ?_) (hb0 D doc pm an cdv ct us u0 hu)).here (h s H _ _ e0 .refl rfl (fun _ _ z => z) (r.append (.cons ru0 .nil)) hl ⟨rfl, rfl⟩)
      have : q = (kn, u0) := by simpa using hq'
      rw [this]
      exact hu0
    · obtain ⟨rfl, rfl⟩ := g
      exact hbody cdv A outer s2 H2 _ Q E ⟨hr', hr.gd⟩ hs
  · have hl := len _ _ _ _ hs
    have hu : us.length + 1 = ps.length := by
      have := r.length
      rw [List.length_append] at hl
      simp only [List.length_cons, List.length_nil] at hl
      omega
    refine StX.run_bnd lk hcd S hr.rm e0 (G := fun xs H2 => xs = vs ++ [z] ∧ H2 = H) (fun A' Ex Q' h => ?_) fun s2 H2 xs g hr' => ?_
    · rw [hb1 D doc pm an cdv ct us u hu]
      exact wpAny_pure (h s H _ _ e0 .refl rfl (fun _ _ z => z) (r.append (.cons rz .nil)) hl ⟨rfl, rfl⟩)
    · obtain ⟨rfl, rfl⟩ := g
      exact hbody cdv A outer s2 H2 _ Q E ⟨hr', hr.gd⟩ hs
end
theorem guards_makeK {A : Around} {C : Addr} {us : List Value} {kw : List (Str × Value)} : (A.under (.builtin "type.__call__" ⟨.ref C :: us, kw⟩)).guards = A.guards := by
  show pushGuards (Code.guards (.builtin "type.__call__" ⟨.ref C :: us, kw⟩)) A.guards = A.guards
  have e : Code.guards (.builtin "type.__call__" ⟨.ref C :: us, kw⟩) = [] := by
    unfold Code.guards
    first | rfl | decide +kernel | simp
  rw [e]
  cases A.guards <;> rfl
section
variable {X : Cx} {CX : CXT} {k : Nat} {f C : Addr} {sp : Sp} {E : XK} {kn : Str} {pins : List (Addr × Obj)} {σ : L2.St} {H : Hp} {s : Shared}
theorem run_makeK {Q : VK} {us : List Value} {u : Value} {vs : List V} {z : V} (M : Mk X.K C f) (F : FnK X.prog X.w X.K X.mg X.base CX k f kn sp) (hr : RoomG (k + 1) X.A) (hx : Passes CX X E) (I : L2.Inv X pins σ H s) (r : Vals vs us) (rz : RelV z u)
    (h : ∀ x dx, H x = none → H dx = none → dx ≠ x → sp (V.ref x :: (vs ++ [z])) (upd (upd H dx (.own x)) x (.ins C dx [])) (fun v H2 => v = .non ∧ Q (.ref x) H2) E) :
    wpAny (model X.prog X.w) X.A (call (.ref C) us [(kn, u)]) (EP X pins σ Q) X.xe s := by
  have J := Inv.made (C := C) I
  have hq := h (s.heap.objs.size + 1) s.heap.objs.size (I.hok.fresh (Nat.le_succ _)) (I.hok.fresh (Nat.le_refl _)) (Nat.ne_of_lt (Nat.lt_succ_self _))
  have run := F _ X.stack _ _ (.ref (s.heap.objs.size + 1) :: us) u (.ref (s.heap.objs.size + 1) :: vs) z _ E ⟨hr.rm.make C us [(kn, u)], by rw [guards_makeK]; exact hr.gd⟩ (J.env0.make C us [(kn, u)]) (.cons rfl r) rz hq
  exact wpAny_call (make_map (f := f) I.kIn M.makes M.init (beq_iff_eq.mp M.fn) (codeAny_mono run fun q s' z => match q, z with
    | .error er, z => hx pins σ _ _ er s' J z
    | .ok (.ret _), z => by
      obtain ⟨v, H', J3, rv, ev, q3⟩ := J.after z
      subst ev
      exact ⟨rv, V.ref (s.heap.objs.size + 1), H', J3, rfl, q3⟩
    | .ok .next, z => False.elim z
    | .ok .brk, z => False.elim z
    | .ok .cont, z => False.elim z))
end
end Z
namespace Y
open PySem PySem.Spec PyProof.Rows L2 Z
def DefAtK (K : Frg) (x qual : Str) (st : Stmt) (f : Addr) (kn : Str) (d : D) : Prop := ∃ fd v, L2.FunD K x qual (defArgs st) (defBody st) (defScope st) [] [(kn, v)] f fd ∧ ∀ ms F, Rp K ms F v d
/-- R with the last value d -/
def lastR (R : RdF) (d : D) : RdF := fun ds Q E => R (ds ++ [d]) Q E
section
variable {P : Program} {w : World} {K : Frg} {mg : Str → Option Value} {base : Heap}
end
section
variable {X : Cx} {B : Bs} {K : Frg} {ms : List Addr} {a b c e o e2 : Expr} {es : List Expr} {ra rb rc r ro r2 : Rd} {rt ru : RdT} {rl : RdA} {pos p0 apos kpos : Pos} {R : RdF} {k : Nat} {f g p : Addr} {x m : Str}
/-- C(e, kn = e2) -/
theorem y_makeK {C kn : Str} (M : Mk X.K (He.ga X.K C) f) (F : FnK X.prog X.w X.K X.mg X.base (L2.CX X.prog X.w) k f kn (spI X.K C R)) (hr : RoomG (k + 1) X.A) (hg : Gl X C) (hm : X.mg C = some (.ref (He.ga X.K C))) (hx : Px X B) (ha : PEp X B a ra) (h2 : PEp X B e2 r2)
    (hall : (backToKw pos (keywordEach [⟨some kn, e2, kpos⟩] X.env)).all (·.1.isSome) = true := by rfl) (hks : (backToKw pos (keywordEach [⟨some kn, e2, kpos⟩] X.env)).filterMap (·.1) = [kn] := by rfl) (hdb : (C == ("__debug__" : Str)) = false := by decide)
    (he : starEach [a] X.env = [(false, eval a X.env)] := by rfl) (hpl : ((backTo pos (starEach [a] X.env)).any (·.1) || (backToKw pos (keywordEach [⟨some kn, e2, kpos⟩] X.env)).any (·.1.isNone)) = false := by rfl) :
    PEp X B (.Call (.Name C p0) [a] [⟨some kn, e2, kpos⟩] pos) (fun ρ Q => ra ρ fun d => r2 ρ fun d2 => R [d, d2] Q B.Ed) := by
  refine ⟨fun pins s σ H Q I h => ?_⟩
  obtain ⟨F0, ρ, Qd, J, z, kk⟩ := h
  refine wpAny_Call_Name_kw (ld_glob I hg hm ?_ hdb)
  refine PySem.W.callWith_KW (h₀ := X.base) I.ok.mod.kin M.kp hall (thn ((pa_cons ha pa_nil he).run pos pins s σ H (fun vs H1 => ∃ F1 v d, vs = [v] ∧ Go B.ms F0 H F1 H1 ∧ Tp X.K B.ms F1 H1 ∧ Rp X.K B.ms F1 v d ∧ r2 ρ fun d2 => R [d, d2] Qd B.Ed) I ⟨F0, ρ, _, J, z, fun v F1 H1 d g1 t1 r1 z1 => ⟨F1, v, d, rfl, g1, t1, r1, z1⟩⟩) fun us s1 ⟨vs, H1, I1, rv, F1, v, d, ev, g1, t1, r1, q⟩ => ?_) hpl he
  subst ev
  refine thn ((pk_cons (kpos := kpos) (nm := some kn) h2 pk_nil).run pos pins s1 σ H1 (fun vs H2 => ∃ F2 v2 d2, vs = [v2] ∧ Go B.ms F1 H1 F2 H2 ∧ Tp X.K B.ms F2 H2 ∧ Rp X.K B.ms F2 v2 d2 ∧ R [d, d2] Qd B.Ed) I1 ⟨F1, ρ, _, J.step g1 t1, q, fun v2 F2 H2 d2 g2 t2 r2 z2 => ⟨F2, v2, d2, rfl, g2, t2, r2, z2⟩⟩) fun ws s2 ⟨zs, H2, I2, rz, F2, v2, d2, ez, g2, t2, r2', q2⟩ => ⟨I2.kIn, ?_⟩
  subst ez
  rw [hks]
  obtain ⟨u2, rfl, ru2⟩ := vals1 rz
  show wpAny _ _ (call (.ref (He.ga X.K C)) us [(kn, u2)]) _ _ _
  exact run_makeK M F hr hx I2 rv ru2 fun x dx n1 n2 n3 => spI_of [v, v2] H2 Q (sp_call J kk (g1.trans g2) t2 (.cons (r1.up g2.ff) (.one r2')) q2) x dx n1 n2 n3
/-! ### o[i], len(o) of own instances -/
def rIxO (C : Addr) (sp : Sp) (E : XK) : R2 := fun x y H Q => ∃ a dx fs, x = .ref a ∧ H a = some (.ins C dx fs) ∧ sp [x, y] H Q E
theorem gix_own {C : Addr} {sp : Sp} {E : XK} {CX : CXT} (hs : PySem.W.findIn X.K (.ref C) "__getitem__" = some (some (.ref g))) (hf : PySem.W.isFn X.K (.ref g) = true) (hfi : PySem.W.fnIn X.K g = true) (F : FnA X.A.in1 X.prog X.w X.K X.mg X.base CX g sp) (hx : Passes CX X E) {value slice : Expr}
    (hsl : ∀ a u, subscripted slice true (.ref a) u = runValue (.builtin "lifetime.subscript" ⟨[.ref a, u], []⟩)) {pins : List (Addr × Obj)} {s : Shared} {σ : L2.St} {H : Hp} {x y : V} {v u : Value} {Q : VK} (I : L2.Inv X pins σ H s) (rx : RelV x v) (ry : RelV y u) (h : rIxO C sp E x y H Q) :
    wpAny (model X.prog X.w) X.A (subscriptTail value slice v u) (EP X pins σ Q) X.xe s := by
  obtain ⟨a, dx, fs, rfl, ea, q⟩ := h
  obtain rfl : v = Value.ref a := rx
  obtain ⟨mA, O, _, _, _, _⟩ := ins_get I.hok ea
  obtain ⟨od, J, _⟩ := O.look
  obtain ⟨m, hF⟩ := I.fr
  exact PySem.W.sub_K hF I.ok.mod.kin J hs hfi hf (wpAny_call (run_A (us := [.ref a, u]) (vs := [.ref a, y]) F I.env0.in1 hx I (.cons rfl (.cons ry .nil)) q)) (hsl a u)
def iOf (d : D) (k : Prop) : Prop := match d with
  | .int i => (0 ≤ i ∧ i < 2 ^ 63) ∧ k
  | _ => False
/-! ### isinstance(x, (T1, T2)) -/
end
end Y
namespace Y
open PySem PySem.Spec PyProof.Rows L2 Z
/-! ### data without tapes -/
mutual
def noT : D → Bool
  | .lst ds => noTs ds
  | .tup ds => noTs ds
  | .obj _ _ ds => noTs ds
  | .dic _ ds => noTs ds
  | .dpl _ ds => noTs ds
  | .tape => false
  | _ => true
def noTs : List D → Bool
  | [] => true
  | d :: ds => noT d && noTs ds
end
section
variable {K : Frg} {ms ms' : List Addr} {F : Hp}
mutual
theorem Rp.noT : ∀ (d : D) (v : V), noT d = true → Rp K ms F v d → Rp K ms' F v d
  | .non, _, _, h => by cases h; exact .non
  | .bl b, _, _, h => by cases h; exact .bl b
  | .int i, _, _, h => by cases h; exact .int i
  | .str x, _, _, h => by cases h; exact .str x
  | .ty x, _, _, h => by cases h; exact .ty x
  | .glob x, _, _, h => by cases h; exact .glob x
  | .tape, _, n, _ => by cases n
  | .fn a, _, _, h => by cases h; exact .fn a
  | .lst ds, _, n, h => by cases h with | lst h1 h2 => exact .lst h1 (Rps.noT ds _ n h2)
  | .tup ds, _, n, h => by cases h with | tup h1 h2 => exact .tup h1 (Rps.noT ds _ n h2)
  | .obj c ns ds, _, n, h => by cases h with | obj h1 h2 h3 => exact .obj h1 h2 (Rps.noT ds _ n h3)
  | .dic ks ds, _, n, h => by cases h with | dic h1 h2 h3 => exact .dic h1 h2 (Rps.noT ds _ n h3)
  | .dpl ks ds, _, n, h => by cases h with | dpl h1 h2 h3 h4 h5 h6 h7 => exact .dpl h1 h2 h3 h4 h5 h6 (Rps.noT ds _ n h7)
theorem Rps.noT : ∀ (ds : List D) (vs : List V), noTs ds = true → Rps K ms F vs ds → Rps K ms' F vs ds
  | [], _, _, h => by cases h; exact .nil
  | d :: ds, _, n, h => by
    obtain ⟨n1, n2⟩ := He.ba (show (Y.noT d && noTs ds) = true from n)
    cases h with | cons h1 h2 => exact .cons (Rp.noT d _ n1 h1) (Rps.noT ds _ n2 h2)
end
end
/-! ### a def that gives a new list -/
section
variable {X : Cx} {B : Bs} {a b c e o : Expr} {es : List Expr} {ra rb rc r ro : Rd} {rt ru : RdT} {rl : RdA} {pos p0 apos : Pos} {R : RdF} {k : Nat} {f C g p : Addr} {x m : Str}
end
section
variable {P : Program} {w : World} {K : Frg} {mg : Str → Option Value} {base : Heap}
end
end Y
namespace Y
open PySem PySem.Spec PyProof.Rows L2 Z
/-! ### o.m.append(c), where o.m is a new list -/
section
variable {X : Cx} {B : Bs} {a b c e o : Expr} {r ro : Rd} {pos p0 apos cpos xpos : Pos} {R : RdF} {k : Nat} {f C g p : Addr} {x m : Str}
/-! ### join of lists and tuples -/
def dJoinZ (x y : D) (Q : D → Prop) : Prop := match x with
  | .str a => seqD y fun ds => (match strsOf ds with | some ys => (ys.map (·.length)).sum + ys.length * a.length ≤ 100000 ∧ Q (.str (Txt.join a ys)) | none => False)
  | _ => False
theorem y_joinZ (ho : PEp X B o ro) (he : PEp X B e r) (hs : starEach [e] X.env = [(false, eval e X.env)] := by rfl) (hbase : attributeBase o "join" X.env (eval o X.env) = eval o X.env := by rfl) (hline : (apos.endLine == pos.line) = true := by rfl) :
    PEp X B (.Call (.Attribute o "join" apos) [e] [] pos) (fun ρ Q => ro ρ fun x => isS x (r ρ fun y => dJoinZ x y Q)) := by
  refine pe_imp (pe_join ho he hs hbase hline) fun σ H Q ⟨F, ρ, Qd, I, z, k⟩ => ⟨F, ρ, _, I, z, fun v F1 H1 d g1 t1 r1 z1 => ?_⟩
  obtain ⟨⟨a, rfl⟩, z2⟩ := isS_of r1 z1
  cases r1
  refine ⟨⟨a, rfl⟩, F1, ρ, _, I.step g1 t1, z2, fun u F2 H2 d2 g2 t2 r2 z3 => ?_⟩
  change seqD d2 _ at z3
  unfold seqD at z3
  split at z3
  · split at z3
    · rename_i ys e
      obtain rfl := strsOf_map e
      cases r2 with
      | lst h1 h2 =>
        have e2 := h2.strs
        subst e2
        exact ⟨_, _, ys, rfl, rfl, .inl (SqL.of (t2.1 _ _ h1)), Nat.le_trans z3.1 (by decide), k _ F2 H2 _ (g1.trans g2) t2 (.str _) z3.2⟩
    · exact z3.elim
  · split at z3
    · rename_i ys e
      obtain rfl := strsOf_map e
      cases r2 with
      | tup h1 h2 =>
        have e2 := h2.strs
        subst e2
        exact ⟨_, _, ys, rfl, rfl, .inr (sqT t2.1 h1), Nat.le_trans z3.1 (by decide), k _ F2 H2 _ (g1.trans g2) t2 (.str _) z3.2⟩
    · exact z3.elim
  · exact z3.elim
end
section
variable {P : Program} {w : World} {K : Frg} {mg : Str → Option Value} {base : Heap}
end
/-! ### str of an int -/
/-! ### facts -/
def bFi (x f : Str) : Frg → Bool := fun K => PySem.W.fnIn K (He.ma K (He.ga K x) f)
theorem fi_of {K : Frg} {x f : Str} (h : bFi x f K = true) : PySem.W.fnIn K (He.ma K (He.ga K x) f) = true := h
theorem defK_of {K : Frg} {x qual kn : Str} {st : Stmt} {f : Addr} {v : V} {d : D} (h : ∃ fd, L2.FunD K x qual (defArgs st) (defBody st) (defScope st) [] [(kn, v)] f fd) (c : ∀ ms F, Rp K ms F v d) : DefAtK K x qual st f kn d := let ⟨fd, h⟩ := h; ⟨fd, v, h, c⟩
end Y
namespace Y
open PySem PySem.Spec PyProof.Rows L2 Z
/-! ### own dicts whose keys are tuples of ints -/
def lookI (kvs : List (List Int × D)) (k : List Int) : Option D := (kvs.find? fun kv => decide (kv.1 = k)).map (·.2)
def putI (kvs : List (List Int × D)) (k : List Int) (d : D) : List (List Int × D) := if (lookI kvs k).isSome then kvs.map (fun kv => if kv.1 = k then (kv.1, d) else kv) else kvs ++ [(k, d)]
def putX (xs : List (List Int × Addr × Value)) (k : List Int) (b : Addr) (u : Value) : List (List Int × Addr × Value) := if (xs.any fun x => decide (x.1 = k)) then xs.map (fun x => if x.1 = k then (x.1, x.2.1, u) else x) else xs ++ [(k, b, u)]
theorem any_find (xs : List (List Int × Addr × Value)) (k : List Int) : ((xs.find? fun x => decide (x.1 = k)).map (·.2)).isSome = xs.any fun x => decide (x.1 = k) := by
  rw [Option.isSome_map]
  induction xs with
  | nil => rfl
  | cons x xs ih =>
    rw [List.any_cons]
    by_cases e : x.1 = k
    · rw [List.find?_cons_of_pos (by exact decide_eq_true e), decide_eq_true e]; rfl
    · rw [List.find?_cons_of_neg (by simpa using e), decide_eq_false e, ih]; rfl
section
variable {K : Frg} {ms : List Addr} {F : Hp}
theorem DRl.len {kvs : List (List Int × D)} {xs : List (List Int × Addr × Value)} (h : DRl K ms F kvs xs) : kvs.length = xs.length := by
  induction h with
  | nil => rfl
  | cons _ _ _ _ ih => rw [List.length_cons, List.length_cons, ih]
theorem DRl.look {kvs : List (List Int × D)} {xs : List (List Int × Addr × Value)} (h : DRl K ms F kvs xs) (k : List Int) : (lookI kvs k = none ∧ xs.find? (fun x => decide (x.1 = k)) = none) ∨ ∃ d x v, lookI kvs k = some d ∧ xs.find? (fun x => decide (x.1 = k)) = some x ∧ RelV v x.2.2 ∧ Rp K ms F v d := by
  induction h with
  | nil => exact .inl ⟨rfl, rfl⟩
  | @cons k' b u v d kvs xs h1 h2 h3 _ ih =>
    by_cases e : k' = k
    · refine .inr ⟨d, (k', b, u), v, ?_, ?_, h2, h3⟩
      · unfold lookI; rw [List.find?_cons_of_pos (by exact decide_eq_true e)]; rfl
      · rw [List.find?_cons_of_pos (by exact decide_eq_true e)]
    · have e1 : lookI ((k', d) :: kvs) k = lookI kvs k := by unfold lookI; rw [List.find?_cons_of_neg (by simpa using e)]
      have e2 : ((k', b, u) :: xs).find? (fun x => decide (x.1 = k)) = xs.find? (fun x => decide (x.1 = k)) := by rw [List.find?_cons_of_neg (by simpa using e)]
      rw [e1, e2]
      exact ih
theorem DRl.some {kvs : List (List Int × D)} {xs : List (List Int × Addr × Value)} (h : DRl K ms F kvs xs) (k : List Int) : (lookI kvs k).isSome = xs.any fun x => decide (x.1 = k) := by
  rw [← any_find, Option.isSome_map]
  rcases h.look k with ⟨e1, e2⟩ | ⟨d, x, v, e1, e2, _⟩
  · rw [e1, e2]; rfl
  · rw [e1, e2]; rfl
theorem DRl.app {kvs kvs' : List (List Int × D)} {xs xs' : List (List Int × Addr × Value)} (h : DRl K ms F kvs xs) (h' : DRl K ms F kvs' xs') : DRl K ms F (kvs ++ kvs') (xs ++ xs') := by
  induction h with
  | nil => exact h'
  | cons a b c _ ih => exact .cons a b c ih
theorem DRl.mapPut {kvs : List (List Int × D)} {xs : List (List Int × Addr × Value)} {k : List Int} {u : Value} {v : V} {d : D} (h : DRl K ms F kvs xs) (hu : RelV v u) (hd : Rp K ms F v d) : DRl K ms F (kvs.map fun kv => if kv.1 = k then (kv.1, d) else kv) (xs.map fun x => if x.1 = k then (x.1, x.2.1, u) else x) := by
  induction h with
  | nil => exact .nil
  | @cons k' b' u' v' d' kvs xs h1 h2 h3 _ ih =>
    rw [List.map_cons, List.map_cons]
    by_cases e : k' = k
    · rw [if_pos e, if_pos e]
      exact .cons h1 hu hd ih
    · rw [if_neg e, if_neg e]
      exact .cons h1 h2 h3 ih
theorem DRl.put {kvs : List (List Int × D)} {xs : List (List Int × Addr × Value)} (h : DRl K ms F kvs xs) {k : List Int} {b : Addr} {u : Value} {v : V} {d : D} (hb : SqT K F b (k.map V.int)) (hu : RelV v u) (hd : Rp K ms F v d) : DRl K ms F (putI kvs k d) (putX xs k b u) := by
  unfold putI putX
  rw [h.some k]
  split
  · exact h.mapPut hu hd
  · exact h.app (.cons hb hu hd .nil)
end
section
variable {X : Cx} {B : Bs} {pins : List (Addr × Obj)} {σ : L2.St} {H F : Hp} {s : Shared}
end
/-! ### the rules -/
section
variable {X : Cx} {B : Bs} {e ev : Expr} {r rv : Rd} {pos p0 pv pos' tpos : Pos} {x : Str} {i k : Nat}
theorem up1 (hr : RoomG k X.A) : X.A.units + 1 < cLine := by have := hr.units; omega
end
end Y
namespace Y
open PySem PySem.Spec PyProof.Rows L2 Z
/-! ### own lists: pop, + , != [] -/
theorem Rps.last {K : Frg} {ms : List Addr} {F : Hp} : ∀ {vs : List V} {ds : List D}, Rps K ms F vs ds → Rps K ms F vs.dropLast ds.dropLast
  | _, _, .nil => .nil
  | _, _, .cons h .nil => .nil
  | _, _, .cons h (.cons h1 h2) => .cons h (Rps.last (.cons h1 h2))
def isLs (l : D) (k : Prop) : Prop := match l with
  | .lst _ => k
  | _ => False
def dIndex (l d : D) (Q : D → Prop) : Prop := match l with
  | .lst ds => ∃ (j : Nat) (z : D), (okD 8 (.lst ds) = true ∧ okD 8 d = true) ∧ ds[j]? = some z ∧ eqD z d = true ∧ (∀ (m : Nat) (z' : D), m < j → ds[m]? = some z' → eqD z' d = false) ∧ Q (.int (j : Nat))
  | _ => False
theorem pds_get : ∀ {ds : List D} {es : List PyData}, pds ds = some es → ∀ (j : Nat), (∀ z, ds[j]? = some z → ∃ e, pd z = some e ∧ es[j]? = some e) ∧ (∀ e, es[j]? = some e → ∃ z, ds[j]? = some z ∧ pd z = some e)
  | [], _, h, j => by
    cases h
    exact ⟨fun z h => by simp at h, fun e h => by simp at h⟩
  | d :: ds, _, h, j => by
    obtain ⟨a, r, h1, h2, rfl⟩ := pds_cons h
    cases j with
    | zero => exact ⟨fun z hz => by simp at hz; subst hz; exact ⟨a, h1, rfl⟩, fun e he => by simp at he; subst he; exact ⟨d, rfl, h1⟩⟩
    | succ j =>
      obtain ⟨p, q⟩ := pds_get h2 j
      exact ⟨fun z hz => by simp at hz; simpa using p z hz, fun e he => by simp at he; simpa using q e he⟩
section
variable {X : Cx} {B : Bs} {a b c e o : Expr} {ra rb r ro : Rd} {pos p0 apos cpos pv pos' lp : Pos} {x y : Str} {i j k : Nat}
end
end Y
namespace Y
open PySem PySem.Spec PyProof.Rows L2 Z
/-! ### a class and a subclass of it, with one == -/
structure Two (K : Frg) (C C' g : Addr) : Prop where
  s1 : PySem.W.findIn K (.ref C) "__eq__" = some (some (.ref g))
  s2 : PySem.W.findIn K (.ref C') "__eq__" = some (some (.ref g))
  fn : PySem.W.isFn K (.ref g) = true
  n1 : PySem.W.findIn K (.ref C) "__ne__" = some (some (.builtin "object.__ne__"))
  n2 : PySem.W.findIn K (.ref C') "__ne__" = some (some (.builtin "object.__ne__"))
  o1 : PySem.W.mroIn K C (.type "object") = some true
  o2 : PySem.W.mroIn K C' (.type "object") = some true
  su : PySem.W.subIn K (.ref C') (.ref C) = some true
  nf : PySem.W.notFirst K C' (.ref C) = true
  ne : C ≠ C'
def bTwo (x y : Str) : Frg → Bool := fun K => He.eqO (PySem.W.findIn K (.ref (He.ga K x)) "__eq__") (some (some (.ref (He.ma K (He.ga K x) "__eq__")))) && (He.eqO (PySem.W.findIn K (.ref (He.ga K y)) "__eq__") (some (some (.ref (He.ma K (He.ga K x) "__eq__")))) &&
  (PySem.W.isFn K (.ref (He.ma K (He.ga K x) "__eq__")) && (He.eqO (PySem.W.findIn K (.ref (He.ga K x)) "__ne__") (some (some (.builtin "object.__ne__"))) && (He.eqO (PySem.W.findIn K (.ref (He.ga K y)) "__ne__") (some (some (.builtin "object.__ne__"))) &&
  (decide (PySem.W.mroIn K (He.ga K x) (.type "object") = some true) && (decide (PySem.W.mroIn K (He.ga K y) (.type "object") = some true) && (decide (PySem.W.subIn K (.ref (He.ga K y)) (.ref (He.ga K x)) = some true) && (PySem.W.notFirst K (He.ga K y) (.ref (He.ga K x)) && decide (He.ga K x ≠ He.ga K y)))))))))
theorem two_of {K : Frg} {x y : Str} (h : bTwo x y K = true) : Two K (He.ga K x) (He.ga K y) (He.ma K (He.ga K x) "__eq__") := by
  obtain ⟨h1, h⟩ := He.ba h
  obtain ⟨h2, h⟩ := He.ba h
  obtain ⟨h3, h⟩ := He.ba h
  obtain ⟨h4, h⟩ := He.ba h
  obtain ⟨h5, h⟩ := He.ba h
  obtain ⟨h6, h⟩ := He.ba h
  obtain ⟨h7, h⟩ := He.ba h
  obtain ⟨h8, h⟩ := He.ba h
  obtain ⟨h9, h10⟩ := He.ba h
  exact ⟨He.eqO_ok h1, He.eqO_ok h2, h3, He.eqO_ok h4, He.eqO_ok h5, of_decide_eq_true h6, of_decide_eq_true h7, of_decide_eq_true h8, h9, of_decide_eq_true h10⟩
def bMeth2 (x y m : Str) : Frg → Bool := fun K => bMeth x m K && decide (He.ma K (He.ga K x) m = He.ma K (He.ga K y) m)
theorem meth2_of {K : Frg} {x y m : Str} (h : bMeth2 x y m K = true) : Meth K (He.ga K x) m (He.ma K (He.ga K y) m) := by
  obtain ⟨h1, h2⟩ := He.ba h
  rw [← of_decide_eq_true h2]
  exact meth_of h1
def bProp2 (x y f : Str) : Frg → Bool := fun K => bProp x f K && (decide (He.ma K (He.ga K x) f = He.ma K (He.ga K y) f) && decide (He5.wf K (He.ga K x) "property" f = He5.wf K (He.ga K y) "property" f))
theorem prop2_of {K : Frg} {x y f : Str} (h : bProp2 x y f K = true) : PropOf K (He.ga K x) f (He.ma K (He.ga K y) f) (He5.wf K (He.ga K y) "property" f) := by
  obtain ⟨h1, h⟩ := He.ba h
  obtain ⟨h2, h3⟩ := He.ba h
  rw [← of_decide_eq_true h2, ← of_decide_eq_true h3]
  exact prop_of h1
def bKt (x y : Str) (b : Bool) : Frg → Bool := fun K => decide (PySem.W.kitOne K (.ref (He.ga K x)) (.ref (He.ga K y)) = some b)
theorem kt_of {K : Frg} {x y : Str} {b : Bool} (h : bKt x y b K = true) : PySem.W.kitOne K (.ref (He.ga K x)) (.ref (He.ga K y)) = some b := of_decide_eq_true h
def bNf (x y : Str) : Frg → Bool := fun K => PySem.W.notFirst K (He.ga K x) (.ref (He.ga K y))
theorem nf_of {K : Frg} {x y : Str} (h : bNf x y K = true) : PySem.W.notFirst K (He.ga K x) (.ref (He.ga K y)) = true := h
def rEqT (neg : Bool) (K : PySem.W.Frag) (C C' : Addr) (sp : Sp) (E : XK) : R2 := fun x y H Q => ∃ a dx fs c, x = .ref a ∧ H a = some (.ins c dx fs) ∧ (c = C ∨ c = C') ∧
  ((∃ t, TyX K H y t ∧ PySem.W.notFirst K c t = true ∧ sp [.ref a, y] H (fun v H' => ∃ b, v = .bl b ∧ Q (.bl (if neg then !b else b)) H') E) ∨
   (c = C ∧ ∃ b dy gs, y = .ref b ∧ H b = some (.ins C' dy gs) ∧ sp [.ref b, .ref a] H (fun v H' => ∃ b, v = .bl b ∧ Q (.bl (if neg then !b else b)) H') E))
section
variable {X : Cx} {CX : CXT} {k : Nat} {g C C' : Addr} {sp : Sp} {E : XK}
theorem gop_eqT (W : Two X.K C C' g) (F : FnA X.A X.prog X.w X.K X.mg X.base CX g sp) (hu : X.A.units + 64 < cLine) (hx : Passes CX X E) : OpR X (compareOp .Eq) (rEqT false X.K C C' sp E) := by
  intro pins s σ H x y v u Q I rx ry h
  obtain ⟨a, dx, fs, c, rfl, ea, hc, h⟩ := h
  rcases h with ⟨t, ty, hn, q⟩ | ⟨rfl, b, dy, gs, rfl, eb, q⟩
  · rcases hc with rfl | rfl
    · exact gop_eq W.s1 W.fn F hu hx pins s σ H _ y v u Q I rx ry ⟨a, dx, fs, t, rfl, ea, ty, hn, q⟩
    · exact gop_eq W.s2 W.fn F hu hx pins s σ H _ y v u Q I rx ry ⟨a, dx, fs, t, rfl, ea, ty, hn, q⟩
  · cases (show v = Value.ref a from rx)
    cases (show u = Value.ref b from ry)
    obtain ⟨mA, O, _, _, _, _⟩ := ins_get I.hok ea
    obtain ⟨od, J, _⟩ := O.look
    obtain ⟨mB, O', _, _, _, _⟩ := ins_get I.hok eb
    obtain ⟨od', J', _⟩ := O'.look
    have one : wpAny (model X.prog X.w) X.A (tryCompare (.ref b) "__eq__" (.ref a)) (fun r s' => ∃ b, r = some b ∧ EP X pins σ Q b s') X.xe s := by
      unfold tryCompare
      refine wpAny_bind (PySem.W.ifBound_K I.kIn J' W.s2 W.fn ?_)
      refine wpAny_mono (wpAny_call (run_fnA (us := [.ref b, .ref a]) (vs := [.ref b, .ref a]) F hx I (.cons rfl (.cons rfl .nil)) q)) (fun w s' z => ?_) fun _ _ x => x
      obtain ⟨z', H', I', rz, b, rfl, qz⟩ := z
      cases (show w = Value.bool b from rz)
      exact wpAny_pure ⟨_, rfl, .bl b, H', I', rfl, qz⟩
    show wpAny (model X.prog X.w) X.A (richCompare .Eq (.ref a) (.ref b)) (EP X pins σ Q) X.xe s
    unfold richCompare
    simp only [oneThing_ref]
    refine wpAny_holding (wpAny_bind (wpAny_cRoomFor (by omega) ?_))
    refine wpAny_bind (J.type.here (wpAny_bind (J'.type.here ?_)))
    split
    · refine wpAny_bind ((PySem.W.looks_subIn I.kIn W.su).here ?_)
      simp only [if_true]
      refine wpAny_bind (wpAny_mono one (fun r s' z => ?_) fun _ _ e => e)
      obtain ⟨v, rfl, hq⟩ := z
      exact wpAny_bind (wpAny_rule (wpAny_pure hq))
    · rename_i q
      exact absurd (by simpa using q) W.ne
theorem gop_neT (W : Two X.K C C' g) (F : FnA X.A.in1 X.prog X.w X.K X.mg X.base CX g sp) (hu : X.A.units + 64 < cLine) (hx : Passes CX X E) : OpR X (compareOp .NotEq) (rEqT true X.K C C' sp E) := by
  intro pins s σ H x y v u Q I rx ry h
  obtain ⟨a, dx, fs, c, rfl, ea, hc, h⟩ := h
  rcases h with ⟨t, ty, hn, q⟩ | ⟨rfl, b, dy, gs, rfl, eb, q⟩
  · rcases hc with rfl | rfl
    · exact gop_ne W.n1 W.o1 W.s1 W.fn F hu hx pins s σ H _ y v u Q I rx ry ⟨a, dx, fs, t, rfl, ea, ty, hn, q⟩
    · exact gop_ne W.n2 W.o2 W.s2 W.fn F hu hx pins s σ H _ y v u Q I rx ry ⟨a, dx, fs, t, rfl, ea, ty, hn, q⟩
  · cases (show v = Value.ref a from rx)
    cases (show u = Value.ref b from ry)
    obtain ⟨mA, O, _, _, _, _⟩ := ins_get I.hok ea
    obtain ⟨od, J, _⟩ := O.look
    obtain ⟨mB, O', _, _, _, _⟩ := ins_get I.hok eb
    obtain ⟨od', J', _⟩ := O'.look
    have one : wpAny (model X.prog X.w) X.A (tryCompare (.ref b) "__ne__" (.ref a)) (fun r s' => ∃ b, r = some b ∧ EP X pins σ Q b s') X.xe s := by
      refine ne_try (by omega) I.kIn J' W.n2 W.o2 W.s2 W.fn ?_
      refine codeAny_mono (run_A (us := [.ref b, .ref a]) (vs := [.ref b, .ref a]) F I.env0.in1 hx I (.cons rfl (.cons rfl .nil)) q) fun r s' z => ?_
      cases r with
      | error e => exact z
      | ok fl =>
        cases fl with
        | ret w =>
          obtain ⟨z', H', I', rz, b, rfl, qz⟩ := z
          cases (show w = Value.bool b from rz)
          exact ⟨b, rfl, _, rfl, .bl (!b), H', I', rfl, qz⟩
        | next => exact z
        | brk => exact z
        | cont => exact z
    show wpAny (model X.prog X.w) X.A (richCompare .NotEq (.ref a) (.ref b)) (EP X pins σ Q) X.xe s
    unfold richCompare
    simp only [oneThing_ref]
    refine wpAny_holding (wpAny_bind (wpAny_cRoomFor (by omega) ?_))
    refine wpAny_bind (J.type.here (wpAny_bind (J'.type.here ?_)))
    split
    · refine wpAny_bind ((PySem.W.looks_subIn I.kIn W.su).here ?_)
      simp only [if_true]
      refine wpAny_bind (wpAny_mono one (fun r s' z => ?_) fun _ _ e => e)
      obtain ⟨v, rfl, hq⟩ := z
      exact wpAny_bind (wpAny_rule (wpAny_pure hq))
    · rename_i q
      exact absurd (by simpa using q) W.ne
end
section
variable {K : Frg} {B : Bs} {R : RdF}
/-- == and != of a class or its subclass: the right one any value with a type that is known -/
def dEqT (B : Bs) (R : RdF) (neg : Bool) (C C' : Str) (ns cs : List Str) (x y : D) (Q : D → Prop) : Prop := asO [C, C'] ns x ((match y with | .obj c _ _ => c ∈ C :: C' :: cs | .ty _ | .glob _ | .tape | .fn _ | .dpl _ _ => False | _ => True) ∧ R [x, y] (fun d => tst d fun b => Q (.bl (neg != b))) B.Ed)
theorem eqTL {C C' : Str} {ns cs : List Str} {neg : Bool} {g : Addr} (W : Two K (He.ga K C) (He.ga K C') g) (hC : OwnC K C) (hC' : OwnC K C') (hc : ∀ c ∈ cs, OwnC K c ∧ PySem.W.notFirst K (He.ga K C) (.ref (He.ga K c)) = true ∧ PySem.W.notFirst K (He.ga K C') (.ref (He.ga K c)) = true)
    (hs : ∀ x y Q E, R [x, y] Q E → ∀ ns ds, y = .obj C' ns ds → R [y, x] Q E) : OpI K B (rEqT neg K (He.ga K C) (He.ga K C') (spP K R) (EE K B)) (dEqT B R neg C C' ns cs) := by
  intro F H x y dx dy Qd Q g0 t0 rx ry h k
  obtain ⟨a, d1, f1, c1, rfl, hc1, h1, ht, hh⟩ := asO_of rx h
  have fin : ∀ v F' H' d, Go B.ms F H F' H' → Tp K B.ms F' H' → Rp K B.ms F' v d → (tst d fun b => Qd (.bl (neg != b))) → ∃ b, v = .bl b ∧ Q (.bl (if neg then !b else b)) H' := fun v F' H' d g t r q => by
    unfold tst at q
    split at q
    · cases r
      refine ⟨_, rfl, k _ F' H' _ g t (.bl _) ?_⟩
      cases neg <;> simpa using q
    · exact q.elim
  have c2 : He.ga K c1 = He.ga K C ∨ He.ga K c1 = He.ga K C' := by
    rcases List.mem_cons.mp hc1 with z | z
    · exact .inl (by rw [z])
    rcases List.mem_cons.mp z with z | z
    · exact .inr (by rw [z])
    cases z
  have main : ∀ t, TyX K H y t → PySem.W.notFirst K (He.ga K c1) t = true → rEqT neg K (He.ga K C) (He.ga K C') (spP K R) (EE K B) (.ref a) y H Q := fun t ty nf =>
    ⟨a, d1, f1, _, rfl, t0.1 _ _ h1, c2, .inl ⟨t, ty, nf, sp_callG g0 t0 (.cons rx (.cons ry .nil)) fin hh⟩⟩
  have bt : ∀ n ∈ ["NoneType", "bool", "int", "str", "list", "tuple", "dict"], PySem.W.notFirst K (He.ga K c1) (.type n) = true := fun n hn => by
    rcases List.mem_cons.mp hc1 with rfl | hc1
    · exact hC.2.nf n hn
    rcases List.mem_cons.mp hc1 with rfl | hc1
    · exact hC'.2.nf n hn
    cases hc1
  cases dy with
  | obj c ns' ds' =>
    have ht' : c ∈ C :: C' :: cs := ht
    clear ht
    rcases List.mem_cons.mp ht' with rfl | ht
    · refine main _ (tyX_of ry t0.1 rfl (fun _ _ _ z => by cases z; exact hC)) ?_
      rcases List.mem_cons.mp hc1 with rfl | hc1
      · exact nf_self
      rcases List.mem_cons.mp hc1 with rfl | hc1
      · exact W.nf
      cases hc1
    clear ht'
    rcases List.mem_cons.mp ht with rfl | ht'
    · rcases List.mem_cons.mp hc1 with rfl | hc1
      · cases ry with
        | @obj b dy _ _ vs _ p1 p2 p3 =>
          refine ⟨a, d1, f1, _, rfl, t0.1 _ _ h1, .inl rfl, .inr ⟨rfl, b, dy, _, rfl, t0.1 _ _ p1, sp_callG g0 t0 (.cons (.obj p1 p2 p3) (.cons rx .nil)) fin (hs _ _ _ _ hh _ _ rfl)⟩⟩
      rcases List.mem_cons.mp hc1 with rfl | hc1
      · exact main _ (tyX_of ry t0.1 rfl (fun _ _ _ z => by cases z; exact hC')) nf_self
      cases hc1
    · refine main _ (tyX_of ry t0.1 rfl (fun _ _ _ z => by cases z; exact (hc _ ht').1)) ?_
      rcases List.mem_cons.mp hc1 with rfl | hc1
      · exact (hc _ ht').2.1
      rcases List.mem_cons.mp hc1 with rfl | hc1
      · exact (hc _ ht').2.2
      cases hc1
  | non => exact main _ (tyX_of ry t0.1 rfl (fun _ _ _ z => nomatch z)) (bt _ (by decide))
  | bl _ => exact main _ (tyX_of ry t0.1 rfl (fun _ _ _ z => nomatch z)) (bt _ (by decide))
  | int _ => exact main _ (tyX_of ry t0.1 rfl (fun _ _ _ z => nomatch z)) (bt _ (by decide))
  | str _ => exact main _ (tyX_of ry t0.1 rfl (fun _ _ _ z => nomatch z)) (bt _ (by decide))
  | lst _ => exact main _ (tyX_of ry t0.1 rfl (fun _ _ _ z => nomatch z)) (bt _ (by decide))
  | tup _ => exact main _ (tyX_of ry t0.1 rfl (fun _ _ _ z => nomatch z)) (bt _ (by decide))
  | dic _ _ => exact main _ (tyX_of ry t0.1 rfl (fun _ _ _ z => nomatch z)) (bt _ (by decide))
  | ty _ => exact ht.elim
  | glob _ => exact ht.elim
  | tape => exact ht.elim
  | fn _ => exact ht.elim
  | dpl _ _ => exact ht.elim
end
section
variable {X : Cx} {B : Bs} {K : Frg} {ms : List Addr} {a b c e o e2 : Expr} {es : List Expr} {ra rb rc r ro r2 : Rd} {rt ru : RdT} {rl : RdA} {pos p0 apos kpos : Pos} {R : RdF} {k : Nat} {f g p : Addr} {x m : Str}
/-! ### o[i], len(o), repr(o) of instances of some classes with one method -/
theorem y_ixOs {cs ns : List Str} (hs : ∀ C ∈ cs, PySem.W.findIn X.K (.ref (He.ga X.K C)) "__getitem__" = some (some (.ref g))) (hf : PySem.W.isFn X.K (.ref g) = true) (hfi : PySem.W.fnIn X.K g = true) (hr : RoomG (k + 1) X.A) (F : FnG X.prog X.w X.K X.mg X.base (L2.CX X.prog X.w) k g (spP X.K R)) (hx : Px X B) (ha : PEp X B a ra) (hb : PEp X B b rb)
    (hsl : ∀ a u, subscripted b true (.ref a) u = runValue (.builtin "lifetime.subscript" ⟨[.ref a, u], []⟩) := by intro _ _; with_unfolding_all rfl) :
    PEp X B (.Subscript a b pos) (fun ρ Q => ra ρ fun x => rb ρ fun y => asO cs ns x (R [x, y] Q B.Ed)) := by
  refine ⟨fun pins s σ H Q I h => ?_⟩
  obtain ⟨F0, ρ, Qd, J, z, kk⟩ := h
  refine Subscript_ (binT ha hb I (R := fun x y H2 => ∃ C ∈ cs, rIxO (He.ga X.K C) (spP X.K R) (EE X.K B) x y H2 Q) ⟨F0, ρ, _, J, z, fun v F1 H1 d g1 t1 r1 z1 => ⟨F1, ρ, _, J.step g1 t1, z1, fun v2 F2 H2 d2 g2 t2 r2 z2 => ?_⟩⟩ fun v u s2 x y H2 I2 rx ry ⟨C, hC, q⟩ => gix_own (hs C hC) hf hfi (F.at hr.in1) hx hsl I2 rx ry q)
  obtain ⟨a, d1, f1, c1, rfl, hc1, h1, hh⟩ := asO_of (r1.up g2.ff) z2
  exact ⟨c1, hc1, a, d1, f1, rfl, t2.1 _ _ h1, sp_call J kk (g1.trans g2) t2 (.cons (r1.up g2.ff) (.one r2)) hh⟩
theorem y_lenOs {cs ns : List Str} (hs : ∀ C ∈ cs, PySem.W.findIn X.K (.ref (He.ga X.K C)) "__len__" = some (some (.ref g))) (hf : PySem.W.isFn X.K (.ref g) = true) (hr : RoomG (k + 1) X.A) (F : FnG X.prog X.w X.K X.mg X.base (L2.CX X.prog X.w) k g (spP X.K R)) (hx : Px X B) (hg : Gl X "len") (hm : X.mg "len" = none) (ha : PEp X B a ra)
    (h1 : starEach [a] X.env = [(false, eval a X.env)] := by rfl) : PEp X B (.Call (.Name "len" p0) [a] [] pos) (fun ρ Q => ra ρ fun d => asO cs ns d (R [d] (fun y => iOf y (Q y)) B.Ed)) := by
  have hc : CallR X (.builtin "len") (fun xs H Q => ∃ C ∈ cs, ∃ a dx fs, xs = [.ref a] ∧ H a = some (.ins (He.ga X.K C) dx fs) ∧ spP X.K R [.ref a] H (fun v H' => ∃ i : Int, v = .int i ∧ (0 ≤ i ∧ i < 2 ^ 63) ∧ Q v H') (EE X.K B)) := by
    intro pins s σ H xs us Q I r h
    obtain ⟨C, hC, a, dx, fs, rfl, ea, q⟩ := h
    obtain ⟨u, rfl, ru⟩ := vals1 r
    obtain rfl : u = Value.ref a := ru
    obtain ⟨mA, O, _, _, _, _⟩ := ins_get I.hok ea
    obtain ⟨od, J, _⟩ := O.look
    obtain ⟨m, hF⟩ := I.fr
    refine PySem.W.len_K hF I.ok.mod.kin J (hs C hC) hf ?_
    refine wpAny_mono (wpAny_call (run_A (us := [.ref a]) (vs := [.ref a]) (F.at hr.in1) I.env0.in1 hx I (.cons rfl .nil) q)) (fun w s' z => ?_) fun _ _ x => x
    obtain ⟨z', H', I', rz, i, rfl, hi, qz⟩ := z
    obtain ⟨t, rfl⟩ := (show ∃ t, w = Value.int i t from rz)
    exact ⟨hi, .int i, H', I'.tok _, ⟨_, rfl⟩, qz⟩
  exact pe_imp (pe_callB hc hg hm (by decide +kernel) (pa_cons ha pa_nil h1) (by decide) (by decide) h1 rfl) fun σ H Q ⟨F0, ρ, Qd, I, z, kk⟩ => ⟨F0, ρ, _, I, z, fun v F1 H1 d g1 t1 r1 z1 => by
    obtain ⟨a, d1, f1, c1, rfl, hc1, h1, hh⟩ := asO_of r1 z1
    refine ⟨c1, hc1, a, d1, f1, rfl, t1.1 _ _ h1, sp_call I (fun v F2 H2 d2 g2 t2 r2 q2 => ?_) g1 t1 (.cons r1 .nil) hh⟩
    unfold iOf at q2
    split at q2
    · cases r2
      exact ⟨_, rfl, q2.1, kk _ F2 H2 _ g2 t2 (.int _) q2.2⟩
    · exact q2.elim⟩
end
end Y
namespace Z
open PySem PySem.Spec PyProof.Rows L2
open PySem.W
section
variable {prog : Program} {w : World} {A : Around} {E : Value → Shared → Prop} {s : Shared} {K : Frg} {x C C' L f f' : Addr} {h₀ : Heap} {m : Str → Option Value} {ox : Obj} {od : Option Obj} {T : String}
/-- a op b, b of a built-in type, however it is told -/
theorem binop_T {op : Operator} {b : Value} {fo ro rc : Option Value} {Q : Value → Shared → Prop} (F : Fr h₀ L s.heap m) (X₀ : K.In h₀) (I : InstAt s.heap x ox C od) (hb : Looks (model prog w) s.heap (typeOf b) (.type T)) (hc : selfFirst K C = true)
    (hs : findIn K (.ref C) (PySem.dunder op.info.2) = some (some (.ref f))) (hf : isFn K (.ref f) = true) (hr : findIn K (.ref C) (dunderR op.info.2) = some rc) (hp : rc = none ∨ ∃ g : Addr, rc = some (.ref g))
    (h1 : findIn K (.type T) (PySem.dunder op.info.2) = some fo) (h2 : findIn K (.type T) (dunderR op.info.2) = some ro) (hsub : subIn K (.type T) (.ref C) = some false)
    (h : wpAny (model prog w) A (call (.ref f) [.ref x, b]) (PySem.W.CmpBack Q) E s) : wpAny (model prog w) A (binaryOp op (.ref x) b) Q E s := by
  have X := X₀.keeps F.keep
  obtain ⟨cd, rest, hcd, hm⟩ := ksp_first hc
  rcases hi : op.info with ⟨sym, nm'⟩
  rw [hi] at hs hr h1 h2
  dsimp only at hs hr h1 h2
  have one := ksp_try X I hs hf h
  obtain ⟨hh, g, d, tt, os⟩ := s
  have L1 : Looks (model prog w) hh (typeOf (.ref x)) (.ref C) := I.type
  have L2 : Looks (model prog w) hh (typeOf b) (.type T) := hb
  have L3 : Looks (model prog w) hh (fillsNumberSlot (.ref C) nm') true := fills_K X hcd hm hs
  have L4 : Looks (model prog w) hh (fillsNumberSlot (.type T) nm') ((fo.isSome && !isSeqSlot fo) || (ro.isSome && !isSeqSlot ro)) := ksp_fillsT X h1 h2
  have L5 : Looks (model prog w) hh (isSubtype (.type T) (.ref C)) false := looks_subIn X hsub
  have L6 : Looks (model prog w) hh (numberSlotInPython (.ref C) nm') true := ksp_inPy X hs hr hp
  have L7 : Looks (model prog w) hh (numberSlotInPython (.type T) nm') false := Looks.of_pure rfl
  have L8 : Looks (model prog w) hh (typeLookup (.type T) (dunderR nm')) ro := looks_findIn X h2
  generalize ((fo.isSome && !isSeqSlot fo) || (ro.isSome && !isSeqSlot ro)) = right at L4
  have hne : (Value.ref C == Value.type T) = false := Bool.eq_false_iff.mpr fun q => by cases beq_iff_eq.mp q
  simp only [binaryOp, hi]
  refine wpAny_holding (wpAny_bind ?_)
  unfold binaryOp1
  refine wpAny_bind (L1.at (wpAny_bind (L2.at (wpAny_bind (L3.at ?_)))))
  simp only [hne, Bool.false_eq_true, if_false]
  cases right with
  | false =>
    ksp_lk
    refine wpAny_mono one (fun r s' hr' => ?_) fun _ _ e => e
    obtain ⟨v, rfl, hq⟩ := hr'
    ksp_lk
    exact hq
  | true =>
    ksp_lk
    refine wpAny_mono one (fun r s' hr' => ?_) fun _ _ e => e
    obtain ⟨v, rfl, hq⟩ := hr'
    ksp_lk
    exact hq
end
section
variable {X : Cx} {CX : CXT} {k : Nat} {f C C' p g g' : Addr} {sp : Sp} {E : XK} {T : String}
def rBinT (K : Frg) (C : Addr) (T : String) (sp : Sp) (E : XK) : R2 := fun x y H Q => ∃ a dx fs, x = .ref a ∧ H a = some (.ins C dx fs) ∧ TyX K H y (.type T) ∧ sp [x, y] H Q E
theorem gop_binT {op : Operator} (b2 : BinT X.K op.info.2 C T) (hs : PySem.W.findIn X.K (.ref C) (PySem.dunder op.info.2) = some (some (.ref g))) (hf : PySem.W.isFn X.K (.ref g) = true) (F : FnA X.A X.prog X.w X.K X.mg X.base CX g sp) (hx : Passes CX X E) : OpR X (binaryOp op) (rBinT X.K C T sp E) := by
  intro pins s σ H x y v u Q I rx ry h
  obtain ⟨a, dx, fs, rfl, ea, ty, q⟩ := h
  cases (show v = Value.ref a from rx)
  obtain ⟨mA, O, _, _, _, _⟩ := ins_get I.hok ea
  obtain ⟨od, J, _⟩ := O.look
  obtain ⟨m, hF⟩ := I.fr
  obtain ⟨rc, r1, r2⟩ := b2.hr
  obtain ⟨fo, h1⟩ := b2.h1
  obtain ⟨ro, h2⟩ := b2.h2
  obtain ⟨P, kx, hP, _⟩ := kit_of I ry ty
  refine binop_T hF I.ok.mod.kin J (kx.ty _ _ I.kIn hP) b2.hc hs hf r1 r2 h1 h2 b2.hsub ?_
  refine wpAny_mono (wpAny_call (run_fnA (us := [.ref a, u]) (vs := [.ref a, y]) F hx I (.cons rfl (.cons ry .nil)) q)) (fun w s' z => ?_) fun _ _ x => x
  obtain ⟨z', H', I', rz, qz⟩ := z
  exact SlX.cmpback rz ⟨z', H', I', rz, qz⟩
end
def bBinT (x : Str) (T : String) (nm : String) : Frg → Bool := fun K => rcB K (He.ga K x) nm && ((PySem.W.findIn K (.type T) (PySem.dunder nm)).isSome && ((PySem.W.findIn K (.type T) (dunderR nm)).isSome && (selfFirst K (He.ga K x) && decide (subIn K (.type T) (.ref (He.ga K x)) = some false))))
theorem binT_of {K : Frg} {x : Str} {T nm : String} (h : bBinT x T nm K = true) : BinT K nm (He.ga K x) T := by
  obtain ⟨h1, h⟩ := He.ba h
  obtain ⟨h2, h⟩ := He.ba h
  obtain ⟨h3, h⟩ := He.ba h
  obtain ⟨h4, h5⟩ := He.ba h
  exact ⟨rcB_ok h1, Option.isSome_iff_exists.mp h2, Option.isSome_iff_exists.mp h3, h4, of_decide_eq_true h5⟩
end Z
namespace Y
open PySem PySem.Spec PyProof.Rows L2 Z
section
variable {X : Cx} {B : Bs} {K : Frg} {R : RdF}
/-- a class or its subclass, op a tuple -/
def isTp (d : D) (k : Prop) : Prop := match d with
  | .tup _ => k
  | _ => False
def dBinTs (B : Bs) (R : RdF) (cs : List Str) (ns : List Str) (x y : D) (Q : D → Prop) : Prop := asO cs ns x (isTp y (R [x, y] Q B.Ed))
theorem binTsL {C D' : Str} {ns : List Str} : OpI K B (fun x y H Q => rBinT K (He.ga K C) "tuple" (spP K R) (EE K B) x y H Q ∨ rBinT K (He.ga K D') "tuple" (spP K R) (EE K B) x y H Q) (dBinTs B R [C, D'] ns) := by
  intro F H x y dx dy Qd Q g0 t0 rx ry h k
  obtain ⟨a, d1, f1, c1, rfl, hc1, h1, hh⟩ := asO_of rx h
  unfold isTp at hh
  split at hh
  · rename_i ds
    cases ry with
    | @tup b vs _ h2 h3 =>
      have ty := tyT (sqT t0.1 h2)
      rcases List.mem_cons.mp hc1 with e1 | hc1
      · subst e1
        exact .inl ⟨a, d1, f1, rfl, t0.1 _ _ h1, ty, sp_callG g0 t0 (.cons rx (.cons (.tup h2 h3) .nil)) k hh⟩
      · have e1 : c1 = D' := by simpa using hc1
        subst e1
        exact .inr ⟨a, d1, f1, rfl, t0.1 _ _ h1, ty, sp_callG g0 t0 (.cons rx (.cons (.tup h2 h3) .nil)) k hh⟩
  · exact hh.elim
end
end Y
namespace GX
open PySem
/-! ### a run that never wakes a generator leaves it as it was -/
theorem no_run {M : Model} {w : String} {Γ : Ctx} {p : Pos} {fs : List Frame} {s s' : Shared} {e : End} (h : Runs M Γ p (.unsupported w) fs s e s') : False := by
  generalize ht : (Sem.unsupported w : Sem Fin) = t at h
  induction h with
  | segRet _ _ ih _ => exact ih ht
  | segGen _ _ ih _ => exact ih ht
  | segSuspOut _ _ ih => exact ih ht
  | segSuspGen _ _ _ _ ih _ => exact ih ht
  | _ => cases ht
theorem split_ret {k : Result → Sem Fin} {h : Option Value} {g : Bool} {l : List Value} {c : Code} {p : Pos} {kp : List Value} {fs : List Frame} (q : splitAtGen (.ret k h g l c p kp :: fs) = none) : splitAtGen fs = none := by
  unfold splitAtGen at q
  simpa using q
theorem split_app : ∀ {fs gs : List Frame}, splitAtGen fs = none → splitAtGen gs = none → splitAtGen (fs ++ gs) = none
  | [], _, _, h => h
  | .ret k hh g l c p kp :: fs, gs, q, h => by
    have := split_app (split_ret q) h
    show splitAtGen (.ret k hh g l c p kp :: (fs ++ gs)) = none
    unfold splitAtGen
    simpa using this
  | .gen .. :: fs, gs, q, _ => by unfold splitAtGen at q; cases q
def GOk : GenState → Prop
  | .suspended _ _ _ _ fs _ => splitAtGen fs = none
  | _ => True
def EOk : End → Prop
  | .susp _ _ _ _ _ _ fs => splitAtGen fs = none
  | _ => True
theorem EOk.gen {e : End} (h : EOk e) : GOk e.genState := by
  cases e with
  | ret _ => trivial
  | susp => exact h
def IsDead (d : GenState) : Prop := ∃ l c p fs cl, d = .suspended (fun _ => .unsupported "dead") l c p fs cl
/-- what a run sees, and what truly stands there -/
inductive Pr : GenState → GenState → Prop
  | same (x : GenState) : GOk x → Pr x x
  | dead {l l' : List Value} {c : Code} {p : Pos} {fs fs' : List Frame} {cl : Bool} {k : Resume → Sem Fin} : splitAtGen fs = none → fs.map Frame.where_ = fs'.map Frame.where_ → Pr (.suspended (fun _ => .unsupported "dead") l c p fs cl) (.suspended k l' c p fs' cl)
theorem Pr.seen {x y : GenState} (h : Pr x y) : x.seen = y.seen := by
  cases h with
  | same => rfl
  | dead _ e => show (GenStatus.suspended, some (_ :: _)) = (GenStatus.suspended, some (_ :: _)); rw [e]
structure Rl (D L : Array GenState) : Prop where
  sz : D.size = L.size
  pr : ∀ (i : Nat) (d y : GenState), D[i]? = some d → L[i]? = some y → Pr d y
def Kept (D L D' L' : Array GenState) : Prop := ∀ (i : Nat) (d y : GenState), D[i]? = some d → L[i]? = some y → IsDead d → D'[i]? = some d ∧ L'[i]? = some y
theorem Kept.refl (D L : Array GenState) : Kept D L D L := fun _ _ _ h1 h2 _ => ⟨h1, h2⟩
theorem Kept.trans {D L D1 L1 D2 L2 : Array GenState} (a : Kept D L D1 L1) (b : Kept D1 L1 D2 L2) : Kept D L D2 L2 := fun i d y h1 h2 h3 => let ⟨x1, x2⟩ := a i d y h1 h2 h3; b i d y x1 x2 h3
theorem Rl.get {D L : Array GenState} (h : Rl D L) {i : Nat} {d : GenState} (e : D[i]? = some d) : ∃ y, L[i]? = some y ∧ Pr d y := by
  have hi : i < D.size := by
    rcases Nat.lt_or_ge i D.size with z | z
    · exact z
    · rw [Array.getElem?_eq_none z] at e; cases e
  have hl : i < L.size := by rw [← h.sz]; exact hi
  exact ⟨L[i], Array.getElem?_eq_getElem hl, h.pr i d _ e (Array.getElem?_eq_getElem hl)⟩
theorem Rl.set {D L : Array GenState} (h : Rl D L) (g : Nat) {x : GenState} (hx : GOk x) : Rl (D.setIfInBounds g x) (L.setIfInBounds g x) := by
  refine ⟨by simp [h.sz], fun i d y e1 e2 => ?_⟩
  rw [Array.getElem?_setIfInBounds] at e1 e2
  by_cases hg : g = i
  · subst hg
    rw [if_pos rfl] at e1 e2
    split at e1
    · split at e2
      · cases e1; cases e2; exact .same _ hx
      · cases e2
    · cases e1
  · rw [if_neg hg] at e1 e2
    exact h.pr i d y e1 e2
theorem Kept.set {D L : Array GenState} {g : Nat} {d0 x x' : GenState} (e : D[g]? = some d0) (hd : ¬ IsDead d0) : Kept D L (D.setIfInBounds g x) (L.setIfInBounds g x') := fun i d y h1 h2 h3 => by
  have hg : g ≠ i := fun z => by subst z; rw [e] at h1; cases h1; exact hd h3
  rw [Array.getElem?_setIfInBounds, Array.getElem?_setIfInBounds, if_neg hg, if_neg hg]
  exact ⟨h1, h2⟩
/-- the same, in two steps: what was not dead at first may be set again -/
theorem Kept.set2 {D L D1 L1 : Array GenState} {g : Nat} {d0 x x' : GenState} (k : Kept D L D1 L1) (e : D[g]? = some d0) (hd : ¬ IsDead d0) : Kept D L (D1.setIfInBounds g x) (L1.setIfInBounds g x') := fun i d y h1 h2 h3 => by
  have hg : g ≠ i := fun z => by subst z; rw [e] at h1; cases h1; exact hd h3
  rw [Array.getElem?_setIfInBounds, Array.getElem?_setIfInBounds, if_neg hg, if_neg hg]
  exact k i d y h1 h2 h3
theorem Rl.push {D L : Array GenState} (h : Rl D L) (c : Code) : Rl (D.push (.fresh c)) (L.push (.fresh c)) := by
  refine ⟨by simp [h.sz], fun i d y e1 e2 => ?_⟩
  rw [Array.getElem?_push] at e1 e2
  rw [← h.sz] at e2
  split at e1
  · rename_i hi
    rw [if_pos hi] at e2
    cases e1; cases e2
    exact .same _ trivial
  · rename_i hi
    rw [if_neg hi] at e2
    exact h.pr i d y e1 e2
theorem Kept.push {D L : Array GenState} {x y : GenState} : Kept D L (D.push x) (L.push y) := fun i d z h1 h2 _ => by
  have a : i < D.size := by
    rcases Nat.lt_or_ge i D.size with q | q
    · exact q
    · rw [Array.getElem?_eq_none q] at h1; cases h1
  have b : i < L.size := by
    rcases Nat.lt_or_ge i L.size with q | q
    · exact q
    · rw [Array.getElem?_eq_none q] at h2; cases h2
  rw [Array.getElem?_push, if_neg (by omega), Array.getElem?_push, if_neg (by omega)]
  exact ⟨h1, h2⟩
theorem Pr.fresh {c : Code} {y : GenState} (h : Pr (.fresh c) y) : y = .fresh c := by cases h; rfl
theorem Pr.running {y : GenState} (h : Pr .running y) : y = .running := by cases h; rfl
theorem Pr.finished {y : GenState} (h : Pr .finished y) : y = .finished := by cases h; rfl
theorem nd_fresh {c : Code} : ¬ IsDead (.fresh c) := fun ⟨_, _, _, _, _, h⟩ => by cases h
theorem runs_lift {M : Model} {Γ : Ctx} {p : Pos} {t : Sem Fin} {fs : List Frame} {s s' : Shared} {e : End} (h : Runs M Γ p t fs s e s') (hf : splitAtGen fs = none) :
    ∀ L, Rl s.gens L → ∃ L', Rl s'.gens L' ∧ Kept s.gens L s'.gens L' ∧ EOk e ∧ Runs M Γ p t fs { s with gens := L } e { s' with gens := L' } := by
  induction h with
  | done => exact fun L h => ⟨L, h, .refl _ _, trivial, .done⟩
  | raise => exact fun L h => ⟨L, h, .refl _ _, trivial, .raise⟩
  | again q _ ih => intro L h; obtain ⟨L', a, b, c, d⟩ := ih rfl L h; exact ⟨L', a, b, c, .again q d⟩
  | rule _ ih => intro L h; obtain ⟨L', a, b, c, d⟩ := ih rfl L h; exact ⟨L', a, b, c, .rule d⟩
  | «at» _ ih => intro L h; obtain ⟨L', a, b, c, d⟩ := ih rfl L h; exact ⟨L', a, b, c, .at d⟩
  | load q _ ih => intro L h; obtain ⟨L', a, b, c, d⟩ := ih rfl L h; exact ⟨L', a, b, c, .load q d⟩
  | update q _ ih => intro L h; obtain ⟨L', a, b, c, d⟩ := ih rfl L h; exact ⟨L', a, b, c, .update q d⟩
  | loadIfAlive _ ih => intro L h; obtain ⟨L', a, b, c, d⟩ := ih rfl L h; exact ⟨L', a, b, c, .loadIfAlive d⟩
  | point _ ih => intro L h; obtain ⟨L', a, b, c, d⟩ := ih rfl L h; exact ⟨L', a, b, c, .point d⟩
  | alloc _ ih => intro L h; obtain ⟨L', a, b, c, d⟩ := ih rfl L h; exact ⟨L', a, b, c, .alloc d⟩
  | fresh _ ih => intro L h; obtain ⟨L', a, b, c, d⟩ := ih rfl L h; exact ⟨L', a, b, c, .fresh d⟩
  | ask _ ih => intro L h; obtain ⟨L', a, b, c, d⟩ := ih rfl L h; exact ⟨L', a, b, c, .ask d⟩
  | choose n _ ih => intro L h; obtain ⟨L', a, b, c, d⟩ := ih rfl L h; exact ⟨L', a, b, c, .choose n d⟩
  | os _ ih => intro L h; obtain ⟨L', a, b, c, d⟩ := ih rfl L h; exact ⟨L', a, b, c, .os d⟩
  | handled _ ih => intro L h; obtain ⟨L', a, b, c, d⟩ := ih rfl L h; exact ⟨L', a, b, c, .handled d⟩
  | genState hs _ ih =>
    intro L h
    obtain ⟨L', a, b, c, d⟩ := ih rfl L h
    obtain ⟨y, hy, py⟩ := h.get hs
    rw [py.seen] at d
    exact ⟨L', a, b, c, .genState hy d⟩
  | stack _ ih => intro L h; obtain ⟨L', a, b, c, d⟩ := ih rfl L h; exact ⟨L', a, b, c, .stack d⟩
  | thread _ ih => intro L h; obtain ⟨L', a, b, c, d⟩ := ih rfl L h; exact ⟨L', a, b, c, .thread d⟩
  | newGen _ ih =>
    intro L h
    obtain ⟨L', a, b, c, d⟩ := ih rfl _ (h.push _)
    exact ⟨L', a, Kept.push.trans b, c, .newGen (h.sz ▸ d)⟩
  | call _ _ ih1 ih2 =>
    intro L h
    obtain ⟨L1, a, b, c, d⟩ := ih1 rfl L h
    obtain ⟨L2, a2, b2, c2, d2⟩ := ih2 rfl L1 a
    exact ⟨L2, a2, b.trans b2, c2, .call d d2⟩
  | callSusp _ ih => intro L h; obtain ⟨L', a, b, c, d⟩ := ih rfl L h; exact ⟨L', a, b, split_app c (by unfold splitAtGen splitAtGen; rfl), .callSusp d⟩
  | yield => exact fun L h => ⟨L, h, .refl _ _, rfl, .yield⟩
  | resumeFresh hs _ hq _ ih1 ih2 =>
    intro L h
    obtain ⟨y, hy, py⟩ := h.get hs
    cases py.fresh
    obtain ⟨L1, a, b, c, d⟩ := ih1 rfl _ (h.set _ (x := .running) trivial)
    obtain ⟨L2, a2, b2, c2, d2⟩ := ih2 rfl _ (a.set _ c.gen)
    exact ⟨L2, a2, (Kept.set2 ((Kept.set hs nd_fresh).trans b) hs nd_fresh).trans b2, c2, .resumeFresh hy d hq d2⟩
  | @resumeSuspended Γ p g r l k s k₀ l₀ c₀ p₀ fs cl e₁ s₁ e s' hs hr hq _ ih1 ih2 =>
    intro L h
    obtain ⟨y, hy, py⟩ := h.get hs
    have nd : ¬ IsDead (.suspended k₀ l₀ c₀ p₀ fs cl) := fun ⟨_, _, _, _, _, z⟩ => by
      have z2 : k₀ = fun _ => .unsupported "dead" := by injection z
      rw [z2] at hr
      exact no_run hr
    cases py with
    | dead _ _ => exact (no_run hr).elim
    | same _ gk =>
      obtain ⟨L1, a, b, c, d⟩ := ih1 gk _ (h.set _ (x := .running) trivial)
      obtain ⟨L2, a2, b2, c2, d2⟩ := ih2 rfl _ (a.set _ c.gen)
      exact ⟨L2, a2, (Kept.set2 ((Kept.set hs nd).trans b) hs nd).trans b2, c2, .resumeSuspended hy d hq d2⟩
  | resumeJustStarted hs hv _ ih =>
    intro L h
    obtain ⟨y, hy, py⟩ := h.get hs
    cases py.fresh
    obtain ⟨L', a, b, c, d⟩ := ih rfl L h
    exact ⟨L', a, b, c, .resumeJustStarted hy hv d⟩
  | resumeThrowFresh hs _ ih =>
    intro L h
    obtain ⟨y, hy, py⟩ := h.get hs
    cases py.fresh
    obtain ⟨L', a, b, c, d⟩ := ih rfl _ (h.set _ (x := .finished) trivial)
    exact ⟨L', a, (Kept.set hs nd_fresh).trans b, c, .resumeThrowFresh hy d⟩
  | resumeRunning hs _ ih =>
    intro L h
    obtain ⟨y, hy, py⟩ := h.get hs
    cases py.running
    obtain ⟨L', a, b, c, d⟩ := ih rfl L h
    exact ⟨L', a, b, c, .resumeRunning hy d⟩
  | resumeFinished hs _ ih =>
    intro L h
    obtain ⟨y, hy, py⟩ := h.get hs
    cases py.finished
    obtain ⟨L', a, b, c, d⟩ := ih rfl L h
    exact ⟨L', a, b, c, .resumeFinished hy d⟩
  | segRet _ _ ih1 ih2 =>
    intro L h
    obtain ⟨L1, a, b, c, d⟩ := ih1 rfl L h
    obtain ⟨L2, a2, b2, c2, d2⟩ := ih2 (split_ret hf) L1 a
    exact ⟨L2, a2, b.trans b2, c2, .segRet d d2⟩
  | segGen _ _ _ _ => unfold splitAtGen at hf; cases hf
  | segSuspOut q _ ih => intro L h; obtain ⟨L', a, b, c, d⟩ := ih rfl L h; exact ⟨L', a, b, split_app c q, .segSuspOut q d⟩
  | segSuspGen q _ _ _ _ _ => rw [q] at hf; cases hf
end GX
namespace GX
open PySem
open Sem (wp)
open PyProof.Rows (AllBare)
theorem wakes_lift {M : Model} {Γ : Ctx} {p : Pos} {g : Nat} {r : Resume} {s s' : Shared} {res : GenResult} (h : Wakes M Γ p g r s res s') {L : Array GenState} (hL : Rl s.gens L) :
    ∃ L', Rl s'.gens L' ∧ Kept s.gens L s'.gens L' ∧ Wakes M Γ p g r { s with gens := L } res { s' with gens := L' } := by
  unfold Wakes at h
  split at h
  · exact h.elim
  · rename_i c hs
    obtain ⟨y, hy, py⟩ := hL.get hs
    cases py.fresh
    split at h
    · obtain ⟨e₁, s₁, h1, h2, rfl, rfl⟩ := h
      obtain ⟨L1, a, b, c1, d⟩ := runs_lift h1 rfl _ (hL.set _ (x := .running) trivial)
      refine ⟨_, a.set g c1.gen, Kept.set2 ((Kept.set hs nd_fresh).trans b) hs nd_fresh, ?_⟩
      unfold Wakes
      dsimp only
      rw [hy]
      exact ⟨e₁, { s₁ with gens := L1 }, d, h2, rfl, rfl⟩
    · rename_i v hv
      obtain ⟨rfl, rfl⟩ := h
      refine ⟨L, hL, .refl _ _, ?_⟩
      unfold Wakes
      dsimp only
      rw [hy]
      cases v with
      | none => exact (hv rfl).elim
      | _ => exact ⟨rfl, rfl⟩
    · obtain ⟨rfl, rfl⟩ := h
      refine ⟨_, hL.set g (x := .finished) trivial, Kept.set hs nd_fresh, ?_⟩
      unfold Wakes
      dsimp only
      rw [hy]
      exact ⟨rfl, rfl⟩
  · rename_i k₀ l₀ c₀ p₀ fs cl hs
    obtain ⟨y, hy, py⟩ := hL.get hs
    obtain ⟨e₁, s₁, h1, h2, rfl, rfl⟩ := h
    have nd : ¬ IsDead (.suspended k₀ l₀ c₀ p₀ fs cl) := fun ⟨_, _, _, _, _, z⟩ => by
      have z2 : k₀ = fun _ => .unsupported "dead" := by injection z
      rw [z2] at h1
      exact no_run h1
    cases py with
    | dead _ _ => exact (no_run h1).elim
    | same _ gk =>
      obtain ⟨L1, a, b, c1, d⟩ := runs_lift h1 gk _ (hL.set _ (x := .running) trivial)
      refine ⟨_, a.set g c1.gen, Kept.set2 ((Kept.set hs nd).trans b) hs nd, ?_⟩
      unfold Wakes
      dsimp only
      rw [hy]
      exact ⟨e₁, { s₁ with gens := L1 }, d, h2, rfl, rfl⟩
  · rename_i hs
    obtain ⟨y, hy, py⟩ := hL.get hs
    cases py.running
    obtain ⟨rfl, rfl⟩ := h
    refine ⟨L, hL, .refl _ _, ?_⟩
    unfold Wakes
    dsimp only
    rw [hy]
    exact ⟨rfl, rfl⟩
  · rename_i hs
    obtain ⟨y, hy, py⟩ := hL.get hs
    cases py.finished
    obtain ⟨rfl, rfl⟩ := h
    refine ⟨L, hL, .refl _ _, ?_⟩
    unfold Wakes
    dsimp only
    rw [hy]
    exact ⟨rfl, rfl⟩
def Post (D L : Array GenState) (Q : Shared → Prop) (s' : Shared) : Prop := ∃ D', Rl D' s'.gens ∧ Kept D L D' s'.gens ∧ Q { s' with gens := D' }
theorem Post.up {D L D1 L1 : Array GenState} (k : Kept D L D1 L1) {Q : Shared → Prop} {s' : Shared} (h : Post D1 L1 Q s') : Post D L Q s' := let ⟨D', a, b, c⟩ := h; ⟨D', a, k.trans b, c⟩
theorem wp_lift {α : Type} (M : Model) (Γ : Ctx) (t : Sem α) : ∀ (Q : α → Pos → Shared → Prop) (E : Value → Pos → Shared → Prop) (p : Pos) (s : Shared) (L : Array GenState), Rl s.gens L → wp M Γ t Q E p s →
    wp M Γ t (fun a p' s' => Post s.gens L (Q a p') s') (fun e p' s' => Post s.gens L (E e p') s') p { s with gens := L } := by
  induction t with
  | pure a => intro Q E p s L hL h; exact ⟨s.gens, hL, .refl _ _, h⟩
  | raise e => intro Q E p s L hL h; exact ⟨s.gens, hL, .refl _ _, h⟩
  | unsupported _ => intro Q E p s L _ h; exact h
  | finish _ => intro Q E p s L _ h; exact h
  | rule _ k ih => intro Q E p s L hL h; exact ih () Q E p s L hL h
  | «at» p' k ih => intro Q E p s L hL h; exact ih () Q E p' s L hL h
  | load a _ k ih => intro Q E p s L hL h; obtain ⟨o, ho, h⟩ := h; exact ⟨o, ho, ih o Q E p s L hL h⟩
  | update a _ f k ih => intro Q E p s L hL h; exact ⟨h.1, ih () Q E p { s with heap := s.heap.update a f } L hL h.2⟩
  | loadIfAlive a k ih => intro Q E p s L hL h; exact ih _ Q E p s L hL h
  | point _ k ih => intro Q E p s L hL h; exact ih () Q E p s L hL h
  | register _ _ => intro Q E p s L _ h; exact h
  | alloc o k ih => intro Q E p s L hL h; exact ih _ Q E p { s with heap := s.heap.push o } L hL h
  | fresh k ih => intro Q E p s L hL h; exact ih _ Q E p { s with toks := s.toks + 1 } L hL h
  | ask k ih => intro Q E p s L hL h; exact ih _ Q E p s L hL h
  | choose src m k ih => intro Q E p s L hL h; exact ⟨h.1, ih _ Q E p { s with drawn := s.drawn.bump src } L hL h.2⟩
  | os q _ k ih => intro Q E p s L hL h; exact ih _ Q E p { s with os := (Os.step s.os q).1 } L hL h
  | call c hd _ _ k ih =>
    intro Q E p s L hL h
    obtain ⟨r, s', hr, h⟩ := h
    obtain ⟨L', a, b, _, d⟩ := runs_lift hr rfl L hL
    refine ⟨r, { s' with gens := L' }, d, ?_⟩
    exact Sem.wp_mono M Γ _ (fun _ _ _ z => Post.up b z) (fun _ _ _ z => Post.up b z) _ _ (ih r Q E p s' L' a h)
  | handled own k ih => intro Q E p s L hL h; exact ih _ Q E p s L hL h
  | genState g k ih =>
    intro Q E p s L hL h
    obtain ⟨st, hs, h⟩ := h
    obtain ⟨y, hy, py⟩ := hL.get hs
    refine ⟨y, hy, ?_⟩
    rw [← py.seen]
    exact ih _ Q E p s L hL h
  | newGen c k ih =>
    intro Q E p s L hL h
    have := ih _ Q E p { s with gens := s.gens.push (.fresh c) } (L.push (.fresh c)) (hL.push c) h
    have h2 := Sem.wp_mono M Γ _ (fun _ _ _ z => Post.up Kept.push z) (fun _ _ _ z => Post.up Kept.push z) _ _ this
    show wp M Γ (k L.size) _ _ p _
    rw [← hL.sz]
    exact h2
  | resume g r _ k ih =>
    intro Q E p s L hL h
    obtain ⟨res, s', hw, h⟩ := h
    obtain ⟨L', a, b, d⟩ := wakes_lift hw hL
    refine ⟨res, { s' with gens := L' }, d, ?_⟩
    exact Sem.wp_mono M Γ _ (fun _ _ _ z => Post.up b z) (fun _ _ _ z => Post.up b z) _ _ (ih res Q E p s' L' a h)
  | yield _ _ _ _ => intro Q E p s L _ h; exact h
  | stack k ih => intro Q E p s L hL h; exact ih _ Q E p s L hL h
  | fork _ _ => intro Q E p s L _ h; exact h
  | thread k ih => intro Q E p s L hL h; exact ih _ Q E p s L hL h
  | await _ _ _ _ _ => intro Q E p s L _ h; exact h
/-! ### all that sleeps made dead -/
def clean (f : Frame) : Frame := .ret (fun _ => .unsupported "dead") none false [] f.where_.1 f.where_.2 []
def poison : GenState → GenState
  | .suspended _ l c p fs cl => .suspended (fun _ => .unsupported "dead") l c p (fs.map clean) cl
  | x => x
theorem clean_split : ∀ fs : List Frame, splitAtGen (fs.map clean) = none
  | [] => rfl
  | f :: fs => by
    show splitAtGen (.ret _ _ _ _ _ _ _ :: fs.map clean) = none
    unfold splitAtGen
    simp [clean_split fs]
theorem poison_pr (x : GenState) : Pr (poison x) x := by
  cases x with
  | suspended k l c p fs cl =>
    refine .dead (clean_split fs) ?_
    rw [List.map_map]
    exact List.map_congr_left fun f _ => by cases f <;> rfl
  | fresh c => exact .same _ trivial
  | running => exact .same _ trivial
  | finished => exact .same _ trivial
theorem Pr.bare {x y : GenState} (h : Pr x y) : x.bare = y.bare := by cases h <;> rfl
theorem poison_rl (G : Array GenState) : Rl (G.map poison) G := by
  refine ⟨by simp, fun i d y e1 e2 => ?_⟩
  rw [Array.getElem?_map, e2] at e1
  cases e1
  exact poison_pr y
def susp : GenState → Bool
  | .suspended .. => true
  | _ => false
/-- what slept sleeps on -/
def Still (G G' : Array GenState) : Prop := ∀ (i : Nat) (y : GenState), G[i]? = some y → susp y = true → G'[i]? = some y
def Lifted (G : Array GenState) (Q : Shared → Prop) (s' : Shared) : Prop := ∃ D', Rl D' s'.gens ∧ Q { s' with gens := D' } ∧ Still G s'.gens
theorem wpAny_lift {M : Model} {A : Around} {α : Type} {t : Sem α} {Q : α → Shared → Prop} {E : Value → Shared → Prop} {s : Shared} (h : wpAny M A t Q E { s with gens := s.gens.map poison }) :
    wpAny M A t (fun a s' => Lifted s.gens (Q a) s') (fun e s' => Lifted s.gens (E e) s') s := by
  have fin : ∀ (P : Shared → Prop) (s' : Shared), Post (s.gens.map poison) s.gens P s' → Lifted s.gens P s' := fun P s' ⟨D', a, b, c⟩ => by
    refine ⟨D', a, c, fun i y hy hs => ?_⟩
    cases y with
    | suspended k l c p fs cl => exact (b i (poison (.suspended k l c p fs cl)) _ (by rw [Array.getElem?_map, hy]; rfl) hy ⟨_, _, _, _, _, rfl⟩).2
    | _ => cases hs
  intro Γ p hΓ
  exact Sem.wp_mono M Γ _ (fun _ _ s' z => fin _ s' z) (fun _ _ s' z => fin _ s' z) _ _ (wp_lift M Γ t _ _ p { s with gens := s.gens.map poison } s.gens (poison_rl s.gens) (h Γ p hΓ))
end GX
namespace GX
open PySem PySem.Spec PyProof.Rows L2 Z
section
variable {X : Cx} {pins : List (Addr × Obj)} {σ : L2.St} {H : Hp} {s : Shared} {D : Array GenState}
end
/-- what is wanted of an exception hangs on no sleeper -/
def GFree (X : Cx) : Prop := ∀ (e : Value) (s' : Shared) (D : Array GenState), Rl D s'.gens → X.xe e { s' with gens := D } → X.xe e s'
/-- a generator that is walked: its objects (fp: those it has now), and how it sleeps -/
structure TurnG (P : Program) (w : World) (K : Frg) (mg : Str → Option Value) (A : Around) (tg : Expr) (J : It) (it : Addr) (g : Nat) (tn : Nat → List Addr → Heap → GenState → Prop) : Prop where
  obj : ∀ i fp h y, tn i fp h y → ∀ b ∈ fp, ∃ o, h.get? b = some o ∧ ∀ v, o.data ≠ .cell v
  keep : ∀ i fp h h' y, tn i fp h y → (∀ b ∈ fp, ∀ o, h.get? b = some o → h'.get? b = some o) → tn i fp h' y
  item : ∀ (X : Cx), X.prog = P → X.w = w → X.K = K → X.mg = mg → X.A = A → X.calm = true → ∀ (i : Nat) (pins : List (Addr × Obj)) (s : Shared) (σ : L2.St) (H : Hp) (E : Value → Shared → Prop) (y : GenState) (fp : List Addr), L2.Inv X pins σ H s → (∀ b ∈ fp, FpOk X pins H b) → s.gens[g]? = some y → tn i fp s.heap y → J.go i H →
    wpAny (model P w) X.A (pyNext (.ref it)) (fun r s1 => ∃ u, r = some u ∧
      wpAny (model P w) X.A (letOwnedTupleGo tg (.ref it) u) (fun _ s2 => ∃ x H' y' fp', L2.Inv X pins σ H' s2 ∧ RelV x u ∧ J.yld i H x H' ∧ s2.gens[g]? = some y' ∧ susp y' = true ∧ tn (i + 1) fp' s2.heap y' ∧ ∀ b ∈ fp', FpOk X pins H' b) E s1) E s
  done : ∀ (X : Cx), X.prog = P → X.w = w → X.K = K → X.mg = mg → X.A = A → X.calm = true → ∀ (i : Nat) (pins : List (Addr × Obj)) (s : Shared) (σ : L2.St) (H : Hp) (E : Value → Shared → Prop) (y : GenState) (fp : List Addr), L2.Inv X pins σ H s → (∀ b ∈ fp, FpOk X pins H b) → s.gens[g]? = some y → tn i fp s.heap y → J.stop i H →
    wpAny (model P w) X.A (pyNext (.ref it)) (fun r s1 => r = none ∧ L2.Inv X pins σ H s1) E s
  self : ∀ (A : Around) (i : Nat) (s : Shared) (y : GenState) (fp : List Addr) (Q : Value → Shared → Prop) (E : Value → Shared → Prop), tn i fp s.heap y → Q (.ref it) s → wpAny (model P w) A (pyIter (.ref it)) Q E s
def PGE (X : Cx) (pins : List (Addr × Obj)) (σ : L2.St) (tg : Expr) (R : It → Hp → Prop) (itv : Value) (s2 : Shared) : Prop :=
  ∃ (it : Addr) (fp : List Addr) (g : Nat) (tn : Nat → List Addr → Heap → GenState → Prop) (J : It) (H' : Hp) (y : GenState), itv = .ref it ∧ L2.Inv X pins σ H' s2 ∧ TurnG X.prog X.w X.K X.mg X.A tg J it g tn ∧ s2.gens[g]? = some y ∧ tn 0 fp s2.heap y ∧ (∀ b ∈ fp, FpOk X pins H' b) ∧ R J H'
/-- an expression that makes a generator -/
structure PIG (X : Cx) (tg iter : Expr) (wi : L2.TI) : Prop where
  run : ∀ (pins : List (Addr × Obj)) (s : Shared) (σ : L2.St) (H : Hp) (R : It → Hp → Prop), L2.Inv X pins σ H s → wi σ H R →
    wpAny (model X.prog X.w) X.A (eval iter X.env) (fun v s1 => wpAny (model X.prog X.w) X.A (pyIter v) (PGE X pins σ tg R) X.xe s1) X.xe s
/-- a step that knows nothing of the sleeper -/
theorem over {X : Cx} {α : Type} {t : Sem α} {Q : α → Shared → Prop} {R : α → Shared → Prop} {s : Shared} (hX : GFree X) (h : wpAny (model X.prog X.w) X.A t Q X.xe { s with gens := s.gens.map poison })
    (k : ∀ a (s' : Shared) D, Rl D s'.gens → Q a { s' with gens := D } → Still s.gens s'.gens → R a s') : wpAny (model X.prog X.w) X.A t R X.xe s :=
  wpAny_mono (wpAny_lift h) (fun a s' ⟨D, r, q, st⟩ => k a s' D r q st) fun e s' ⟨D, r, q, _⟩ => hX e s' D r q
section
variable {X : Cx} {tg : Expr}
end
end GX
namespace GX
open PySem PySem.Spec PyProof.Rows L2 Z
section
variable {X : Cx} {tg : Expr}
end
end GX
namespace GX
open PySem PySem.Spec PyProof.Rows L2 GenW
/-! ### one turn of a generator: runs to an end of which Φ holds -/
def Sg (M : Model) (A : Around) (Φ : End → Shared → Prop) (c : Code) (t : Sem PySem.Fin) (fs : List Frame) (s : Shared) : Prop :=
  ∀ Γ p, Γ.code = c → Γ.Woken A → ∃ e s', Runs M Γ p t fs s e s' ∧ Φ e s'
section
variable {M : Model} {A : Around} {Φ Ψ : End → Shared → Prop} {c : Code} {fs : List Frame} {s : Shared}
theorem Sg.mono {t : Sem PySem.Fin} (h : Sg M A Φ c t fs s) (k : ∀ e s', Φ e s' → Ψ e s') : Sg M A Ψ c t fs s := fun Γ p hc hΓ => let ⟨e, s', r, q⟩ := h Γ p hc hΓ; ⟨e, s', r, k e s' q⟩
theorem sg_wrap {α : Type} {m : Sem α} {K : α → Sem PySem.Fin} {H : Value → Sem PySem.Fin} {gd lv}
    (h : wpAny M (A.over c fs) m (fun a s' => Sg M A Φ c (K a) fs s') (fun x s' => Sg M A Φ c (H x) fs s') s) : Sg M A Φ c (m.wrap K H gd lv) fs s := by
  rintro Γ p rfl hΓ
  exact runs_wrap_of_wp K H gd lv m (h (Γ.over fs) p (hΓ.over fs)) (fun a p' s' h' => h' Γ p' rfl hΓ) (fun x p' s' h' => h' Γ p' rfl hΓ)
theorem sg_bw {α β : Type} {m : Sem α} {K : α → Sem β} {K' : β → Sem PySem.Fin} {H' : Value → Sem PySem.Fin} {gd lv}
    (h : wpAny M (A.over c fs) m (fun a s' => Sg M A Φ c ((K a).wrap K' H' gd lv) fs s') (fun x s' => Sg M A Φ c (H' x) fs s') s) : Sg M A Φ c ((m >>= K).wrap K' H' gd lv) fs s := by
  rw [Sem.bind_eq_wrap', Sem.wrap_wrap]; exact sg_wrap h
theorem sg_at {p' : Pos} {k : Unit → Sem PySem.Fin} (h : Sg M A Φ c (k ()) fs s) : Sg M A Φ c (.at p' k) fs s :=
  sg_wrap (m := standAt p') (K := k) (H := .raise) (gd := id) (lv := id) (wpAny_standAt h)
theorem sg_point {l : List Value} {k : Unit → Sem PySem.Fin} (h : Sg M A Φ c (k ()) fs s) : Sg M A Φ c (.point l k) fs s :=
  sg_wrap (m := point) (K := k) (H := .raise) (gd := id) (lv := fun _ => l) (wpAny_point h)
theorem sg_call {c' : Code} {h g l} {k : Result → Sem PySem.Fin} (hc : ∀ p, Sg M A Φ c' (M.den c') (.ret k h g l c p [] :: fs) s) : Sg M A Φ c (.call c' h g l k) fs s := by
  rintro Γ p rfl hΓ
  obtain ⟨e, s', hr, he⟩ := hc p (Γ.goto c') p rfl (hΓ.goto c')
  exact ⟨e, s', runs_call_seg hr, he⟩
theorem sg_leaf {k h g l c₁ p₁ kp} (r : Result) (hk : Sg M A Φ c₁ (k r) fs s) : Sg M A Φ c (leafOf r) (.ret k h g l c₁ p₁ kp :: fs) s := by
  rintro Γ p rfl hΓ
  obtain ⟨e, s', hr, he⟩ := hk (Γ.goto c₁) p₁ rfl (hΓ.goto c₁)
  exact ⟨e, s', Runs.pop r hr, he⟩
theorem sg_again {c' : Code} (hq : c'.quiet = true) (hc : Sg M A Φ c' (M.den c') fs s) : Sg M A Φ c (.pure (.again c')) fs s := by
  rintro Γ p rfl hΓ
  obtain ⟨e, s', hr, he⟩ := hc (Γ.goto c') p rfl (hΓ.goto c')
  exact ⟨e, s', Runs.head (c₁ := c') (fun _ _ x => .again hq x) hr, he⟩
theorem sg_end (r : Result) (h : Φ (.ret r) s) : Sg M A Φ c (leafOf r) [] s := by
  rintro Γ p rfl _
  exact ⟨.ret r, s, Runs.leaf r, h⟩
theorem sg_yield {v g l} {k : Resume → Sem PySem.Fin} (hfs : splitAtGen fs = none) (h : ∀ p, Φ (.susp v g l k c p fs) s) : Sg M A Φ c (.yield v g l k) fs s := by
  rintro Γ p rfl _
  exact ⟨_, s, Runs.yield' fs hfs, h p⟩
/-- a sleeper that is woken -/
def Wk (M : Model) (A : Around) (y : GenState) (s : Shared) (Φ : End → Shared → Prop) : Prop := match y with
  | .fresh c => Sg M A Φ c (M.den c) [] s
  | .suspended k _ c _ fs _ => Sg M A Φ c (k (.send .none)) fs s
  | _ => False
end
section
variable {P : Program} {w : World} {A : Around} {E : Value → Shared → Prop} {s : Shared} {Φ : End → Shared → Prop}
end
/-! ### for, in a generator -/
section
variable {M : Model} {A : Around} {Φ : End → Shared → Prop} {c : Code} {fs : List Frame} {s : Shared} {env : Env} {K : Flow → Sem PySem.Fin} {H : Value → Sem PySem.Fin} {gd : Bool → Bool} {lv : List Value → List Value}
theorem sg_cons {st : Stmt} {rest : List Stmt} (h : Sg M A Φ c ((exec st env).wrap (fun f => match f with | .next => (execs rest env).wrap K H gd lv | f => K f) H gd lv) fs s) :
    Sg M A Φ c ((execs (st :: rest) env).wrap K H gd lv) fs s := by rw [execs_cons_wrap]; exact h
theorem sg_nil (h : Sg M A Φ c (K .next) fs s) : Sg M A Φ c ((execs [] env).wrap K H gd lv) fs s := h
/-- what a loop's call does with what comes back -/
def backK (env : Env) (K : Flow → Sem PySem.Fin) (H : Value → Sem PySem.Fin) (gd : Bool → Bool) (lv : List Value → List Value) (r : Result) : Sem PySem.Fin :=
  ((match r with | .ok f => (.pure f : Sem Flow) | .error e => .raise e).onRaise fun (x : Value) => do
    if (← field x 1) == Value.none then unsupported "frame.own-activation:exception-without-traceback"
    setFlight x env.frame).wrap K H gd lv
theorem sg_For {tg iter : Expr} {body : List Stmt} {pos : Pos}
    (h : wpAny M (A.over c fs) (eval iter env) (fun x s1 => wpAny M (A.over c fs) (pyIter x) (fun it s2 => ∀ p, Sg M A Φ (.forLoop tg it body [] env) (M.den (.forLoop tg it body [] env)) (.ret (backK env K H gd lv) none (gd false) (lv []) c p [] :: fs) s2) (fun _ _ => False) s1) (fun _ _ => False) s)
    (hs : ∀ x, foldedSetIterable iter env x = pure x := by intro _; rfl) : Sg M A Φ c ((exec (.For tg iter body [] pos) env).wrap K H gd lv) fs s := by
  rw [exec_For]
  refine sg_bw (wpAny_standAt ?_)
  refine sg_bw (wpAny_mono h (fun x s1 h1 => ?_) fun _ _ e => e.elim)
  refine sg_bw (wpAny_of_eq (hs x) ?_)
  refine sg_bw (wpAny_standAt ?_)
  refine sg_bw (wpAny_holding (wpAny_mono h1 (fun it s2 h2 => ?_) fun _ _ e => e.elim))
  exact sg_call h2
/-- what is done with what leaves a loop's code as an exception -/
def loopH (env : Env) (e : Value) : Sem PySem.Fin := (do noteFrame e env; theTreesLotGoes e : Sem Unit).bind fun _ => .raise e
def loopK (c : Code) (f : Flow) : Sem PySem.Fin := match f with
  | .next | .cont => .pure (.again c)
  | .brk => .pure (.done .next)
  | .ret v => .pure (.done (.ret v))
end
section
variable {P : Program} {w : World} {A : Around} {Φ : End → Shared → Prop} {fs : List Frame} {s : Shared} {env : Env}
theorem sg_forLoop {tg : Expr} {it : Value} {body : List Stmt}
    (h : wpAny (model P w) (A.over (.forLoop tg it body [] env) fs) (pyNext it) (fun r s1 => match r with
      | none => Sg (model P w) A Φ (.block [] env) (leafOf (.ok .next)) fs s1
      | some v => wpAny (model P w) (A.over (.forLoop tg it body [] env) fs) (letOwnedTupleGo tg it v) (fun _ s2 => wpAny (model P w) (A.over (.forLoop tg it body [] env) fs) (assign tg env v)
          (fun _ s3 => Sg (model P w) A Φ (.forLoop tg it body [] env) ((execs body env).wrap (loopK (.forLoop tg it body [] env)) (loopH env) id id) fs s3) (fun _ _ => False) s2) (fun _ _ => False) s1) (fun _ _ => False) s) :
    Sg (model P w) A Φ (.forLoop tg it body [] env) ((model P w).den (.forLoop tg it body [] env)) fs s := by
  show Sg _ A Φ _ ((forTurn tg it body [] env).onRaise (fun x => do noteFrame x env; theTreesLotGoes x)) fs s
  unfold forTurn
  rw [Sem.onRaise_eq_wrap]
  refine sg_bw (wpAny_standAt ?_)
  refine sg_bw (wpAny_onRaise (wpAny_mono h (fun r s1 h1 => ?_) fun _ _ e => e.elim))
  cases r with
  | none => exact sg_again rfl h1
  | some v =>
    refine sg_bw (wpAny_mono h1 (fun _ s2 h2 => ?_) fun _ _ e => e.elim)
    refine sg_bw (wpAny_mono h2 (fun _ s3 h3 => ?_) fun _ _ e => e.elim)
    rw [Sem.bind_eq_wrap', Sem.wrap_wrap]
    refine Eq.mpr (congrArg (fun t => Sg (model P w) A Φ (.forLoop tg it body [] env) t fs s3) (Sem.wrap_congr (execs body env) (K' := loopK (.forLoop tg it body [] env)) (H' := loopH env) _ _ (fun f => ?_) fun e => ?_)) h3
    · cases f <;> rfl
    · rfl
end
end GX
namespace GX
open PySem PySem.Spec PyProof.Rows L2 GenW
/-! ### nothing that runs makes the heap smaller -/
theorem runs_hsz {M : Model} {Γ : PySem.Ctx} {p : Pos} {t : Sem PySem.Fin} {fs : List Frame} {s s' : Shared} {e : End} (h : Runs M Γ p t fs s e s') : s.heap.objs.size ≤ s'.heap.objs.size := by
  induction h <;> (try simp only [Shared.setGen, Heap.size_push, Heap.size_update] at *) <;> omega
theorem wakes_hsz {M : Model} {Γ : PySem.Ctx} {p : Pos} {g : Nat} {r : Resume} {s s' : Shared} {res : GenResult} (h : Wakes M Γ p g r s res s') : s.heap.objs.size ≤ s'.heap.objs.size := by
  unfold Wakes at h
  split at h
  · exact h.elim
  · split at h
    · obtain ⟨e₁, s₁, hr, _, _, rfl⟩ := h
      exact (runs_hsz hr : (s.setGen g .running).heap.objs.size ≤ s₁.heap.objs.size)
    · rw [h.2]; exact Nat.le_refl _
    · rw [h.2]; exact Nat.le_refl _
  · obtain ⟨e₁, s₁, hr, _, _, rfl⟩ := h
    exact (runs_hsz hr : (s.setGen g .running).heap.objs.size ≤ s₁.heap.objs.size)
  · rw [h.2]; exact Nat.le_refl _
  · rw [h.2]; exact Nat.le_refl _
theorem wp_hsz {α : Type} (M : Model) (Γ : PySem.Ctx) (n : Nat) (t : Sem α) : ∀ (Q : α → Pos → Shared → Prop) (E : Value → Pos → Shared → Prop) (p : Pos) (s : Shared), n ≤ s.heap.objs.size → Sem.wp M Γ t Q E p s →
    Sem.wp M Γ t (fun a p' s' => n ≤ s'.heap.objs.size ∧ Q a p' s') (fun e p' s' => n ≤ s'.heap.objs.size ∧ E e p' s') p s := by
  induction t with
  | pure a => intro Q E p s hn h; exact ⟨hn, h⟩
  | raise e => intro Q E p s hn h; exact ⟨hn, h⟩
  | unsupported _ => intro Q E p s _ h; exact h
  | finish _ => intro Q E p s _ h; exact h
  | rule _ k ih => intro Q E p s hn h; exact ih () Q E p s hn h
  | «at» p' k ih => intro Q E p s hn h; exact ih () Q E p' s hn h
  | load a _ k ih => intro Q E p s hn h; obtain ⟨o, ho, h⟩ := h; exact ⟨o, ho, ih o Q E p s hn h⟩
  | update a _ f k ih => intro Q E p s hn h; exact ⟨h.1, ih () Q E p _ (by show n ≤ (s.heap.update a f).objs.size; rw [Heap.size_update]; exact hn) h.2⟩
  | loadIfAlive a k ih => intro Q E p s hn h; exact ih _ Q E p s hn h
  | point _ k ih => intro Q E p s hn h; exact ih () Q E p s hn h
  | register _ _ => intro Q E p s _ h; exact h
  | alloc o k ih => intro Q E p s hn h; exact ih _ Q E p _ (by show n ≤ (s.heap.push o).objs.size; rw [Heap.size_push]; omega) h
  | fresh k ih => intro Q E p s hn h; exact ih _ Q E p _ hn h
  | ask k ih => intro Q E p s hn h; exact ih _ Q E p s hn h
  | choose src m k ih => intro Q E p s hn h; exact ⟨h.1, ih _ Q E p _ hn h.2⟩
  | os q _ k ih => intro Q E p s hn h; exact ih _ Q E p _ hn h
  | call c hd _ _ k ih => intro Q E p s hn h; obtain ⟨r, s', hr, h⟩ := h; exact ⟨r, s', hr, ih r Q E p s' (Nat.le_trans hn (runs_hsz hr)) h⟩
  | handled own k ih => intro Q E p s hn h; exact ih _ Q E p s hn h
  | genState g k ih => intro Q E p s hn h; obtain ⟨st, hs, h⟩ := h; exact ⟨st, hs, ih _ Q E p s hn h⟩
  | newGen c k ih => intro Q E p s hn h; exact ih _ Q E p _ hn h
  | resume g r _ k ih => intro Q E p s hn h; obtain ⟨res, s', hw, h⟩ := h; exact ⟨res, s', hw, ih res Q E p s' (Nat.le_trans hn (wakes_hsz hw)) h⟩
  | yield _ _ _ _ => intro Q E p s _ h; exact h
  | stack k ih => intro Q E p s hn h; exact ih _ Q E p s hn h
  | fork _ _ => intro Q E p s _ h; exact h
  | thread k ih => intro Q E p s hn h; exact ih _ Q E p s hn h
  | await _ _ _ _ _ => intro Q E p s _ h; exact h
theorem wpAny_hsz {α : Type} {M : Model} {A : Around} {s : Shared} {t : Sem α} {Q : α → Shared → Prop} {E : Value → Shared → Prop}
    (h : wpAny M A t (fun a s' => s.heap.objs.size ≤ s'.heap.objs.size → Q a s') E s) : wpAny M A t Q E s :=
  wpAny_mono (fun Γ p hΓ => wp_hsz M Γ _ t _ _ p s (Nat.le_refl _) (h Γ p hΓ) : wpAny M A t (fun a s' => s.heap.objs.size ≤ s'.heap.objs.size ∧ (s.heap.objs.size ≤ s'.heap.objs.size → Q a s')) (fun e s' => s.heap.objs.size ≤ s'.heap.objs.size ∧ E e s') s)
    (fun _ _ x => x.2 x.1) fun _ _ x => x.2
/-! ### yield -/
theorem sg_Expr_Yield {M : Model} {A : Around} {Φ : End → Shared → Prop} {c : Code} {fs : List Frame} {s : Shared} {env : Env} {K : Flow → Sem PySem.Fin} {H : Value → Sem PySem.Fin} {gd : Bool → Bool} {lv : List Value → List Value} {e : Expr} {ypos pos : Pos}
    (hfs : splitAtGen fs = none) (hgd : gd false = false)
    (h : wpAny M (A.over c fs) (eval e env) (fun v s' => ∀ g l k p, g = false → (∀ Ψ s'', Sg M A Ψ c (K .next) fs s'' → Sg M A Ψ c (k (.send .none)) fs s'') → Φ (.susp v g l k c p fs) s') (fun _ _ => False) s)
    (hco : env.scope.isCoroutine = false) (hi : interactive env = false) : Sg M A Φ c ((exec (.Expr (.Yield (some e) ypos) pos) env).wrap K H gd lv) fs s := by
  rw [exec_Expr env _ pos hi rfl]
  show Sg M A Φ c (.at pos fun _ => ((eval e env >>= fun v => (standAt ypos >>= fun _ => yieldOut env v)) >>= fun x => dropValue (.Yield (some e) ypos) pos x).wrap K H gd lv) fs s
  have hy : ∀ v, yieldOut env v = yieldValue v := fun v => by simp only [yieldOut, hco, Bool.false_eq_true, if_false]
  simp only [hy]
  refine sg_at ?_
  rw [Sem.bind_eq_wrap', Sem.bind_eq_wrap', Sem.wrap_wrap, Sem.wrap_wrap]
  refine sg_wrap (wpAny_mono h (fun v s' h' => ?_) fun _ _ x => x.elim)
  refine sg_at ?_
  refine sg_yield hfs fun p => ?_
  refine h' _ _ _ p hgd fun Ψ s'' hx => ?_
  exact hx
end GX
namespace GX
open PySem PySem.Spec PyProof.Rows L2 GenW
/-! ### for y in range(c): for x in range(a): yield (x, y) -/
/-- the names that the def's code asks the module for -/
def Good (s : Shared) : Prop := (∃ m, s.heap.Ns mainGlobals m ∧ m "range" = none) ∧ ∃ m, s.heap.Ns builtinsNs m ∧ m "range" = some (.type "range")
def Kp (fp : List Addr) (h h' : Heap) : Prop := ∀ b o, b ∉ fp → h.get? b = some o → h'.get? b = some o
theorem Kp.refl {fp : List Addr} {h : Heap} : Kp fp h h := fun _ _ _ e => e
theorem Kp.trans {fp : List Addr} {h h1 h2 : Heap} (a : Kp fp h h1) (b : Kp fp h1 h2) : Kp fp h h2 := fun c o n e => b c o n (a c o n e)
theorem Kp.of {fp : List Addr} {h h' : Heap} (a : ∀ b o, h.get? b = some o → h'.get? b = some o) : Kp fp h h' := fun b o _ e => a b o e
theorem Kp.one {fp : List Addr} {h h' : Heap} {x : Addr} (m : x ∈ fp) (a : Heap.ExtBut x h h') : Kp fp h h' := fun b o n e => a b o (fun z => n (z ▸ m)) e
/-- what is wanted of the def's environment -/
structure EnvOk (env : Env) : Prop where
  kind : env.scope.kind = .function
  glob : env.globals = mainGlobals
  blt : env.builtins = builtinsNs
  rng : env.kindOf "range" = some .globalImplicit
  ka : env.kindOf "a" = some .local
  kb : env.kindOf "b" = some .local
  kc : env.kindOf "c" = some .local
  kx : env.kindOf "x" = some .local
  ky : env.kindOf "y" = some .local
  ks : env.kindOf "self" = some .local
  co : env.scope.isCoroutine = false
  hi : interactive env = false
theorem EnvOk.hp {env : Env} (e : EnvOk env) : (env.scope.kind == .class || (env.scope.kind == .module && env.locals != env.globals)) = false := by rw [e.kind]; rfl
def FrA (h : Heap) (L : Addr) (a : Int) : Prop := ∃ m t, h.Ns L m ∧ m "a" = some (.int a t)
def FrY (h : Heap) (L : Addr) (a y : Int) : Prop := ∃ m t u, h.Ns L m ∧ m "a" = some (.int a t) ∧ m "y" = some (.int y u)
def tupO (v u : Value) : Obj := { cls := .type "tuple", data := .seq #[v, u] }
def Base (gobj : Addr) (gno : Nat) (fp : List Addr) (h : Heap) (y : GenState) : Prop := y.bare = true ∧ susp y = true ∧ gobj ∈ fp ∧ h.IsGen gobj gno ∧ (∀ b ∈ fp, b < h.objs.size) ∧ ∀ b ∈ fp, ∃ o, h.get? b = some o ∧ ∀ v, o.data ≠ .cell v
def DoneG (fp : List Addr) (s : Shared) (e : End) (s' : Shared) : Prop := (∃ f, e = .ret (.ok f) ∧ (f = .ret .none ∨ f = .next)) ∧ Kp fp s.heap s'.heap ∧ s.heap.objs.size ≤ s'.heap.objs.size ∧ s'.os = s.os ∧ s'.gens = s.gens
def ItemG (fp : List Addr) (s : Shared) (xy : Int × Int) (S : List Addr → Heap → GenState → Prop) (e : End) (s' : Shared) : Prop :=
  ∃ h1 tx ty l k c p fs fp', e = .susp (.ref h1.objs.size) false l k c p fs ∧ fs.any Frame.guarded = false ∧ s'.heap = h1.push (tupO (.int xy.1 tx) (.int xy.2 ty)) ∧ Kp fp s.heap h1 ∧ s.heap.objs.size ≤ h1.objs.size ∧ (∀ b ∈ fp', b ∈ fp ∨ s.heap.objs.size ≤ b) ∧ (∀ b ∈ fp', b < h1.objs.size) ∧
    S fp' s'.heap e.genState ∧ s'.os = s.os ∧ s'.gens = s.gens
section
variable (P : Program) (w : World) (A : Around) (gobj : Addr) (gno : Nat) (itm : Nat → Int × Int)
/-- asleep, with so many items to come -/
def Slp : Nat → List Addr → Heap → GenState → Prop
  | 0 => fun fp h y => Base gobj gno fp h y ∧ ∀ s, Good s → (∀ b ∈ fp, ∀ o, h.get? b = some o → s.heap.get? b = some o) → Wk (model P w) A y s (DoneG fp s)
  | r + 1 => fun fp h y => Base gobj gno fp h y ∧ ∀ s, Good s → (∀ b ∈ fp, ∀ o, h.get? b = some o → s.heap.get? b = some o) → Wk (model P w) A y s (ItemG fp s (itm r) (Slp r))
def TurnE (r : Nat) (fp : List Addr) (s : Shared) : End → Shared → Prop := match r with
  | 0 => DoneG fp s
  | r + 1 => ItemG fp s (itm r) (Slp P w A gobj gno itm r)
end
theorem slp_of {P : Program} {w : World} {A : Around} {gobj : Addr} {gno : Nat} {itm : Nat → Int × Int} {r : Nat} {fp : List Addr} {h : Heap} {y : GenState} (b : Base gobj gno fp h y)
    (k : ∀ s, Good s → (∀ b ∈ fp, ∀ o, h.get? b = some o → s.heap.get? b = some o) → Wk (model P w) A y s (TurnE P w A gobj gno itm r fp s)) : Slp P w A gobj gno itm r fp h y := by
  cases r with
  | zero => exact ⟨b, k⟩
  | succ r => exact ⟨b, k⟩
/-! ### the pieces, by the heap -/
section
variable {P : Program} {w : World} {A : Around} {env : Env} {s : Shared} {L : Addr}
/-- range(n), its iterator -/
theorem ev_range {v : Str} {n : Int} {p1 p2 p3 : Pos} {m : Str → Option Value} {t : Tok} {R : Value → Shared → Prop} {E : Value → Shared → Prop} (ok : EnvOk env) (g : Good s) (hk : env.kindOf v = some .local) (hn : s.heap.Ns env.locals m) (hv : m v = some (.int n t)) (h1 : 0 ≤ n) (h2 : n < 2 ^ 62)
    (hR : ∀ h' tk I, s.heap.objs.size ≤ I → I < h'.objs.size → (∀ b o, s.heap.get? b = some o → h'.get? b = some o) → IsRangeIter h' I 0 n 1 → s.heap.objs.size ≤ h'.objs.size → R (.ref I) { s with heap := h', toks := tk })
    (hd : (v == ("__debug__" : Str)) = false := by decide) :
    wpAny (model P w) A (eval (.Call (.Name "range" p1) [.Name v p2] [] p3) env) (fun x s1 => wpAny (model P w) A (pyIter x) R E s1) E s := by
  obtain ⟨⟨mg, g1, g2⟩, mb, b1, b2⟩ := g
  refine Call_ (Calls.Name_function_global ok.kind ok.rng (Calls.loadGlobal_builtin (mg := mg) (mb := mb) (by rw [ok.glob]; exact g1) g2 (by rw [ok.blt]; exact b1) b2 ?_))
  refine PyProof.Rows.callWith_type1 (args_cons ?_ rfl) rfl rfl
  refine wpAny_Name (wpAny_loadName_local ok.kind hk hn hv ?_) hd
  refine args_nil ?_
  refine call_range_1 ?_
  refine wpAny_pyIter_range (IsRange.new ..) (small_one (by omega) (by omega) (by omega) h2) ?_
  refine hR _ _ _ ?_ ?_ (fun b o e => Heap.get?_push_of_some _ (Heap.get?_push_of_some _ e)) ?_ ?_
  · show _ ≤ (s.heap.push _).objs.size
    rw [Heap.size_push]; omega
  · show (s.heap.push _).objs.size < ((s.heap.push _).push _).objs.size
    simp only [Heap.size_push]; omega
  · have e2 : Builtin.Range.rangeSize 0 n 1 = n := by rw [rangeSize_one]; split <;> omega
    rw [e2]
    exact Heap.get?_push_size _ rfl
  · show _ ≤ ((s.heap.push _).push _).objs.size
    rw [Heap.size_push, Heap.size_push]; omega
/-- a store -/
theorem ev_store {v : Str} {u : Value} {p : Pos} {m : Str → Option Value} {Q : Unit → Shared → Prop} {E : Value → Shared → Prop} (ok : EnvOk env) (hk : env.kindOf v = some .local) (hn : s.heap.Ns env.locals m)
    (h : ∀ h', h'.Ns env.locals (fun x => if x = v then some u else m x) → Heap.SameBut env.locals s.heap h' → Q () { s with heap := h', toks := s.toks + 1 }) : wpAny (model P w) A (assign (.Name v p) env u) Q E s :=
  wpAny_assign_Name (wpAny_storeName_local hk hn h ok.hp)
theorem nameGo {it v : Value} {x : Str} {p : Pos} {Q : Unit → Shared → Prop} {E : Value → Shared → Prop} (h : Q () s) : wpAny (model P w) A (letOwnedTupleGo (.Name x p) it v) Q E s := wpAny_pure h
end
/-! ### the loops -/
section
variable {P : Program} {w : World} {A A' : Around} {env : Env} {gobj : Addr} {gno : Nat} {itm : Nat → Int × Int} {a C : Nat} {q1 q2 q3 q5 q6 p1 p2 p3 p4 p5 q7 q8 q9 : Pos} {kt : Nat}
abbrev bodyI (p1 p2 p3 p4 p5 : Pos) (kt : Nat) : List Stmt := [.Expr (.Yield (some (.Tuple [.Name "x" p1, .Name "y" p2] kt p3)) p4) p5]
abbrev bodyO (q1 q2 q3 q5 q7 p1 p2 p3 p4 p5 : Pos) (kt : Nat) : List Stmt := [.For (.Name "x" q1) (.Call (.Name "range" q2) [.Name "a" q3] [] q5) (bodyI p1 p2 p3 p4 p5 kt) [] q7]
/-- where the things of this turn stand -/
structure At (env : Env) (gobj : Addr) (gno : Nat) (fp : List Addr) (s0 s : Shared) (a y : Int) (I1 I2 : Addr) (q j : Int) (x : Int) : Prop where
  fr : FrY s.heap env.locals a y
  i1 : IsRangeIter s.heap I1 (y + 1) q 1
  i2 : IsRangeIter s.heap I2 x j 1
  n1 : I1 ≠ env.locals
  n2 : I2 ≠ env.locals
  n3 : I1 ≠ I2
  gn : s.heap.IsGen gobj gno
  g1 : gobj ≠ env.locals
  g2 : gobj ≠ I1
  g3 : gobj ≠ I2
  mf : ∀ b, (b = gobj ∨ b = env.locals ∨ b = I1 ∨ b = I2) → b ∈ fp ∨ s0.heap.objs.size ≤ b
  kp : Kp fp s0.heap s.heap
  sz : s0.heap.objs.size ≤ s.heap.objs.size
  nl : ∀ b, b = mainGlobals ∨ b = builtinsNs → b ∉ fp ∧ b < s0.heap.objs.size
  os : s.os = s0.os
  gens : s.gens = s0.gens
theorem isgen_at {h h' : Heap} {a g} (x : h.IsGen a g) (e : ∀ o, h.get? a = some o → h'.get? a = some o) : h'.IsGen a g := let ⟨o, nm, qn, ho, r⟩ := x; ⟨o, nm, qn, e _ ho, r⟩
theorem nl_next {fp fq : List Addr} {s0 s1 : Shared} (nl : ∀ b, b = mainGlobals ∨ b = builtinsNs → b ∉ fp ∧ b < s0.heap.objs.size) (mf : ∀ b ∈ fq, b ∈ fp ∨ s0.heap.objs.size ≤ b) (g : Good s1) :
    ∀ b, b = mainGlobals ∨ b = builtinsNs → b ∉ fq ∧ b < s1.heap.objs.size := fun b hb => by
  refine ⟨fun m => ?_, ?_⟩
  · rcases mf b m with z | z
    · exact (nl b hb).1 z
    · exact absurd (Nat.lt_of_lt_of_le (nl b hb).2 z) (Nat.lt_irrefl _)
  · obtain ⟨⟨m1, e1, _⟩, m2, e2, _⟩ := g
    rcases hb with rfl | rfl
    · exact e1.lt
    · exact e2.lt
/-- x, y = .., yield (x, y): one item -/
theorem inner_item {r j q : Nat} {x y : Int} {fp : List Addr} {s0 s : Shared} {I1 I2 : Addr} {fs : List Frame} (ok : EnvOk env) (hA : A.over (.forLoop (.Name "x" q1) (.ref I2) (bodyI p1 p2 p3 p4 p5 kt) [] env) fs = A') (hh : A'.handled = none) (hsp : splitAtGen fs = none) (hgu : fs.any Frame.guarded = false)
    (z : At env gobj gno fp s0 s a y I1 I2 q ((j : Int) + 1) x) (hx : itm r = (x, y))
    (ih : ∀ (fp' : List Addr) (s1 : Shared), Good s1 → At env gobj gno fp' s1 s1 a y I1 I2 q j (x + 1) → Sg (model P w) A (TurnE P w A gobj gno itm r fp' s1) (.forLoop (.Name "x" q1) (.ref I2) (bodyI p1 p2 p3 p4 p5 kt) [] env) ((model P w).den (.forLoop (.Name "x" q1) (.ref I2) (bodyI p1 p2 p3 p4 p5 kt) [] env)) fs s1) :
    Sg (model P w) A (TurnE P w A gobj gno itm (r + 1) fp s0) (.forLoop (.Name "x" q1) (.ref I2) (bodyI p1 p2 p3 p4 p5 kt) [] env) ((model P w).den (.forLoop (.Name "x" q1) (.ref I2) (bodyI p1 p2 p3 p4 p5 kt) [] env)) fs s := by
  refine sg_forLoop ?_
  rw [hA]
  refine wpAny_pyNext_range_item z.i2 (by omega) fun h' it' sb => ?_
  have it' : IsRangeIter h' I2 (x + 1) j 1 := by
    have e : ((j : Int) + 1 - 1) = j := by omega
    rw [e] at it'; exact it'
  refine nameGo ?_
  obtain ⟨m, t, u, hn, ha, hy⟩ := z.fr
  have hn' : h'.Ns env.locals m := hn.sameBut sb (Ne.symm z.n2)
  refine ev_store ok ok.kx hn' fun h2 hn2 sb2 => ?_
  refine sg_cons (sg_Expr_Yield hsp rfl ?_ ok.co ok.hi)
  rw [hA]
  refine wpAny_Tuple_spliced (args_cons (wpAny_Name (wpAny_loadName_local ok.kind ok.kx hn2 (v := .int x s.toks) (if_pos rfl) ?_) (by decide)) rfl)
  refine args_cons (wpAny_Name (wpAny_loadName_local ok.kind ok.ky hn2 (v := .int y u) ((if_neg (by decide)).trans hy) ?_) (by decide)) rfl
  refine args_nil ⟨by show 2 ≤ sizeLine; decide, ?_⟩
  intro g l k p hg hk
  subst hg
  have lL : env.locals < h2.objs.size := hn2.lt
  have i2' : IsRangeIter h2 I2 (x + 1) j 1 := by rw [IsRangeIter, sb2.2 I2 z.n2]; exact it'
  have i1' : IsRangeIter h2 I1 (y + 1) q 1 := by rw [IsRangeIter, sb2.2 I1 z.n1, sb.2 I1 z.n3]; exact z.i1
  have gn' : h2.IsGen gobj gno := isgen_at z.gn fun o e => by rw [sb2.2 gobj z.g1, sb.2 gobj z.g3]; exact e
  have size : h2.objs.size = s.heap.objs.size := sb2.1.trans sb.1
  have kp2 : Kp fp s0.heap h2 := fun b o n e => by
    have ne : ∀ c, (c = gobj ∨ c = env.locals ∨ c = I1 ∨ c = I2) → b ≠ c := fun c hc z' => by
      rcases z.mf c hc with k1 | k1
      · exact n (z' ▸ k1)
      · exact absurd (Nat.lt_of_lt_of_le (Heap.lt_size e) (z' ▸ k1)) (Nat.lt_irrefl _)
    rw [sb2.2 b (ne _ (.inr (.inl rfl))), sb.2 b (ne _ (.inr (.inr (.inr rfl))))]
    exact z.kp b o n e
  have up : ∀ b o, h2.get? b = some o → (h2.push (tupO (.int x s.toks) (.int y u))).get? b = some o := fun b o e => Heap.get?_push_of_some _ e
  refine ⟨h2, s.toks, u, l, k, _, p, fs, [gobj, env.locals, I1, I2], rfl, hgu, by rw [hx]; rfl, kp2, by rw [size]; exact z.sz, fun b hb => ?_, fun b hb => ?_, ?_, z.os, z.gens⟩
  · simp only [List.mem_cons, List.not_mem_nil, or_false] at hb
    exact z.mf b hb
  · simp only [List.mem_cons, List.not_mem_nil, or_false] at hb
    rcases hb with rfl | rfl | rfl | rfl
    · obtain ⟨o, _, _, e, _⟩ := gn'; exact Heap.lt_size e
    · exact lL
    · exact Heap.lt_size i1'
    · exact Heap.lt_size i2'
  have lt : ∀ b ∈ [gobj, env.locals, I1, I2], ∃ o, h2.get? b = some o ∧ ∀ v, o.data ≠ .cell v := fun b hb => by
    simp only [List.mem_cons, List.not_mem_nil, or_false] at hb
    rcases hb with rfl | rfl | rfl | rfl
    · obtain ⟨o, _, _, e, _, d, _⟩ := gn'; exact ⟨o, e, fun v c => by rw [d] at c; cases c⟩
    · obtain ⟨o, _, _, e, d, _⟩ := hn2; exact ⟨o, e, fun v c => by rw [d] at c; cases c⟩
    · exact ⟨_, i1', fun v c => by
        have c' : Data.fields _ = Data.cell v := c
        cases c'⟩
    · exact ⟨_, i2', fun v c => by
        have c' : Data.fields _ = Data.cell v := c
        cases c'⟩
  refine slp_of ⟨?_, rfl, List.mem_cons_self, isgen_at gn' fun o e => up _ _ e, fun b hb => ?_, fun b hb => ?_⟩ fun s1 g1 ag => ?_
  · show (!(false || fs.any Frame.guarded)) = true
    rw [hgu]; rfl
  · obtain ⟨o, e, _⟩ := lt b hb
    exact Heap.lt_size (up b o e)
  · obtain ⟨o, e, d⟩ := lt b hb
    exact ⟨o, up b o e, d⟩
  have at1 : ∀ b ∈ [gobj, env.locals, I1, I2], ∀ o, h2.get? b = some o → s1.heap.get? b = some o := fun b hb o e => ag b hb o (up b o e)
  refine hk _ s1 (sg_nil (sg_again rfl (ih _ s1 g1 ⟨?_, at1 _ (by simp) _ i1', at1 _ (by simp) _ i2', z.n1, z.n2, z.n3, isgen_at gn' (at1 _ (by simp)), z.g1, z.g2, z.g3, fun b hb => .inl (by simpa using hb), .refl, Nat.le_refl _, ?_, rfl, rfl⟩)))
  · exact ⟨_, t, u, hn2.at' (at1 _ (by simp)), (if_neg (by decide)).trans ha, (if_neg (by decide)).trans hy⟩
  · exact nl_next z.nl (fun b hb => z.mf b (by simpa using hb)) g1
/-- the outer loop's frames, the inner loop's: what comes when they end -/
structure OutOk (P : Program) (w : World) (A A' : Around) (env : Env) (cO : Code) (fs : List Frame) : Prop where
  over : A.over cO fs = A'
  split : splitAtGen fs = none
  guard : fs.any Frame.guarded = false
  fin : ∀ Φ s, Φ (.ret (.ok (.ret .none))) s → Sg (model P w) A Φ (.block [] env) (leafOf (.ok .next)) fs s
structure InOk (P : Program) (w : World) (A A' : Around) (env : Env) (cO cI : Code) (fsO fs : List Frame) : Prop where
  over : A.over cI fs = A'
  split : splitAtGen fs = none
  guard : fs.any Frame.guarded = false
  fin : ∀ Φ s, Sg (model P w) A Φ cO ((model P w).den cO) fsO s → Sg (model P w) A Φ (.block [] env) (leafOf (.ok .next)) fs s
theorem in_of {env : Env} {cO cI : Code} {fsO : List Frame} {K : Flow → Sem PySem.Fin} {H : Value → Sem PySem.Fin} (o : OutOk P w A A' env cO fsO) (hw : cI.weight = 0) (hu : cI.cUnits = 0) (hK : K .next = .pure (.again cO)) (hq : cO.quiet = true) (p : Pos) :
    InOk P w A A' env cO cI fsO (.ret (backK env K H id id) none (id false) (id []) cO p [] :: fsO) where
  over := (over_loop hw hu).trans o.over
  split := by
    show (splitAtGen fsO).map _ = none
    rw [o.split]; rfl
  guard := by
    show (false || fsO.any Frame.guarded) = false
    rw [o.guard]; rfl
  fin := fun Φ s h => by
    refine sg_leaf (.ok .next) ?_
    show Sg _ _ _ _ (K .next) _ _
    rw [hK]
    exact sg_again hq h
/-- a row begins -/
theorem outer_row {r q : Nat} {y : Int} {fp : List Addr} {s0 s : Shared} {I1 : Addr} {fsO : List Frame} (ok : EnvOk env) (hh : A'.handled = none) (ha : 1 ≤ a) (ha2 : a < 2 ^ 62) (gs : Good s)
    (o : OutOk P w A A' env (.forLoop (.Name "y" q6) (.ref I1) (bodyO q1 q2 q3 q5 q7 p1 p2 p3 p4 p5 kt) [] env) fsO)
    (fr : FrA s.heap env.locals a) (i1 : IsRangeIter s.heap I1 y (q + 1) 1) (n1 : I1 ≠ env.locals) (gn : s.heap.IsGen gobj gno) (g1 : gobj ≠ env.locals) (g2 : gobj ≠ I1)
    (mf : ∀ b, (b = gobj ∨ b = env.locals ∨ b = I1) → b ∈ fp ∨ s0.heap.objs.size ≤ b) (kp : Kp fp s0.heap s.heap) (sz : s0.heap.objs.size ≤ s.heap.objs.size) (nl : ∀ b, b = mainGlobals ∨ b = builtinsNs → b ∉ fp ∧ b < s0.heap.objs.size) (os : s.os = s0.os) (gens : s.gens = s0.gens)
    (k : ∀ (s1 : Shared) (I2 : Addr) (fs : List Frame), Good s1 → InOk P w A A' env (.forLoop (.Name "y" q6) (.ref I1) (bodyO q1 q2 q3 q5 q7 p1 p2 p3 p4 p5 kt) [] env) (.forLoop (.Name "x" q1) (.ref I2) (bodyI p1 p2 p3 p4 p5 kt) [] env) fsO fs → At env gobj gno fp s0 s1 a y I1 I2 q a 0 →
      Sg (model P w) A (TurnE P w A gobj gno itm r fp s0) (.forLoop (.Name "x" q1) (.ref I2) (bodyI p1 p2 p3 p4 p5 kt) [] env) ((model P w).den (.forLoop (.Name "x" q1) (.ref I2) (bodyI p1 p2 p3 p4 p5 kt) [] env)) fs s1) :
    Sg (model P w) A (TurnE P w A gobj gno itm r fp s0) (.forLoop (.Name "y" q6) (.ref I1) (bodyO q1 q2 q3 q5 q7 p1 p2 p3 p4 p5 kt) [] env) ((model P w).den (.forLoop (.Name "y" q6) (.ref I1) (bodyO q1 q2 q3 q5 q7 p1 p2 p3 p4 p5 kt) [] env)) fsO s := by
  refine sg_forLoop ?_
  rw [o.over]
  refine wpAny_pyNext_range_item i1 (by omega) fun h' it' sb => ?_
  have it' : IsRangeIter h' I1 (y + 1) q 1 := by
    have e : ((q : Int) + 1 - 1) = q := by omega
    rw [e] at it'; exact it'
  refine nameGo ?_
  obtain ⟨m, t, hn, hm⟩ := fr
  have hn' : h'.Ns env.locals m := hn.sameBut sb (Ne.symm n1)
  refine ev_store ok ok.ky hn' fun h2 hn2 sb2 => ?_
  refine sg_cons (sg_For ?_)
  rw [o.over]
  have kp1 : Kp [env.locals, I1] s.heap h2 := fun b o n e => by
    rw [sb2.2 b (fun z => n (z ▸ by simp)), sb.2 b (fun z => n (z ▸ by simp))]
    exact e
  have ownMF : ∀ b, b ∈ [env.locals, I1] → b ∈ fp ∨ s0.heap.objs.size ≤ b := fun b hb => mf b (by simp at hb; rcases hb with h | h <;> simp [h])
  have gnl : ∀ b, b = mainGlobals ∨ b = builtinsNs → b ∉ [env.locals, I1] := fun b hb m => by
    rcases ownMF b m with z | z
    · exact (nl b hb).1 z
    · exact absurd (Nat.lt_of_lt_of_le (nl b hb).2 z) (Nat.lt_irrefl _)
  have g2' : Good { s with heap := h2, toks := s.toks + 1 + 1 } := by
    obtain ⟨⟨m1, e1, e2⟩, m2, e3, e4⟩ := gs
    exact ⟨⟨m1, e1.at' fun o e => kp1 _ o (gnl _ (.inl rfl)) e, e2⟩, m2, e3.at' fun o e => kp1 _ o (gnl _ (.inr rfl)) e, e4⟩
  refine ev_range (v := "a") (n := a) (t := t) ok g2' ok.ka hn2 ((if_neg (by decide)).trans hm) (by omega) (by omega) fun h3 tk I2 l1 l2 k3 r3 s3 p => ?_
  have size : h2.objs.size = s.heap.objs.size := sb2.1.trans sb.1
  have l1 : h2.objs.size ≤ I2 := l1
  have k3 : ∀ b o, h2.get? b = some o → h3.get? b = some o := k3
  have s3 : h2.objs.size ≤ h3.objs.size := s3
  have i1' : IsRangeIter h2 I1 (y + 1) q 1 := by rw [IsRangeIter, sb2.2 I1 n1]; exact it'
  have gn' : h2.IsGen gobj gno := isgen_at gn fun o e => by rw [sb2.2 gobj g1, sb.2 gobj g2]; exact e
  have lg : gobj < h2.objs.size := by obtain ⟨o, _, _, e, _⟩ := gn'; exact Heap.lt_size e
  refine k _ I2 _ (by obtain ⟨⟨m1, e1, e2⟩, m2, e3, e4⟩ := g2'; exact ⟨⟨m1, e1.at' (k3 _), e2⟩, m2, e3.at' (k3 _), e4⟩) (in_of o rfl rfl rfl rfl p) ⟨⟨_, t, _, hn2.at' (k3 _), (if_neg (by decide)).trans hm, if_pos rfl⟩, k3 _ _ i1', r3, n1, Nat.ne_of_gt (Nat.lt_of_lt_of_le hn2.lt l1), Nat.ne_of_lt (Nat.lt_of_lt_of_le (Heap.lt_size i1') l1), isgen_at gn' (k3 _), g1, g2, Nat.ne_of_lt (Nat.lt_of_lt_of_le lg l1), fun b hb => ?_, ?_, ?_, nl, os, gens⟩
  · rcases hb with h | h | h | h
    · exact mf b (.inl h)
    · exact mf b (.inr (.inl h))
    · exact mf b (.inr (.inr h))
    · exact .inr (by rw [h]; omega)
  · refine fun b o n e => k3 b o (kp1 b o (fun hb => ?_) (kp b o n e))
    rcases ownMF b hb with z | z
    · exact n z
    · exact absurd (Nat.lt_of_lt_of_le (Heap.lt_size e) z) (Nat.lt_irrefl _)
  · show s0.heap.objs.size ≤ h3.objs.size
    omega
/-- THE LOOPS: what a turn does from any place -/
theorem loops {I1 : Addr} {fsO : List Frame} (ok : EnvOk env) (hh : A'.handled = none) (ha : 1 ≤ a) (ha2 : a < 2 ^ 62) (hitm : ∀ r j q x y : Nat, r = j + q * a → x + (j + 1) = a → y + 1 + q = C → itm r = ((x : Int), (y : Int)))
    (o : OutOk P w A A' env (.forLoop (.Name "y" q6) (.ref I1) (bodyO q1 q2 q3 q5 q7 p1 p2 p3 p4 p5 kt) [] env) fsO) :
    ∀ (r j q : Nat) (x y : Nat) (fp : List Addr) (s0 s : Shared) (I2 : Addr) (fs : List Frame), r = j + q * a → x + j = a → y + 1 + q = C → Good s →
      InOk P w A A' env (.forLoop (.Name "y" q6) (.ref I1) (bodyO q1 q2 q3 q5 q7 p1 p2 p3 p4 p5 kt) [] env) (.forLoop (.Name "x" q1) (.ref I2) (bodyI p1 p2 p3 p4 p5 kt) [] env) fsO fs → At env gobj gno fp s0 s a y I1 I2 q j x →
      Sg (model P w) A (TurnE P w A gobj gno itm r fp s0) (.forLoop (.Name "x" q1) (.ref I2) (bodyI p1 p2 p3 p4 p5 kt) [] env) ((model P w).den (.forLoop (.Name "x" q1) (.ref I2) (bodyI p1 p2 p3 p4 p5 kt) [] env)) fs s := by
  have fin0 : ∀ (fp : List Addr) (s0 s : Shared) (fs : List Frame) (I2 : Addr) (y x : Int) (q : Nat) (Φ : End → Shared → Prop), Good s → InOk P w A A' env (.forLoop (.Name "y" q6) (.ref I1) (bodyO q1 q2 q3 q5 q7 p1 p2 p3 p4 p5 kt) [] env) (.forLoop (.Name "x" q1) (.ref I2) (bodyI p1 p2 p3 p4 p5 kt) [] env) fsO fs → At env gobj gno fp s0 s a y I1 I2 q (0 : Nat) x →
      (∀ s1, Good s1 → FrA s1.heap env.locals a → IsRangeIter s1.heap I1 (y + 1) q 1 → s1.heap.IsGen gobj gno → Kp fp s0.heap s1.heap → s0.heap.objs.size ≤ s1.heap.objs.size → s1.os = s0.os → s1.gens = s0.gens →
        Sg (model P w) A Φ (.forLoop (.Name "y" q6) (.ref I1) (bodyO q1 q2 q3 q5 q7 p1 p2 p3 p4 p5 kt) [] env) ((model P w).den (.forLoop (.Name "y" q6) (.ref I1) (bodyO q1 q2 q3 q5 q7 p1 p2 p3 p4 p5 kt) [] env)) fsO s1) →
      Sg (model P w) A Φ (.forLoop (.Name "x" q1) (.ref I2) (bodyI p1 p2 p3 p4 p5 kt) [] env) ((model P w).den (.forLoop (.Name "x" q1) (.ref I2) (bodyI p1 p2 p3 p4 p5 kt) [] env)) fs s := by
    intro fp s0 s fs I2 y x q Φ gs io z k
    refine sg_forLoop ?_
    rw [io.over]
    refine wpAny_hsz (wpAny_pyNext_range_end hh z.i2 (by simp) fun h' eb sz => io.fin _ _ (k _ ?_ ?_ ?_ ?_ ?_ ?_ z.os z.gens))
    · have nI : ∀ b, b = mainGlobals ∨ b = builtinsNs → b ≠ I2 := fun b hb e => by
        rcases z.mf I2 (.inr (.inr (.inr rfl))) with m | m
        · exact (z.nl b hb).1 (e ▸ m)
        · exact absurd (Nat.lt_of_lt_of_le (z.nl b hb).2 (e ▸ m)) (Nat.lt_irrefl _)
      obtain ⟨⟨m1, e1, e2⟩, m2, e3, e4⟩ := gs
      exact ⟨⟨m1, e1.at' fun o e => eb _ o (nI _ (.inl rfl)) e, e2⟩, m2, e3.at' fun o e => eb _ o (nI _ (.inr rfl)) e, e4⟩
    · obtain ⟨m, t, u, hn, ha, hy⟩ := z.fr
      exact ⟨m, t, hn.at' fun o e => eb _ o (Ne.symm z.n2) e, ha⟩
    · exact eb _ _ z.n3 z.i1
    · exact isgen_at z.gn fun o e => eb _ o z.g3 e
    · refine fun b o n e => eb b o (fun hb => ?_) (z.kp b o n e)
      rcases z.mf I2 (.inr (.inr (.inr rfl))) with m | m
      · exact n (hb ▸ m)
      · exact absurd (Nat.lt_of_lt_of_le (Heap.lt_size e) (hb ▸ m)) (Nat.lt_irrefl _)
    · exact Nat.le_trans z.sz sz
  intro r
  induction r with
  | zero =>
    intro j q x y fp s0 s I2 fs hr hx hy gs io z
    have hj : j = 0 := by omega
    have hq : q = 0 := by
      rcases Nat.eq_zero_or_pos q with e | e
      · exact e
      · have := Nat.mul_le_mul e ha
        omega
    subst hj hq
    refine fin0 fp s0 s fs I2 y x 0 _ gs io z fun s1 gs1 fr1 i1 gn1 kp1 sz1 os1 ge1 => ?_
    refine sg_forLoop ?_
    rw [o.over]
    refine wpAny_hsz (wpAny_pyNext_range_end hh i1 (by simp) fun h' eb sz => o.fin _ _ ⟨⟨_, rfl, .inl rfl⟩, ?_, Nat.le_trans sz1 sz, os1, ge1⟩)
    refine fun b o n e => eb b o (fun hb => ?_) (kp1 b o n e)
    rcases z.mf I1 (.inr (.inr (.inl rfl))) with m | m
    · exact n (hb ▸ m)
    · exact absurd (Nat.lt_of_lt_of_le (Heap.lt_size e) (hb ▸ m)) (Nat.lt_irrefl _)
  | succ r ih =>
    intro j q x y fp s0 s I2 fs hr hx hy gs io z
    rcases Nat.eq_zero_or_pos j with hj | hj
    · subst hj
      obtain ⟨q', rfl⟩ : ∃ q', q = q' + 1 := ⟨q - 1, by
        rcases Nat.eq_zero_or_pos q with e | e
        · subst e; omega
        · omega⟩
      have hr' : r = (a - 1) + q' * a := by rw [Nat.add_mul] at hr; omega
      refine fin0 fp s0 s fs I2 y x (q' + 1) _ gs io z fun s1 gs1 fr1 i1 gn1 kp1 sz1 os1 ge1 => ?_
      refine outer_row (y := (y : Int) + 1) (q := q') ok hh ha ha2 gs1 o fr1 (by push_cast at i1; exact i1) z.n1 gn1 z.g1 z.g2 (fun b hb => z.mf b (by rcases hb with h | h | h <;> simp [h])) kp1 sz1 z.nl os1 ge1 fun s2 I2' fs' _ io' z' => ?_
      have e1 : ((a - 1 : Nat) : Int) + 1 = a := by omega
      refine inner_item (j := a - 1) (q := q') (x := 0) (y := (y : Int) + 1) ok io'.over hh io'.split io'.guard (by rw [e1]; exact z') ?_ fun fp' s3 gs3 z3 => ?_
      · have := hitm r (a - 1) q' 0 (y + 1) hr' (by omega) (by omega)
        rw [this]; push_cast; rfl
      · refine ih (a - 1) q' 1 (y + 1) fp' s3 s3 I2' fs' hr' (by omega) (by omega) gs3 io' ?_
        push_cast
        rw [Int.zero_add] at z3
        exact z3
    · obtain ⟨j', rfl⟩ : ∃ j', j = j' + 1 := ⟨j - 1, by omega⟩
      refine inner_item (j := j') ok io.over hh io.split io.guard (by push_cast at z; exact z) (hitm r j' q x y (by omega) (by omega) hy) fun fp' s3 gs3 z3 => ?_
      refine ih j' q (x + 1) y fp' s3 s3 I2 fs (by omega) (by omega) hy gs3 io ?_
      push_cast
      exact z3
end
end GX
namespace GX
open PySem PySem.Spec PyProof.Rows L2 GenW Z
section
variable {P : Program} {w : World} {A : Around} {Φ : End → Shared → Prop} {s : Shared} {env : Env}
def funcK (f : Flow) : Sem PySem.Fin := .pure (.done (.ret (match f with | .ret v => v | _ => .none)))
def funcH (env : Env) (e : Value) : Sem PySem.Fin := (leaving env e).bind fun _ => .raise e
theorem sg_func {body : List Stmt} {fs : List Frame} (h : Sg (model P w) A Φ (.func body env) ((execs body env).wrap funcK (funcH env) id id) fs s) : Sg (model P w) A Φ (.func body env) ((model P w).den (.func body env)) fs s := by
  show Sg _ A Φ _ (.point [] fun _ => ((execs body env).onRaise (leaving env)) >>= _) fs s
  refine sg_point ?_
  rw [Sem.onRaise_eq_wrap, Sem.bind_eq_wrap', Sem.wrap_wrap]
  refine Eq.mpr (congrArg (fun t => Sg (model P w) A Φ (.func body env) t fs s) (Sem.wrap_congr (execs body env) (K' := funcK) (H' := funcH env) _ _ (fun f => ?_) fun e => ?_)) h
  · cases f <;> rfl
  · rw [Sem.bind_eq_wrap, Sem.wrap_wrap]
    show _ = (leaving env e).bind _
    rw [Sem.bind_eq_wrap]
    rfl
end
abbrev cellBody (t1 t2 t3 t4 t5 t6 t7 u1 u2 u3 u4 q1 q2 q3 q5 q6 q7 p1 p2 p3 p4 p5 : Pos) (tt kt : Nat) : List Stmt :=
  [.Assign [.Tuple [.Name "a" t1, .Name "b" t2, .Name "c" t3] tt t4] (.Attribute (.Name "self" t5) "own_numbers" t6) t7,
   .For (.Name "y" q6) (.Call (.Name "range" u1) [.Name "c" u2] [] u3) (bodyO q1 q2 q3 q5 q7 p1 p2 p3 p4 p5 kt) [] u4]
section
variable {X : Cx} {pins : List (Addr × Obj)} {σ : L2.St} {H : Hp} {s : Shared} {A : Around} {env : Env} {gobj selfa C0 dx : Addr} {gno : Nat} {itm : Nat → Int × Int} {a b C : Nat} {fs0 : List (Str × V)} {tp : Addr} {tt kt : Nat} {t1 t2 t3 t4 t5 t6 t7 u1 u2 u3 u4 q1 q2 q3 q5 q6 q7 p1 p2 p3 p4 p5 : Pos}
theorem good_of (I : L2.Inv X pins σ H s) (hm : X.mg "range" = none) : Good s := by
  obtain ⟨mb, h1, h2⟩ := I.mod.blt
  exact ⟨⟨_, I.mod.glob.keeps I.bk, hm⟩, mb, h1.keeps I.bk, (h2 _ (by decide)).trans boot_range⟩
/-- the first turn -/
theorem first (ok : EnvOk env) (hA : A.handled = none) (ha : 1 ≤ a) (ha2 : a < 2 ^ 62) (hC : 1 ≤ C) (hC2 : C < 2 ^ 62) (hitm : ∀ r j q x y : Nat, r = j + q * a → x + (j + 1) = a → y + 1 + q = C → itm r = ((x : Int), (y : Int)))
    (I : L2.Inv X pins σ H s) (hm : X.mg "range" = none) (hs : H selfa = some (.ins C0 dx fs0)) (c1 : Cls X.K C0) (c2 : NoAttr X.K C0 "own_numbers") (hl : fs0.lookup ("own_numbers" : Str) = some (V.ref tp)) (hq : SqT X.K H tp [.int a, .int b, .int C])
    (pg : ∃ o, (gobj, o) ∈ pins) (pL : ∃ o, (env.locals, o) ∈ pins) (gn : s.heap.IsGen gobj gno) (gL : gobj ≠ env.locals) {m : Str → Option Value} (hn : s.heap.Ns env.locals m) (hself : m "self" = some (.ref selfa)) (nL : ∀ b, b = mainGlobals ∨ b = builtinsNs → b ≠ env.locals) :
    Sg (model X.prog X.w) A (fun e s' => ∃ s2, L2.Inv X pins σ H s2 ∧ s.gens.size ≤ s2.gens.size ∧ TurnE X.prog X.w A gobj gno itm (C * a) [gobj, env.locals] s2 e s')
      (.func (cellBody t1 t2 t3 t4 t5 t6 t7 u1 u2 u3 u4 q1 q2 q3 q5 q6 q7 p1 p2 p3 p4 p5 tt kt) env) ((model X.prog X.w).den (.func (cellBody t1 t2 t3 t4 t5 t6 t7 u1 u2 u3 u4 q1 q2 q3 q5 q6 q7 p1 p2 p3 p4 p5 tt kt) env)) [] s := by
  refine sg_func ?_
  refine sg_cons (sg_wrap ?_)
  rw [over_func]
  refine wpAny_Assign_stores (attr_of (by rfl) (wpAny_Name (wpAny_loadName_local ok.kind ok.ks hn hself ?_) (by decide))) (by rfl) (by rfl)
  refine wpAny_gsz (n := s.gens.size) (Nat.le_refl _) (getattr_ok I hs c1 c2 hl fun u s2 I2 ru sz2 => ?_)
  obtain rfl : u = Value.ref tp := ru
  have pin := fun (x : Addr) (o : Obj) (hx : (x, o) ∈ pins) (o' : Obj) (e : s.heap.get? x = some o') => show s2.heap.get? x = some o' by
    have h1 := (I.pin (x, o) (List.mem_append_right _ hx)).1
    have h2 := (I2.pin (x, o) (List.mem_append_right _ hx)).1
    rw [e] at h1
    cases h1
    exact h2
  obtain ⟨og, hpg⟩ := pg
  obtain ⟨oL, hpL⟩ := pL
  have hn2 : s2.heap.Ns env.locals m := hn.at' (pin _ _ hpL)
  have gn2 : s2.heap.IsGen gobj gno := isgen_at gn (pin _ _ hpg)
  obtain ⟨its, rv, ht, hz⟩ := I2.tuple hq
  cases rv with
  | cons r1 rv =>
  cases rv with
  | cons r2 rv =>
  cases rv with
  | cons r3 rv =>
  cases rv
  obtain ⟨ta, rfl⟩ := r1
  obtain ⟨tb, rfl⟩ := r2
  obtain ⟨tc, rfl⟩ := r3
  have hA' : (A.deeper env).handled = none := hA
  show wpAny _ _ (assign (.Tuple [.Name "a" t1, .Name "b" t2, .Name "c" t3] tt t4) env (.ref tp)) _ _ _
  refine wpAny_hsz (assign_Tuple_tuple hA' ht (by rfl) (by rfl) fun h3 x3 => ?_)
  have k3 : ∀ b o, s2.heap.get? b = some o → h3.get? b = some o := fun b o e => x3 b o (Nat.ne_of_lt (Heap.lt_size e)) e
  refine assignInOrder_cons (ev_store (s := { s2 with heap := h3 }) ok ok.ka (hn2.at' (k3 _)) fun h4 hn4 sb4 => ?_)
  refine assignInOrder_cons (ev_store (s := { s2 with heap := h4, toks := s2.toks + 1 }) ok ok.kb hn4 fun h5 hn5 sb5 => ?_)
  refine assignInOrder_cons (ev_store (s := { s2 with heap := h5, toks := s2.toks + 1 + 1 }) ok ok.kc hn5 fun h6 hn6 sb6 => ?_)
  refine assignInOrder_nil fun sz6 => ?_
  have sz6 : s2.heap.objs.size ≤ h6.objs.size := sz6
  have kp6 : Kp [gobj, env.locals] s2.heap h6 := fun b o n e => by
    have nL : b ≠ env.locals := fun z => n (z ▸ by simp)
    rw [sb6.2 b nL]
    show h5.get? b = some o
    rw [sb5.2 b nL]
    show h4.get? b = some o
    rw [sb4.2 b nL]
    exact k3 b o e
  have gn6 : h6.IsGen gobj gno := isgen_at gn2 fun o e => by
    rw [sb6.2 gobj gL]
    show h5.get? gobj = some o
    rw [sb5.2 gobj gL]
    show h4.get? gobj = some o
    rw [sb4.2 gobj gL]
    exact k3 _ o e
  have nl : ∀ b, b = mainGlobals ∨ b = builtinsNs → b ∉ [gobj, env.locals] ∧ b < s2.heap.objs.size := fun b hb => by
    obtain ⟨⟨m1, e1, _⟩, m2, e2, _⟩ := good_of I2 hm
    have gd : ∀ mm, s2.heap.Ns b mm → b ≠ gobj := fun mm hmm e => by
      obtain ⟨o, _, _, e3, d, _⟩ := hmm
      obtain ⟨o', _, _, e4, _, d', _⟩ := gn2
      rw [e, e4] at e3
      cases e3
      rw [d] at d'
      cases d'
    refine ⟨fun mm => ?_, ?_⟩
    · simp only [List.mem_cons, List.not_mem_nil, or_false] at mm
      rcases mm with z | z
      · rcases hb with rfl | rfl
        · exact gd _ e1 z
        · exact gd _ e2 z
      · exact nL b hb z
    · rcases hb with rfl | rfl
      · exact e1.lt
      · exact e2.lt
  have g2 := good_of I2 hm
  have g6 : Good { s2 with heap := h6, toks := s2.toks + 1 + 1 + 1 } := by
    obtain ⟨⟨m1, e1, e2⟩, m2, e3, e4⟩ := g2
    exact ⟨⟨m1, e1.at' fun o e => kp6 _ o (nl _ (.inl rfl)).1 e, e2⟩, m2, e3.at' fun o e => kp6 _ o (nl _ (.inr rfl)).1 e, e4⟩
  refine sg_cons (sg_For ?_)
  rw [over_func]
  refine ev_range (v := "c") (n := C) (t := tc) ok g6 ok.kc hn6 (if_pos rfl) (by omega) (by omega) fun h7 tk I1 l1 l2 k7 r7 s7 p => ?_
  have l1 : h6.objs.size ≤ I1 := l1
  have s7 : h6.objs.size ≤ h7.objs.size := s7
  have k7 : ∀ b o, h6.get? b = some o → h7.get? b = some o := k7
  have hn7 := hn6.at' (k7 env.locals)
  obtain ⟨C', rfl⟩ : ∃ C', C = C' + 1 := ⟨C - 1, by omega⟩
  have lg : gobj < h6.objs.size := by obtain ⟨o, _, _, e, _⟩ := gn6; exact Heap.lt_size e
  have oo : OutOk X.prog X.w A (A.deeper env) env (.forLoop (.Name "y" q6) (.ref I1) (bodyO q1 q2 q3 q5 q7 p1 p2 p3 p4 p5 kt) [] env) (.ret (backK env (fun f => match f with | .next => (execs [] env).wrap funcK (funcH env) id id | f => funcK f) (funcH env) id id) none (id false) (id []) (.func (cellBody t1 t2 t3 t4 t5 t6 t7 u1 u2 u3 u4 q1 q2 q3 q5 q6 q7 p1 p2 p3 p4 p5 tt kt) env) p [] :: []) :=
    ⟨(over_loop rfl rfl).trans over_func, rfl, rfl, fun Φ s h => sg_leaf (.ok .next) (sg_nil (env := env) (sg_end (.ok (.ret .none)) h))⟩
  refine Sg.mono (Ψ := fun e s' => ∃ s2, L2.Inv X pins σ H s2 ∧ s.gens.size ≤ s2.gens.size ∧ TurnE X.prog X.w A gobj gno itm ((C' + 1) * a) [gobj, env.locals] s2 e s') (outer_row (r := (C' + 1) * a) (y := 0) (q := C') (s0 := s2) (fp := [gobj, env.locals]) ok hA' ha ha2 ?_ oo ?_ (by push_cast at r7; exact r7) (Nat.ne_of_gt (Nat.lt_of_lt_of_le hn6.lt l1)) (isgen_at gn6 (k7 _)) gL (Nat.ne_of_lt (Nat.lt_of_lt_of_le lg l1)) (fun b hb => ?_) ?_ ?_ nl rfl rfl fun s8 I2' fs' gs8 io z => ?_) fun e s' q => ⟨s2, I2, sz2, q⟩
  · obtain ⟨⟨m1, e1, e2⟩, m2, e3, e4⟩ := g6
    exact ⟨⟨m1, e1.at' (k7 _), e2⟩, m2, e3.at' (k7 _), e4⟩
  · exact ⟨_, ta, hn7, (if_neg (by decide)).trans ((if_neg (by decide)).trans (if_pos rfl))⟩
  · rcases hb with h | h | h
    · exact .inl (by simp [h])
    · exact .inl (by simp [h])
    · exact .inr (by rw [h]; exact Nat.le_trans sz6 l1)
  · exact kp6.trans (Kp.of k7)
  · show s2.heap.objs.size ≤ h7.objs.size
    omega
  · have hr : (C' + 1) * a = a + C' * a := by rw [Nat.add_mul, Nat.one_mul, Nat.add_comm]
    exact loops ok hA' ha ha2 hitm oo _ a C' 0 0 _ s2 s8 I2' fs' hr (by omega) (by omega) gs8 io z
end
end GX
namespace GX
open PySem PySem.Spec PyProof.Rows L2 GenW Z
section
variable {X : Cx} {pins : List (Addr × Obj)} {σ : L2.St} {H : Hp} {s s1 : Shared} {fp : List Addr}
end
structure ScOk (sc : Scope) : Prop where
  rng : sc.names.lookup ("range" : Str) = some .globalImplicit
  ka : sc.names.lookup ("a" : Str) = some .local
  kb : sc.names.lookup ("b" : Str) = some .local
  kc : sc.names.lookup ("c" : Str) = some .local
  kx : sc.names.lookup ("x" : Str) = some .local
  ky : sc.names.lookup ("y" : Str) = some .local
  ks : sc.names.lookup ("self" : Str) = some .local
section
variable {P : Program} {w : World} {K : Frg} {mg : Str → Option Value} {A : Around} {env : Env} {gobj selfa C0 dx : Addr} {gno : Nat} {itm : Nat → Int × Int} {a b C : Nat} {fs0 : List (Str × V)} {tp : Addr} {tt kt : Nat} {t1 t2 t3 t4 t5 t6 t7 u1 u2 u3 u4 q1 q2 q3 q5 q6 q7 p1 p2 p3 p4 p5 : Pos}
end
end GX
namespace Y
open PySem PySem.Spec PyProof.Rows L2 Z
section
variable {X : Cx} {B : Bs} {pos : Pos}
/-- {} -/
theorem y_dic0 : PEp X B (.Dict [] [] pos) (fun _ Q => Q (.dic [] [])) := by
  refine ⟨fun pins s σ H Q I ⟨F, ρ, Qd, J, z, k⟩ => ?_⟩
  refine thn (pe_dnewK.run pins s σ H (fun v H1 => ∃ p, v = .ref p ∧ H p = none ∧ H1 = upd H p (.dK [])) I fun p hp => ⟨p, rfl, hp, rfl⟩) fun u s1 ⟨v, H1, I1, rv, p, ev, hp, eH⟩ => ?_
  subst ev eH
  obtain ⟨od, I2⟩ := I1.lock upd_same trivial
  rw [upd_upd] at I2
  exact ⟨.ref p, _, I2, rv, k _ _ _ _ (Go.new J.same hp) (J.tp.go0 (Go.new J.same hp)) (.dic (vs := []) (upd_same ..) rfl .nil) z⟩
end
end Y
namespace Y
open PySem PySem.Spec PyProof.Rows L2 Z
open PySem.W PySem.Calls PySem.HandSPX
/-! ### an own class of errors whose __init__ keeps its argument in one field -/
def iA (f : Str) (p1 p2 : Pos) : Arguments := { posonlyargs := [], args := [{ arg := "self", annotation := none, pos := p1 }, { arg := f, annotation := none, pos := p2 }], vararg := none, kwonlyargs := [], kw_defaults := [], kwarg := none, defaults := [] }
def iB (f : Str) (q1 q2 q3 q4 : Pos) : List Stmt := [.Assign [.Attribute (.Name "self" q1) f q2] (.Name f q3) q4]
def iS (f : Str) : Scope := { kind := .function, names := [(PySem.Str.ofString "self", .local), (f, .local)], isGenerator := false, isCoroutine := false, more := [] }
/-- a built-in base of own errors -/
structure ExB (bmB : List Value) (newId : String) : Prop where
  fb : ∃ B initId, ExcBaseFacts B newId initId bmB
  ps : ∀ self, refuseLoop self "__setattr__" bmB = pure ()
  ob : bmB.contains (.type "object") = true
  ne : bmB.isEmpty = false
def bsValue : List Value := [.type "ValueError", .type "Exception", .type "BaseException", .type "object"]
def bsOver : List Value := [.type "OverflowError", .type "ArithmeticError", .type "Exception", .type "BaseException", .type "object"]
def bsArith : List Value := [.type "ArithmeticError", .type "Exception", .type "BaseException", .type "object"]
theorem exB_Value : ExB bsValue "ValueError.__new__" := ⟨⟨_, _, F.excBase_ValueError⟩, F.store_ValueError.passes, by decide +kernel, rfl⟩
theorem exB_Over : ExB bsOver "OverflowError.__new__" := ⟨⟨_, _, F.excBase_OverflowError⟩, F.store_OverflowError.passes, by decide +kernel, rfl⟩
theorem exB_Arith : ExB bsArith "ArithmeticError.__new__" := ⟨⟨_, _, F.excBase_ArithmeticError⟩, F.store_ArithmeticError.passes, by decide +kernel, rfl⟩
section
variable {prog : Program} {w : World} {A : Around} {E : Value → Shared → Prop} {R : Result → Shared → Prop} {hp : Heap} {g : Array GenState} {d : Drawn} {t : Tok} {os : OsState}
open Builtin Builtin.ObjectAttr in
theorem exc_osaG {K : W.Frag} {name : Str} {tk : Tok} {v : Value} {x C : Addr} {fv : Array Value} {cd : ClassData} {bmB : List Value} {newId : String} (EB : ExB bmB newId)
    (X : K.In hp) (hx : hp.get? x = some { cls := .ref C, data := .fields fv }) (hcd : W.clsIn K C = some cd) (hm : excTail bmB cd.mro = true) (hh : cd.hasDict = true) (ha : W.findIn K (.ref C) name = some none)
    (hq : ∀ h' tk' dx, (∀ b o, b ≠ x → hp.get? b = some o → h'.get? b = some o) → hp.objs.size ≤ dx → dx ≠ x → h'.get? x = some { cls := .ref C, dict := some dx, data := .fields fv } →
      h'.Ns1 dx (fun y => if y = name then some v else none) → R (.ok (.ret .none)) ⟨h', g, d, tk', os⟩) :
    codeAny (model prog w) A (.call (.builtin "object.__setattr__") ⟨[.ref x, .str name tk, v], []⟩) R ⟨hp, g, d, t, os⟩ := by
  have I : W.InstAt hp x { cls := .ref C, data := .fields fv } C none := ⟨hx, rfl, rfl, trivial⟩
  have SF := F.store_object
  have hob : cd.mro.contains (.type "object") = true := (excTail_contains "object" _ hm).trans EB.ob
  have ne : cd.mro.isEmpty = false := by
    cases e : cd.mro with
    | nil => rw [e] at hob; simp at hob
    | cons _ _ => rfl
  have hxs : x ≠ hp.objs.size := Nat.ne_of_lt (Heap.lt_size hx)
  have sub : W.Looks (model prog w) hp (isInstance (.ref x) (.type "object")) true := I.type.andThen (W.looks_mroIn X (by unfold W.mroIn; rw [hcd, Option.bind_some, if_neg (by rw [ne]; decide), hob]))
  refine codeAny_call_builtin SF.slot.plain SF.entry (@W.check_slot (model prog w) _ _ ⟨hp, g, d, t, os⟩ "object.__setattr__" "object" "__setattr__" (.ref x) [.str name tk, v] [] _ SF.kind SF.split sub (SF.args (.ref x) (.str name tk) v) ?_)
  have hmr : W.Looks (model prog w) hp (mroOf (.ref C)) cd.mro := (W.looks_clsIn X hcd).andThen .now
  have L3 : W.Looks (model prog w) hp (storeTaker? none) none := .now
  have hcls : W.Looks (model prog w) hp (classData C) cd := W.looks_clsIn X hcd
  rw [W.osa_eq, refuse_eq]
  refine wpAny_bind (wpAny_bind (I.type.at (wpAny_bind (hmr.at ?_))))
  rw [excTail_pass _ (EB.ps _) _ hm]
  refine wpAny_pure (wpAny_bind (I.type.at (wpAny_bind ((W.looks_findIn X ha).at (wpAny_bind (L3.at ?_))))))
  show wpAny _ _ (storeInOwnDict (.ref x) (.ref C) (.str name tk) name v false) _ _ _
  obtain ⟨nm, bs, mro, ns, qn, hd, sn, sb, ab, col, del⟩ := cd
  dsimp only at hh
  subst hh
  unfold storeInOwnDict ownDictForStores
  repeat (first | with_reducible refine store_in_new ?_ ?_ | with_reducible refine wpAny_loadPart_at hx ?_ | with_reducible refine hcls.at ?_ | wp_step)
  · exact ⟨_, #[], _, (Heap.get?_update_ne _ _ _ _ hxs.symm).trans (Heap.get?_push_at rfl rfl), rfl, fun e he => absurd he (by simp), fun _ => rfl⟩
  · intro h' tk' hn' hs
    have hx₁ : (hp.push { cls := .type "dict", data := .dict #[] }).get? x = some { cls := .ref C, data := .fields fv } := Heap.get?_push_of_some _ hx
    refine hq h' tk' hp.objs.size (fun b o hb ho => ?_) (Nat.le_refl _) hxs.symm ?_ hn'
    · exact (hs.2 b (Nat.ne_of_lt (Heap.lt_size ho))).trans ((Heap.get?_update_ne _ _ _ _ hb).trans (Heap.get?_push_of_some _ ho))
    · exact (hs.2 x hxs).trans (Heap.get?_update_self _ hx₁ rfl)
end
structure XcT (K : Frg) (C fI : Addr) (f qual : Str) (st : Stmt) : Prop where
  cls : ∃ nm q N bs bm sn sub ab col dd k0 k1 k2 k3 k5 bmB newId, K.lookup C = some (excClassObj nm q C N bs bm true sn sub ab col dd k0 k1 k2 k3 k5 newId) ∧ excTail bmB bm = true ∧ ExB bmB newId
  sa : findIn K (.ref C) "__setattr__" = some (some (.builtin "object.__setattr__"))
  xf : L2.XfC K C
  noN : findIn K (.ref C) f = some none
  iC : findIn K (.ref C) "__init__" = some (some (.ref fI))
  tC : typeIn K (.ref fI) = some (.type "function")
  kC : keepIn K (.ref C) = true
  exC : subIn K (.ref C) (.type "BaseException") = some true
  tyC : typeIn K (.ref C) = some (.type "type")
  df : DefAt K "__init__" qual st fI
  arg : ∃ p1 p2, defArgs st = iA f p1 p2
  body : ∃ q1 q2 q3 q4, defBody st = iB f q1 q2 q3 q4
  sc : defScope st = iS f
def Fld (f : Str) : Prop := f = "value" ∨ f = "index" ∨ f = "limit" ∨ f = "name"
theorem one_size (v : Value) : [v].length ≤ sizeLine := by
  rw [sizeLine_eq]
  exact (by decide : 1 ≤ 16777216)
theorem ldC {M : Model} {s : Shared} {name : Str} {scope : Scope} {L a : Addr} {cd : Value} {m : Str → Option Value} {x : Str} {pos : Pos} {v : Value} {Q : Value → Shared → Prop} {A : Around} {E : Value → Shared → Prop} (hn : s.heap.Ns L m) (hv : m x = some v) (h : Q v s)
    (hk : scope.kind = .function := by rfl) (hl : (envOfC name scope L a cd).kindOf x = some .local := by rfl) (hd : (x == ("__debug__" : Str)) = false := by decide) :
    wpAny M A (eval (.Name x pos) (envOfC name scope L a cd)) Q E s := wpAny_Name (wpAny_loadName_local hk hl hn hv h) hd
structure InitEnd (h h' : Heap) (x C dx t1 : Addr) (f : Str) (v : Value) : Prop where
  keep : ∀ b o, b ≠ x → h.get? b = some o → h'.get? b = some o
  obj : h'.get? x = some { cls := .ref C, dict := some dx, data := .fields #[.ref t1, .none, .none, .none, .bool false, .none] }
  dbig : h.objs.size ≤ dx
  dne : dx ≠ x
  ns : h'.Ns1 dx (fun y => if y = f then some v else none)
structure OwnMade (h h' : Heap) (e C d : Addr) (f : Str) (v : Value) : Prop where
  keep : ∀ b o, h.get? b = some o → h'.get? b = some o
  new : h.objs.size ≤ e
  obj : ∃ oe t1, h'.get? e = some oe ∧ oe.cls = .ref C ∧ oe.dict = some d ∧ oe.data = .fields #[.ref t1, .none, .none, .none, .bool false, .none]
  dbig : h.objs.size ≤ d
  dne : d ≠ e
  ns : h'.Ns1 d (fun y => if y = f then some v else none)
section
variable {prog : Program} {w : World} {A : Around} {E : Value → Shared → Prop} {R : Result → Shared → Prop} {s : Shared} {K : Frg} {mg : Str → Option Value} {C fI : Addr} {f qual : Str} {st : Stmt}
theorem xc_init (T : XcT K C fI f qual st) (hf : Fld f) {x t0 : Addr} {v : Value} (X : K.In s.heap) (hlim : s.heap.NoLimit) (hx : s.heap.get? x = some (excO C t0)) (hnx : K.lookup x = none) (hroom : A.depth < recursionLimit)
    (hq : ∀ h' tk dx, InitEnd s.heap h' x C dx t0 f v → R (.ok (.ret .none)) { s with heap := h', toks := tk }) :
    codeAny (model prog w) A (.call (.ref fI) ⟨[.ref x, v], []⟩) R s := by
  obtain ⟨fd, F⟩ := T.df
  obtain ⟨oc, od, dV, kV, doc, pm, an, cdv, ct, osl, rfl, ho, hcd, hD, hK⟩ := F.ex
  have hD' : dV = .none := by
    rcases hD with ⟨_, z⟩ | ⟨z, _⟩
    · exact z
    · exact absurd rfl z
  subst hD'
  obtain ⟨p1, p2, eA⟩ := T.arg
  obtain ⟨q1, q2, q3, q4, eB⟩ := T.body
  rw [eA, eB, T.sc] at ho
  obtain ⟨nm, q, N, bs, bm, sn, sub, ab, col, dd, k0, k1, k2, k3, k5, bmB, newId, hC, hbm, EB⟩ := T.cls
  have hcl : clsIn K C = some { name := nm, bases := bs, mro := .ref C :: bm, ns := N, qualname := q, hasDict := true, slotNames := sn, subclasses := sub, abstract := ab, collection := col, hasDel := false } := by unfold clsIn; rw [hC] <;> rfl
  have hsa := T.sa
  have hno := T.noN
  clear T eA eB F hK hD
  rcases hf with rfl | rfl | rfl | rfl
  all_goals
    refine Att.call_fn (binds := [("self", .ref x), (_, v)]) X hlim ho hcd hroom (BindsTo.of_eq (by first | rfl | with_unfolding_all rfl)) (by first | rfl | decide | with_unfolding_all rfl) (fun s₁ IC => ?_) rfl rfl rfl
    obtain ⟨h₁, tk₁, rfl⟩ := IC.toInCall.same
    have k : ∀ b o, s.heap.get? b = some o → h₁.get? b = some o := IC.toInCall.keep
    have hn := IC.toInCall.ns
    have hxL : s.heap.objs.size ≠ x := Nat.ne_of_gt (Heap.lt_size hx)
    have X₁ : K.In h₁ := X.keeps k
    have hx₁ := k _ _ hx
    show wpAny _ _ (execs _ _) _ _ _
    refine wpAny_execs_cons (plainObj_wpAny_Assign_Attribute ?_)
    refine ldC (v := v) hn (by first | rfl | with_unfolding_all rfl | kernel_rfl) (ldC (v := .ref x) hn (by first | rfl | with_unfolding_all rfl | kernel_rfl) ?_)
    refine set_plain X₁ (ox := excO C t0) (od := none) ⟨hx₁, rfl, rfl, trivial⟩ hsa ?_
    refine exc_osaG EB X₁ hx₁ hcl (show excTail bmB (.ref C :: bm) = true from hbm) rfl hno (fun h₃ tk₃ dx k₃ dn dne hx₃ hn₃ => ?_)
    show wpAny _ _ (execs _ _) _ _ _
    have z : s.heap.objs.size < h₁.objs.size := hn.lt
    exact wpAny_execs_nil (hq h₃ tk₃ dx ⟨fun b o hb e => k₃ b o hb (k b o e), hx₃, Nat.le_of_lt (Nat.lt_of_lt_of_le z dn), dne, hn₃⟩)
theorem xc_made (T : XcT K C fI f qual st) (hf : Fld f) {v : Value} (X : K.In s.heap) (hlim : s.heap.NoLimit) (hroom : A.depth + 1 < recursionLimit)
    (hq : ∀ h' tk e d, OwnMade s.heap h' e C d f v → R (.ok (.ret (.ref e))) { s with heap := h', toks := tk }) :
    codeAny (model prog w) A (.call (.ref C) ⟨[v], []⟩) R s := by
  obtain ⟨nm, q, N, bs, bm, sn, sub, ab, col, dd, k0, k1, k2, k3, k5, bmB, newId, hC, hbm, EB⟩ := T.cls
  obtain ⟨hp, g, dr, tk, os⟩ := s
  have k : ∀ b o, hp.get? b = some o → ((hp.push (kdv_tup [v])).push (excO C hp.objs.size)).get? b = some o := fun b o e => Heap.get?_push_of_some _ (Heap.get?_push_of_some _ e)
  have hget : ((hp.push (kdv_tup [v])).push (excO C hp.objs.size)).get? (hp.objs.size + 1) = some (excO C hp.objs.size) := by heap_get
  have hnx : K.lookup (hp.objs.size + 1) = none := by
    cases e : K.lookup (hp.objs.size + 1) with
    | none => rfl
    | some o =>
      have z : hp.get? (hp.objs.size + 1) = some o := X _ _ e
      exact absurd (Nat.lt_of_succ_lt (Heap.lt_size z)) (Nat.lt_irrefl _)
  obtain ⟨B0, initId, EF⟩ := EB.fb
  refine call_own EF (fun X => excTail_contains X bm hbm) (X _ _ hC) (looks_findIn X T.iC) (fun self => bind_fn X self T.tC) (one_size v) ?_
  refine xc_init (s := ⟨(hp.push (kdv_tup [v])).push (excO C hp.objs.size), g, dr, tk, os⟩) T hf (X.keeps k) (hlim.keeps k) hget hnx ?_ fun h' tk' dx ⟨k', hx, dn, dne, hns⟩ => ?_
  · show A.depth + 1 < recursionLimit
    exact hroom
  · have old : ∀ b o, hp.get? b = some o → h'.get? b = some o := fun b o e => k' b o (Nat.ne_of_lt (Nat.lt_succ_of_lt (Heap.lt_size e))) (k b o e)
    have z : hp.objs.size + 1 + 1 ≤ dx := by
      first
        | (simpa only [Heap.size_push] using dn)
        | exact dn
        | (have q := dn; rw [Heap.size_push, Heap.size_push] at q; exact q)
    exact ⟨rfl, hq h' tk' (hp.objs.size + 1) dx ⟨old, Nat.le_succ _, ⟨_, _, hx, rfl, rfl, rfl⟩, Nat.le_trans (Nat.le_trans (Nat.le_succ _) (Nat.le_succ _)) z, dne, hns⟩⟩
end
end Y
namespace Y
open PySem PySem.Spec PyProof.Rows L2 Z
/-! ### try: body, except C as n: suite, ..; the caught error is a thing of the heap -/
section
variable {X : Cx} {pins : List (Addr × Obj)} {σ : L2.St} {H : Hp} {s : Shared}
theorem xo_ok {P : Program} {w : World} {H : Hp} {h : Heap} {a : Addr} {cls : Value} {d : Option Addr} {oe : Obj} {vs : Array Value} (e : h.get? a = some oe) (z : Zc cls d oe) (hd : oe.data = .fields vs) : ObjOk P w H h a (XO cls d a) :=
  ⟨⟨oe, vs, e, z, hd⟩, ⟨oe, e⟩, fun _ _ ⟨o, v, q, r⟩ k => ⟨o, v, k o q, r⟩⟩
theorem inv_track {a m : Addr} {o : HO} (J : Inv X pins σ H s) (na : H a = none) (n0 : X.s_0.heap.get? a = none) (nL : a ≠ X.env.locals) (hcell : ∀ x c, X.env.cells.lookup x = some c → c ≠ a) (hpin : ∀ p ∈ X.pn ++ pins, p.1 ≠ a)
    (new : ObjOk X.prog X.w (upd H a o) s.heap a o) : Inv (X.suite m (X.pn ++ pins)) [] σ (upd H a o) s :=
  ⟨J.ok.suite _ _, J.os, J.bare, ⟨J.base.keep, J.base.slot, fun b u q n hx => by rw [upd_ne (fun z => by rw [z, n0] at q; cases q)]; exact J.base.free b u q n hx, J.base.there,
      fun b xs q => by have h := J.base.tups b xs q; rw [upd_ne (fun z => by rw [z, na] at h; cases h)]; exact h, fun b u xs q => by have h := J.base.frzs b u xs q; rw [upd_ne (fun z => by rw [z, na] at h; cases h)]; exact h,
      fun b ps q => by obtain ⟨more, h⟩ := J.base.tbls b ps q; exact ⟨more, by rw [upd_ne (fun z => by rw [z, na] at h; cases h)]; exact h⟩⟩,
    J.loc, J.cell, by show upd H a o X.env.locals = none; rw [upd_ne (Ne.symm nL)]; exact J.free, fun x c e => by rw [upd_ne (hcell x c e)]; exact J.freeC x c e,
    fun p hp => by
      have hp' : p ∈ X.pn ++ pins := by rw [List.append_nil] at hp; exact hp
      obtain ⟨h1, h2, h3⟩ := J.pin p hp'
      exact ⟨h1, by rw [upd_ne (hpin p hp')]; exact h2, h3⟩,
    fun b u e => by
      by_cases hb : b = a
      · subst hb
        rw [upd_same] at e
        cases e
        exact new
      · rw [upd_ne hb] at e
        exact (J.hok b u e).stay (fun c v _ q => q) (fun c q => by rw [upd_ne (fun z => by rw [z, na] at q; cases q)]; exact q) fun c xs q => by rw [upd_ne (fun z => by rw [z, na] at q; cases q)]; exact q, J.len⟩
theorem inv_untrk {m : Addr} {pn' : List (Addr × Obj)} (I : Inv (X.suite m (X.pn ++ pins)) pn' σ H s) (ok : X.Ok) : Inv X pins σ H s :=
  ⟨ok, I.os, I.bare, I.base, I.loc, I.cell, I.free, I.freeC, fun p hp => I.pin p (List.mem_append_left _ hp), I.hok, I.len⟩
end
def endX (i : Nat) (D : Ends) : Ends := { nx := fun σ' H' => D.nx (σ'.set i none) H', rt := D.rt, bk := fun σ' H' => D.bk (σ'.set i none) H', ct := fun σ' H' => D.ct (σ'.set i none) H' }
inductive HdsN (X : Cx) : List ExceptHandler → List (Value × Nat × TS) → Prop
  | nil : HdsN X [] []
  | cons {x n : Str} {c : Value} {i : Nat} {ts : TS} {b₀ : Stmt} {suite : List Stmt} {np pos' : Pos} {hds : List ExceptHandler} {l : List (Value × Nat × TS)} (hc : Names X x c) (hi : X.N[i]? = some n) (hln : X.env.kindOf n = some .local)
      (hsu : ∀ (a : Addr) (pn : List (Addr × Obj)), PSs (X.suite a pn) (b₀ :: suite) ts) (r : HdsN X hds l) :
      HdsN X (.ExceptHandler (some (.Name x np)) (some n) (b₀ :: suite) pos' :: hds) ((c, i, ts) :: l)
section
variable {X : Cx} {body : List Stmt} {h₀ : ExceptHandler} {hds : List ExceptHandler} {l : List (Value × Nat × TS)} {pos : Pos} {tb : WX → TS} {Wout : WX}
end
end Y
namespace Y
open PySem PySem.Spec PyProof.Rows L2 Z
/-! ### raise -/
abbrev Tk (X : Cx) (B : Bs) : Prop := Takes X (fun cls d _ H => EE X.K B cls d H)
def tMkX (C : Addr) (f : Str) (ta : TA) : L2.St → Hp → XK → Prop := fun σ H Q => ta σ H fun vs H1 => ∃ v, vs = [v] ∧ ∀ d, H1 d = none → Q (.ref C) (some d) (upd H1 d (.xd [(f, v)]))
theorem relO_x {f : Str} {v : V} {v' : Value} (r : RelV v v') (g : Str) : RelO (List.lookup g [(f, v)]) (if g = f then some v' else none) := by
  by_cases hw : g = f
  · subst hw
    rw [if_pos rfl]
    have q : List.lookup g [(g, v)] = some v := by simp [List.lookup]
    rw [q]
    exact r
  · rw [if_neg hw]
    have qw : (g == f) = false := by simpa using hw
    have q2 : List.lookup g [(f, v)] = none := by simp [List.lookup, qw]
    rw [q2]
    trivial
section
variable {X : Cx} {B : Bs} {a b c e : Expr} {es : List Expr} {ra rb rc r : Rd} {rt ru : RdT} {rl : RdA} {pos p p0 p1 pos2 : Pos} {st : Stmt} {C fI f : Addr} {x fn qual : Str} {sti : Stmt} {k : Nat} {R : RdF}
theorem pmk_x {ta : TA} (T : XcT X.K C fI fn qual sti) (hf : Fld fn) (hr : RoomG k X.A) (ha : PA X [a] ta) (hg : Gl X x) (hm : X.mg x = some (.ref C)) (hdb : (x == ("__debug__" : Str)) = false := by decide)
    (he : starEach (a :: []) X.env = (false, eval a X.env) :: starEach [] X.env := by rfl) (hpl : (backTo pos (starEach [] X.env)).any (·.1) = false := by rfl) :
    PMk X (.Call (.Name x p) [a] [] pos) (tMkX C fn ta) := by
  intro pins s σ H Q I h
  refine wpAny_Call_Name_kw (ld_glob I hg hm ?_ hdb)
  refine PySem.W.callWith_K (h₀ := X.base) I.ok.mod.kin T.kC (thn (ha.run pos pins s σ H _ I h) fun us s1 hh => ?_) he hpl
  obtain ⟨vs, H1, I1, r1, v, ev, q1⟩ := hh
  subst ev
  refine ⟨I1.kIn, ?_⟩
  cases r1 with
  | cons rv rn =>
    rename_i v' us'
    cases rn
    show wpAny _ _ (call (.ref C) [v']) _ _ _
    have hlim := I1.nolimit
    obtain ⟨hp, g, dr, tk, os⟩ := s1
    refine wpAny_call (xc_made T hf I1.kIn hlim (by have := hr.rm.dp; omega) fun h' tk' e d M => ?_)
    show MkP X pins σ Q (.ref e) ⟨h', g, dr, tk', os⟩
    obtain ⟨oe, t1, hoe, hc, hd, hdat⟩ := M.obj
    have hns := M.ns
    obtain ⟨G', g1, g2⟩ := restrict h' fun b => decide (b ≠ e)
    have gk : ∀ b, b ≠ e → G'.get? b = h'.get? b := fun b hb => g1 b (decide_eq_true hb)
    have ge : G'.get? e = none := g2 e (by simp)
    have old : ∀ b o, hp.get? b = some o → G'.get? b = some o := fun b o q => (gk b (Nat.ne_of_lt (Nat.lt_of_lt_of_le (Heap.lt_size q) M.new))).trans (M.keep b o q)
    have ob : ObjOk X.prog X.w (upd H1 d (.xd [(fn, v)])) G' d (.xd [(fn, v)]) :=
      ⟨_, hns.at (fun o q => (gk d M.dne).trans q), fun f => relO_x rv f⟩
    have J : Inv X pins σ (upd H1 d (.xd [(fn, v)])) ⟨G', g, dr, tk', os⟩ := I1.laid (t' := tk') old M.dbig ob
    refine ⟨e, oe, _, ⟨G', g, dr, tk', os⟩, _, .ref C, some d, rfl, J, fun b o q => ?_, ge, hoe, ⟨hc, hd⟩, hdat, rfl, ?_, rfl, I1.bare, raises_own T.exC T.tyC, q1 d (I1.hok.fresh M.dbig)⟩
    · by_cases hb : b = e
      · have q' : G'.get? b = some o := q
        rw [hb, ge] at q'; cases q'
      · exact (gk b hb).symm.trans q
    · rw [upd_ne (Ne.symm M.dne)]
      exact I1.hok.fresh M.new
theorem s_raise (hc : X.calm = true) (tk : Tk X B) (T : XcT X.K (He.ga X.K x) fI fn qual sti) (hf : Fld fn) (hr : RoomG k X.A) (ha : PEp X B a r) (hg : Gl X x) (hm : X.mg x = some (.ref (He.ga X.K x))) (hdb : (x == ("__debug__" : Str)) = false := by decide)
    (he : starEach (a :: []) X.env = (false, eval a X.env) :: starEach [] X.env := by rfl) (hpl : (backTo pos (starEach [] X.env)).any (·.1) = false := by rfl) :
    PSp X B (.Raise (some (.Call (.Name x p) [a] [] pos)) none pos2) (fun ρ _ => r ρ fun d => B.Ed ⟨.glob x, [fn], [d]⟩) :=
  ps_imp (ps_raise hc tk (pmk_x T hf hr (pa_cons ha pa_nil he) hg hm hdb he hpl)) fun σ H Dd ⟨F, ρ, E, I, z, _⟩ => ⟨F, ρ, _, I, z, fun v F1 H1 d g1 t1 r1 q => ⟨v, rfl, fun dd hd =>
    ⟨upd F1 dd (.xd [(fn, v)]), ⟨.glob x, [fn], [d]⟩, (I.go.trans g1).trans (Go.new t1.1 hd), t1.go0 (Go.new t1.1 hd), ⟨rfl, fun _ => ⟨dd, [v], rfl, upd_same, rfl, .cons (r1.up (Go.new (ms := B.ms) t1.1 hd).ff) .nil⟩⟩, q⟩⟩⟩
/-! ### what may raise, in the body of a try -/
def tX (K : Frg) (B : Bs) (r : Ev → (D → Prop) → (Ex → Prop) → Prop) (W : WX) : TE := fun σ H Q => ∃ F ρ Qd Ed, Iv K B F H σ ρ ∧ r ρ Qd Ed ∧ (∀ v F' H' d, Go B.ms F H F' H' → Tp K B.ms F' H' → Rp K B.ms F' v d → Qd d → Q v H') ∧
  ∀ cls d F' H' x, Go B.ms F H F' H' → Tp K B.ms F' H' → XR K B.ms F' cls d x → Ed x → W cls d σ H'
def PXp (X : Cx) (B : Bs) (e : Expr) (r : Ev → (D → Prop) → (Ex → Prop) → Prop) : Prop := ∀ W, Takes X W → PE X e (tX X.K B r W)
theorem run_X {W : WX} {pins : List (Addr × Obj)} {σ : L2.St} {H : Hp} {s : Shared} {sp : Sp} {Q : VK} {us : List Value} {vs : List V} (F : FnA X.A X.prog X.w X.K X.mg X.base (L2.CX X.prog X.w) f sp) (tk : Takes X W) (I : L2.Inv X pins σ H s) (r : Vals vs us) (h : sp vs H Q (fun cls d H' => W cls d σ H')) :
    codeAny (model X.prog X.w) X.A (.call (.ref f) ⟨us, []⟩) (fun r s' => match r with | .ok (.ret v) => EP X pins σ Q v s' | .ok _ => False | .error e => X.xe e s') s :=
  codeAny_mono (F X.stack s H us vs Q _ I.env0 r h) fun q s' hq => match q, hq with
    | .error er, hq => tk er s' (XE.of_call I (fun _ _ _ h => h) hq)
    | .ok (.ret _), hq => I.after hq
    | .ok .next, hq => False.elim hq
    | .ok .brk, hq => False.elim hq
    | .ok .cont, hq => False.elim hq
/-! ### try -/
def endR (i : Nat) (E : En) : En := { nx := fun ρ' => E.nx (ρ'.set i .no), rt := E.rt, bk := fun ρ' => E.bk (ρ'.set i .no), ct := fun ρ' => E.ct (ρ'.set i .no) }
inductive HdsP (X : Cx) (B : Bs) : List ExceptHandler → List (Str × Nat × RdS) → Prop
  | nil : HdsP X B [] []
  | cons {x n : Str} {i : Nat} {rs : RdS} {b₀ : Stmt} {suite : List Stmt} {np pos' : Pos} {hds : List ExceptHandler} {l : List (Str × Nat × RdS)} (hc : Names X x (.ref (He.ga X.K x))) (hi : X.N[i]? = some n) (hln : X.env.kindOf n = some .local)
      (hsu : ∀ (a : Addr) (pn : List (Addr × Obj)), PSsp (X.suite a pn) B.nox (b₀ :: suite) rs) (r : HdsP X B hds l) :
      HdsP X B (.ExceptHandler (some (.Name x np)) (some n) (b₀ :: suite) pos' :: hds) ((x, i, rs) :: l)
def hdV (K : Frg) (B : Bs) (q : Str × Nat × RdS) : Value × Nat × TS := (.ref (He.ga K q.1), q.2.1, tS K B.nox q.2.2)
theorem HdsP.n {hds : List ExceptHandler} {l : List (Str × Nat × RdS)} (h : HdsP X B hds l) : HdsN X hds (l.map (hdV X.K B)) := by
  induction h with
  | nil => exact .nil
  | cons hc hi hln hsu _ ih => exact .cons hc hi hln hsu ih
theorem Iv.unnox {K : Frg} {F H : Hp} {σ : L2.St} {ρ : Ev} (I : Iv K B.nox F H σ ρ) : Iv K B F H σ ρ := ⟨I.go, I.tp, I.len, I.val, I.own, I.sep⟩
/-! ### the field of a caught error -/
def rXf (cs : List Str) (i : Nat) (f : Str) : Rd := fun ρ Q => match ρ[i]? with
  | some (.mu (.exc x)) => (∃ c ∈ cs, x.c = .glob c) ∧ x.ns = [f] ∧ (match x.ds with | [d] => Q d | _ => False)
  | _ => False
theorem y_xf {n fn : Str} {i : Nat} {cs : List Str} (hv : PE X (.Name n p) (tVar i)) (hc : ∀ c ∈ cs, XfC X.K (He.ga X.K c) ∧ PySem.W.findIn X.K (.ref (He.ga X.K c)) fn = some none)
    (hb : attributeBase (.Name n p) fn X.env (eval (.Name n p) X.env) = eval (.Name n p) X.env := by rfl) : PEp X B (.Attribute (.Name n p) fn pos) (rXf cs i fn) := by
  refine ⟨fun pins s σ H Q I ⟨F, ρ, Qd, J, z, kk⟩ => ?_⟩
  unfold rXf at z
  split at z
  · rename_i x hx
    obtain ⟨⟨c, hcs, ec⟩, hns, z⟩ := z
    split at z
    · rename_i dv hds
      obtain ⟨a, o, h1, h2, h3, h4, h5, cls, d, rfl, xr⟩ := J.own i _ hx
      refine attr_of hb (thn (hv.run pins s σ H (fun v H1 => v = .ref a ∧ H1 = H) I ⟨_, h1, rfl, rfl⟩) fun u s1 hh => ?_)
      obtain ⟨x1, H1, I1, rx, rfl, rfl⟩ := hh
      obtain rfl : u = Value.ref a := rx
      obtain ⟨⟨oe, vs, ha, hz, hd⟩, _⟩ := I1.hok a _ h5
      obtain ⟨ec1, xr2⟩ := xr
      rw [ec] at ec1
      have ecl : cls = .ref (He.ga X.K c) := (Option.some.inj ec1).symm
      subst ecl
      obtain ⟨dd, ws, ed, eF, el, er⟩ := xr2 (by rw [hns]; exact fun z => nomatch z)
      rw [hns] at eF el
      rw [hds] at er
      subst ed
      obtain ⟨T, hno⟩ := hc c hcs
      cases er with
      | @cons v _ _ _ r1 r2 =>
      cases r2
      have hx2 : ObjOk X.prog X.w H1 s1.heap dd (.xd [(fn, v)]) := I1.hok dd _ (J.same _ _ eF)
      obtain ⟨mA, hns2, hr⟩ := hx2
      obtain ⟨od, ho, hl⟩ := lookIn_ns hns2
      have l : List.lookup fn [(fn, v)] = some v := by simp [List.lookup]
      obtain ⟨u, hu, ru⟩ := RelO.some_of (v := v) (o := mA fn) (by rw [← l]; exact hr fn)
      have JJ : PySem.W.InstAt s1.heap a oe (He.ga X.K c) (some od) := ⟨ha, hz.1, by unfold PySem.W.notCls; rw [hd] <;> rfl, by rw [hz.2]; exact ho⟩
      exact HandSPX.exc_get I1.kIn JJ T.ga T.gg T.exC (PySem.W.findObj_own T.hdC hno rfl (by rw [hl, hu])) (handed_of ru) ⟨v, H1, I1.tok _, ru, kk v F H1 dv (Go.refl J.same) J.tp r1 z⟩
    · exact z.elim
  · exact z.elim
end
end Y
namespace Y
open PySem PySem.Spec PyProof.Rows L2 Z
/-! ### what the heap tells of an error class -/
def bsOf : Nat → List Value × String
  | 0 => (bsValue, "ValueError.__new__")
  | 1 => (bsOver, "OverflowError.__new__")
  | _ => (bsArith, "ArithmeticError.__new__")
theorem exB_of : ∀ b : Nat, ExB (bsOf b).1 (bsOf b).2
  | 0 => exB_Value
  | 1 => exB_Over
  | _ + 2 => exB_Arith
def xclB (K : Frg) (C : Addr) (b : Nat) : Bool := match K.lookup C with
  | some ⟨.type "type", _, .cls cd, sl⟩ => (match cd.mro, sl.toList with
    | .ref C' :: bm, [_, _, _, _, some (.builtin n), _] => C' == C && n == (bsOf b).2 && !cd.hasDel && cd.hasDict && PySem.W.excTail (bsOf b).1 bm
    | _, _ => false)
  | _ => false
theorem xcl_of {K : Frg} {C : Addr} {b : Nat} (q : xclB K C b = true) : ∃ nm q N bs bm sn sub ab col dd k0 k1 k2 k3 k5 bmB newId, K.lookup C = some (excClassObj nm q C N bs bm true sn sub ab col dd k0 k1 k2 k3 k5 newId) ∧ PySem.W.excTail bmB bm = true ∧ ExB bmB newId := by
  unfold xclB at q
  split at q
  · rename_i dd cd sl ho
    split at q
    · rename_i C' bm k0 k1 k2 k3 n k5 hm hs
      simp only [Bool.and_eq_true, beq_iff_eq, Bool.not_eq_true'] at q
      obtain ⟨⟨⟨⟨rfl, rfl⟩, hdel⟩, hdi⟩, ht⟩ := q
      obtain ⟨nm, bs, mro, ns, qn, hd, sn, sub, ab, col, del⟩ := cd
      dsimp only at hm hdel hdi
      subst hm hdel hdi
      have hsl : sl = #[k0, k1, k2, k3, some (.builtin (bsOf b).2), k5] := by
        obtain ⟨l⟩ := sl
        simp only at hs
        rw [hs]
      subst hsl
      exact ⟨nm, qn, ns, bs, bm, sn, sub, ab, col, dd, k0, k1, k2, k3, k5, _, _, ho, ht, exB_of b⟩
    · cases q
  · cases q
def bXc (x f : Str) (b : Nat) : Frg → Bool := fun K => xclB K (He.ga K x) b && (He.eqO (PySem.W.findIn K (.ref (He.ga K x)) "__setattr__") (some (some (.builtin "object.__setattr__"))) && (L2.xfB K (He.ga K x) && (He.eqO (PySem.W.findIn K (.ref (He.ga K x)) f) (some none) &&
  (He.eqO (PySem.W.findIn K (.ref (He.ga K x)) "__init__") (some (some (.ref (He.ma K (He.ga K x) "__init__")))) && (decide (PySem.W.typeIn K (.ref (He.ma K (He.ga K x) "__init__")) = some (.type "function")) && (PySem.W.keepIn K (.ref (He.ga K x)) &&
  (decide (PySem.W.subIn K (.ref (He.ga K x)) (.type "BaseException") = some true) && decide (PySem.W.typeIn K (.ref (He.ga K x)) = some (.type "type")))))))))
structure XcB (K : Frg) (C fI : Addr) (f : Str) : Prop where
  cls : ∃ nm q N bs bm sn sub ab col dd k0 k1 k2 k3 k5 bmB newId, K.lookup C = some (excClassObj nm q C N bs bm true sn sub ab col dd k0 k1 k2 k3 k5 newId) ∧ PySem.W.excTail bmB bm = true ∧ ExB bmB newId
  sa : PySem.W.findIn K (.ref C) "__setattr__" = some (some (.builtin "object.__setattr__"))
  xf : L2.XfC K C
  noN : PySem.W.findIn K (.ref C) f = some none
  iC : PySem.W.findIn K (.ref C) "__init__" = some (some (.ref fI))
  tC : PySem.W.typeIn K (.ref fI) = some (.type "function")
  kC : PySem.W.keepIn K (.ref C) = true
  exC : PySem.W.subIn K (.ref C) (.type "BaseException") = some true
  tyC : PySem.W.typeIn K (.ref C) = some (.type "type")
theorem xcb_of {K : Frg} {x f : Str} {b : Nat} (h : bXc x f b K = true) : XcB K (He.ga K x) (He.ma K (He.ga K x) "__init__") f := by
  obtain ⟨h1, h⟩ := He.ba h
  obtain ⟨h2, h⟩ := He.ba h
  obtain ⟨h3, h⟩ := He.ba h
  obtain ⟨h4, h⟩ := He.ba h
  obtain ⟨h5, h⟩ := He.ba h
  obtain ⟨h6, h⟩ := He.ba h
  obtain ⟨h7, h⟩ := He.ba h
  obtain ⟨h8, h9⟩ := He.ba h
  exact ⟨xcl_of h1, He.eqO_ok h2, L2.xfB_ok h3, He.eqO_ok h4, He.eqO_ok h5, of_decide_eq_true h6, h7, of_decide_eq_true h8, of_decide_eq_true h9⟩
theorem XcB.t {K : Frg} {C fI : Addr} {f qual : Str} {st : Stmt} (h : XcB K C fI f) (df : DefAt K "__init__" qual st fI) (arg : ∃ p1 p2, defArgs st = iA f p1 p2) (body : ∃ q1 q2 q3 q4, defBody st = iB f q1 q2 q3 q4) (sc : defScope st = iS f) : XcT K C fI f qual st :=
  ⟨h.cls, h.sa, h.xf, h.noN, h.iC, h.tC, h.kC, h.exC, h.tyC, df, arg, body, sc⟩
def bEx (x y : Str) (b : Bool) : Frg → Bool := fun K => decide (PySem.W.exmOne K (.ref (He.ga K x)) (.ref (He.ga K y)) = some b)
theorem ex_of {K : Frg} {x y : Str} {b : Bool} (h : bEx x y b K = true) : PySem.W.exmOne K (.ref (He.ga K x)) (.ref (He.ga K y)) = some b := of_decide_eq_true h
/-! ### defs that may raise -/
section
variable {P : Program} {w : World} {K : Frg} {mg : Str → Option Value} {base : Heap}
theorem tk_of {N : List Str} {qual : Str} {scope : Scope} {f : Addr} {cdv : Value} {A : Around} {outer : List Env} {s : Shared} {H : Hp} {E : XK} {B : Bs} (h : ∀ cls d H', EE K B cls d H' → E cls d H') : Tk (cxOf (L2.CX P w) P w K mg base N qual scope f cdv A outer s H E) B := by
  have tk : Takes (cxOf (L2.CX P w) P w K mg base N qual scope f cdv A outer s H E) (fun cls d _ H => E cls d H) := takes_of rfl rfl rfl rfl
  exact tk.imp fun cls d σ H z => h cls d H z
theorem y_fnX {x qual : Str} {st : Stmt} {f : Addr} {N ps : List Str} {k : Nat} {R : RdF} (F : DefAt K x qual st f) (S : FnScope N ps (defScope st)) (len : ∀ ds Q E, R ds Q E → ds.length = ps.length)
    (hb : ∀ (kV doc pm : Value) (an : Option Addr) (cdv ct : Value) (us : List Value), us.length = ps.length → bindArgs (PySem.W.fnOf x qual (defArgs st) (defBody st) (defScope st) .none kV doc pm an cdv ct) ⟨us, []⟩ = pure (ps.zip us))
    (hbody : ∀ (cdv : Value) (A : Around) (outer : List Env) (s : Shared) (H : Hp) (E : XK) (B : Bs), Same B.F0 B.H0 → RoomG k (A.deeper (envOfC qual (defScope st) s.heap.objs.size f cdv)) → Px (cxOf (L2.CX P w) P w K mg base N qual (defScope st) f cdv A outer s H E) B →
      PassesOwn (model P w) (cxOf (L2.CX P w) P w K mg base N qual (defScope st) f cdv A outer s H E).A (cxOf (L2.CX P w) P w K mg base N qual (defScope st) f cdv A outer s H E).env (cxOf (L2.CX P w) P w K mg base N qual (defScope st) f cdv A outer s H E).xe →
      Tk (cxOf (L2.CX P w) P w K mg base N qual (defScope st) f cdv A outer s H E) B →
      ∃ r, PSsp (cxOf (L2.CX P w) P w K mg base N qual (defScope st) f cdv A outer s H E) B (defBody st) r ∧ ∀ ds Q, R ds Q B.Ed → r (startE N.length ds) { nx := fun _ => Q .non, rt := Q }) : FnG P w K mg base (L2.CX P w) (k + 1) f (spP K R) := by
  refine zfnG F S (fun vs H Q E ⟨ms, F, ds, Qd, Ed, _, r, h, _⟩ => by rw [r.len]; exact len _ _ _ h) hb fun cdv A outer s H vs Q E hr h => ?_
  obtain ⟨ms, F, ds, Qd, Ed, t, r, h, kq, ke⟩ := h
  obtain ⟨rr, h1, h2⟩ := hbody cdv A outer s H E ⟨ms, F, H, Ed⟩ t.1 hr (px_of fun cls d H' ⟨F', x, g, t', xr, z⟩ => ke cls d F' H' x g t' xr z) po_of (tk_of fun cls d H' ⟨F', x, g, t', xr, z⟩ => ke cls d F' H' x g t' xr z)
  refine ⟨_, h1, F, _, _, iv_start (B := ⟨ms, F, H, Ed⟩) t r, h2 ds Qd h, ?_, ?_, ?_, ?_⟩
  · intro σ' ρ' F' H' _ I' z
    exact kq .non F' H' .non I'.go I'.tp .non z
  · intro v d F' H' g t' r' z
    exact kq v F' H' d g t' r' z
  · intro _ _ _ _ _ _ z; exact z
  · intro _ _ _ _ _ _ z; exact z
end
/-! ### repr in an except suite -/
section
variable {X : Cx}
theorem call_reprU (hu : X.A.units + 64 < cLine) (hgd : X.A.guards = some []) : CallR X (.builtin "repr") (rRepr X.K) := by
  intro pins s σ H xs us Q I r h
  obtain ⟨ms, F, v, d, n, rfl, hs, rd, hp, hb, hd, q⟩ := h
  obtain ⟨u, rfl, ru⟩ := vals1 r
  by_cases hdic : ∃ ks ds, d = .dic ks ds
  · obtain ⟨ks, ds, rfl⟩ := hdic
    obtain ⟨rfl, rfl⟩ := hp
    cases rd with
    | @dic a _ _ vs _ h1 h2 h3 =>
    cases h3
    obtain rfl : u = Value.ref a := ru
    obtain ⟨_, hz, vs', rel, o, es, ep, e1, e2, e3, e4, e5⟩ := dk_rd I.hok (.inr ⟨_, hs _ _ h1⟩)
    cases rel
    have ee : es.toList.map (·.key) = [] ∧ es.toList.map (·.val) = [] := by
      have e6 := e5.1
      generalize es.toList = l at e6
      cases e6
      exact ⟨rfl, rfl⟩
    have rr : Reads s.heap (.ref a) (.dict []) (a :: [] ++ []) := .dict e1 e2.1 e3 (by rw [ee.1]; exact .nil) (by rw [ee.2]; exact .nil)
    exact repr_of_reads' rr rfl (fun _ m => by
      have : sysModules = a := by simpa using m
      rw [this] at hz
      simp at hz) hgd (by show _ + (1 + 1) < _; omega) (fun _ _ e => e) (fun h' u' tk hk => ⟨.str _, H, I.kept hk, ⟨_, rfl⟩, q⟩) (by show 2 ≤ sizeLine; decide)
  have hp : shP n d := by
    cases d <;> first | exact hp | exact (hdic ⟨_, _, rfl⟩).elim
  have hl := sh_len hp hb
  obtain ⟨as, rr⟩ := sh_reads I hs d v u hp rd ru
  have fin : ∀ h' u' tk, (∀ b o, s.heap.get? b = some o → h'.get? b = some o) → EP X pins σ Q (.str (toP d).shown u') { s with heap := h', toks := tk } := fun h' u' tk hk => ⟨.str _, H, I.kept hk, ⟨_, rfl⟩, q⟩
  cases rd with
  | non =>
    obtain rfl : u = Value.none := ru
    exact PySem.P.repr_of_none (fin _ _ _ fun _ _ e => e)
  | bl b =>
    obtain rfl : u = Value.bool b := ru
    exact PySem.P.repr_of_bool (fin _ _ _ fun _ _ e => e)
  | int i =>
    obtain ⟨t, rfl⟩ := (show ∃ t, u = Value.int i t from ru)
    exact PySem.P.repr_of_int (sz1900 hp) (fin _ _ _ fun _ _ e => e)
  | str x =>
    obtain ⟨t, rfl⟩ := (show ∃ t, u = Value.str x t from ru)
    exact PySem.P.repr_of_str (fin _ _ _ fun _ _ e => e) hl
  | ty _ => exact hp.elim
  | glob _ => exact hp.elim
  | tape _ => exact hp.elim
  | fn _ => exact hp.elim
  | dic _ _ _ => exact hp.elim
  | dpl _ _ _ _ _ _ _ => exact hp.elim
  | obj _ _ _ => exact hp.elim
  | lst h1 h2 =>
    obtain rfl : u = Value.ref _ := ru
    exact repr_of_reads' rr (sh_able _ hp) (PyData.noDict_hsm (sh_nodict _ hp)) hgd (by omega) (fun _ _ e => e) fin hl
  | tup h1 h2 =>
    obtain rfl : u = Value.ref _ := ru
    exact repr_of_reads' rr (sh_able _ hp) (PyData.noDict_hsm (sh_nodict _ hp)) hgd (by omega) (fun _ _ e => e) fin hl
end
end Y
namespace Y
open PySem PySem.Spec PyProof.Rows L2 Z
/-! ### enumerate(text) -/
section
variable {X : Cx} {B : Bs} {e : Expr} {rl : RdA} {pos : Pos}
end
end Y
namespace Y
open PySem PySem.Spec PyProof.Rows L2 Z
/-! ### constructors and defs with *args that may raise -/
section
variable {P : Program} {w : World} {K : Frg} {mg : Str → Option Value} {base : Heap}
theorem y_initBX {C qual : Str} {st : Stmt} {f : Addr} {N ps : List Str} {k : Nat} {R : RdF} (S : FnScope N ps (defScope st)) (len : ∀ ds Q E, R ds Q E → ds.length + 1 = ps.length)
    (hbody : ∀ (cdv : Value) (A : Around) (outer : List Env) (s : Shared) (H : Hp) (E : XK) (B : Bs), Same B.F0 B.H0 → RoomG k (A.deeper (envOfC qual (defScope st) s.heap.objs.size f cdv)) → Px (cxOf (L2.CX P w) P w K mg base N qual (defScope st) f cdv A outer s H E) B →
      PassesOwn (model P w) (cxOf (L2.CX P w) P w K mg base N qual (defScope st) f cdv A outer s H E).A (cxOf (L2.CX P w) P w K mg base N qual (defScope st) f cdv A outer s H E).env (cxOf (L2.CX P w) P w K mg base N qual (defScope st) f cdv A outer s H E).xe →
      Tk (cxOf (L2.CX P w) P w K mg base N qual (defScope st) f cdv A outer s H E) B →
      ∃ r, PSsp (cxOf (L2.CX P w) P w K mg base N qual (defScope st) f cdv A outer s H E) B (defBody st) r ∧ ∀ x ds Q, R ds Q B.Ed → r (.mu (.ins x C [] []) :: startE (N.length - 1) ds) { nx := finI x C Q, rt := fun _ => False }) (cdv : Value) (A : Around) (outer : List Env) (s : Shared) (H : Hp) (vs : List V) (Q : VK) (E : XK) (hr : RoomG k (A.deeper (envOfC qual (defScope st) s.heap.objs.size f cdv))) (h : spI K C R vs H Q E) :
    ∃ t, PSs (cxOf (L2.CX P w) P w K mg base N qual (defScope st) f cdv A outer s H E) (defBody st) t ∧ t { nx := fun _ H' => Q .non H', rt := Q } (start N vs) H := by
  obtain ⟨ms, F, Hb, x, args, ds, Qd, Ed, rfl, g0, sb, nx, t, ⟨dx, hx⟩, r, h, kq, ke⟩ := h
  obtain ⟨rr, h1, h2⟩ := hbody cdv A outer s H E ⟨ms, F, Hb, Ed⟩ sb hr (px_of fun cls d H' ⟨F', y, g, t', xr, z⟩ => ke cls d F' H' y g t' xr z) po_of (tk_of fun cls d H' ⟨F', y, g, t', xr, z⟩ => ke cls d F' H' y g t' xr z)
  have hN : 1 ≤ N.length := by
    have e1 := len _ _ _ h
    have e2 := congrArg List.length S.pre
    rw [List.length_take] at e2
    omega
  have nm : x ∉ ms := t.notIns hx
  have iv : Iv K ⟨ms, F, Hb, Ed⟩ F H (L2.start N (.ref x :: args)) (.mu (.ins x C [] []) :: startE (N.length - 1) ds) := by
    refine ⟨g0, t, ?_, fun i d h => ?_, fun i m h => ?_, fun i j m n a hij h1 h2 h3 => ?_⟩
    · simp [L2.start, startE, r.len]
      omega
    · cases i with
      | zero => cases h
      | succ i =>
        rw [List.getElem?_cons_succ] at h
        unfold startE at h
        have hi : i < ds.length := by
          rcases Nat.lt_or_ge i ds.length with z | z
          · exact z
          · rw [List.getElem?_append_right (by simpa using z), List.getElem?_replicate] at h
            split at h <;> cases h
        rw [List.getElem?_append_left (by simpa using hi), List.getElem?_map, List.getElem?_eq_getElem hi] at h
        have hd : ds[i]? = some d := by
          rw [List.getElem?_eq_getElem hi]
          simpa using h
        obtain ⟨v, h1, h2⟩ := r.get hd
        refine ⟨v, ?_, h2⟩
        unfold L2.start
        rw [List.getElem?_append_left (by simp [r.len]; omega), List.getElem?_map, List.getElem?_cons_succ, h1]
        rfl
    · cases i with
      | zero =>
        cases h
        exact ⟨x, _, rfl, same_none sb nx, nm, nx, hx, rfl, dx, [], rfl, rfl, .nil⟩
      | succ i =>
        exfalso
        rw [List.getElem?_cons_succ] at h
        unfold startE at h
        rcases Nat.lt_or_ge i ds.length with z | z
        · rw [List.getElem?_append_left (by simpa using z), List.getElem?_map, List.getElem?_eq_getElem z] at h
          cases h
        · rw [List.getElem?_append_right (by simpa using z), List.getElem?_replicate] at h
          split at h <;> cases h
    · have key : ∀ (i : Nat) (m : Mo), (Sl.mu (.ins x C [] []) :: startE (N.length - 1) ds)[i]? = some (.mu m) → i = 0 := fun i m h => by
        cases i with
        | zero => rfl
        | succ i =>
          exfalso
          rw [List.getElem?_cons_succ] at h
          unfold startE at h
          rcases Nat.lt_or_ge i ds.length with z | z
          · rw [List.getElem?_append_left (by simpa using z), List.getElem?_map, List.getElem?_eq_getElem z] at h
            cases h
          · rw [List.getElem?_append_right (by simpa using z), List.getElem?_replicate] at h
            split at h <;> cases h
      exact absurd ((key i m h1).trans (key j n h2).symm) hij
  refine ⟨_, h1, F, _, _, iv, h2 x ds Qd h, ?_, ?_, ?_, ?_⟩
  · intro σ' ρ' F' H' _ I' z
    have z' : finI x C Qd ρ' := z
    clear z
    unfold finI at z'
    split at z'
    · rename_i y c ns fs e
      obtain ⟨⟨rfl, rfl⟩, z'⟩ := z'
      obtain ⟨a, o, b1, b2, b3, b4, b5, b6⟩ := I'.own 0 _ e
      obtain ⟨ea, _⟩ := id b6
      subst ea
      exact kq F' H' o ns fs I'.go I'.tp b2 b5 b6 z'
    · exact z'.elim
  · intro v d F' H' g t' r' z
    exact z.elim
  · intro _ _ _ _ _ _ z; exact z
  · intro _ _ _ _ _ _ z; exact z
theorem y_initKX {C x qual kn : Str} {st : Stmt} {f : Addr} {N ps : List Str} {k : Nat} {R : RdF} {d : D} (F : DefAtK K x qual st f kn d) (S : FnScope N ps (defScope st)) (len : ∀ ds Q E, R ds Q E → ds.length + 1 = ps.length)
    (hb0 : ∀ (D : Addr) (doc pm : Value) (an : Option Addr) (cdv ct : Value) (us : List Value) (u : Value), us.length + 1 = ps.length → KwChain D [(kn, u)] (bindArgs (PySem.W.fnOf x qual (defArgs st) (defBody st) (defScope st) .none (.ref D) doc pm an cdv ct) ⟨us, []⟩) (ps.zip (us ++ [u])))
    (hb1 : ∀ (D : Addr) (doc pm : Value) (an : Option Addr) (cdv ct : Value) (us : List Value) (u : Value), us.length + 1 = ps.length → bindArgs (PySem.W.fnOf x qual (defArgs st) (defBody st) (defScope st) .none (.ref D) doc pm an cdv ct) ⟨us, [(kn, u)]⟩ = pure (ps.zip (us ++ [u])))
    (hbody : ∀ (cdv : Value) (A : Around) (outer : List Env) (s : Shared) (H : Hp) (E : XK) (B : Bs), Same B.F0 B.H0 → RoomG k (A.deeper (envOfC qual (defScope st) s.heap.objs.size f cdv)) → Px (cxOf (L2.CX P w) P w K mg base N qual (defScope st) f cdv A outer s H E) B →
      PassesOwn (model P w) (cxOf (L2.CX P w) P w K mg base N qual (defScope st) f cdv A outer s H E).A (cxOf (L2.CX P w) P w K mg base N qual (defScope st) f cdv A outer s H E).env (cxOf (L2.CX P w) P w K mg base N qual (defScope st) f cdv A outer s H E).xe →
      Tk (cxOf (L2.CX P w) P w K mg base N qual (defScope st) f cdv A outer s H E) B →
      ∃ r, PSsp (cxOf (L2.CX P w) P w K mg base N qual (defScope st) f cdv A outer s H E) B (defBody st) r ∧ ∀ x ds Q, R ds Q B.Ed → r (.mu (.ins x C [] []) :: startE (N.length - 1) ds) { nx := finI x C Q, rt := fun _ => False }) :
    FnG P w K mg base (L2.CX P w) (k + 1) f (spI K C (lastR R d)) ∧ FnK P w K mg base (L2.CX P w) (k + 1) f kn (spI K C R) := by
  obtain ⟨fd, v, F, hv⟩ := F
  obtain ⟨h1, h2⟩ := zfnK ⟨fd, F⟩ S (fun vs H Q E ⟨ms, F, Hb, x, args, ds, Qd, Ed, e, _, _, _, _, _, r, h, _⟩ => by rw [e, List.length_cons, r.len]; exact len _ _ _ h) hb0 hb1 (y_initBX S len hbody)
  refine ⟨FnG.imp h1 ?_, h2⟩
  rintro vs H Q E ⟨ms, F, Hb, x, args, ds, Qd, Ed, rfl, a1, a2, a3, a4, a5, a6, a7, a8⟩
  exact ⟨ms, F, Hb, x, args ++ [v], ds ++ [d], Qd, Ed, rfl, a1, a2, a3, a4, a5, a6.app (.one (hv ms F)), a7, a8⟩
end
end Y
namespace Y
open PySem PySem.Spec PyProof.Rows L2 Z
/-! ### more calls that may raise, in the body of a try -/
section
variable {X : Cx} {B : Bs} {a b c e o : Expr} {es : List Expr} {ra rb rc r ro : Rd} {rt ru : RdT} {rl : RdA} {pos p0 apos : Pos} {R : RdF} {k : Nat} {f g p : Addr} {x m : Str}
end
end Y
namespace PySem.W
open PySem PySem.Spec PySem.Calls PyProof.Rows
section
variable {prog : Program} {w : World} {A : Around} {E : Value → Shared → Prop} {s : Shared} {K : Frag} {x D : Addr} {ox : Obj} {od : Option Obj}
theorem findObj_dataG {C : Addr} {name : Str} {a g : Value} (hc : (clsIn K C).isSome = true) (ha : findIn K (.ref C) name = some (some a)) (hg : specialIn K a "__get__" = some (some g)) (ht : takesIn K a = some true) : findObj K C od name = some (.bind g a) := by
  obtain ⟨cd, hc⟩ := Option.isSome_iff_exists.mp hc
  unfold findObj
  rw [hc, Option.bind_some, ha, Option.bind_some]
  cases od <;> simp [hg, ht]
theorem kin_classG {Q : Option Value → Shared → Prop} (hga : findIn K (.ref D) "__getattribute__" = some (some (.builtin "BaseException.__getattribute__"))) (hgt : findIn K (.ref D) "__getattr__" = some none) (hsub : subIn K (.ref D) (.type "BaseException") = some true)
    (hdct : hasDictIn K D = true) (ha : findIn K (.ref D) "__class__" = some (some (.builtin "object.__class__")))
    (hn : specialIn K (.builtin "object.__class__") "__get__" = some (some (.builtin "getset_descriptor.__get__"))) (htk : takesIn K (.builtin "object.__class__") = some true) (hm : mroIn K D (.type "object") = some true)
    (X : K.In s.heap) (I : InstAt s.heap x ox D od) (h : Q (some (.ref D)) { s with toks := s.toks + 1 }) : wpAny (model prog w) A (getAttr? (.ref x) "__class__") Q E s := by
  have hf : findObj K D od "__class__" = some (.bind (.builtin "getset_descriptor.__get__") (.builtin "object.__class__")) := findObj_dataG (by obtain ⟨cd, hc, _⟩ := any_some hdct; rw [hc]; rfl) ha hn htk
  obtain ⟨hp, g, d, t, os⟩ := s
  have L0 := I.type (M := model prog w)
  have L1 := looks_findIn (M := model prog w) X hga
  have L2 := looks_findIn (M := model prog w) X hgt
  have L3 := looks_find (M := model prog w) X I hf
  have sub : Looks (model prog w) hp (isInstance (.ref x) (.type "BaseException")) true := L0.andThen (looks_subIn X hsub)
  have hx0 : (false && onTheHeap (Value.builtin "BaseException.__getattribute__")) = false := rfl
  have hx2 : (Value.builtin "BaseException.__getattribute__" == Value.builtin "object.__getattribute__") = false := by decide +kernel
  have hx1 : (onTheHeap (Value.ref D) && Value.builtin "BaseException.__getattribute__" == Value.builtin "object.__getattribute__") = false := by rw [hx2]; rfl
  unfold getAttr? getAttrBy? getAttrBy
  refine wpAny_bind (wpAny_mkText (wpAny_bind (wpAny_attempt (wpAny_holding (wpAny_bind (L0.at (wpAny_bind (L1.at ?_))))))))
  show wpAny _ _ (if (onTheHeap (Value.ref D) && Value.builtin "BaseException.__getattribute__" == Value.builtin "object.__getattribute__") = true then _ else _) _ _ _
  rw [hx1, if_neg Bool.false_ne_true]
  unfold getAttrByItsOwn hookBefore
  refine wpAny_bind ?_
  rw [if_pos (show onTheHeap (Value.ref D) = true from rfl)]
  refine L2.at ?_
  refine wpAny_bind (wpAny_attempt (wpAny_holding ?_))
  unfold callGetattribute
  rw [hx0, if_neg Bool.false_ne_true]
  unfold boundAndCalled
  rw [PySem.F.excAttr_ValueError.ga.bind (.ref x)]
  refine wpAny_bind (wpAny_pure ?_)
  show wpAny _ _ (call (.builtin "BaseException.__getattribute__") [.ref x, .str "__class__" t]) _ _ _
  refine wpAny_call (codeAny_call_builtin PySem.F.excAttr_ValueError.ga.plain PySem.F.entry_bexc_ga ?_)
  refine @check_slot (model prog w) _ _ ⟨hp, g, d, t + 1, os⟩ "BaseException.__getattribute__" "BaseException" "__getattribute__" (.ref x) [.str "__class__" t] [] _ (by decide +kernel) (by decide +kernel) sub (PySem.F.args_bexc_ga (.ref x) (.str "__class__" t)) ?_
  unfold Builtin.«object.__getattribute__»
  refine wpAny_bind (wpAny_of_eq (a := ((Value.ref x : Value), [Value.str "__class__" t])) (by first | rfl | (simp only [slotArgs]; rfl)) ?_)
  refine wpAny_bind (wpAny_pure (wpAny_bind (L0.at (wpAny_bind (L3.at ?_)))))
  show wpAny _ _ (holding [Value.builtin "object.__class__"] (call (.builtin "getset_descriptor.__get__") [.builtin "object.__class__", .ref x, .ref D]) >>= ret) _ _ _
  refine wpAny_bind (wpAny_holding (wpAny_call (PySem.W.class_get (s := ⟨hp, g, d, t + 1, os⟩) (ox := ox) (od := od) X I hm ?_)))
  refine wpAny_pure ?_
  show wpAny _ _ (handedOut (.ref D)) _ _ _
  rw [handedOut_of (v := .ref D) rfl]
  first
    | exact wpAny_pure (wpAny_pure h)
    | exact wpAny_pure h
    | exact wpAny_pure (wpAny_bind (wpAny_pure (wpAny_pure h)))
theorem kitx_excG (hga : findIn K (.ref D) "__getattribute__" = some (some (.builtin "BaseException.__getattribute__"))) (hgt : findIn K (.ref D) "__getattr__" = some none) (hsub : subIn K (.ref D) (.type "BaseException") = some true) (hdct : hasDictIn K D = true) (ha : findIn K (.ref D) "__class__" = some (some (.builtin "object.__class__")))
    (hn : specialIn K (.builtin "object.__class__") "__get__" = some (some (.builtin "getset_descriptor.__get__"))) (htk : takesIn K (.builtin "object.__class__") = some true) (hm : mroIn K D (.type "object") = some true) :
    KitX K (.ref x) (.ref D) (fun h => InstAt h x ox D od) where
  ty := fun _ _ _ I => I.type
  it := fun _ _ X _ => by
    obtain ⟨cdD, hcD, _⟩ := any_some hdct
    unfold clsIn at hcD
    split at hcD
    · rename_i c' d' cd' sl' ho
      intro A' Q' E' s' k q
      unfold isType loadHead
      exact wpAny_bind (wpAny_loadPart (k _ _ (X _ _ ho)) (wpAny_pure q))
    · cases hcD
  ne := fun h tp dd its n sl X htp => by
    obtain ⟨cdD, hcD, _⟩ := any_some hdct
    refine Bool.eq_false_iff.mpr fun q => ?_
    have e : D = tp := Value.ref.inj (beq_iff_eq.mp q)
    subst e
    unfold clsIn at hcD
    split at hcD
    · rename_i c' d' cd' sl' ho
      have z := (X _ _ ho).symm.trans htp
      cases z
    · cases hcD
  ca := fun X I k => kin_classG hga hgt hsub hdct ha hn htk hm X I k
end
end PySem.W
namespace Y
open PySem PySem.Spec PyProof.Rows L2 Z
/-! ### isinstance(e, C), e a caught error -/
def rIsX (K : Frg) : List V → Hp → VK → Prop := fun xs H Q => ∃ (a D : Addr) (d : Option Addr) (c : V) (cv : Value) (b : Bool), xs = [.ref a, c] ∧ H a = some (XO (.ref D) d a) ∧ (∀ dd, d = some dd → ∃ fs, H dd = some (.xd fs)) ∧ ExcC K D ∧
  (∀ u, RelV c u → u = cv) ∧ PySem.W.kitOne K (.ref D) cv = some b ∧ Q (.bl b) H
section
variable {X : Cx} {B : Bs}
theorem call_isX : CallR X (.builtin "isinstance") (rIsX X.K) := by
  intro pins s σ H xs us Q I r h
  obtain ⟨a, D, d, c, cv, b, rfl, hH, hdd, C, hcv, e, q⟩ := h
  cases r with
  | cons rx rr =>
    cases rr with
    | cons rt rr =>
      cases rr
      cases rx
      have ec := hcv _ rt
      subst ec
      obtain ⟨⟨oe, vs, hget, hz, hv⟩, _⟩ := I.hok a _ hH
      have J : ∃ od, PySem.W.InstAt s.heap a oe D od := by
        cases d with
        | none => exact ⟨none, hget, hz.1, by unfold PySem.W.notCls; rw [hv] <;> rfl, by rw [hz.2]; trivial⟩
        | some dd =>
          obtain ⟨fs, hx⟩ := hdd dd rfl
          have hx2 : ObjOk X.prog X.w H s.heap dd (.xd fs) := I.hok dd _ hx
          obtain ⟨mA, hns, hr⟩ := hx2
          obtain ⟨od, ho, hl⟩ := lookIn_ns hns
          exact ⟨some od, hget, hz.1, by unfold PySem.W.notCls; rw [hv] <;> rfl, by rw [hz.2]; exact ho⟩
      obtain ⟨od, J⟩ := J
      exact PySem.W.kia_one (PySem.W.kitx_excG C.hg C.hk C.hs C.hd C.ha C.hn C.ht C.hm) I.kIn J e (fun z => nomatch z) fun tk => ⟨.bl b, H, I.kept (t' := tk) fun _ _ z => z, rfl, q⟩
def rIsE (K : Frg) (i : Nat) (C : Str) : Rd := fun ρ Q => match ρ[i]? with
  | some (.mu (.exc x)) => ∃ c b, (x.c = .glob c ∧ x.ns ≠ []) ∧ ExcC K (He.ga K c) ∧ PySem.W.kitOne K (.ref (He.ga K c)) (.ref (He.ga K C)) = some b ∧ Q (.bl b)
  | _ => False
theorem y_isx {K : Frg} {n C : Str} {i : Nat} {p p0 p1 pos : Pos} (hv : PE X (.Name n p) (tVar i)) (hg : Gl X C) (hm : X.mg C = some (.ref (He.ga X.K C))) (hi : Gl X "isinstance") (hmi : X.mg "isinstance" = none) (hdC : (C == ("__debug__" : Str)) = false := by decide)
    (h1 : starEach [.Name n p, .Name C p1] X.env = (false, eval (.Name n p) X.env) :: starEach [.Name C p1] X.env := by rfl) (h2 : starEach [.Name C p1] X.env = (false, eval (.Name C p1) X.env) :: starEach [] X.env := by rfl)
    (hpl : (backTo pos (starEach [.Name C p1] X.env)).any (·.1) = false := by rfl) (hK : X.K = K := by rfl) : PEp X B (.Call (.Name "isinstance" p0) [.Name n p, .Name C p1] [] pos) (rIsE K i C) := by
  subst hK
  exact pe_imp (pe_callB call_isX hi hmi (by decide +kernel) (pa_cons hv (pa_cons (pe_glob (v := .ref (He.ga X.K C)) hg hm rfl hdC) pa_nil h2) h1) (by decide) (by decide) h1 hpl) fun σ H Q ⟨F, ρ, Qd, J, z, kk⟩ => by
    unfold rIsE at z
    split at z
    · rename_i x hx
      obtain ⟨c, b, ⟨ec, hns⟩, EC, hk, z⟩ := z
      obtain ⟨a, o, s1, s2, s3, s4, s5, cls, d, rfl, xr⟩ := J.own i _ hx
      obtain ⟨ec1, xr2⟩ := xr
      rw [ec] at ec1
      have ecl : cls = .ref (He.ga X.K c) := (Option.some.inj ec1).symm
      subst ecl
      refine ⟨_, s1, a, He.ga X.K c, d, _, _, b, rfl, s5, fun dd ed => ?_, EC, fun u r => r, hk, kk _ F H _ (Go.refl J.same) J.tp (.bl b) z⟩
      obtain ⟨dd2, ws, ed2, eF, _⟩ := xr2 hns
      rw [ed] at ed2
      cases ed2
      exact ⟨_, J.same _ _ eF⟩
    · exact z.elim
end
def bExC (x : Str) : Frg → Bool := fun K => He.eqO (PySem.W.findIn K (.ref (He.ga K x)) "__getattribute__") (some (some (.builtin "BaseException.__getattribute__"))) && (He.eqO (PySem.W.findIn K (.ref (He.ga K x)) "__getattr__") (some none) && (decide (PySem.W.subIn K (.ref (He.ga K x)) (.type "BaseException") = some true) && (PySem.W.hasDictIn K (He.ga K x) &&
  (He.eqO (PySem.W.findIn K (.ref (He.ga K x)) "__class__") (some (some (.builtin "object.__class__"))) && (He.eqO (PySem.W.specialIn K (.builtin "object.__class__") "__get__") (some (some (.builtin "getset_descriptor.__get__"))) && (decide (PySem.W.takesIn K (.builtin "object.__class__") = some true) && decide (PySem.W.mroIn K (He.ga K x) (.type "object") = some true)))))))
theorem exc_of {K : Frg} {x : Str} (h : bExC x K = true) : ExcC K (He.ga K x) := by
  obtain ⟨h1, h⟩ := He.ba h
  obtain ⟨h2, h⟩ := He.ba h
  obtain ⟨h3, h⟩ := He.ba h
  obtain ⟨h4, h⟩ := He.ba h
  obtain ⟨h5, h⟩ := He.ba h
  obtain ⟨h6, h⟩ := He.ba h
  obtain ⟨h7, h8⟩ := He.ba h
  exact ⟨He.eqO_ok h1, He.eqO_ok h2, of_decide_eq_true h3, h4, He.eqO_ok h5, He.eqO_ok h6, of_decide_eq_true h7, of_decide_eq_true h8⟩
end Y
namespace Z
open PySem PySem.Spec PyProof.Rows L2
section
variable {P : Program} {w : World} {K : Frg} {mg : Str → Option Value} {base : Heap}
/-- a def whose last parameter is by name alone, without a default -/
theorem zfnKo {x qual kn : Str} {st : Stmt} {f : Addr} {N ps : List Str} {k : Nat} {sp : Sp} (F : DefAt K x qual st f) (S : FnScope N ps (defScope st)) (len : ∀ vs H Q E, sp vs H Q E → vs.length = ps.length)
    (hb1 : ∀ (kV doc pm : Value) (an : Option Addr) (cdv ct : Value) (us : List Value) (u : Value), us.length + 1 = ps.length → bindArgs (PySem.W.fnOf x qual (defArgs st) (defBody st) (defScope st) .none kV doc pm an cdv ct) ⟨us, [(kn, u)]⟩ = pure (ps.zip (us ++ [u])))
    (hbody : ∀ (cdv : Value) (A : Around) (outer : List Env) (s : Shared) (H : Hp) (vs : List V) (Q : VK) (E : XK), RoomG k (A.deeper (envOfC qual (defScope st) s.heap.objs.size f cdv)) → sp vs H Q E →
      ∃ t, PSs (cxOf (L2.CX P w) P w K mg base N qual (defScope st) f cdv A outer s H E) (defBody st) t ∧ t { nx := fun _ H' => Q .non H', rt := Q } (start N vs) H) : FnK P w K mg base (L2.CX P w) (k + 1) f kn sp := by
  obtain ⟨fd, F⟩ := F
  obtain ⟨oc, od, dV, kV, doc, pm, an, cdv, ct, osl, rfl, lk, hcd, hD, hK⟩ := F.ex
  have hD' : dV = .none := by
    rcases hD with ⟨_, z⟩ | ⟨z, _⟩
    · exact z
    · exact absurd rfl z
  subst hD'
  intro A outer s H us u vs z Q E hr e0 r rz hs
  have hl := len _ _ _ _ hs
  have hu : us.length + 1 = ps.length := by
    have := r.length
    rw [List.length_append] at hl
    simp only [List.length_cons, List.length_nil] at hl
    omega
  refine StX.run_bnd lk hcd S hr.rm e0 (G := fun xs H2 => xs = vs ++ [z] ∧ H2 = H) (fun A' Ex Q' h => ?_) fun s2 H2 xs g hr' => ?_
  · rw [hb1 kV doc pm an cdv ct us u hu]
    exact wpAny_pure (h s H _ _ e0 .refl rfl (fun _ _ z => z) (r.append (.cons rz .nil)) hl ⟨rfl, rfl⟩)
  · obtain ⟨rfl, rfl⟩ := g
    exact hbody cdv A outer s2 H2 _ Q E ⟨hr', hr.gd⟩ hs
end
end Z
namespace Y
open PySem PySem.Spec PyProof.Rows L2 Z
section
variable {P : Program} {w : World} {K : Frg} {mg : Str → Option Value} {base : Heap}
theorem y_fnKX {x qual kn : Str} {st : Stmt} {f : Addr} {N ps : List Str} {k : Nat} {R : RdF} (F : DefAt K x qual st f) (S : FnScope N ps (defScope st)) (len : ∀ ds Q E, R ds Q E → ds.length = ps.length)
    (hb1 : ∀ (kV doc pm : Value) (an : Option Addr) (cdv ct : Value) (us : List Value) (u : Value), us.length + 1 = ps.length → bindArgs (PySem.W.fnOf x qual (defArgs st) (defBody st) (defScope st) .none kV doc pm an cdv ct) ⟨us, [(kn, u)]⟩ = pure (ps.zip (us ++ [u])))
    (hbody : ∀ (cdv : Value) (A : Around) (outer : List Env) (s : Shared) (H : Hp) (E : XK) (B : Bs), Same B.F0 B.H0 → RoomG k (A.deeper (envOfC qual (defScope st) s.heap.objs.size f cdv)) → Px (cxOf (L2.CX P w) P w K mg base N qual (defScope st) f cdv A outer s H E) B →
      PassesOwn (model P w) (cxOf (L2.CX P w) P w K mg base N qual (defScope st) f cdv A outer s H E).A (cxOf (L2.CX P w) P w K mg base N qual (defScope st) f cdv A outer s H E).env (cxOf (L2.CX P w) P w K mg base N qual (defScope st) f cdv A outer s H E).xe →
      Tk (cxOf (L2.CX P w) P w K mg base N qual (defScope st) f cdv A outer s H E) B →
      ∃ r, PSsp (cxOf (L2.CX P w) P w K mg base N qual (defScope st) f cdv A outer s H E) B (defBody st) r ∧ ∀ ds Q, R ds Q B.Ed → r (startE N.length ds) { nx := fun _ => Q .non, rt := Q }) : FnK P w K mg base (L2.CX P w) (k + 1) f kn (spP K R) := by
  refine zfnKo F S (fun vs H Q E ⟨ms, F, ds, Qd, Ed, _, r, h, _⟩ => by rw [r.len]; exact len _ _ _ h) hb1 fun cdv A outer s H vs Q E hr h => ?_
  obtain ⟨ms, F, ds, Qd, Ed, t, r, h, kq, ke⟩ := h
  obtain ⟨rr, h1, h2⟩ := hbody cdv A outer s H E ⟨ms, F, H, Ed⟩ t.1 hr (px_of fun cls d H' ⟨F', x, g, t', xr, z⟩ => ke cls d F' H' x g t' xr z) po_of (tk_of fun cls d H' ⟨F', x, g, t', xr, z⟩ => ke cls d F' H' x g t' xr z)
  refine ⟨_, h1, F, _, _, iv_start (B := ⟨ms, F, H, Ed⟩) t r, h2 ds Qd h, ?_, ?_, ?_, ?_⟩
  · intro σ' ρ' F' H' _ I' z
    exact kq .non F' H' .non I'.go I'.tp .non z
  · intro v d F' H' g t' r' z
    exact kq v F' H' d g t' r' z
  · intro _ _ _ _ _ _ z; exact z
  · intro _ _ _ _ _ _ z; exact z
end
section
variable {X : Cx} {B : Bs} {e e2 : Expr} {es : List Expr} {r2 : Rd} {rl : RdA} {pos p0 kpos : Pos} {R : RdF} {k : Nat} {f : Addr} {x kn : Str}
end
end Y
namespace Y
open PySem PySem.Spec PyProof.Rows L2 Z
/-! ### lambdas: making -/
theorem tabN_mem {K : Frg} {x : Str} (hx : x ∈ lamNames) (hf : isFnB (K.lookup (He.ga K x)) = true) : (tabN K x, lamQ x) ∈ tabsOf K :=
  List.mem_map.mpr ⟨x, List.mem_filter.mpr ⟨hx, hf⟩, rfl⟩
theorem nodup_fst {α β : Type} : ∀ {l : List (α × β)} {a : α} {b c : β}, (l.map (·.1)).Nodup → (a, b) ∈ l → (a, c) ∈ l → b = c
  | (x, y) :: l, a, b, c, nd, h1, h2 => by
    rw [List.map_cons, List.nodup_cons] at nd
    have no : ∀ {d : β}, (x, d) ∉ l := fun h => nd.1 (List.mem_map.mpr ⟨_, h, rfl⟩)
    rcases List.mem_cons.mp h1 with e1 | e1 <;> rcases List.mem_cons.mp h2 with e2 | e2
    · cases e1; cases e2; rfl
    · cases e1; exact (no e2).elim
    · cases e2; exact (no e1).elim
    · exact nodup_fst nd.2 e1 e2
/-- what K tells of a def that makes lambdas -/
structure LamF (K : Frg) (mg : Str → Option Value) (x : Str) : Prop where
  mem : (tabN K x, lamQ x) ∈ tabsOf K
  nd : (tabA K).Nodup
  hd : PySem.W.codeHdIn K (cdAt K (He.ga K x)) (tabN K x) = true
  bm : ∃ bm ob, mg "__builtins__" = some (.ref bm) ∧ bm ≠ builtinsNs ∧ bm ≠ mainGlobals ∧ bm ≠ tabN K x ∧ K.lookup bm = some ob ∧ ob.cls = .type "module" ∧ ob.dict = some builtinsNs ∧ ob.data = .plain
  gP : mainGlobals ≠ tabN K x
def isMod : Option Obj → Bool
  | some ⟨.type "module", some d, .plain, _⟩ => d == builtinsNs
  | _ => false
def bLam (x : Str) : Frg → Bool := fun K => lamNames.contains x && (isFnB (K.lookup (He.ga K x)) && (decide (tabA K).Nodup && (PySem.W.codeHdIn K (cdAt K (He.ga K x)) (tabN K x) && (isMod (K.lookup (He.ga K "__builtins__")) &&
  (!(He.ga K "__builtins__" == builtinsNs) && (!(He.ga K "__builtins__" == mainGlobals) && (!(He.ga K "__builtins__" == tabN K x) && !(mainGlobals == tabN K x))))))))
theorem lamF_of {K : Frg} {mg : Str → Option Value} {x : Str} (hb : mg "__builtins__" = some (.ref (He.ga K "__builtins__"))) (h : bLam x K = true) : LamF K mg x := by
  obtain ⟨h1, h⟩ := He.ba h
  obtain ⟨h2, h⟩ := He.ba h
  obtain ⟨h3, h⟩ := He.ba h
  obtain ⟨h4, h⟩ := He.ba h
  obtain ⟨h5, h⟩ := He.ba h
  obtain ⟨h6, h⟩ := He.ba h
  obtain ⟨h7, h⟩ := He.ba h
  obtain ⟨h8, h9⟩ := He.ba h
  have ne : ∀ {a b : Addr}, (!(a == b)) = true → a ≠ b := fun {a b} z e => by subst e; simp at z
  refine ⟨tabN_mem (by simpa using h1) h2, of_decide_eq_true h3, h4, ?_, ne h9⟩
  cases e : K.lookup (He.ga K "__builtins__") with
  | none => rw [e] at h5; cases h5
  | some ob =>
    rw [e] at h5
    obtain ⟨oc, od, dt, sl⟩ := ob
    unfold isMod at h5
    split at h5
    · rename_i d sl' e2
      cases e2
      have : d = builtinsNs := by simpa using h5
      subst this
      exact ⟨_, _, hb, ne h6, ne h7, ne h8, e, rfl, rfl, rfl⟩
    · cases h5
theorem LamF.tb {K : Frg} {mg : Str → Option Value} {x : Str} {base : Heap} (L : LamF K mg x) (M : L2.Mod K mg base) : LamX.TabB base mg (cdAt K (He.ga K x)) (tabN K x) := by
  obtain ⟨bm, ob, b1, b2, b3, b4, b5, b6⟩ := L.bm
  exact ⟨PySem.W.codeHd_of_K M.kin L.hd, ⟨bm, ob, b1, b2, b3, b4, M.kin _ _ b5, b6⟩, L.gP⟩
abbrev lamO (q : Str) (params : Arguments) (body : Expr) (scope : Scope) (cl : List (Str × Addr)) (pm : Value) (c' : Addr) (ctv : Value) : Obj := PySem.W.kla_obj "<lambda>" q params body scope cl pm c' ctv
section
variable {X : Cx} {pins : List (Addr × Obj)} {σ : L2.St} {H F : Hp} {s : Shared}
theorem lam_mk {c P : Addr} {q : Str} {params : Arguments} {body : Expr} {scope : Scope} {lp : Pos} {E Q : Value → Shared → Prop} (I : Inv X pins σ H s) (TB : LamX.TabB X.base X.mg c P) (hcode : X.env.code = .ref c) (hq : X.env.qual ++ "<lambda>" = q) (hT : TabF F H P q) (sm : Same F H)
    (hdef : defaultsOf params X.env = ([], [])) (hfr : ∀ y ∈ scope.names, y.2 = .free → ∃ c, X.env.cells.lookup y.1 = some c)
    (k : ∀ (f c' : Addr) (pm ctv : Value) (F1 H1 : Hp) (s' : Shared), Inv X pins σ H1 s' → Go [P] F H F1 H1 → TabF F1 H1 P q → F1 c' = some (LamX.CodeO c' q) → s'.heap.get? f = some (lamO q params body scope (cloFrom X.env.cells scope.names []) pm c' ctv) → H1 f = none → f ∉ frs X.stack → Q (.ref f) s') :
    wpAny (model X.prog X.w) X.A (eval (.Lambda params body scope lp) X.env) Q E s := by
  subst hq
  obtain ⟨fP, ps, tbl, trip, known⟩ := hT
  have tblH := I.hok P _ tbl
  have newF : ∀ a : Addr, s.heap.objs.size ≤ a → a ∉ frs X.stack := fun a big m => by
    rcases List.mem_cons.mp (I.stkSub a m) with z | z
    · exact absurd (z ▸ I.lt) (Nat.not_lt.mpr big)
    · exact I.nofs big z
  refine PySem.W.kla_eval hdef ?_
  cases found : codeAmong lp ps.toList with
  | some cv =>
    obtain ⟨c', rfl, known'⟩ := known lp cv found
    refine PySem.W.kla_makeFunctionHit (closure_ok hfr) I.ok.glob (I.mod.glob.keeps I.bk) hcode (TB.code.keeps I.bk) tblH trip found (TB.bm.keeps I.bk) fun ctv hp tk stays big => ?_
    exact k hp.objs.size c' _ ctv F H _ (I.kept fun b o e => Heap.get?_push_of_some _ (stays b o e)) (Go.refl sm) ⟨fP, ps, tbl, trip, known⟩ known' (Heap.get?_push_size _ rfl) (I.hok.fresh big) (newF _ big)
  | none =>
    refine PySem.W.kla_makeFunction (closure_ok hfr) I.ok.glob (I.mod.glob.keeps I.bk) hcode (TB.code.keeps I.bk) tblH trip found TB.gP (TB.bm.keeps I.bk) fun c' ctv hp tk grow big small rec' tab' => ?_
    obtain ⟨c2, oc, vs, tq, ec, look, dat, nam⟩ := rec'
    cases ec
    have free' : H c' = none := I.hok.fresh big
    have neP : c' ≠ P := fun z => by rw [z, tbl] at free'; cases free'
    have fF : F c' = none := same_none sm free'
    have J := LamX.inv_table (t' := tk) (more := #[rawInt lp.line, rawInt lp.col, .ref c']) (h' := hp.push (lamO (X.env.qual ++ "<lambda>") params body scope (cloFrom X.env.cells scope.names []) ((X.mg "__name__").getD .none) c' ctv)) I tbl
      (fun b o nb e => Heap.get?_push_of_some _ (grow b o nb e)) (Heap.get?_push_of_some _ tab') big ⟨oc, vs, tq, Heap.get?_push_of_some _ look, dat, nam⟩
    have big2 : s.heap.objs.size ≤ hp.objs.size := Nat.le_trans big (Nat.le_of_lt small)
    have oldF : ∀ b u, F b = some u → b ≠ c' ∧ b ≠ P := fun b u e => ⟨fun z => (by rw [z, fF] at e; cases e), fun z => (by rw [z, fP] at e; cases e)⟩
    refine k hp.objs.size c' _ ctv (upd F c' (LamX.CodeO c' (X.env.qual ++ "<lambda>"))) _ _ J ⟨fun b u e => ?_, fun b u e => ?_, fun b u nm e1 e2 => ?_⟩ ⟨?_, _, (upd_ne (Ne.symm neP)).trans upd_same, ?_, fun lp' cv hc => ?_⟩ upd_same (Heap.get?_push_size _ rfl) ?_ (newF _ big2)
    · rw [upd_ne (oldF b u e).1]; exact e
    · by_cases hb : b = c'
      · subst hb; rw [upd_same] at e ⊢; exact e
      · rw [upd_ne hb] at e
        rw [upd_ne hb, upd_ne (oldF b u e).2]
        exact sm b u e
    · have hb : b ≠ c' := ne_of_none e2 free'
      have hb2 : b ≠ P := fun z => nm (by rw [z]; exact List.mem_cons_self)
      exact ⟨by rw [upd_ne hb]; exact e1, by rw [upd_ne hb, upd_ne hb2]; exact e2⟩
    · rw [upd_ne (Ne.symm neP)]; exact fP
    · have el : (ps ++ #[rawInt lp.line, rawInt lp.col, .ref c']).toList = ps.toList ++ [rawInt lp.line, rawInt lp.col, .ref c'] := by simp
      rw [el]
      exact PySem.TriplesOk_snoc _ _ _ _ trip
    · have el : (ps ++ #[rawInt lp.line, rawInt lp.col, .ref c']).toList = ps.toList ++ [rawInt lp.line, rawInt lp.col, .ref c'] := by simp
      rw [el] at hc
      rcases LamX.among_app _ trip hc with z | z
      · obtain ⟨c0, e1, e2⟩ := known lp' cv z
        exact ⟨c0, e1, by rw [upd_ne (oldF _ _ e2).1]; exact e2⟩
      · exact ⟨c', z, upd_same⟩
    · rw [upd_ne (Nat.ne_of_gt small), upd_ne (Nat.ne_of_gt (Nat.lt_of_lt_of_le (Heap.lt_size tblH) big2))]
      exact I.hok.fresh big2
end
theorem tp_table {K : Frg} {ms : List Addr} {F H F1 H1 : Hp} {P : Addr} {q : Str} (t : Tp K ms F H) (hm : (P, q) ∈ tabsOf K) (nd : (tabA K).Nodup) (g : Go [P] F H F1 H1) (n : TabF F1 H1 P q) : Tp K ms F1 H1 := by
  refine ⟨g.fh, fun y my ny => (t.tape y my ny).go g fun z => ?_, fun p hp => ⟨(t.tabs p hp).1, ?_⟩⟩
  · have : y = P := by simpa using z
    exact ny (this ▸ List.mem_map.mpr ⟨_, hm, rfl⟩)
  · by_cases e : p.1 = P
    · obtain ⟨a, b⟩ := p
      cases e
      rw [nodup_fst nd hp hm]
      exact n
    · exact (t.tabs p hp).2.go g fun z => e (by simpa using z)
/-! ### a larger base -/
theorem env0_big {P : Program} {w : World} {K : Frg} {mg : Str → Option Value} {base : Heap} {A : Around} {outer : List Env} {s : Shared} {H : Hp} (e0 : Env0 P w K mg base A outer s H) :
    ∃ b2 : Heap, (∀ b o, s.heap.get? b = some o → H b = none → b ∉ frs outer → b2.get? b = some o) ∧ Env0 P w K mg b2 A outer s H := by
  let l := trk s.heap H ++ frs outer
  have inl : ∀ b o, s.heap.get? b = some o → b ∈ trk s.heap H → ∃ u, H b = some u := fun b o e m => by
    have q : (H b).isSome = true := (List.mem_filter.mp m).2
    exact Option.isSome_iff_exists.mp q
  have see : ∀ b o, s.heap.get? b = some o → H b = none → b ∉ frs outer → (PySem.W.hideAll s.heap l).get? b = some o := fun b o e n nf => PySem.W.hideAll_get _ e fun m => by
    rcases List.mem_append.mp m with z | z
    · obtain ⟨u, q⟩ := inl b o e z
      rw [n] at q; cases q
    · exact nf z
  have up : ∀ b o, base.get? b = some o → (PySem.W.hideAll s.heap l).get? b = some o := fun b o e => see b o (e0.bs b o e).1 (e0.bs b o e).2 fun m => by
    have := (e0.funs.mem m).1
    rw [e] at this; cases this
  refine ⟨PySem.W.hideAll s.heap l, see, ⟨e0.frames, ?_, fun b o e => ?_, Nat.le_of_eq (PySem.W.hideAll_size _ _), ?_, e0.frf, e0.hok, e0.bare⟩⟩
  · obtain ⟨kin, glob, ⟨mb, bl, bb⟩, lim⟩ := e0.mod
    exact ⟨kin.keeps up, glob.keeps up, ⟨mb, bl.keeps up, bb⟩, lim.keeps up⟩
  · have e' := PySem.W.of_hideAll l e
    refine ⟨e', ?_⟩
    cases q : H b with
    | none => rfl
    | some u =>
      have z := PySem.W.hideAll_none l (h := s.heap) (List.mem_append_left _ (List.mem_filter.mpr ⟨List.mem_range.mpr (Heap.lt_size e'), by simp [q]⟩) : b ∈ l)
      rw [z] at e; cases e
  · have key : ∀ fs : List Env, s.heap.FunFrames base fs → (∀ b ∈ frs fs, b ∈ l) → s.heap.FunFrames (PySem.W.hideAll s.heap l) fs := by
      intro fs
      induction fs with
      | nil => intro _ _; trivial
      | cons env rest ih =>
        rintro ⟨h1, ⟨L, o, h2, h3, h4, h5⟩, h6⟩ sub
        have hL : L ∈ frs (env :: rest) := List.mem_filterMap.mpr ⟨env, List.mem_cons_self, h2⟩
        refine ⟨h1, ⟨L, o, h2, PySem.W.hideAll_none l (sub L hL), h4, h5⟩, ih h6 fun b hb => sub b ?_⟩
        obtain ⟨e, he, q⟩ := List.mem_filterMap.mp hb
        exact List.mem_filterMap.mpr ⟨e, List.mem_cons_of_mem _ he, q⟩
    exact key outer e0.funs fun b hb => List.mem_append_right _ hb
end Y
namespace Y
open PySem PySem.Spec PyProof.Rows L2 Z
/-! ### contracts over a known frozen heap; closures -/
def spX (K : Frg) (ms : List Addr) (Fm : Hp) (R : RdF) : Sp := fun vs H Q E => ∃ F ds Qd Ed, Same Fm F ∧ Tp K ms F H ∧ Rps K ms F vs ds ∧ R ds Qd Ed ∧ (∀ v F' H' d, Go ms F H F' H' → Tp K ms F' H' → Rp K ms F' v d → Qd d → Q v H') ∧
  (∀ cls d F' H' x, Go ms F H F' H' → Tp K ms F' H' → XR K ms F' cls d x → Ed x → E cls d H')
/-- a function at fa that keeps the promise R -/
structure CloAt (P : Program) (w : World) (K : Frg) (mg : Str → Option Value) (base : Heap) (k : Nat) (fa : Addr) (ms : List Addr) (Fm : Hp) (R : RdF) : Prop where
  fo : PySem.W.FnAt fa base
  fn : FnG P w K mg base (L2.CX P w) k fa (spX K ms Fm R)
/-- the cells that a function captured, in a base -/
structure CellsB (cl : List (Str × Addr)) (fr : List Str) (ws : List (Option V)) (b2 : Heap) : Prop where
  len : ws.length = fr.length
  all : ∀ y c, cl.lookup y = some c → ∃ v, b2.IsCell c v
  inj : ∀ x y c, cl.lookup x = some c → cl.lookup y = some c → x = y
  has : ∀ (i : Nat) (y : Str), fr[i]? = some y → ∃ c, cl.lookup y = some c ∧ ∀ v, ws[i]? = some (some v) → ∃ u, L2.RelV v u ∧ b2.IsCell c (some u)
section
variable {P : Program} {w : World} {K : Frg} {mg : Str → Option Value} {b2 : Heap}
theorem CellsB.at {cl : List (Str × Addr)} {fr : List Str} {ws : List (Option V)} {A : Around} {outer : List Env} {s : Shared} {H : Hp} (C : CellsB cl fr ws b2) (e0 : Env0 P w K mg b2 A outer s H) : NdefX.CellsAt cl fr ws s.heap H :=
  ⟨C.len, fun y c e => let ⟨v, o, h1, h2⟩ := C.all y c e; ⟨(e0.bs _ _ h1).2, v, o, (e0.bs _ _ h1).1, h2⟩, C.inj, fun i y e => let ⟨c, h1, h2⟩ := C.has i y e; ⟨c, h1, fun v hv => let ⟨u, r, o, q1, q2⟩ := h2 v hv; ⟨u, r, o, (e0.bs _ _ q1).1, q2⟩⟩⟩
abbrev lamNF (q : Str) (params : Arguments) (scope : Scope) (cl : List (Str × Addr)) (c' : Addr) : NdefX.NF := ⟨"<lambda>", q, params, [], scope, cl, c'⟩
abbrev lamC (P : Program) (w : World) (K : Frg) (mg : Str → Option Value) (b2 : Heap) (N : List Str) (F : NdefX.NF) (f : Addr) (A : Around) (outer : List Env) (s : Shared) (H : Hp) (E : XK) : Cx := NdefX.ncx (L2.CX P w) P w K mg b2 N F f A outer s H E
/-- a lambda by its body -/
theorem clo_fn {fr ps N : List Str} {q : Str} {params : Arguments} {body : Expr} {scope : Scope} {cl : List (Str × Addr)} {pm ctv : Value} {c' f : Addr} {ws : List (Option V)} {ms : List Addr} {Fm : Hp} {ρc : Ev} {k : Nat} {r : Bs → Rd}
    (hf : b2.get? f = some (lamO q params body scope cl pm c' ctv)) (hc : Fm c' = some (LamX.CodeO c' q)) (S : NdefX.NScope N ps fr scope) (hN : N = ps ++ fr)
    (hb : ∀ (cl : List (Str × Addr)) (pm cv ctv : Value) (us : List Value), us.length = ps.length → bindArgs (PySem.W.kla_fn "<lambda>" q params body scope cl pm cv ctv) ⟨us, []⟩ = pure (ps.zip us))
    (C : CellsB cl fr ws b2) (hl : ρc.length = fr.length) (hv : ∀ (i : Nat) (d : D), ρc[i]? = some (.val d) → ∃ v, ws[i]? = some (some v) ∧ Rp K ms Fm v d) (hm : ∀ (i : Nat) (m : Mo), ρc[i]? ≠ some (.mu m))
    (hbody : ∀ (A : Around) (outer : List Env) (s : Shared) (H : Hp) (E : XK) (B : Bs), RoomG k (A.deeper (NdefX.envF (lamNF q params scope cl c') f s.heap.objs.size)) → Px (lamC P w K mg b2 N (lamNF q params scope cl c') f A outer s H E) B → PEp (lamC P w K mg b2 N (lamNF q params scope cl c') f A outer s H E) B body (r B)) :
    FnG P w K mg b2 (L2.CX P w) (k + 1) f (spX K ms Fm (fun ds Q E => ds.length = ps.length ∧ ∀ F0 H0, r ⟨ms, F0, H0, E⟩ (ds.map Sl.val ++ ρc) Q)) := by
  intro A outer s H us vs Q E hr e0 rv ⟨F, ds, Qd, Ed, sm, t, rd, ⟨hlen, hR⟩, kq, ke⟩
  have ho : s.heap.get? f = some (lamO q params body scope cl pm c' ctv) := (e0.bs _ _ hf).1
  have hl2 : vs.length = ps.length := by rw [rd.len]; exact hlen
  have hu : us.length = ps.length := by rw [← rv.length]; exact hl2
  have crec : s.heap.CodeRec (.ref c') q := NdefX.codeO_at e0.hok (t.1 _ _ (sm _ _ hc))
  have lim : s.heap.NoLimit := e0.mod.nolimit.keeps fun b o e => (e0.bs b o e).1
  refine PySem.W.kla_callFunE hr.rm.depth ho rfl S.co S.gen rfl crec ?_
  rw [hb _ _ _ _ us hu]
  refine wpAny_pure (wpAny_newFunctionEnv S.nocell (fun ⟨n, _⟩ hy => S.par n (List.of_mem_zip hy).1) (fun h₁ hns hsb => ⟨lim.fresh _ hsb, ?_⟩) S.kind)
  have kp : ∀ b o, s.heap.get? b = some o → h₁.get? b = some o := fun b o e => hsb.extBut b o (Nat.ne_of_lt (Heap.lt_size e)) (Heap.get?_push_of_some _ e)
  have J : Inv (lamC P w K mg b2 N (lamNF q params scope cl c') f A outer s H E) [] (NdefX.startF N vs ws) H { s with heap := h₁, toks := s.toks + (ps.zip us).length } := NdefX.inv_startN (F := lamNF q params scope cl c') S hr.rm.hd e0 hl2 rv (C.at e0) hns kp
  have hx : Px (lamC P w K mg b2 N (lamNF q params scope cl c') f A outer s H E) ⟨ms, F, H, Ed⟩ := by
    have tk : Takes (lamC P w K mg b2 N (lamNF q params scope cl c') f A outer s H E) (fun cls d _ H => E cls d H) := takes_of rfl rfl rfl rfl
    exact passes_call tk fun cls d σ H ⟨F', x, g, t', xr, z⟩ => ke cls d F' _ x g t' xr z
  have eS : NdefX.startF N vs ws = vs.map some ++ ws := by
    unfold NdefX.startF
    have : N.length - vs.length - ws.length = 0 := by
      rw [hN, List.length_append, C.len, hl2]; omega
    rw [this]
    simp
  have iv : Iv K ⟨ms, F, H, Ed⟩ F H (NdefX.startF N vs ws) (ds.map Sl.val ++ ρc) := by
    rw [eS]
    refine ⟨Go.refl t.1, t, by rw [List.length_append, List.length_append, List.length_map, List.length_map, rd.len, hl, C.len], fun i d h => ?_, fun i m h => ?_, fun i j m n a _ h _ _ => ?_⟩
    · rcases Nat.lt_or_ge i ds.length with z | z
      · rw [List.getElem?_append_left (by simpa using z), List.getElem?_map] at h
        have hd : ds[i]? = some d := by
          rw [List.getElem?_eq_getElem z] at h ⊢
          simpa using h
        obtain ⟨v, h1, h2⟩ := rd.get hd
        refine ⟨v, ?_, h2⟩
        rw [List.getElem?_append_left (by rw [List.length_map, rd.len]; exact z), List.getElem?_map, h1]
        rfl
      · rw [List.getElem?_append_right (by simpa using z), List.length_map] at h
        obtain ⟨v, h1, h2⟩ := hv _ d h
        refine ⟨v, ?_, h2.up sm⟩
        rw [List.getElem?_append_right (by rw [List.length_map, rd.len]; exact z), List.length_map, rd.len]
        exact h1
    · exfalso
      rcases Nat.lt_or_ge i ds.length with z | z
      · rw [List.getElem?_append_left (by simpa using z), List.getElem?_map, List.getElem?_eq_getElem z] at h
        cases h
      · rw [List.getElem?_append_right (by simpa using z)] at h
        exact hm _ m h
    · exfalso
      rcases Nat.lt_or_ge i ds.length with z | z
      · rw [List.getElem?_append_left (by simpa using z), List.getElem?_map, List.getElem?_eq_getElem z] at h
        cases h
      · rw [List.getElem?_append_right (by simpa using z)] at h
        exact hm _ m h
  show codeAny _ _ (.expr body (NdefX.envF (lamNF q params scope cl c') f s.heap.objs.size)) _ _
  have hp := hbody A outer s H E ⟨ms, F, H, Ed⟩ (hr.deeper _) hx
  refine PySem.W.kla_codeExpr (wpAny_mono (hp.run [] _ (NdefX.startF N vs ws) H Q J ⟨F, _, Qd, iv, hR F H, fun v F' H' d g t' rr z => kq v F' H' d g t' rr z⟩) (fun v s' hq => ?_) fun e s' hq => hq)
  obtain ⟨v', H', J', rv', z⟩ := hq
  exact ⟨v', H', J'.os, J'.bare, J'.base, J'.hok, rv', z⟩
end
/-- a slot as a closure sees it -/
def capS (ρ : Ev) (j : Nat) : Sl := match ρ[j]? with
  | some (.val d) => .val d
  | _ => .no
/-- the promise of a lambda made at ρ -/
def cloR (ms : List Addr) (r : Bs → Rd) (np : Nat) (js : List Nat) (ρ : Ev) : RdF := fun ds Q E => ds.length = np ∧ ∀ F0 H0, r ⟨ms, F0, H0, E⟩ (ds.map Sl.val ++ js.map (capS ρ)) Q
/-- what a lambda's text tells -/
structure LamT (X : Cx) (N ps fr : List Str) (js : List Nat) (q : Str) (params : Arguments) (body : Expr) (scope : Scope) : Prop where
  sc : NdefX.NScope N ps fr scope
  nn : N = ps ++ fr
  bd : ∀ (cl : List (Str × Addr)) (pm cv ctv : Value) (us : List Value), us.length = ps.length → bindArgs (PySem.W.kla_fn "<lambda>" q params body scope cl pm cv ctv) ⟨us, []⟩ = pure (ps.zip us)
  df : defaultsOf params X.env = ([], [])
  free : ∀ y ∈ scope.names, y.2 = .free → X.env.scope.names.lookup y.1 = some .cell ∨ X.env.scope.names.lookup y.1 = some .free
  frm : ∀ y ∈ fr, (y, NameKind.free) ∈ scope.names
  ix : js.map (fun j => X.N[j]?) = fr.map some
  own : ∀ y, X.fn y = true
section
variable {X : Cx} {B : Bs} {pins : List (Addr × Obj)} {σ : L2.St} {H F : Hp} {s : Shared} {ρ : Ev}
/-- a lambda is made: a function that keeps its promise, over a larger base -/
theorem lam_clo {x : Str} {N ps fr : List Str} {js : List Nat} {k : Nat} {params : Arguments} {body : Expr} {scope : Scope} {lp : Pos} {E : Value → Shared → Prop} {Q : Value → Shared → Prop} {r : Bs → Rd} (I : Inv X pins σ H s) (J : Iv X.K B F H σ ρ)
    (L : LamF X.K X.mg x) (hcode : X.env.code = .ref (cdAt X.K (He.ga X.K x))) (hq : X.env.qual ++ "<lambda>" = lamQ x) (T : LamT X N ps fr js (lamQ x) params body scope)
    (hbody : ∀ (b2 : Heap) (cl : List (Str × Addr)) (c' f : Addr) (A : Around) (outer : List Env) (s : Shared) (H : Hp) (E : XK) (B : Bs), RoomG k (A.deeper (NdefX.envF (lamNF (lamQ x) params scope cl c') f s.heap.objs.size)) → Px (lamC X.prog X.w X.K X.mg b2 N (lamNF (lamQ x) params scope cl c') f A outer s H E) B → PEp (lamC X.prog X.w X.K X.mg b2 N (lamNF (lamQ x) params scope cl c') f A outer s H E) B body (r B))
    (kk : ∀ (f : Addr) (F1 H1 : Hp) (s1 : Shared) (b2 : Heap), Inv X pins σ H1 s1 → Go B.ms F H F1 H1 → Tp X.K B.ms F1 H1 → Iv X.K B F1 H1 σ ρ → Env0 X.prog X.w X.K X.mg b2 X.A X.stack s1 H1 → CloAt X.prog X.w X.K X.mg b2 (k + 1) f B.ms F1 (cloR B.ms r ps.length js ρ) → Q (.ref f) s1) :
    wpAny (model X.prog X.w) X.A (eval (.Lambda params body scope lp) X.env) Q E s := by
  have tp := J.tp
  have hfr : ∀ y ∈ scope.names, y.2 = .free → ∃ c, X.env.cells.lookup y.1 = some c := fun y hy e => (T.free y hy e).elim (fun z => I.ok.has _ (.inl z)) fun z => I.ok.has _ (.inr z)
  refine lam_mk I (L.tb I.mod) hcode hq (tp.tabs _ L.mem).2 tp.1 T.df hfr fun f c' pm ctv F1 H1 s1 I1 g n1 hcc hfo hfn hfs => ?_
  have t1 := tp_table tp L.mem L.nd g n1
  have gm : Go B.ms F H F1 H1 := g.sub fun a ha => by
    have : a = tabN X.K x := by simpa using ha
    rw [this]; exact (tp.tabs _ L.mem).1
  have J1 := J.step gm t1
  obtain ⟨b2, see, e0⟩ := env0_big I1.env0
  have hb2f : b2.get? f = some (lamO (lamQ x) params body scope (cloFrom X.env.cells scope.names []) pm c' ctv) := see f _ hfo hfn hfs
  have CA := NdefX.cells_of I1 (NdefX.Caps.made I1.ok T.free T.frm T.ix)
  have capsub : ∀ y c, (cloFrom X.env.cells scope.names []).lookup y = some c → X.env.cells.lookup y = some c := fun y c e => (NdefX.Caps.made (js := js) (fr := fr) I1.ok T.free T.frm T.ix).sub y c e
  have nofr : ∀ y c, (cloFrom X.env.cells scope.names []).lookup y = some c → c ∉ frs X.stack := fun y c e m => by
    have e' := capsub y c e
    rcases List.mem_cons.mp (I1.stkSub c m) with z | z
    · exact I1.cne y c e' z
    · obtain ⟨_, o, ho, _⟩ := I1.ok.funs.mem z
      exact absurd (Heap.lt_size ho) (Nat.not_lt.mpr (I1.ok.cab y c (T.own y) e'))
  have cb : ∀ y c v, (cloFrom X.env.cells scope.names []).lookup y = some c → s1.heap.IsCell c v → b2.IsCell c v := fun y c v e ⟨o, h1, h2⟩ => ⟨o, see c o h1 (I1.freeC y c (capsub y c e)) (nofr y c e), h2⟩
  have CB : CellsB (cloFrom X.env.cells scope.names []) fr (js.map (NdefX.slotAt σ)) b2 := ⟨CA.len, fun y c e => let ⟨v, h⟩ := (CA.all y c e).2; ⟨v, cb y c v e h⟩, CA.inj, fun i y e => let ⟨c, h1, h2⟩ := CA.has i y e; ⟨c, h1, fun v hv => let ⟨u, q1, q2⟩ := h2 v hv; ⟨u, q1, cb y c _ h1 q2⟩⟩⟩
  have hjl : (js.map (capS ρ)).length = fr.length := by
    have := congrArg List.length T.ix
    simpa using this
  refine kk f F1 H1 s1 b2 I1 gm t1 J1 e0 ⟨⟨_, _, _, _, hb2f⟩, clo_fn (ρc := js.map (capS ρ)) (ws := js.map (NdefX.slotAt σ)) hb2f hcc T.sc T.nn T.bd CB hjl (fun i d h => ?_) (fun i m h => ?_) (fun A outer s H E B => hbody b2 _ c' f A outer s H E B)⟩
  · rw [List.getElem?_map] at h ⊢
    cases e : js[i]? with
    | none => rw [e] at h; cases h
    | some j =>
      rw [e] at h
      have h' : capS ρ j = .val d := Option.some.inj h
      unfold capS at h'
      split at h'
      · rename_i d' e'
        cases h'
        obtain ⟨v, h1, h2⟩ := J1.val j _ e'
        exact ⟨v, congrArg some (NdefX.slotAt_of h1), h2⟩
      · cases h'
  · rw [List.getElem?_map] at h
    cases e : js[i]? with
    | none => rw [e] at h; cases h
    | some j =>
      rw [e] at h
      have h' : capS ρ j = .mu m := Option.some.inj h
      unfold capS at h'
      split at h' <;> cases h'
end
end Y
namespace Y
open PySem PySem.Spec PyProof.Rows L2 Z
theorem run_AB {X : Cx} {CX : CXT} {f : Addr} {sp : Sp} {E : XK} {pins : List (Addr × Obj)} {σ : L2.St} {H : Hp} {s : Shared} {b2 : Heap} {Q : VK} {us : List Value} {vs : List V} (F : FnA X.A X.prog X.w X.K X.mg b2 CX f sp) (e0 : Env0 X.prog X.w X.K X.mg b2 X.A X.stack s H) (hx : Passes CX X E) (I : L2.Inv X pins σ H s) (r : Vals vs us) (h : sp vs H Q E) :
    codeAny (model X.prog X.w) X.A (.call (.ref f) ⟨us, []⟩) (fun r s' => match r with | .ok (.ret v) => EP X pins σ Q v s' | .ok _ => False | .error e => X.xe e s') s :=
  codeAny_mono (F X.stack s H us vs Q E e0 r h) fun q s' hq => match q, hq with
    | .error er, hq => hx pins σ H s er s' I hq
    | .ok (.ret _), hq => I.after hq
    | .ok .next, hq => False.elim hq
    | .ok .brk, hq => False.elim hq
    | .ok .cont, hq => False.elim hq
/-! ### calls with a lambda, calls of a function that was handed in -/
section
variable {X : Cx} {B : Bs} {a e : Expr} {es : List Expr} {ra : Rd} {rl : RdA} {pos p0 lp : Pos} {k kc : Nat} {f fa : Addr} {y x q : Str} {N ps fr : List Str} {js : List Nat} {params : Arguments} {body : Expr} {scope : Scope} {r : Bs → Rd} {R2 : Addr → RdF → RdF} {ms : List Addr} {Fm : Hp} {R : RdF} {i : Nat}
theorem y_lam0 (F : ∀ (b2 : Heap) (fa : Addr) (Fm : Hp) (Rc : RdF), CloAt X.prog X.w X.K X.mg b2 (kc + 1) fa B.ms Fm Rc → FnG X.prog X.w X.K X.mg b2 (L2.CX X.prog X.w) k f (spX X.K B.ms Fm (R2 fa Rc))) (hr : RoomG k X.A) (hg : Gl X y) (hm : X.mg y = some (.ref f)) (hk : PySem.W.keepIn X.K (.ref f) = true) (hx : Px X B)
    (L : LamF X.K X.mg x) (hcode : X.env.code = .ref (cdAt X.K (He.ga X.K x))) (T : LamT X N ps fr js (lamQ x) params body scope)
    (hbody : ∀ (b2 : Heap) (cl : List (Str × Addr)) (c' f : Addr) (A : Around) (outer : List Env) (s : Shared) (H : Hp) (E : XK) (B : Bs), RoomG kc (A.deeper (NdefX.envF (lamNF (lamQ x) params scope cl c') f s.heap.objs.size)) → Px (lamC X.prog X.w X.K X.mg b2 N (lamNF (lamQ x) params scope cl c') f A outer s H E) B → PEp (lamC X.prog X.w X.K X.mg b2 N (lamNF (lamQ x) params scope cl c') f A outer s H E) B body (r B))
    (hq : X.env.qual ++ "<lambda>" = lamQ x := by rfl) (hdb : (y == ("__debug__" : Str)) = false := by decide) (he : starEach [.Lambda params body scope lp] X.env = [(false, eval (.Lambda params body scope lp) X.env)] := by rfl) :
    PEp X B (.Call (.Name y p0) [.Lambda params body scope lp] [] pos) (fun ρ Q => ∀ fa, R2 fa (cloR B.ms r ps.length js ρ) [.fn fa] Q B.Ed) := by
  refine ⟨fun pins s σ H Q I ⟨F0, ρ, Qd, J, z, kk⟩ => ?_⟩
  refine wpAny_Call_Name_kw (ld_glob I hg hm ?_ hdb)
  refine PySem.W.callWith_K (h₀ := X.base) I.ok.mod.kin hk ?_ he rfl
  rw [he]
  refine Calls.spliced_cons (lam_clo I J L hcode hq T hbody fun fa F1 H1 s1 b2 I1 g1 t1 J1 e0 C => ?_)
  refine Calls.spliced_nil ⟨I1.kIn, ?_⟩
  have hs : spX X.K B.ms F1 (R2 fa (cloR B.ms r ps.length js ρ)) [.ref fa] H1 Q (EE X.K B) :=
    ⟨F1, [.fn fa], Qd, B.Ed, Same.refl _, t1, .one (.fn fa), z fa, fun v F2 H2 d g2 t2 r2 q2 => kk v F2 H2 d (g1.trans g2) t2 r2 q2, fun cls d F2 H2 x g2 t2 xr q => ⟨F2, x, J1.go.trans g2, t2, xr, q⟩⟩
  exact wpAny_call (run_AB (us := [.ref fa]) (vs := [.ref fa]) ((F b2 fa F1 _ C).at hr) e0 hx I1 (.cons rfl .nil) hs)
/-! ### x(..), where x was handed in -/
theorem fnAt_up {base h : Heap} {q : Addr} (X : PySem.W.FnAt q base) (k : ∀ b o, base.get? b = some o → h.get? b = some o) : PySem.W.FnAt q h := let ⟨a, b, c, d, e⟩ := X; ⟨a, b, c, d, k _ _ e⟩
/-- x() in a try -/
theorem x_callV (hv : PEp X B.nox (.Name y p0) (rVar i)) (C : CloAt X.prog X.w X.K X.mg X.base kc fa ms Fm R) (hms : B.ms = ms) (hFm : Same Fm B.F0) (hr : RoomG kc X.A) :
    PXp X B (.Call (.Name y p0) [] [] pos) (fun ρ Q E => rVar i ρ fun d => d = .fn fa ∧ ∃ Q' E', R [] Q' E' ∧ (∀ d, Q' d → Q d) ∧ ∀ x, E' x → E x) := fun W tk => by
  refine ⟨fun pins s σ H Q I ⟨F0, ρ, Qd, Ed, J, z, kq, kx⟩ => ?_⟩
  subst hms
  refine wpAny_Call_Name_kw (thn (hv.run pins s σ H (fun v H1 => ∃ F1, Go B.ms F0 H F1 H1 ∧ Tp X.K B.ms F1 H1 ∧ v = .ref fa ∧ ∃ Q' E', R [] Q' E' ∧ (∀ d, Q' d → Qd d) ∧ ∀ x, E' x → Ed x) I ⟨F0, ρ, _, J.nox, z, fun v F1 H1 d g1 t1 r1 z1 => ⟨F1, g1, t1, (by obtain ⟨rfl, _⟩ := z1; cases r1; rfl), z1.2⟩⟩) fun u s1 ⟨v, H1, I1, rv, F1, g1, t1, ev, Q', E', z1, zq, zx⟩ => ?_)
  subst ev
  obtain rfl : u = Value.ref fa := rv
  have J1 := J.step g1 t1
  refine PySem.W.callWith_F0 (first := []) (fnAt_up C.fo I1.bk) ?_
  exact wpAny_call (run_X (us := []) (vs := []) (C.fn.at hr) tk I1 .nil ⟨F1, [], Q', E', hFm.trans J1.go.ff, t1, .nil, z1, fun v F2 H2 d g2 t2 r2 q2 => kq v F2 H2 d (g1.trans g2) t2 r2 (zq d q2), fun cls d F2 H2 x g2 t2 xr q => kx cls d F2 H2 x (g1.trans g2) t2 xr (zx x q)⟩)
end
/-! ### defs that are handed a function; defs that make lambdas -/
/-- what a lambda's text tells, by a check -/
def lamTB (NX : List Str) (sc : Scope) (N ps fr : List Str) (js : List Nat) (scope : Scope) : Bool :=
  NdefX.nscB N ps fr scope && (decide (N = ps ++ fr) && ((scope.names.all fun y => !decide (y.2 = .free) || decide (sc.names.lookup y.1 = some .cell) || decide (sc.names.lookup y.1 = some .free)) && ((fr.all fun y => decide ((y, NameKind.free) ∈ scope.names)) && decide (js.map (fun j => NX[j]?) = fr.map some))))
theorem lamT_by {X : Cx} {N ps fr NX : List Str} {js : List Nat} {q : Str} {params : Arguments} {body : Expr} {scope sc : Scope} (h : lamTB NX sc N ps fr js scope = true) (hN : X.N = NX) (hs : X.env.scope = sc)
    (bd : ∀ (cl : List (Str × Addr)) (pm cv ctv : Value) (us : List Value), us.length = ps.length → bindArgs (PySem.W.kla_fn "<lambda>" q params body scope cl pm cv ctv) ⟨us, []⟩ = pure (ps.zip us)) (df : defaultsOf params X.env = ([], [])) (own : ∀ y, X.fn y = true) : LamT X N ps fr js q params body scope := by
  obtain ⟨h1, h⟩ := He.ba h
  obtain ⟨h2, h⟩ := He.ba h
  obtain ⟨h3, h⟩ := He.ba h
  obtain ⟨h4, h5⟩ := He.ba h
  refine ⟨NdefX.nscope_by h1, of_decide_eq_true h2, bd, df, fun y hy e => ?_, fun y hy => of_decide_eq_true (List.all_eq_true.mp h4 y hy), by rw [hN]; exact of_decide_eq_true h5, own⟩
  have z := List.all_eq_true.mp h3 y hy
  rw [hs]
  simp only [Bool.or_eq_true, Bool.not_eq_true', decide_eq_true_eq, decide_eq_false_iff_not] at z
  rcases z with (z | z) | z
  · exact absurd e z
  · exact .inl z
  · exact .inr z
/-- the code objects of the defs that make lambdas, with their tables -/
def csOf (K : Frg) : List (Addr × Addr) := (lamNames.filter fun x => isFnB (K.lookup (He.ga K x))).map fun x => (cdAt K (He.ga K x), tabN K x)
/-- all tables that are asked for, whichever defs there are -/
def tfAll : List (Frg → Addr) := lamNames.map fun x K => if isFnB (K.lookup (He.ga K x)) then He.ga K x else He.ga K "law"
theorem cs_tf {K : Frg} {p : Addr × Addr} (h : p ∈ csOf K) : ∃ f ∈ tfAll, p = (cdAt K (f K), He.tabOf K (cdAt K (f K))) := by
  obtain ⟨x, hx, rfl⟩ := List.mem_map.mp h
  obtain ⟨h1, h2⟩ := List.mem_filter.mp hx
  refine ⟨_, List.mem_map.mpr ⟨x, h1, rfl⟩, ?_⟩
  show _ = (cdAt K (if _ then _ else _), He.tabOf K (cdAt K (if _ then _ else _)))
  rw [if_pos h2]
  rfl
theorem cs_says {q : Ask} {w : World} {h : Heap} {K : Frg} (X : K.In h) (c : Says q w h K) (e : q.tf = tfAll) : (∀ p ∈ csOf K, h.get? p.2 = some { cls := .none, data := .fields #[] }) ∧ (∀ p ∈ csOf K, K.lookup p.2 = none) ∧ ∀ p ∈ csOf K, PySem.W.CodeHd h p.1 p.2 := by
  refine ⟨fun p hp => ?_, fun p hp => ?_, fun p hp => ?_⟩ <;> obtain ⟨f, hf, rfl⟩ := cs_tf hp
  · exact c.empty f (e ▸ hf)
  · exact c.out f (e ▸ hf)
  · exact PySem.W.codeHd_of_K X (c.hd f (e ▸ hf))
theorem cs_tabs {K : Frg} {H : Hp} (h : ∀ p ∈ csOf K, H p.2 = some (.tbl #[])) : ∀ p ∈ tabsOf K, H p.1 = some (.tbl #[]) := fun p hp => by
  obtain ⟨x, hx, rfl⟩ := List.mem_map.mp hp
  exact h _ (List.mem_map.mpr ⟨x, hx, rfl⟩)
def bLamG (x : Str) : Frg → Bool := fun K => bGlo "__builtins__" K && bLam x K
theorem lamG_of {K : Frg} {h : Heap} {mg : Str → Option Value} (X : K.In h) (G : h.Ns mainGlobals mg) {x : Str} (c : bLamG x K = true) : LamF K mg x := by
  obtain ⟨h1, h2⟩ := He.ba c
  exact lamF_of (glo_of X G h1) h2
section
variable {P : Program} {w : World} {K : Frg} {mg : Str → Option Value} {base : Heap}
theorem y_fnV {x qual : Str} {st : Stmt} {f : Addr} {N ps : List Str} {k : Nat} {R : RdF} {ms : List Addr} {Fm : Hp} (F : DefAt K x qual st f) (S : FnScope N ps (defScope st)) (len : ∀ ds Q E, R ds Q E → ds.length = ps.length)
    (hb : ∀ (kV doc pm : Value) (an : Option Addr) (cdv ct : Value) (us : List Value), us.length = ps.length → bindArgs (PySem.W.fnOf x qual (defArgs st) (defBody st) (defScope st) .none kV doc pm an cdv ct) ⟨us, []⟩ = pure (ps.zip us))
    (hbody : ∀ (cdv : Value) (A : Around) (outer : List Env) (s : Shared) (H : Hp) (E : XK) (B : Bs), B.ms = ms → Same Fm B.F0 → Same B.F0 B.H0 → RoomG k (A.deeper (envOfC qual (defScope st) s.heap.objs.size f cdv)) → Px (cxOf (L2.CX P w) P w K mg base N qual (defScope st) f cdv A outer s H E) B →
      PassesOwn (model P w) (cxOf (L2.CX P w) P w K mg base N qual (defScope st) f cdv A outer s H E).A (cxOf (L2.CX P w) P w K mg base N qual (defScope st) f cdv A outer s H E).env (cxOf (L2.CX P w) P w K mg base N qual (defScope st) f cdv A outer s H E).xe →
      Tk (cxOf (L2.CX P w) P w K mg base N qual (defScope st) f cdv A outer s H E) B →
      ∃ r, PSsp (cxOf (L2.CX P w) P w K mg base N qual (defScope st) f cdv A outer s H E) B (defBody st) r ∧ ∀ ds Q, R ds Q B.Ed → r (startE N.length ds) { nx := fun _ => Q .non, rt := Q }) : FnG P w K mg base (L2.CX P w) (k + 1) f (spX K ms Fm R) := by
  refine zfnG F S (fun vs H Q E ⟨F, ds, Qd, Ed, _, _, r, h, _⟩ => by rw [r.len]; exact len _ _ _ h) hb fun cdv A outer s H vs Q E hr h => ?_
  obtain ⟨F, ds, Qd, Ed, sm, t, r, h, kq, ke⟩ := h
  obtain ⟨rr, h1, h2⟩ := hbody cdv A outer s H E ⟨ms, F, H, Ed⟩ rfl sm t.1 hr (px_of fun cls d H' ⟨F', x, g, t', xr, z⟩ => ke cls d F' H' x g t' xr z) po_of (tk_of fun cls d H' ⟨F', x, g, t', xr, z⟩ => ke cls d F' H' x g t' xr z)
  refine ⟨_, h1, F, _, _, iv_start (B := ⟨ms, F, H, Ed⟩) t r, h2 ds Qd h, ?_, ?_, ?_, ?_⟩
  · intro σ' ρ' F' H' _ I' z
    exact kq .non F' H' .non I'.go I'.tp .non z
  · intro v d F' H' g t' r' z
    exact kq v F' H' d g t' r' z
  · intro _ _ _ _ _ _ z; exact z
  · intro _ _ _ _ _ _ z; exact z
/-- a def that makes lambdas -/
theorem y_fnC {x qual : Str} {st : Stmt} {f : Addr} {N ps : List Str} {k : Nat} {R : RdF} (F : DefAt K x qual st f) (S : FnScope N ps (defScope st)) (len : ∀ ds Q E, R ds Q E → ds.length = ps.length)
    (hb : ∀ (kV doc pm : Value) (an : Option Addr) (cdv ct : Value) (us : List Value), us.length = ps.length → bindArgs (PySem.W.fnOf x qual (defArgs st) (defBody st) (defScope st) .none kV doc pm an cdv ct) ⟨us, []⟩ = pure (ps.zip us))
    (hbody : ∀ (cdv : Value), cdv = .ref (cdAt K f) → ∀ (A : Around) (outer : List Env) (s : Shared) (H : Hp) (E : XK) (B : Bs), Same B.F0 B.H0 → RoomG k (A.deeper (envOfC qual (defScope st) s.heap.objs.size f cdv)) → Px (cxOf (L2.CX P w) P w K mg base N qual (defScope st) f cdv A outer s H E) B →
      PassesOwn (model P w) (cxOf (L2.CX P w) P w K mg base N qual (defScope st) f cdv A outer s H E).A (cxOf (L2.CX P w) P w K mg base N qual (defScope st) f cdv A outer s H E).env (cxOf (L2.CX P w) P w K mg base N qual (defScope st) f cdv A outer s H E).xe →
      Tk (cxOf (L2.CX P w) P w K mg base N qual (defScope st) f cdv A outer s H E) B →
      ∃ r, PSsp (cxOf (L2.CX P w) P w K mg base N qual (defScope st) f cdv A outer s H E) B (defBody st) r ∧ ∀ ds Q, R ds Q B.Ed → r (startE N.length ds) { nx := fun _ => Q .non, rt := Q }) : FnG P w K mg base (L2.CX P w) (k + 1) f (spP K R) := by
  refine zfnGC F S (fun vs H Q E ⟨ms, F, ds, Qd, Ed, _, r, h, _⟩ => by rw [r.len]; exact len _ _ _ h) hb fun cdv ecd A outer s H vs Q E hr h => ?_
  obtain ⟨ms, F, ds, Qd, Ed, t, r, h, kq, ke⟩ := h
  obtain ⟨rr, h1, h2⟩ := hbody cdv ecd A outer s H E ⟨ms, F, H, Ed⟩ t.1 hr (px_of fun cls d H' ⟨F', x, g, t', xr, z⟩ => ke cls d F' H' x g t' xr z) po_of (tk_of fun cls d H' ⟨F', x, g, t', xr, z⟩ => ke cls d F' H' x g t' xr z)
  refine ⟨_, h1, F, _, _, iv_start (B := ⟨ms, F, H, Ed⟩) t r, h2 ds Qd h, ?_, ?_, ?_, ?_⟩
  · intro σ' ρ' F' H' _ I' z
    exact kq .non F' H' .non I'.go I'.tp .non z
  · intro v d F' H' g t' r' z
    exact kq v F' H' d g t' r' z
  · intro _ _ _ _ _ _ z; exact z
  · intro _ _ _ _ _ _ z; exact z
end
end Y
namespace Y
open PySem PySem.Spec PyProof.Rows L2 Z
/-! ### shown texts are texts of real signs -/
def okU (s : Str) : Prop := ∀ c ∈ s.cps.toList, c < 0x110000
theorem okU_iff {s : Str} : okU s ↔ PyData.strOk s = true := by
  unfold okU PyData.strOk
  rw [Array.all_eq_true']
  simp [Array.mem_toList_iff]
theorem okU_app {a b : Str} (h : okU a) (h' : okU b) : okU (a ++ b) := by
  intro c hc
  have e : (a ++ b).cps.toList = a.cps.toList ++ b.cps.toList := by
    show (a.cps ++ b.cps).toList = _
    simp
  rw [e] at hc
  rcases List.mem_append.mp hc with z | z
  · exact h c z
  · exact h' c z
theorem chr_lt (c : Char) : c.toNat < 0x110000 := by
  rcases c.valid with h | h
  · exact Nat.lt_trans h (by decide)
  · exact h.2
theorem okU_lit (x : String) : okU (Str.ofString x) := by
  intro c hc
  have e : (Str.ofString x).cps.toList = x.toList.map Char.toNat := by
    rw [Str.ofString_eq_toList]
  rw [e] at hc
  obtain ⟨a, _, rfl⟩ := List.mem_map.mp hc
  exact chr_lt a
theorem okU_from : ∀ (ts : List Str) (k : Nat) (acc : Str), okU acc → (∀ t ∈ ts, okU t) → okU (PySem.textFrom k acc ts)
  | [], _, _, h, _ => h
  | t :: ts, k, acc, h, ht => okU_from ts (k + 1) _ (okU_app (okU_app h (okU_lit _)) (ht t List.mem_cons_self)) fun u hu => ht u (List.mem_cons_of_mem _ hu)
theorem okU_join {sep : Str} (hs : okU sep) : ∀ (ts : List Str), (∀ t ∈ ts, okU t) → okU (Str.join sep ts)
  | [], _ => fun c hc => by
    have e : (Str.join sep []).cps.toList = [] := rfl
    rw [e] at hc
    cases hc
  | [x], h => h x List.mem_cons_self
  | x :: y :: r, h => okU_app (okU_app (h x List.mem_cons_self) hs) (okU_join hs (y :: r) fun t ht => h t (List.mem_cons_of_mem _ ht))
theorem okU_char {q c : Nat} (hq : q < 0x110000) (hc : c < 0x110000) : ∀ d ∈ PySem.Builtin.Str.reprChar q c, d < 0x110000 := by
  have hex : ∀ (w : Nat) (d : Nat), d ∈ List.replicate (w - ((Nat.toDigits 16 c).map Char.toNat).length) 48 ++ (Nat.toDigits 16 c).map Char.toNat → d < 0x110000 := fun w d h => by
    rcases List.mem_append.mp h with z | z
    · rw [(List.mem_replicate.mp z).2]; decide
    · obtain ⟨a, _, rfl⟩ := List.mem_map.mp z
      exact chr_lt a
  intro d hd
  unfold PySem.Builtin.Str.reprChar at hd
  dsimp only at hd
  repeat' split at hd
  all_goals first
    | (simp only [List.mem_cons, List.not_mem_nil, or_false] at hd; omega)
    | (rcases List.mem_append.mp hd with z | z
       · simp only [List.mem_cons, List.not_mem_nil, or_false] at z; omega
       · exact hex _ d z)
theorem okU_fold {q : Nat} (hq : q < 0x110000) : ∀ (l : List Nat) (acc : Array Nat), (∀ c ∈ l, c < 0x110000) → (∀ c ∈ acc.toList, c < 0x110000) → ∀ c ∈ (l.foldl (fun out c => out ++ (PySem.Builtin.Str.reprChar q c).toArray) acc).toList, c < 0x110000
  | [], _, _, h => h
  | c :: r, acc, hl, h => okU_fold hq r _ (fun d hd => hl d (List.mem_cons_of_mem _ hd)) fun d hd => by
    rw [Array.toList_append] at hd
    rcases List.mem_append.mp hd with z | z
    · exact h d z
    · exact okU_char hq (hl c List.mem_cons_self) d (by simpa using z)
theorem okU_repr {x : Str} (h : okU x) : okU (PySem.reprText x) := by
  have hq : PySem.reprQuote x < 0x110000 := by
    unfold PySem.reprQuote
    split <;> decide
  intro c hc
  unfold PySem.reprText at hc
  rw [show ((⟨(x.cps.foldl (fun out c => out ++ (PySem.Builtin.Str.reprChar (PySem.reprQuote x) c).toArray) #[PySem.reprQuote x]).push (PySem.reprQuote x)⟩ : Str)).cps.toList = _ ++ _ from Array.toList_push] at hc
  rcases List.mem_append.mp hc with z | z
  · rw [← Array.foldl_toList] at z
    exact okU_fold hq _ _ h (fun d hd => by
      have : d = PySem.reprQuote x := by simpa using hd
      rw [this]; exact hq) c z
  · have : c = PySem.reprQuote x := by simpa using z
    rw [this]; exact hq
theorem okU_shown : ∀ (n : Nat) (d : D), okD n d = true → okU (toP d).shown := by
  have key : ∀ (n : Nat), (∀ d, okD n d = true → okU (toP d).shown) → ∀ ds : List D, ds.all (okD n) = true → ∀ t ∈ PyData.shownAll (toPs ds), okU t := by
    intro n ih ds
    induction ds with
    | nil => intro _ t ht; cases ht
    | cons d ds ih2 =>
      intro h t ht
      rw [List.all_cons, Bool.and_eq_true] at h
      rcases List.mem_cons.mp (show t ∈ (toP d).shown :: PyData.shownAll (toPs ds) from ht) with e | e
      · rw [e]; exact ih d h.1
      · exact ih2 h.2 t e
  have base : ∀ (n : Nat) (d : D), (∀ ds, d ≠ .lst ds) → (∀ ds, d ≠ .tup ds) → okD n d = true → okU (toP d).shown := by
    intro n d h1 h2 h
    cases d with
    | non => exact okU_lit _
    | bl b => cases b <;> exact okU_lit _
    | int i => exact okU_lit _
    | str s => exact okU_repr (okU_iff.mpr (by cases n <;> exact h))
    | lst ds => exact absurd rfl (h1 ds)
    | tup ds => exact absurd rfl (h2 ds)
    | _ => cases n <;> cases h
  intro n
  induction n with
  | zero =>
    intro d h
    cases d with
    | lst ds => cases h
    | tup ds => cases h
    | _ => exact base 0 _ (fun _ z => nomatch z) (fun _ z => nomatch z) h
  | succ n ih =>
    intro d h
    cases d with
    | lst ds => exact okU_app (okU_from _ 0 _ (okU_lit _) (key n ih ds h)) (okU_lit _)
    | tup ds =>
      refine okU_app (okU_app (okU_lit _) (okU_join (okU_lit _) _ (key n ih ds h))) ?_
      exact okU_lit _
    | _ => exact base (n + 1) _ (fun _ z => nomatch z) (fun _ z => nomatch z) h
/-- .. as data that may be compared -/
theorem okD_sh {n k : Nat} {d : D} (h : okD k d = true) : okD n (.str (shD d)) = true := by
  have := okU_iff.mp (okU_shown k d h)
  cases n <;> exact this
theorem okD_shE {n : Nat} : okD n (.str (shD (.dic [] []))) = true := by
  have : PyData.strOk (shD (.dic [] [])) = true := by decide +kernel
  cases n <;> exact this
/-! ### s.upper() -/
/-! ### weaker promises -/
section
variable {P : Program} {w : World} {K : Frg} {mg : Str → Option Value} {base : Heap} {k : Nat} {f : Addr} {R R' : RdF} {C : Str}
end
/-! ### small data, by a check -/
mutual
def shb : D → Bool
  | .non | .bl _ => true
  | .int i => decide (i.natAbs < 18446744073709551616)
  | .str s => PyData.strOk s
  | .lst ds => shbs ds
  | .tup ds => shbs ds
  | _ => false
def shbs : List D → Bool
  | [] => true
  | d :: ds => shb d && shbs ds
end
mutual
theorem shb_ok : ∀ d : D, shb d = true → shP 0 d
  | .non, _ => trivial
  | .bl _, _ => trivial
  | .int i, h => by
    have h := of_decide_eq_true (show decide (i.natAbs < 18446744073709551616) = true from h)
    show i.natAbs < 2 ^ 1900
    exact Nat.lt_of_lt_of_le h (Nat.le_trans (show (18446744073709551616 : Nat) ≤ 2 ^ 64 by decide) (Nat.pow_le_pow_right (by decide) (by decide)))
  | .str s, h => fun c hc => Nat.lt_trans (okU_iff.mpr h c hc) (by decide)
  | .lst ds, h => shbs_ok ds h
  | .tup ds, h => shbs_ok ds h
  | .obj _ _ _, h => nomatch h
  | .ty _, h => nomatch h
  | .glob _, h => nomatch h
  | .tape, h => nomatch h
  | .fn _, h => nomatch h
  | .dic _ _, h => nomatch h
  | .dpl _ _, h => nomatch h
theorem shbs_ok : ∀ ds : List D, shbs ds = true → shPs 0 ds
  | [], _ => trivial
  | d :: ds, h => by
    obtain ⟨h1, h2⟩ := He.ba (show (shb d && shbs ds) = true from h)
    exact ⟨shb_ok d h1, shbs_ok ds h2⟩
end
/-- what may be shown -/
def shB (d : D) : Prop := shT 0 d ∧ (toP d).bulk ≤ 8000 ∧ (toP d).depth ≤ 40
def knB : D → Bool
  | .obj _ _ _ | .ty _ | .glob _ | .tape | .fn _ | .dpl _ _ => false
  | _ => true
def isE : D → Bool
  | .dic [] [] => true
  | _ => false
def smD (d : D) : Bool := (isE d || (shb d && okD 8 d)) && (decide ((toP d).bulk ≤ 8000) && (decide ((toP d).depth ≤ 40) && knB d))
theorem isE_eq {d : D} (h : isE d = true) : d = .dic [] [] := by
  unfold isE at h
  split at h
  · rfl
  · cases h
theorem smD_sh {d : D} (h : smD d = true) : shB d := by
  obtain ⟨h1, h⟩ := He.ba h
  obtain ⟨h2, h⟩ := He.ba h
  obtain ⟨h3, _⟩ := He.ba h
  refine ⟨?_, of_decide_eq_true h2, of_decide_eq_true h3⟩
  rcases Bool.or_eq_true_iff.mp h1 with z | z
  · rw [isE_eq z]; exact ⟨rfl, rfl⟩
  · exact shT.of (shb_ok d (He.ba z).1)
theorem smD_ok {d : D} (h : smD d = true) : okD 8 (.str (shD d)) = true := by
  obtain ⟨h1, h⟩ := He.ba h
  rcases Bool.or_eq_true_iff.mp h1 with z | z
  · rw [isE_eq z]; exact okD_shE
  · exact okD_sh (He.ba z).2
theorem smD_kn {d : D} (h : smD d = true) : knB d = true := (He.ba (He.ba (He.ba h).2).2).2
theorem all_at {α : Type} {p : α → Bool} {l : List α} {i : Nat} {d : α} (h : l.all p = true) (e : l[i]? = some d) : p d = true := List.all_eq_true.mp h d (List.mem_of_getElem? e)
end Y
namespace Y
open PySem PySem.Spec PyProof.Rows L2 Z
abbrev exV (c : Str) (d : D) : Ex := ⟨.glob c, ["value"], [d]⟩
abbrev exL (n : Int) : Ex := ⟨.glob "LimitExceeded", ["limit"], [.int n]⟩
/-! ### s * n -/
def repS (s : Str) (n : Nat) : Str := ⟨(List.replicate n s.cps.toList).flatten.toArray⟩
def rRepS : R2 := fun x y H Q => ∃ s k, x = .str s ∧ y = .int k ∧ 2 ≤ k ∧ k ≤ 100000 ∧ s.length ≠ 0 ∧ s.length * k.toNat ≤ 100000 ∧ Q (.str (repS s k.toNat)) H
theorem rep_fold (l : Array Nat) : ∀ (n : Nat) (acc : Array Nat), (List.replicate n l).foldl (· ++ ·) acc = (acc.toList ++ (List.replicate n l.toList).flatten).toArray
  | 0, acc => by simp
  | n + 1, acc => by
    rw [List.replicate_succ, List.foldl_cons, rep_fold l n, List.replicate_succ, List.flatten_cons, Array.toList_append, List.append_assoc]
theorem op_repS {X : Cx} : OpR X (binaryOp .Mult) rRepS := by
  intro pins s σ H x y v u Q I rx ry h
  obtain ⟨a, k, rfl, rfl, h1, h2, h3, h4, q⟩ := h
  obtain ⟨t, rfl⟩ := rx
  obtain ⟨t', rfl⟩ := ry
  have hk : ¬ k < 1 := by omega
  have hne : (k == 1 || a.length == 0) = false := by
    have e1 : (k == 1) = false := by simpa using (show k ≠ 1 by omega)
    have e2 : (a.length == 0) = false := by simpa using h3
    rw [e1, e2]
    rfl
  have hlen : a.length ≤ 100000 := by
    have : a.length * 1 ≤ a.length * k.toNat := Nat.mul_le_mul_left _ (by omega)
    omega
  refine PySem.P.mul_str ?_ (fun _ _ z => ?_) (fun _ _ => ?_) ?_
  · have e1 : ¬ k < -(2 ^ 63 : Int) := by omega
    have e2 : ¬ k ≥ 2 ^ 63 := by omega
    rw [decide_eq_false e1, decide_eq_false e2]
    rfl
  · have e : (a.length : Int) ≤ (2 ^ 63 - 1) / k := (Int.le_ediv_iff_mul_le (by omega)).mpr (by
      have e4 : (a.length : Int) * k ≤ 100000 * 100000 := Int.mul_le_mul (by omega) h2 (by omega) (by decide)
      have e5 : (100000 : Int) * 100000 ≤ 2 ^ 63 - 1 := by decide
      omega)
    omega
  · unfold PySem.Builtin.Str.tooLong
    refine decide_eq_false ?_
    have : 100000 ≤ sizeLine := by decide
    omega
  · rw [if_neg hk, hne]
    simp only [Bool.false_eq_true, if_false]
    rw [rep_fold]
    have e0 : ((#[] : Array Nat).toList ++ (List.replicate k.toNat a.cps.toList).flatten) = (List.replicate k.toNat a.cps.toList).flatten := by simp
    rw [e0]
    refine ⟨?_, .str (repS a k.toNat), H, I.tok _, ⟨_, rfl⟩, q⟩
    show ((List.replicate k.toNat a.cps.toList).flatten.toArray).size ≤ sizeLine
    have e1 : a.cps.toList.length = a.length := by simp [Str.length]
    rw [List.size_toArray, List.length_flatten, List.map_replicate, List.sum_replicate_nat, e1]
    have : 100000 ≤ sizeLine := by decide
    rw [Nat.mul_comm] at h4
    omega
def dMulS (x y : D) (Q : D → Prop) : Prop := match x, y with
  | .str s, .int n => (2 ≤ n ∧ n ≤ 100000 ∧ s.length ≠ 0 ∧ s.length * n.toNat ≤ 100000) ∧ Q (.str (repS s n.toNat))
  | _, _ => False
theorem repSL {K : Frg} {ms : List Addr} : OpL K ms rRepS dMulS := by
  intro F H x y dx dy Qd Q hs rx ry h k
  unfold dMulS at h
  split at h
  · cases rx; cases ry
    obtain ⟨⟨h1, h2, h3, h4⟩, h⟩ := h
    exact ⟨_, _, rfl, rfl, h1, h2, h3, h4, k _ F H _ (Go.refl hs) (.str _) h⟩
  · exact h.elim
/-! ### C.m(..), a class method -/
section
variable {X : Cx} {B : Bs} {e : Expr} {es : List Expr} {rl : RdA} {pos apos : Pos} {R : RdF} {k : Nat} {g p : Addr} {m : Str}
theorem y_cmeth {C : Str} {pl : Sem Bool} {cp : Pos} (hg : Gl X C) (hm : X.mg C = some (.ref (He.ga X.K C))) (rd : ClX.CRead X.K (He.ga X.K C) (.type "type")) (k0 : ClX.CMet X.K (He.ga X.K C) (.type "type") m p g) (F : FnG X.prog X.w X.K X.mg X.base (L2.CX X.prog X.w) k g (spP X.K R)) (hr : RoomG k X.A) (hx : Px X B) (ha : PAp X B (e :: es) rl)
    (hdb : (C == ("__debug__" : Str)) = false := by decide) (hst : starEach (e :: es) X.env = (false, eval e X.env) :: starEach es X.env := by rfl) (hpl : (backTo pos (starEach es X.env)).any (·.1) = false := by rfl)
    (ht : eval (.Call (.Attribute (.Name C cp) m apos) (e :: es) [] pos) X.env = (do
      let ov ← eval (.Name C cp) X.env
      standAt apos.atName
      let (f, first) ← holding [ov] (getMethod ov m pl)
      callWith pos f first (backTo pos (starEach (e :: es) X.env)) (backToKw pos (keywordEach [] X.env))) := by rfl) :
    PEp X B (.Call (.Attribute (.Name C cp) m apos) (e :: es) [] pos) (fun ρ Q => rl ρ fun ds => R (.glob C :: ds) Q B.Ed) := by
  refine ⟨fun pins s σ H Q I ⟨F0, ρ, Qd, J, z, kk⟩ => ?_⟩
  refine PySem.W.methodCall_KW (pl := pl) (ld_glob I hg hm ?_ hdb) ht
  refine ClX.getmethcm_ok I rd k0 fun s1 I1 => ?_
  refine ClX.callwith_cm I1 (ClX.base_none I (Nat.le_refl _)) k0.fi (thn (ha.run pos _ s1 σ H (fun vs H1 => ∃ F1 ds, Go B.ms F0 H F1 H1 ∧ Tp X.K B.ms F1 H1 ∧ Rps X.K B.ms F1 vs ds ∧ R (.glob C :: ds) Qd B.Ed) I1 ⟨F0, ρ, _, J, z, fun vs F1 H1 ds g1 t1 r1 z1 => ⟨F1, ds, g1, t1, r1, z1⟩⟩) fun us s2 ⟨vs, H1, I2, rv, F1, ds, g1, t1, r1, z1⟩ => ⟨⟨ClX.pin_at I2, I2.kIn⟩, ?_⟩) hst hpl
  exact run_cmA (F.at hr) hx I2 rv (sp_call (vs := .ref _ :: vs) J kk g1 t1 (.cons (.glob C) r1) z1)
end
/-! ### defs with a last parameter by name alone that make lambdas -/
section
variable {P : Program} {w : World} {K : Frg} {mg : Str → Option Value} {base : Heap}
end
end Y
namespace Y
open PySem PySem.Spec PyProof.Rows L2 Z
/-! ### rows that are never reached -/
/-! ### a last parameter by name alone, whose default is an object -/
section
variable {P : Program} {w : World} {K : Frg} {mg : Str → Option Value} {base : Heap}
end
end Y
namespace Y
open PySem PySem.Spec PyProof.Rows L2 Z
/-! ### own lists that are handed out -/
section
variable {K : Frg} {B : Bs} {F H F' H' : Hp} {σ : L2.St} {ρ : Ev}
end
section
variable {X : Cx} {B : Bs} {b e : Expr} {es : List Expr} {rb r : Rd} {rl : RdA} {pos p0 : Pos} {R : RdF} {k : Nat} {f : Addr} {x : Str} {st : Stmt} {rest : List Stmt} {s1 s2 : RdS}
end
section
variable {P : Program} {w : World} {K : Frg} {mg : Str → Option Value} {base : Heap}
end
/-! ### an own list in a comparison -/
section
variable {X : Cx} {B : Bs} {b : Expr} {rb : Rd} {pos : Pos} {x : Str}
end
end Y
namespace Y
open PySem PySem.Spec PyProof.Rows L2 Z
/-! ### a comprehension whose list stays its maker's own -/
section
variable {X : Cx} {B : Bs} {a b c e o : Expr} {es : List Expr} {ra rb rc r ro : Rd} {rt ru : RdT} {rl : RdA} {pos p0 apos : Pos} {R : RdF} {k : Nat} {f C g p : Addr} {x m : Str}
end
/-! ### max and min of a list of ints -/
section
variable {K : Frg} {ms : List Addr}
end
/-! ### count of a list of texts -/
section
variable {X : Cx} {B : Bs} {o e : Expr} {ro r : Rd} {pos apos cpos : Pos}
end
end Y
namespace Y
open PySem PySem.Spec PyProof.Rows L2 Z
section
variable {X : Cx} {B : Bs} {b : Expr} {rb : Rd} {pos : Pos} {x : Str}
end
end Y
namespace Y
open PySem PySem.Spec PyProof.Rows L2 Z
/-! ### an own dict becomes plain data -/
section
variable {K : Frg} {ms : List Addr} {B : Bs} {F H : Hp} {σ : L2.St} {ρ : Ev}
theorem DRl.keys {kvs : List (List Int × D)} {xs : List (List Int × Addr × Value)} (h : DRl K ms F kvs xs) : ∃ vs, DKs K F (kvs.map (·.1)) xs vs ∧ Rps K ms F vs (kvs.map (·.2)) := by
  induction h with
  | nil => exact ⟨[], .nil, .nil⟩
  | cons h1 h2 h3 _ ih =>
    obtain ⟨vs, a, b⟩ := ih
    exact ⟨_ :: vs, .cons h1 h2 a, .cons h3 b⟩
theorem DKs.dr {ks : List (List Int)} {xs : List (List Int × Addr × Value)} {vs : List V} (h : DKs K F ks xs vs) : ∀ {ds : List D}, Rps K ms F vs ds → DRl K ms F (ks.zip ds) xs := by
  induction h with
  | nil => intro ds r; cases r; exact .nil
  | cons h1 h2 _ ih =>
    intro ds r
    cases r with
    | cons r1 r2 => exact .cons h1 h2 r1 (ih r2)
end
section
variable {X : Cx} {B : Bs} {a b c e f o : Expr} {es : List Expr} {ra rb rc r rf ro : Rd} {rt ru : RdT} {rl : RdA} {pos p0 p2 pv apos cpos : Pos} {k i : Nat} {x : Str} {s1 s2 : RdS}
/-! ### tests that change an own thing -/
/-! ### such a dict as plain data -/
end
section
variable {K : Frg} {ms : List Addr}
end
section
variable {X : Cx} {B : Bs} {e f o : Expr} {r rf ro : Rd} {pos apos cpos : Pos} {k : Nat}
end
/-! ### an own list that is lent to a test -/
section
variable {K : Frg} {ms : List Addr} {B : Bs} {F H : Hp} {σ : L2.St} {ρ : Ev}
end
section
variable {X : Cx} {B : Bs} {e : Expr} {r : Rd} {rt : RdT}
end
end Y
namespace Y
open PySem PySem.Spec PyProof.Rows L2 Z
section
variable {X : Cx} {B : Bs} {e : Expr} {r : Rd} {rl : RdA} {pos pv pos' : Pos} {x y : Str} {i j k : Nat} {s1 s2 : RdS}
/-! ### x += e -/
/-! ### expressions and iterables that change an own thing -/
end
/-! ### the keys of a dict, one by one -/
theorem DKs.sq {K : Frg} {F : Hp} {ks : List (List Int)} {xs : List (List Int × Addr × Value)} {vs : List V} (h : DKs K F ks xs vs) : (∀ x ∈ xs, SqT K F x.2.1 (x.1.map V.int)) ∧ ks = xs.map (·.1) := by
  induction h with
  | nil => exact ⟨fun x hx => (nomatch hx), rfl⟩
  | cons h1 _ _ ih =>
    refine ⟨fun x hx => ?_, by rw [List.map_cons, ih.2]⟩
    rcases List.mem_cons.mp hx with rfl | hx
    · exact h1
    · exact ih.1 x hx
section
variable {X : Cx} {B : Bs} {e o : Expr} {r ro : Rd} {rl : RdA} {pos pv pos' p0 : Pos} {x : Str} {i j k : Nat}
/-! ### len(d) -/
end
section
variable {K : Frg} {ms : List Addr}
end
/-! ### displays that make own things -/
section
variable {X : Cx} {B : Bs} {e ek ev e1 e2 e3 e4 : Expr} {es : List Expr} {r rk rv r4 : Rd} {rl : RdA} {pos pv pos' p0 : Pos} {x : Str} {i j k l : Nat}
theorem none_of {F H : Hp} {p : Addr} (s : Same F H) (h : H p = none) : F p = none := by
  cases q : F p with
  | none => rfl
  | some o => rw [s _ _ q] at h; cases h
end
end Y
namespace Y
open PySem PySem.Spec PyProof.Rows L2 Z
section
variable {X : Cx} {B : Bs} {rl : RdA} {pos pv : Pos} {x : Str} {i : Nat}
end
end Y
namespace Y
open PySem PySem.Spec PyProof.Rows L2 Z
section
variable {X : Cx} {B : Bs} {e1 e2 : Expr} {r2 : Rd} {pos p0 : Pos} {i j : Nat}
end
end Y
namespace Y
open PySem PySem.Spec PyProof.Rows L2 Z
/-! ### a place as the index of a told dict -/
section
variable {X : Cx} {B : Bs} {a b : Expr} {ra rb : Rd} {pos : Pos} {k : Nat}
end
end Y
namespace Y
open PySem PySem.Spec PyProof.Rows L2 Z
/-! ### lambdas of one parameter that a comprehension in their text reads -/
abbrev cellO : Obj := { cls := .type "cell", data := .cell none }
section
variable {M : Model} {A : Around} {E : Value → Shared → Prop} {s : Shared}
end
/-- names of a lambda of one parameter, which a comprehension reads -/
structure NScopeP (N : List Str) (p : Str) (fr : List Str) (sc : Scope) : Prop where
  kind : sc.kind = .function
  co : sc.isCoroutine = false
  gen : sc.isGenerator = false
  pre : N.take (1 + fr.length) = p :: fr
  par : sc.names.lookup p = some .cell
  one : ∀ y, sc.names.lookup y = some .cell → y = p
  free : ∀ y ∈ sc.names, y.2 = .free → y.1 ∈ fr
  frk : ∀ x ∈ fr, sc.names.lookup x = some .free
  cf : ∀ n acc, cellsFrom n sc.names acc = (p, n) :: acc
  pc : ∀ h : Heap, pushCells h sc.names = h.push cellO
section
variable {P : Program} {w : World} {K : Frg} {mg : Str → Option Value} {b2 : Heap} {N fr : List Str} {p : Str} {q : Str} {params : Arguments} {scope : Scope} {cl : List (Str × Addr)} {c' f : Addr} {A : Around} {outer : List Env} {s : Shared} {H : Hp} {E : XK} {u : Value} {v0 : V} {ws : List (Option V)}
end
section
variable {P : Program} {w : World} {K : Frg} {mg : Str → Option Value} {b2 : Heap}
end
/-- what a lambda's text tells -/
structure LamTP (X : Cx) (N : List Str) (p : Str) (fr : List Str) (js : List Nat) (q : Str) (params : Arguments) (body : Expr) (scope : Scope) : Prop where
  sc : NScopeP N p fr scope
  bd : ∀ (cl : List (Str × Addr)) (pm cv ctv : Value) (us : List Value), us.length = 1 → bindArgs (PySem.W.kla_fn "<lambda>" q params body scope cl pm cv ctv) ⟨us, []⟩ = pure ([p].zip us)
  df : defaultsOf params X.env = ([], [])
  free : ∀ y ∈ scope.names, y.2 = .free → X.env.scope.names.lookup y.1 = some .cell ∨ X.env.scope.names.lookup y.1 = some .free
  frm : ∀ y ∈ fr, (y, NameKind.free) ∈ scope.names
  ix : js.map (fun j => X.N[j]?) = fr.map some
  own : ∀ y, X.fn y = true
section
variable {X : Cx} {B : Bs} {pins : List (Addr × Obj)} {σ : L2.St} {H F : Hp} {s : Shared} {ρ : Ev}
end
section
variable {X : Cx} {B : Bs} {a e : Expr} {es : List Expr} {ra : Rd} {rl : RdA} {pos p0 lp : Pos} {k kc : Nat} {f fa : Addr} {y x q : Str} {N fr : List Str} {p : Str} {js : List Nat} {params : Arguments} {body : Expr} {scope : Scope} {r : Bs → Rd} {R2 : Addr → RdF → RdF} {ms : List Addr} {Fm : Hp} {R : RdF} {i : Nat}
end
end Y
namespace Y
open PySem PySem.Spec PyProof.Rows L2 Z
/-! ### def x(*pv, kn); def x(.., *, k1, k2); x(kn = c); x(.., k1 = a, k2 = b); x(*e) -/
section
variable {P : Program} {w : World} {K : Frg} {mg : Str → Option Value} {base : Heap}
end
section
variable {X : Cx} {B : Bs} {e e2 e3 : Expr} {es : List Expr} {r r2 r3 : Rd} {rl : RdA} {pos p0 kpos kp1 kp2 sp_ : Pos} {R : RdF} {k : Nat} {f : Addr} {x kn k1 k2 : Str}
end
end Y
namespace Y
open PySem PySem.Spec PyProof.Rows L2 Z
/-! ### an own list that a whole statement reads -/
section
variable {K : Frg} {ms : List Addr} {F H : Hp} {B : Bs}
end
section
variable {X : Cx} {B : Bs} {e : Expr} {r : Rd}
end
end Y
namespace Y
open PySem PySem.Spec PyProof.Rows L2 Z
/-! ### sorted lists of shown data -/
def leD (x y : D) : Bool := PySem.W.dataLe false toP x y
section
variable {K : Frg} {ms : List Addr} {F : Hp}
end
section
variable {X : Cx}
end
/-! ### the keys of a told dict, sorted -/
section
variable {X : Cx}
end
end Y
namespace Y
open PySem PySem.Spec PyProof.Rows L2 Z
/-! ### the keys of a told dict, as a list -/
section
variable {X : Cx}
end
end Y
namespace Y
open PySem PySem.Spec PyProof.Rows L2 Z
end Y
namespace Y
open PySem PySem.Spec PyProof.Rows L2 Z
/-! ### dicts with keys that are numbers or texts -/
def keyK : Key → D
  | .inl i => .int i
  | .inr s => .str s
def dicD (kds : List (Key × D)) : D := .dic (kds.map (·.1)) (kds.map (·.2))
/-- readings of pairs, in order -/
def rPairs : List (Rd × Rd) → Ev → (List (D × D) → Prop) → Prop
  | [], _, Q => Q []
  | (rk, rv) :: r, ρ, Q => rk ρ fun x => rv ρ fun y => rPairs r ρ fun ps => Q ((x, y) :: ps)
section
variable {K : Frg} {ms : List Addr} {F H : Hp}
theorem rp_key {v : V} {k : Key} (r : Rp K ms F v (keyK k)) : v = kV k := by
  cases k <;> cases r <;> rfl
theorem merge_new : ∀ (more kvs : List (Key × V)), ((kvs ++ more).map (·.1)).Nodup → mergeK kvs more = kvs ++ more
  | [], kvs, _ => by rw [List.append_nil]; rfl
  | p :: more, kvs, nd => by
    have e : putK kvs p.1 p.2 = kvs ++ [p] := by
      have np : p.1 ∉ kvs.map (·.1) := fun hm => by
        rw [List.map_append, List.nodup_append] at nd
        exact nd.2.2 _ hm _ (by simp) rfl
      unfold putK
      rw [if_neg fun e => ?_]
      obtain ⟨q, hq, e⟩ := List.any_eq_true.mp e
      exact np (by rw [← of_decide_eq_true e]; exact List.mem_map.mpr ⟨q, hq, rfl⟩)
    show mergeK (putK kvs p.1 p.2) more = _
    rw [e, merge_new more (kvs ++ [p]) (by rw [List.append_assoc]; exact nd), List.append_assoc]
    rfl
end
section
variable {X : Cx} {B : Bs} {pos cpos apos : Pos} {a e o f : Expr} {ra ro r rf : Rd}
/-- the pairs of a display -/
def PDp (X : Cx) (B : Bs) (keys : List (Option Expr)) (values : List Expr) (rs : List (Rd × Rd)) : Prop := ∀ pos, ∃ trs : List (TE × TE), PPs X pos keys values trs ∧ ∀ F ρ σ H (Qd : List (D × D) → Prop) (Q : List (V × V) → Hp → Prop), Iv X.K B F H σ ρ → rPairs rs ρ Qd →
  (∀ ps F' H' ds, Go B.ms F H F' H' → Tp X.K B.ms F' H' → Rps X.K B.ms F' (ps.map (·.1)) (ds.map (·.1)) → Rps X.K B.ms F' (ps.map (·.2)) (ds.map (·.2)) → Qd ds → Q ps H') → tPairs trs σ H Q
theorem pd_nil : PDp X B [] [] [] := fun pos => ⟨[], pps_nil, fun F ρ σ H Qd Q J z k => k [] F H [] (Go.refl J.same) J.tp .nil .nil z⟩
theorem pd_cons {k v : Expr} {ks : List (Option Expr)} {vs : List Expr} {rk rv : Rd} {rs : List (Rd × Rd)} (hk : PEp X B k rk) (hv : PEp X B v rv) (hr : PDp X B ks vs rs) : PDp X B (some k :: ks) (v :: vs) ((rk, rv) :: rs) := fun pos => by
  obtain ⟨trs, h1, h2⟩ := hr pos
  refine ⟨_, pps_cons hk hv h1, fun F ρ σ H Qd Q J z kk => ?_⟩
  refine ⟨F, ρ, _, J, z, fun x F1 H1 d g1 t1 r1 z1 => ?_⟩
  refine ⟨F1, ρ, _, J.step g1 t1, z1, fun y F2 H2 d2 g2 t2 r2 z2 => ?_⟩
  exact h2 F2 ρ σ H2 _ _ ((J.step g1 t1).step g2 t2) z2 fun ps F3 H3 ds g3 t3 r3 r4 z3 => kk ((x, y) :: ps) F3 H3 ((d, d2) :: ds) ((g1.trans g2).trans g3) t3 (.cons (r1.up (g2.trans g3).ff) r3) (.cons (r2.up g3.ff) r4) z3
theorem rps_keys {K : Frg} {ms : List Addr} {F : Hp} : ∀ {kds : List (Key × D)} {vs : List V}, Rps K ms F vs (kds.map fun q => keyK q.1) → vs = kds.map fun q => kV q.1
  | [], vs, r => by
    cases r
    rfl
  | q :: kds, vs, r => by
    cases r with
    | cons h t => rw [rp_key h, rps_keys t]; rfl
theorem zip_pairs : ∀ (kds : List (Key × D)) (ps : List (V × V)), ps.map (·.1) = kds.map (fun q => kV q.1) → ps = ((kds.map (·.1)).zip (ps.map (·.2))).map fun kv => (kV kv.1, kv.2)
  | [], [], _ => rfl
  | [], _ :: _, h => nomatch h
  | _ :: _, [], h => nomatch h
  | q :: kds, p :: ps, h => by
    obtain ⟨h1, h2⟩ := List.cons.inj h
    rw [List.map_cons, List.map_cons, List.zip_cons_cons, List.map_cons, ← zip_pairs kds ps h2]
    show p :: ps = (kV q.1, p.2) :: ps
    rw [← (show p.1 = kV q.1 from h1)]
/-- {k: v, ..} -/
theorem y_disp {keys : List (Option Expr)} {values : List Expr} {rs : List (Rd × Rd)} (h : PDp X B keys values rs) (hall : keys.all (·.isSome) = true := by rfl) (hl : keys.length = values.length := by rfl) (h0 : keys ≠ [] := by simp) (h15 : keys.length ≤ 15 := by decide) :
    PEp X B (.Dict keys values pos) (fun ρ Q => rPairs rs ρ fun ps => ∃ kds : List (Key × D), ps = kds.map (fun q => (keyK q.1, q.2)) ∧ ((kds.map (·.1)).Nodup ∧ kds.length ≤ 15) ∧ Q (dicD kds)) := by
  obtain ⟨trs, h1, h2⟩ := h pos
  refine ⟨fun pins s σ H Q I ⟨F, ρ, Qd, J, z, k⟩ => ?_⟩
  refine thn ((pe_disp h1 hall hl h0 h15).run pins s σ H (fun v H1 => ∃ (p : Addr) (F2 H2 : Hp) (vs : List V) (kds : List (Key × D)), v = .ref p ∧ H p = none ∧ p ∉ B.ms ∧ H1 = upd H2 p (.dK ((kds.map (·.1)).zip vs)) ∧ F2 p = none ∧ Go B.ms F H F2 H1 ∧ Tp X.K B.ms F2 H1 ∧ Rps X.K B.ms F2 vs (kds.map (·.2)) ∧ Qd (dicD kds)) I fun p hp => ?_) fun u s1 ⟨v, H1, I1, rv, p, F2, H2, vs, kds, ev, hp, pm, eH, fp, g, t, r1, q⟩ => ?_
  · have pm : p ∉ B.ms := fun m => J.tp.ne m hp
    obtain ⟨gm, fp, _⟩ := newM (o := HO.dK []) J.same hp rfl
    refine h2 F ρ σ _ _ _ (J.step gm.nil (J.tp.go0 gm)) z fun ps F2 H2 ds g2 t2 r1 r2 ⟨kds, ed, ⟨nd, l15⟩, z2⟩ => ?_
    subst ed
    rw [List.map_map] at r1 r2
    obtain ⟨f2, hp2⟩ := g2.mu p _ pm fp upd_same
    have ek : ps.map (·.1) = kds.map fun q => kV q.1 := rps_keys r1
    have ln : ps.length = kds.length := by
      have := congrArg List.length ek
      simpa using this
    have l2 : (kds.map (·.1)).length = (ps.map (·.2)).length := by simp [ln]
    have ef : ((kds.map (·.1)).zip (ps.map (·.2))).map (·.1) = kds.map (·.1) := by
      rw [List.map_fst_zip (by omega)]
    refine ⟨hp2, (kds.map (·.1)).zip (ps.map (·.2)), ?_, by rw [List.length_zip]; simp; omega, p, F2, H2, ps.map (·.2), kds, rfl, hp, pm, ?_, f2, ?_, ?_, r2, z2⟩
    · exact zip_pairs kds ps ek
    · rw [merge_new _ [] (by rw [List.nil_append, ef]; exact nd)]
      rfl
    · have gg := gm.nil.trans g2
      refine ⟨gg.ff, fun b u e => ?_, fun b u nm e1 e2 => ?_⟩
      · rw [upd_ne (fun z => by rw [z, f2] at e; cases e)]
        exact gg.fh b u e
      · obtain ⟨q1, q2⟩ := gg.mu b u nm e1 e2
        exact ⟨q1, by rw [upd_ne (fun z => by rw [z, hp] at e2; cases e2)]; exact q2⟩
    · exact t2.gox (Z.putM t2.1 f2 rfl).1 pm
  subst ev eH
  obtain ⟨od, I2⟩ := I1.lock upd_same trivial
  rw [upd_upd] at I2
  have sF : ∀ b u, F2 b = some u → b ≠ p := fun b u e z => by rw [z, fp] at e; cases e
  refine ⟨.ref p, _, I2, rv, k _ (upd F2 p (.frz od (.dK ((kds.map (·.1)).zip vs)))) _ (dicD kds) ⟨fun b u e => ?_, fun b u e => ?_, fun b u nm e1 e2 => ?_⟩ ?_ (.dic upd_same (by rw [List.length_map, r1.len, List.length_map]) (r1.up fun b u e => ?_)) q⟩
  · rw [upd_ne (sF b u (g.ff b u e))]
    exact g.ff b u e
  · by_cases z : b = p
    · subst z
      rw [upd_same] at e ⊢
      exact e
    · rw [upd_ne z] at e ⊢
      have := g.fh b u e
      rw [upd_ne z] at this
      exact this
  · have z : b ≠ p := fun z => by rw [z, hp] at e2; cases e2
    obtain ⟨q1, q2⟩ := g.mu b u nm e1 e2
    rw [upd_ne z] at q2
    exact ⟨by rw [upd_ne z]; exact q1, by rw [upd_ne z]; exact q2⟩
  · have gp : Go [p] F2 (upd H2 p (.dK ((kds.map (·.1)).zip vs))) (upd F2 p (.frz od (.dK ((kds.map (·.1)).zip vs)))) (upd H2 p (.frz od (.dK ((kds.map (·.1)).zip vs)))) := by
      refine ⟨fun b u e => ?_, fun b u e => ?_, fun b u nm e1 e2 => ?_⟩
      · rw [upd_ne (sF b u e)]
        exact e
      · by_cases z : b = p
        · subst z
          rw [upd_same] at e ⊢
          exact e
        · rw [upd_ne z] at e ⊢
          have := g.fh b u e
          rw [upd_ne z] at this
          exact this
      · have z : b ≠ p := fun z => nm (by simp [z])
        rw [upd_ne z] at e2
        exact ⟨by rw [upd_ne z]; exact e1, by rw [upd_ne z]; exact e2⟩
    exact t.gox gp pm
  · rw [upd_ne (sF b u e)]
    exact e
/-- the value that a key finds -/
def lookK (kds : List (Key × D)) (k : Key) : Option D := (kds.find? fun q => decide (q.1 = k)).map (·.2)
end
end Y
namespace Y
open PySem PySem.Spec PyProof.Rows L2 Z
/-! ### own dicts whose keys are numbers or texts -/
/-- in its place, or at the end -/
def putP (kds : List (Key × D)) (k : Key) (d : D) : List (Key × D) := if (kds.any fun q => decide (q.1 = k)) = true then kds.map (fun q => if q.1 = k then (q.1, d) else q) else kds ++ [(k, d)]
section
variable {K : Frg} {ms : List Addr} {F : Hp} {kvs : List (Key × V)} {kds : List (Key × D)}
theorem Rkd.any (h : Rkd K ms F kvs kds) (k : Key) : (kvs.any fun q => decide (q.1 = k)) = kds.any fun q => decide (q.1 = k) := by
  induction h with
  | nil => rfl
  | cons _ _ ih => rw [List.any_cons, List.any_cons, ih]
theorem Rkd.app {kvs' : List (Key × V)} {kds' : List (Key × D)} (h : Rkd K ms F kvs kds) (h' : Rkd K ms F kvs' kds') : Rkd K ms F (kvs ++ kvs') (kds ++ kds') := by
  induction h with
  | nil => exact h'
  | cons h1 _ ih => exact .cons h1 ih
theorem Rkd.mapPut {k : Key} {v : V} {d : D} (h : Rkd K ms F kvs kds) (r : Rp K ms F v d) : Rkd K ms F (kvs.map fun q => if q.1 = k then (q.1, v) else q) (kds.map fun q => if q.1 = k then (q.1, d) else q) := by
  induction h with
  | nil => exact .nil
  | @cons j w e _ _ h1 _ ih =>
    rw [List.map_cons, List.map_cons]
    by_cases z : j = k
    · rw [if_pos z, if_pos z]
      exact .cons r ih
    · rw [if_neg z, if_neg z]
      exact .cons h1 ih
theorem Rkd.put {k : Key} {v : V} {d : D} (h : Rkd K ms F kvs kds) (r : Rp K ms F v d) : Rkd K ms F (putK kvs k v) (putP kds k d) := by
  unfold putK putP
  rw [← h.any k]
  by_cases z : (kvs.any fun q => decide (q.1 = k)) = true
  · rw [if_pos z, if_pos z]
    exact h.mapPut r
  · rw [if_neg z, if_neg z]
    exact h.app (.cons r .nil)
theorem Rkd.get (h : Rkd K ms F kvs kds) (k : Key) : (∃ v d, valV kvs k = some v ∧ lookK kds k = some d ∧ Rp K ms F v d) ∨ (valV kvs k = none ∧ lookK kds k = none) := by
  induction h with
  | nil => exact .inr ⟨rfl, rfl⟩
  | @cons j w e kvs kds h1 _ ih =>
    by_cases z : j = k
    · refine .inl ⟨w, e, valV_pos z, ?_, h1⟩
      unfold lookK
      rw [List.find?_cons]
      simp [z]
    · rw [valV_neg (p := (j, w)) z]
      have : lookK ((j, e) :: kds) k = lookK kds k := by
        unfold lookK
        rw [List.find?_cons]
        simp [z]
      rw [this]
      exact ih
theorem Rkd.len (h : Rkd K ms F kvs kds) : kvs.length = kds.length := by
  induction h with
  | nil => rfl
  | cons _ _ ih => rw [List.length_cons, List.length_cons, ih]
theorem Rkd.zip (h : Rkd K ms F kvs kds) : ∃ vs, kvs = (kds.map (·.1)).zip vs ∧ (kds.map (·.1)).length = vs.length ∧ Rps K ms F vs (kds.map (·.2)) := by
  induction h with
  | nil => exact ⟨[], rfl, rfl, .nil⟩
  | @cons j w e kvs kds h1 _ ih =>
    obtain ⟨vs, e1, e2, e3⟩ := ih
    exact ⟨w :: vs, by rw [e1]; rfl, by rw [List.map_cons, List.length_cons, e2]; rfl, .cons h1 e3⟩
end
/-! ### a dict comprehension -/
section
variable {X : Cx} {B : Bs} {e o : Expr} {es : List Expr} {r : Rd} {rt : RdT} {rl : RdA} {pos p0 pv pos' apos cpos : Pos} {R : RdF} {k i : Nat} {f : Addr} {x : Str} {st : Stmt} {rest : List Stmt} {s1 s2 : RdS}
end
end Y
namespace Y
open PySem PySem.Spec PyProof.Rows L2 Z
/-! ### own things that are handed out -/
def moD : Mo → D
  | .lst ds => .lst ds
  | .dk kds => dicD kds
  | .dt _ _ => .non
  | .dct kvs => .dpl (kvs.map (·.1)) (kvs.map (·.2))
  | .ins _ c ns ds => .obj c ns ds
  | .exc _ => .non
section
variable {ms : List Addr} {F H F2 H1 : Hp} {p : Addr} {u : HO}
theorem Rkd.told {K : Frg} {kvs : List (Key × V)} {kds : List (Key × D)} {o : Obj} (h : Rkd K ms F kvs kds) (e : F p = some (.frz o (.dK kvs))) : Rp K ms F (.ref p) (dicD kds) := by
  obtain ⟨vs, e1, e2, e3⟩ := h.zip
  rw [e1] at e
  exact .dic e e2 e3
end
def spM (K : Frg) (R : RdF) : Sp := fun vs H Q E => ∃ ms F ds Qd Ed, Tp K ms F H ∧ Rps K ms F vs ds ∧ R ds Qd Ed ∧ (∀ a F' H' m o, H a = none → F' a = none → H' a = some o → Go ms F H F' H' → Tp K ms F' H' → MoR K ms F' a m o → Qd (moD m) → Q (.ref a) H') ∧
  (∀ cls d F' H' x, Go ms F H F' H' → Tp K ms F' H' → XR K ms F' cls d x → Ed x → E cls d H')
section
variable {X : Cx} {B : Bs} {b e o : Expr} {es : List Expr} {rb r : Rd} {rm : Ev → (Mo → Prop) → Prop} {rl : RdA} {pos p0 pv pos' apos cpos : Pos} {R : RdF} {k i : Nat} {f : Addr} {x : Str} {st : Stmt} {rest : List Stmt} {s1 s2 : RdS}
end
end Y
namespace Y
open PySem PySem.Spec PyProof.Rows L2 Z
/-! ### a def that hands out an own thing -/
section
variable {P : Program} {w : World} {K : Frg} {mg : Str → Option Value} {base : Heap}
end
/-! ### list(d.items()) of an own dict -/
section
variable {X : Cx} {B : Bs} {b e o : Expr} {es : List Expr} {rb r : Rd} {rl : RdA} {pos p0 pv apos cpos : Pos} {R : RdF} {k i : Nat} {f : Addr} {x : Str}
end
/-! ### dict(..) of a list of pairs, told -/
/-! ### repr of a dict -/
def flD : D → Prop
  | .non => True
  | .bl _ => True
  | .int i => Sz 1900 i
  | .str s => ∀ c ∈ s.cps.toList, c < 16 ^ 8
  | _ => False
theorem flD.sh {d : D} {n : Nat} (h : flD d) : shP n d := by cases d <;> first | exact h | exact h.elim
section
variable {X : Cx} {pins : List (Addr × Obj)} {σ : L2.St} {H F : Hp} {s : Shared} {ms : List Addr}
end
/-! ### == of two told dicts that are equal -/
section
variable {X : Cx} {pins : List (Addr × Obj)} {σ : L2.St} {H : Hp} {s : Shared}
end
/-! ### len of a told dict -/
end Y
namespace Y
open PySem PySem.Spec PyProof.Rows L2 Z
/-! ### own dicts whose keys are tuples of numbers and texts -/
def lookZ (kvs : List (List Key × D)) (k : List Key) : Option D := (kvs.find? fun kv => decide (kv.1 = k)).map (·.2)
def putZ (kvs : List (List Key × D)) (k : List Key) (d : D) : List (List Key × D) := if (lookZ kvs k).isSome then kvs.map (fun kv => if kv.1 = k then (kv.1, d) else kv) else kvs ++ [(k, d)]
section
variable {K : Frg} {ms : List Addr} {F : Hp}
theorem DRk.len {kvs : List (List Key × D)} {xs : List (List Key × Addr × Value)} (h : DRk K ms F kvs xs) : kvs.length = xs.length := by
  induction h with
  | nil => rfl
  | cons _ _ _ _ ih => rw [List.length_cons, List.length_cons, ih]
theorem DRk.look {kvs : List (List Key × D)} {xs : List (List Key × Addr × Value)} (h : DRk K ms F kvs xs) (k : List Key) : (lookZ kvs k = none ∧ atKey xs k = none) ∨ ∃ d p v, lookZ kvs k = some d ∧ atKey xs k = some p ∧ RelV v p.2 ∧ Rp K ms F v d := by
  induction h with
  | nil => exact .inl ⟨rfl, rfl⟩
  | @cons k' b u v d kvs xs h1 h2 h3 _ ih =>
    by_cases e : k' = k
    · refine .inr ⟨d, (b, u), v, ?_, ?_, h2, h3⟩
      · unfold lookZ; rw [List.find?_cons_of_pos (by exact decide_eq_true e)]; rfl
      · unfold atKey; rw [List.find?_cons_of_pos (by exact decide_eq_true e)]; rfl
    · have e1 : lookZ ((k', d) :: kvs) k = lookZ kvs k := by unfold lookZ; rw [List.find?_cons_of_neg (by simpa using e)]
      have e2 : atKey ((k', b, u) :: xs) k = atKey xs k := by unfold atKey; rw [List.find?_cons_of_neg (by simpa using e)]
      rw [e1, e2]
      exact ih
theorem DRk.some {kvs : List (List Key × D)} {xs : List (List Key × Addr × Value)} (h : DRk K ms F kvs xs) (k : List Key) : (lookZ kvs k).isSome = (atKey xs k).isSome := by
  rcases h.look k with ⟨e1, e2⟩ | ⟨d, x, v, e1, e2, _⟩
  · rw [e1, e2]; rfl
  · rw [e1, e2]; rfl
theorem DRk.app {kvs kvs' : List (List Key × D)} {xs xs' : List (List Key × Addr × Value)} (h : DRk K ms F kvs xs) (h' : DRk K ms F kvs' xs') : DRk K ms F (kvs ++ kvs') (xs ++ xs') := by
  induction h with
  | nil => exact h'
  | cons a b c _ ih => exact .cons a b c ih
theorem DRk.mapPut {kvs : List (List Key × D)} {xs : List (List Key × Addr × Value)} {k : List Key} {u : Value} {v : V} {d : D} (h : DRk K ms F kvs xs) (hu : RelV v u) (hd : Rp K ms F v d) : DRk K ms F (kvs.map fun kv => if kv.1 = k then (kv.1, d) else kv) (xs.map (putAt k u)) := by
  induction h with
  | nil => exact .nil
  | @cons k' b' u' v' d' kvs xs h1 h2 h3 _ ih =>
    rw [List.map_cons, List.map_cons]
    unfold putAt
    by_cases e : k' = k
    · rw [if_pos e, if_pos e]
      exact .cons h1 hu hd ih
    · rw [if_neg e, if_neg e]
      exact .cons h1 h2 h3 ih
theorem DRk.put {kvs : List (List Key × D)} {xs : List (List Key × Addr × Value)} (h : DRk K ms F kvs xs) {k : List Key} {b : Addr} {u : Value} {v : V} {d : D} (hb : SqT K F b (k.map kV)) (hu : RelV v u) (hd : Rp K ms F v d) : DRk K ms F (putZ kvs k d) (storedH xs k b u) := by
  unfold putZ storedH
  rw [h.some k]
  split
  · exact h.mapPut hu hd
  · exact h.app (.cons hb hu hd .nil)
end
section
variable {X : Cx} {B : Bs} {pins : List (Addr × Obj)} {σ : L2.St} {H F : Hp} {s : Shared}
end
/-! ### the rules -/
section
variable {X : Cx} {B : Bs} {e ev : Expr} {r rv : Rd} {pos p0 pv pos' tpos : Pos} {x : Str} {i k : Nat}
end
section
variable {X : Cx} {B : Bs} {b e f : Expr} {rb r rf : Rd} {pos p0 pv pos' tpos apos cpos p2 : Pos} {x : Str} {i k : Nat}
end
end Y
namespace MN
/-- what a list of shifts spans -/
inductive Sp (S : List (Int × Int)) : Int → Int → Prop
  | zero : Sp S 0 0
  | add {u v x y : Int} (k : Int) : (u, v) ∈ S → Sp S x y → Sp S (x + k * u) (y + k * v)
theorem Sp.cast {S : List (Int × Int)} {x y x' y' : Int} (h : Sp S x y) (e1 : x' = x) (e2 : y' = y) : Sp S x' y' := by rw [e1, e2]; exact h
theorem Sp.gen {S : List (Int × Int)} {u v : Int} (h : (u, v) ∈ S) : Sp S u v := (Sp.add 1 h .zero).cast (by omega) (by omega)
theorem Sp.sum {S : List (Int × Int)} {x y x' y' : Int} (h : Sp S x y) (h' : Sp S x' y') : Sp S (x + x') (y + y') := by
  induction h with
  | zero => exact h'.cast (by omega) (by omega)
  | add k m _ ih => exact (Sp.add k m ih).cast (by omega) (by omega)
theorem Sp.smul {S : List (Int × Int)} {x y : Int} (n : Int) (h : Sp S x y) : Sp S (n * x) (n * y) := by
  induction h with
  | zero => exact Sp.zero.cast (by omega) (by omega)
  | add k m _ ih => exact (Sp.add (n * k) m ih).cast (by grind) (by grind)
theorem Sp.sub {S : List (Int × Int)} {x y x' y' : Int} (h : Sp S x y) (h' : Sp S x' y') : Sp S (x - x') (y - y') := (h.sum (h'.smul (-1))).cast (by omega) (by omega)
theorem Sp.le {S S' : List (Int × Int)} (g : ∀ u v, (u, v) ∈ S → Sp S' u v) {x y : Int} (h : Sp S x y) : Sp S' x y := by
  induction h with
  | zero => exact .zero
  | add k m _ ih => exact ih.sum ((g _ _ m).smul k)
/-- two lists span the same -/
def Eqv (S S' : List (Int × Int)) : Prop := ∀ x y, Sp S x y ↔ Sp S' x y
theorem Eqv.refl (S : List (Int × Int)) : Eqv S S := fun _ _ => Iff.rfl
theorem Eqv.symm {S S' : List (Int × Int)} (h : Eqv S S') : Eqv S' S := fun x y => (h x y).symm
theorem Eqv.trans {S S' S'' : List (Int × Int)} (h : Eqv S S') (h' : Eqv S' S'') : Eqv S S'' := fun x y => (h x y).trans (h' x y)
theorem Eqv.of {S S' : List (Int × Int)} (g : ∀ u v, (u, v) ∈ S → Sp S' u v) (g' : ∀ u v, (u, v) ∈ S' → Sp S u v) : Eqv S S' := fun _ _ => ⟨Sp.le g, Sp.le g'⟩
theorem inN_sp {a b c x y : Int} : InN a b c x y ↔ Sp [(a, 0), (b, c)] x y := by
  constructor
  · rintro ⟨m, k, rfl, rfl⟩
    exact (((Sp.gen (u := a) (v := 0) (by simp)).smul m).sum ((Sp.gen (u := b) (v := c) (by simp)).smul k)).cast (by grind) (by grind)
  · intro h
    induction h with
    | zero => exact inN_zero
    | add k m _ ih =>
      obtain ⟨p, q, rfl, rfl⟩ := ih
      rcases List.mem_cons.mp m with e | m
      · cases e
        exact ⟨p + k, q, by grind, by grind⟩
      rcases List.mem_cons.mp m with e | m
      · cases e
        exact ⟨p, q + k, by grind, by grind⟩
      cases m
/-- numbers of a net -/
def Ok (a b c : Int) : Prop := 1 ≤ c ∧ 0 ≤ b ∧ b < a
theorem net_le {a b c a' b' c' : Int} (h : Ok a b c) (h' : Ok a' b' c') (e : ∀ x y, InN a b c x y → InN a' b' c' x y) : a' ∣ a ∧ c' ∣ c := by
  obtain ⟨h1, h2, h3⟩ := h
  obtain ⟨p1, p2, p3⟩ := h'
  have x1 := e a 0 ⟨1, 0, by omega, by omega⟩
  have x2 := e b c ⟨0, 1, by omega, by omega⟩
  rw [inN_iff (by omega)] at x1 x2
  refine ⟨?_, x2.1⟩
  have := x1.2
  simpa using this
theorem net_eq {a b c a' b' c' : Int} (h : Ok a b c) (h' : Ok a' b' c') (e : ∀ x y, InN a b c x y ↔ InN a' b' c' x y) : a = a' ∧ b = b' ∧ c = c' := by
  have l1 := net_le h h' fun x y => (e x y).mp
  have l2 := net_le h' h fun x y => (e x y).mpr
  have ea : a = a' := Int.dvd_antisymm (by have := h.2; omega) (by have := h'.2; omega) l2.1 l1.1
  have ec : c = c' := Int.dvd_antisymm (by have := h.1; omega) (by have := h'.1; omega) l2.2 l1.2
  subst ea ec
  refine ⟨rfl, ?_, rfl⟩
  have x1 := (e b c).mp ⟨0, 1, by omega, by omega⟩
  have x2 : InN a b' c b' c := ⟨0, 1, by omega, by omega⟩
  have x3 := inN_sub x1 x2
  have := (in_cell (by have := h.2; omega) (by have := h.1; omega) x3 ⟨by have := h.2; have := h'.2; omega, by have := h.2; have := h'.2; omega⟩ ⟨by have := h.1; omega, by have := h.1; omega⟩).1
  omega
/-- the answer about a list of shifts -/
def Form (S : List (Int × Int)) : Option (Int × Int × Int) → Prop
  | none => ∀ a b c, Ok a b c → ¬ (Sp S a 0 ∧ Sp S b c)
  | some (a, b, c) => Ok a b c ∧ ∀ x y, InN a b c x y ↔ Sp S x y
theorem form_uni {S : List (Int × Int)} {r r' : Option (Int × Int × Int)} (h : Form S r) (h' : Form S r') : r = r' := by
  rcases r with _ | ⟨a, b, c⟩ <;> rcases r' with _ | ⟨a', b', c'⟩
  · rfl
  · exact (h _ _ _ h'.1 ⟨(h'.2 _ _).mp ⟨1, 0, by omega, by omega⟩, (h'.2 _ _).mp ⟨0, 1, by omega, by omega⟩⟩).elim
  · exact (h' _ _ _ h.1 ⟨(h.2 _ _).mp ⟨1, 0, by omega, by omega⟩, (h.2 _ _).mp ⟨0, 1, by omega, by omega⟩⟩).elim
  · obtain ⟨rfl, rfl, rfl⟩ := net_eq h.1 h'.1 fun x y => (h.2 x y).trans (h'.2 x y).symm
    rfl
theorem bezN : ∀ (n m : Nat), ∃ s t : Int, ((Nat.gcd n m : Nat) : Int) = s * n + t * m := by
  intro n m
  induction n, m using Nat.gcd.induction with
  | H0 n => exact ⟨0, 1, by simp⟩
  | H1 m n h ih =>
    obtain ⟨s, t, e⟩ := ih
    refine ⟨t - s * (n / m : Nat), s, ?_⟩
    rw [Nat.gcd_rec, e]
    have : (n : Int) = m * (n / m : Nat) + (n % m : Nat) := by exact_mod_cast (Nat.div_add_mod n m).symm
    grind
theorem bez (a x : Int) : ∃ s t : Int, ((Int.gcd a x : Nat) : Int) = s * a + t * x := by
  obtain ⟨s, t, e⟩ := bezN a.natAbs x.natAbs
  have h1 : Int.gcd a x = Nat.gcd a.natAbs x.natAbs := rfl
  rw [h1, e]
  rcases Int.natAbs_eq a with ha | ha <;> rcases Int.natAbs_eq x with hx | hx
  · exact ⟨s, t, by rw [← ha, ← hx]⟩
  · exact ⟨s, -t, by grind⟩
  · exact ⟨-s, t, by grind⟩
  · exact ⟨-s, -t, by grind⟩
end MN
namespace MN
/-! ### Euclid's way with shifts: sizes and spans -/
def wgt (c y : Int) : Nat := c.natAbs + (if c * y < 0 then 2 * y.natAbs else 0)
structure Eu (M Y : Nat) (b c x y : Int) : Prop where
  phi : b.natAbs * y.natAbs + x.natAbs * wgt c y ≤ M
  hb : b.natAbs ≤ M
  hx : x.natAbs ≤ M
  hc : c.natAbs ≤ Y
  hy : y.natAbs ≤ Y
theorem fdiv_facts {c y : Int} (h : y ≠ 0) : (c - c.fdiv y * y).natAbs < y.natAbs ∧ 0 ≤ y * (c - c.fdiv y * y) ∧ (c - c.fdiv y * y).natAbs + (c.fdiv y).natAbs * y.natAbs ≤ wgt c y := by
  have e := Int.fmod_add_mul_fdiv c y
  have er : c - c.fdiv y * y = c.fmod y := by rw [Int.mul_comm]; omega
  rw [er]
  generalize hr : c.fmod y = r at *
  generalize ht : c.fdiv y = t at *
  rcases Int.lt_or_gt_of_ne h with hy | hy
  · have h12 : y < r ∧ r ≤ 0 := by
      rw [← hr, Int.fmod_eq_emod]
      have e1 := Int.emod_nonneg c (show y ≠ 0 by omega)
      have e2 := Int.emod_lt_of_neg c hy
      split
      · rename_i q
        rcases q with q | q
        · omega
        · have := Int.emod_eq_zero_of_dvd q
          omega
      · rename_i q
        have : c % y ≠ 0 := fun z => q (.inr (Int.dvd_of_emod_eq_zero z))
        omega
    obtain ⟨h1, h2⟩ := h12
    have k1 : 0 ≤ y * r := by
      have := Int.mul_nonneg (a := -y) (b := -r) (by omega) (by omega)
      rwa [Int.neg_mul_neg] at this
    refine ⟨by omega, k1, ?_⟩
    unfold wgt
    have nt : t.natAbs * y.natAbs = (t * y).natAbs := (Int.natAbs_mul t y).symm
    rw [nt]
    have ec : t * y = c - r := by rw [Int.mul_comm]; omega
    rw [ec]
    by_cases hcy : c * y < 0
    · rw [if_pos hcy]
      omega
    · rw [if_neg hcy]
      have hc0 : c ≤ 0 := by
        rcases Int.lt_or_le 0 c with z | z
        · exact absurd (Int.mul_neg_of_pos_of_neg z hy) hcy
        · exact z
      have t0 : 0 ≤ t := by
        rcases Int.lt_or_le t 0 with z | z
        · have : y * t ≥ -y := by
            have := Int.mul_le_mul_of_nonneg_left (a := t) (b := -1) (c := -y) (by omega) (by omega)
            simp only [Int.neg_mul, Int.mul_neg, Int.mul_one] at this
            omega
          omega
        · exact z
      have : y * t ≤ 0 := by
        have := Int.mul_nonneg (a := -y) (b := t) (by omega) t0
        rw [Int.neg_mul] at this
        omega
      omega
  · have h1 : r < y := by rw [← hr]; exact Int.fmod_lt_of_pos c hy
    have h2 : 0 ≤ r := by rw [← hr]; exact Int.fmod_nonneg_of_pos c hy
    have k1 : 0 ≤ y * r := Int.mul_nonneg (by omega) h2
    refine ⟨by omega, k1, ?_⟩
    unfold wgt
    have nt : t.natAbs * y.natAbs = (t * y).natAbs := (Int.natAbs_mul t y).symm
    rw [nt]
    have ec : t * y = c - r := by rw [Int.mul_comm]; omega
    rw [ec]
    by_cases hcy : c * y < 0
    · rw [if_pos hcy]
      omega
    · rw [if_neg hcy]
      have hc0 : 0 ≤ c := by
        rcases Int.lt_or_le c 0 with z | z
        · exact absurd (Int.mul_neg_of_neg_of_pos z hy) hcy
        · exact z
      have t0 : 0 ≤ t := by
        rcases Int.lt_or_le t 0 with z | z
        · have : y * t ≤ -y := by
            have := Int.mul_le_mul_of_nonneg_left (a := t) (b := -1) (c := y) (by omega) (by omega)
            omega
          omega
        · exact z
      have : 0 ≤ y * t := Int.mul_nonneg (by omega) t0
      omega
theorem Eu.step {M Y : Nat} {b c x y : Int} (h : Eu M Y b c x y) (hy : y ≠ 0) : Eu M Y x y (b - c.fdiv y * x) (c - c.fdiv y * y) := by
  obtain ⟨f1, f2, f3⟩ := fdiv_facts (c := c) hy
  obtain ⟨p, hb, hx, hc, hyy⟩ := h
  have w' : wgt y (c - c.fdiv y * y) = y.natAbs := by unfold wgt; rw [if_neg (by omega)]; omega
  have ex : (b - c.fdiv y * x).natAbs ≤ b.natAbs + (c.fdiv y).natAbs * x.natAbs := by
    have := Int.natAbs_sub_le b (c.fdiv y * x)
    rw [Int.natAbs_mul] at this
    exact this
  have ph : x.natAbs * (c - c.fdiv y * y).natAbs + (b - c.fdiv y * x).natAbs * y.natAbs ≤ M := by
    have m1 : (b - c.fdiv y * x).natAbs * y.natAbs ≤ (b.natAbs + (c.fdiv y).natAbs * x.natAbs) * y.natAbs := Nat.mul_le_mul_right _ ex
    have m2 : x.natAbs * ((c - c.fdiv y * y).natAbs + (c.fdiv y).natAbs * y.natAbs) ≤ x.natAbs * wgt c y := Nat.mul_le_mul_left _ f3
    have m3 : (b.natAbs + (c.fdiv y).natAbs * x.natAbs) * y.natAbs = b.natAbs * y.natAbs + x.natAbs * ((c.fdiv y).natAbs * y.natAbs) := by
      rw [Nat.add_mul, Nat.mul_comm (c.fdiv y).natAbs x.natAbs, Nat.mul_assoc]
    have m4 : x.natAbs * ((c - c.fdiv y * y).natAbs + (c.fdiv y).natAbs * y.natAbs) = x.natAbs * (c - c.fdiv y * y).natAbs + x.natAbs * ((c.fdiv y).natAbs * y.natAbs) := Nat.mul_add _ _ _
    omega
  have y1 : 1 ≤ y.natAbs := by omega
  refine ⟨by rw [w']; exact ph, hx, ?_, hyy, by omega⟩
  have := Nat.le_mul_of_pos_right (b - c.fdiv y * x).natAbs (show 0 < y.natAbs by omega)
  omega
theorem Eu.start {m n : Nat} {b c x y : Int} (hm : n + 1 ≤ m) (hb : b.natAbs ≤ 2 ^ m) (hc : c.natAbs ≤ 2 ^ n) (hx : x.natAbs ≤ 2 ^ n) (hy : y.natAbs ≤ 2 ^ n) : Eu (2 ^ (m + n + 2)) (2 ^ n) b c x y := by
  have p1 : 2 ^ m ≤ 2 ^ (m + n + 2) := Nat.pow_le_pow_right (by decide) (by omega)
  have p2 : 2 ^ n ≤ 2 ^ (m + n + 2) := Nat.pow_le_pow_right (by decide) (by omega)
  have w : wgt c y ≤ 3 * 2 ^ n := by
    unfold wgt
    split <;> omega
  have q1 : b.natAbs * y.natAbs ≤ 2 ^ (m + n) := by
    rw [Nat.pow_add]
    exact Nat.mul_le_mul hb hy
  have q2 : x.natAbs * wgt c y ≤ 2 ^ n * (3 * 2 ^ n) := Nat.mul_le_mul hx w
  have q3 : 2 ^ n * (3 * 2 ^ n) ≤ 3 * 2 ^ (m + n) := by
    have : 2 ^ n * 2 ^ n ≤ 2 ^ (m + n) := by
      rw [← Nat.pow_add]
      exact Nat.pow_le_pow_right (by decide) (by omega)
    have e : 2 ^ n * (3 * 2 ^ n) = 3 * (2 ^ n * 2 ^ n) := by rw [Nat.mul_left_comm]
    omega
  have q4 : 2 ^ (m + n + 2) = 4 * 2 ^ (m + n) := by rw [Nat.pow_add, Nat.mul_comm]
  exact ⟨by omega, by omega, by omega, hc, hy⟩
/-! ### the answer -/
theorem form_pos {S : List (Int × Int)} {a b c : Int} (e : Eqv S [(a, 0), (b, c)]) (ha : 0 < a) (hc : 0 < c) : Form S (some (a, b % a, c)) := by
  refine ⟨⟨by omega, Int.emod_nonneg b (by omega), Int.emod_lt_of_pos b ha⟩, fun x y => ?_⟩
  rw [e x y, ← inN_sp]
  have hb := Int.emod_add_mul_ediv b a
  constructor
  · rintro ⟨m, k, h1, h2⟩
    exact ⟨m - k * (b / a), k, by grind, h2⟩
  · rintro ⟨m, k, h1, h2⟩
    exact ⟨m + k * (b / a), k, by grind, h2⟩
/-! ### sizes of nets -/
theorem fmod_gcd (x y : Int) : Int.gcd y (x.fmod y) = Int.gcd x y := by
  have e := Int.fmod_add_mul_fdiv x y
  have h := Int.gcd_add_mul_right_right y (x.fmod y) (x.fdiv y)
  rw [show x.fmod y + x.fdiv y * y = x by rw [Int.mul_comm]; exact e] at h
  rw [← h, Int.gcd_comm]
/-! ### nets and lists of shifts -/
end MN
namespace MN
/-- (w, r, u) are the numbers of the net of the common shifts -/
def Meet (a b c p q r W R U : Int) : Prop := Ok W R U ∧ (∀ x y, InN W R U x y ↔ (InN a b c x y ∧ InN p q r x y)) ∧ W ≤ a * p ∧ U ≤ a * (c * r)
theorem gcd_parts {c r : Int} (hc : 0 < c) : ∃ g c' r' m n : Int, g = (Int.gcd c r : Int) ∧ 0 < g ∧ c = g * c' ∧ r = g * r' ∧ m * c' + n * r' = 1 := by
  obtain ⟨m, n, e⟩ := bez c r
  have hg : 0 < (Int.gcd c r : Int) := by
    have : 0 < Int.gcd c r := Int.gcd_pos_of_ne_zero_left _ (by omega)
    omega
  obtain ⟨c', hc'⟩ := Int.gcd_dvd_left c r
  obtain ⟨r', hr'⟩ := Int.gcd_dvd_right c r
  refine ⟨_, c', r', m, n, rfl, hg, hc', hr', ?_⟩
  have e2 : (Int.gcd c r : Int) * (m * c' + n * r') = (Int.gcd c r : Int) * 1 := by
    calc (Int.gcd c r : Int) * (m * c' + n * r') = m * ((Int.gcd c r : Int) * c') + n * ((Int.gcd c r : Int) * r') := by grind
      _ = m * c + n * r := by rw [← hc', ← hr']
      _ = (Int.gcd c r : Int) * 1 := by rw [← e]; omega
  exact Int.eq_of_mul_eq_mul_left (by omega) e2
theorem ml1 {g c' r' k1 k2 y : Int} (h1 : y = k1 * (g * c')) (h2 : y = k2 * (g * r')) : g * (k1 * c') = g * (k2 * r') := by grind
theorem ml2 {b q c' r' j x D m1 m2 a' p' : Int} (h1 : x = m1 * (D * a') + r' * j * b) (h2 : x = m2 * (D * p') + c' * j * q) : j * (b * r' - q * c') = D * (m2 * p' - m1 * a') := by grind
theorem ml3 {G D' j d' z : Int} (h : j * (G * d') = G * D' * z) : G * (j * d') = G * (D' * z) := by grind
theorem ml4 {j u v D' d' z : Int} (h : j * d' = D' * z) (e3 : u * D' + v * d' = 1) : j = D' * (j * u + v * z) := by
  calc j = j * (u * D' + v * d') := by rw [e3]; omega
    _ = j * u * D' + v * (j * d') := by grind
    _ = _ := by rw [h]; grind
theorem ml5 {D' i d' z : Int} (h : D' * i * d' = D' * z) : D' * (i * d') = D' * z := by grind
theorem ml6 {m1 m2 s t a' p' : Int} (e2 : s * a' + t * p' = 1) : m1 + s * (m2 * p' - m1 * a') = p' * (m1 * t + s * m2) := by
  have : m1 * (s * a' + t * p') = m1 := by rw [e2]; omega
  grind
theorem ml7 {a b m1 r' D' i d' s p' t m2 k : Int} (h : a * (m1 + s * (i * d')) = a * (p' * (m1 * t + s * m2))) : m1 * a + r' * (D' * i) * b = (m1 * t + s * m2 + i * k) * (a * p') + i * (D' * (b * r') - a * (d' * s) - k * (a * p')) := by grind
theorem ml8 {r' D' i g c' : Int} : r' * (D' * i) * (g * c') = i * (D' * (c' * r' * g)) := by grind
/-- the numbers that the program finds, in parts -/
structure MP (a b c p q r : Int) (g c' r' m n D a' p' s t G D' d' u v : Int) : Prop where
  hg : 0 < g
  ec : c = g * c'
  er : r = g * r'
  e1 : m * c' + n * r' = 1
  hD : 0 < D
  ea : a = D * a'
  ep : p = D * p'
  e2 : s * a' + t * p' = 1
  hG : 0 < G
  eD : D = G * D'
  ed : b * r' - q * c' = G * d'
  e3 : u * D' + v * d' = 1
theorem meet_of {a b c p q r g c' r' m n D a' p' s t G D' d' u v : Int} (h : Ok a b c) (h' : Ok p q r) (x : MP a b c p q r g c' r' m n D a' p' s t G D' d' u v) (R : Int) (hR : R = (D' * (b * r') - a * (d' * s)) % (a * p')) :
    Meet a b c p q r (a * p') R (D' * (c' * r' * g)) ∧ ∃ β, Form [(a, 0), (b, c), (p, 0), (q, r)] (some (G, β, g)) ∧ a * p' * (D' * (c' * r' * g)) * (G * g) = a * c * (p * r) := by
  obtain ⟨hg, ec, er, e1, hD, ea, ep, e2, hG, eD, ed, e3⟩ := x
  have ha : 0 < a := by have := h.2; omega
  have hp : 0 < p := by have := h'.2; omega
  have hc : 0 < c := by have := h.1; omega
  have hr : 0 < r := by have := h'.1; omega
  have hc' : 0 < c' := by
    rcases Int.lt_or_le 0 c' with z | z
    · exact z
    · have := Int.mul_nonpos_of_nonneg_of_nonpos (Int.le_of_lt hg) z; omega
  have hr' : 0 < r' := by
    rcases Int.lt_or_le 0 r' with z | z
    · exact z
    · have := Int.mul_nonpos_of_nonneg_of_nonpos (Int.le_of_lt hg) z; omega
  have ha' : 0 < a' := by
    rcases Int.lt_or_le 0 a' with z | z
    · exact z
    · have := Int.mul_nonpos_of_nonneg_of_nonpos (Int.le_of_lt hD) z; omega
  have hp' : 0 < p' := by
    rcases Int.lt_or_le 0 p' with z | z
    · exact z
    · have := Int.mul_nonpos_of_nonneg_of_nonpos (Int.le_of_lt hD) z; omega
  have hD' : 0 < D' := by
    rcases Int.lt_or_le 0 D' with z | z
    · exact z
    · have := Int.mul_nonpos_of_nonneg_of_nonpos (Int.le_of_lt hG) z; omega
  have hW : 0 < a * p' := Int.mul_pos ha hp'
  have hU : 0 < D' * (c' * r' * g) := Int.mul_pos hD' (Int.mul_pos (Int.mul_pos hc' hr') hg)
  have eW : a * p' = a' * p := by rw [ea, ep]; grind
  obtain ⟨k, hk⟩ : ∃ k, R = (D' * (b * r') - a * (d' * s)) - k * (a * p') := ⟨(D' * (b * r') - a * (d' * s)) / (a * p'), by rw [hR, Int.emod_def]; grind⟩
  have okW : Ok (a * p') R (D' * (c' * r' * g)) := ⟨hU, by rw [hR]; exact Int.emod_nonneg _ (by omega), by rw [hR]; exact Int.emod_lt_of_pos _ hW⟩
  refine ⟨⟨okW, fun x y => ⟨?_, ?_⟩, ?_, ?_⟩, m * b + n * q - (m * b + n * q) / G * G, ?_, ?_⟩
  · rintro ⟨i, j, hx, hy⟩
    constructor
    · exact ⟨i * p' - j * (d' * s) - j * k * p', j * (D' * r'), by rw [hx, hk]; grind, by rw [hy, ec]; grind⟩
    · refine ⟨i * a' + j * (d' * t) - j * k * a', j * (D' * c'), ?_, by rw [hy, er]; grind⟩
      have key : D' * (b * r') - a * (d' * s) = p * (d' * t) + D' * c' * q := by
        have z1 : D' * (b * r' - q * c') = D * d' := by rw [ed, eD]; grind
        have z2 : D * d' - a * (d' * s) = p * (d' * t) := by
          have : D * d' * (s * a' + t * p') = D * d' := by rw [e2]; omega
          rw [ea, ep]
          grind
        grind
      rw [hx, hk, key, eW]
      grind
  · rintro ⟨⟨m1, k1, hx, hy⟩, m2, k2, hx2, hy2⟩
    have q1 : k1 * c' = k2 * r' := by
      have : g * (k1 * c') = g * (k2 * r') := ml1 (y := y) (by rw [← ec]; exact hy) (by rw [← er]; exact hy2)
      exact Int.eq_of_mul_eq_mul_left (by omega) this
    have j1 : k1 = r' * (m * k2 + n * k1) := by
      calc k1 = k1 * (m * c' + n * r') := by rw [e1]; omega
        _ = m * (k1 * c') + n * (k1 * r') := by grind
        _ = m * (k2 * r') + n * (k1 * r') := by rw [q1]
        _ = _ := by grind
    have j2 : k2 = c' * (m * k2 + n * k1) := by
      calc k2 = k2 * (m * c' + n * r') := by rw [e1]; omega
        _ = m * (k2 * c') + n * (k2 * r') := by grind
        _ = m * (k2 * c') + n * (k1 * c') := by rw [q1]
        _ = _ := by grind
    generalize m * k2 + n * k1 = j at j1 j2
    subst j1
    subst j2
    have q2 : j * (G * d') = D * (m2 * p' - m1 * a') := by
      rw [← ed]
      exact ml2 (x := x) (by rw [← ea]; exact hx) (by rw [← ep]; exact hx2)
    have q3 : j * d' = D' * (m2 * p' - m1 * a') := by
      have : G * (j * d') = G * (D' * (m2 * p' - m1 * a')) := ml3 (by rw [← eD]; exact q2)
      exact Int.eq_of_mul_eq_mul_left (by omega) this
    have q4 : j = D' * (j * u + v * (m2 * p' - m1 * a')) := ml4 q3 e3
    generalize j * u + v * (m2 * p' - m1 * a') = i at q4
    subst q4
    have q5 : i * d' = m2 * p' - m1 * a' := by
      have : D' * (i * d') = D' * (m2 * p' - m1 * a') := ml5 q3
      exact Int.eq_of_mul_eq_mul_left (by omega) this
    refine ⟨m1 * t + s * m2 + i * k, i, ?_, by rw [hy, ec]; exact ml8⟩
    rw [hx, hk]
    have q6 : m1 + s * (i * d') = p' * (m1 * t + s * m2) := by
      rw [q5]
      exact ml6 e2
    exact ml7 (by rw [q6])
  · rw [ep]
    exact Int.mul_le_mul_of_nonneg_left (by have := Int.mul_le_mul_of_nonneg_right (show (1 : Int) ≤ D by omega) (Int.le_of_lt hp'); omega) (Int.le_of_lt ha)
  · have hDa : D' ≤ a := by
      have e4 : a = D' * (G * a') := by rw [ea, eD]; grind
      have := Int.mul_le_mul_of_nonneg_left (show (1 : Int) ≤ G * a' from Int.mul_pos hG ha') (Int.le_of_lt hD')
      omega
    have h5 : c' * r' * g ≤ c * r := by
      rw [ec, er]
      have e5 : g * c' * (g * r') = g * (c' * r' * g) := by grind
      rw [e5]
      have h6 : 0 < c' * r' * g := Int.mul_pos (Int.mul_pos hc' hr') hg
      have := Int.mul_le_mul_of_nonneg_right (show (1 : Int) ≤ g by omega) (Int.le_of_lt h6)
      omega
    exact Int.mul_le_mul hDa h5 (Int.le_of_lt (Int.mul_pos (Int.mul_pos hc' hr') hg)) (Int.le_of_lt ha)
  · have e0 : m * b + n * q - (m * b + n * q) / G * G = (m * b + n * q) % G := by rw [Int.emod_def]; grind
    rw [e0]
    refine form_pos ?_ hG hg
    refine .of (fun x y z => ?_) (fun x y z => ?_)
    · -- each of the four in the net of (G, 0), (β, g)
      have inG : ∀ i : Int, Sp [(G, 0), (m * b + n * q, g)] (i * G) 0 := fun i => ((Sp.gen (u := G) (v := 0) (by simp)).smul i).cast rfl (by omega)
      have inB : ∀ i : Int, Sp [(G, 0), (m * b + n * q, g)] (i * (m * b + n * q)) (i * g) := fun i => (Sp.gen (u := m * b + n * q) (v := g) (by simp)).smul i
      simp only [List.mem_cons, List.not_mem_nil, or_false, Prod.mk.injEq] at z
      rcases z with ⟨rfl, rfl⟩ | ⟨rfl, rfl⟩ | ⟨rfl, rfl⟩ | ⟨rfl, rfl⟩
      · exact (inG (D' * a')).cast (by rw [ea, eD]; grind) rfl
      · refine ((inG (n * d')).sum (inB c')).cast ?_ (by rw [ec]; grind)
        have : x * (m * c' + n * r') = x := by rw [e1]; omega
        have z2 : n * (x * r' - q * c') = n * (G * d') := by rw [ed]
        grind
      · exact (inG (D' * p')).cast (by rw [ep, eD]; grind) rfl
      · refine ((inG (-m * d')).sum (inB r')).cast ?_ (by rw [er]; grind)
        have : x * (m * c' + n * r') = x := by rw [e1]; omega
        have z2 : m * (b * r' - x * c') = m * (G * d') := by rw [ed]
        grind
    · have g1 : Sp [(a, 0), (b, c), (p, 0), (q, r)] a 0 := .gen (by simp)
      have g2 : Sp [(a, 0), (b, c), (p, 0), (q, r)] b c := .gen (by simp)
      have g3 : Sp [(a, 0), (b, c), (p, 0), (q, r)] p 0 := .gen (by simp)
      have g4 : Sp [(a, 0), (b, c), (p, 0), (q, r)] q r := .gen (by simp)
      have gD : Sp [(a, 0), (b, c), (p, 0), (q, r)] D 0 := ((g1.smul s).sum (g3.smul t)).cast (by
        have : D * (s * a' + t * p') = D := by rw [e2]; omega
        rw [ea, ep]
        grind) (by omega)
      have gd : Sp [(a, 0), (b, c), (p, 0), (q, r)] (G * d') 0 := ((g2.smul r').sub (g4.smul c')).cast (by rw [← ed]; grind) (by rw [ec, er]; grind)
      simp only [List.mem_cons, List.not_mem_nil, or_false, Prod.mk.injEq] at z
      rcases z with ⟨rfl, rfl⟩ | ⟨rfl, rfl⟩
      · refine ((gD.smul u).sum (gd.smul v)).cast ?_ (by omega)
        have : x * (u * D' + v * d') = x := by rw [e3]; omega
        rw [eD]
        grind
      · refine ((g2.smul m).sum (g4.smul n)).cast rfl ?_
        have : y * (m * c' + n * r') = y := by rw [e1]; omega
        rw [ec, er]
        grind
  · have e5 : D' * G = D := by rw [eD]; grind
    calc a * p' * (D' * (c' * r' * g)) * (G * g) = a * (p' * (D' * G)) * ((g * c') * (g * r')) := by grind
      _ = a * c * (p * r) := by rw [e5, ← ec, ← er, ep]; grind
theorem meet_prog {a b c p q r s t g up f e D G rows W : Int} (h : Ok a b c) (h' : Ok p q r) (eg : g = (Int.gcd c r : Int)) (eup : up = c * r / g) (ef : f = b * (up / c)) (ee : e = q * (up / r)) (eD : D = (Int.gcd a p : Int)) (hs : D = s * a + t * p)
    (eG : G = (Int.gcd D (f - e) : Int)) (er : rows = D / G) (eW : W = a * p / D) :
    Meet a b c p q r W ((rows * f + a * ((rows * e - rows * f) / D * s)) % W) (rows * up) ∧ ∀ A B C, Form [(a, 0), (b, c), (p, 0), (q, r)] (some (A, B, C)) → W * (rows * up) * (A * C) = a * c * (p * r) := by
  have ha : 0 < a := by have := h.2; omega
  have hp : 0 < p := by have := h'.2; omega
  have hc : 0 < c := by have := h.1; omega
  have hr : 0 < r := by have := h'.1; omega
  obtain ⟨g0, c', r', m, n, rfl, hg, ec, er', e1⟩ := gcd_parts (r := r) hc
  rw [← eg] at hg ec er'
  obtain ⟨D0, a', p', _, _, rfl, hD, ea, ep, _⟩ := gcd_parts (r := p) ha
  rw [← eD] at hD ea ep
  have e2 : s * a' + t * p' = 1 := by
    have : D * (s * a' + t * p') = D * 1 := by
      calc D * (s * a' + t * p') = s * (D * a') + t * (D * p') := by grind
        _ = s * a + t * p := by rw [← ea, ← ep]
        _ = D * 1 := by rw [← hs]; omega
    exact Int.eq_of_mul_eq_mul_left (by omega) this
  have up1 : up = c' * r' * g := by
    rw [eup]
    have : c * r = g * (c' * r' * g) := by rw [ec, er']; grind
    rw [this, Int.mul_ediv_cancel_left _ (by omega)]
  have up2 : up / c = r' := by
    have : up = c * r' := by rw [up1, ec]; grind
    rw [this, Int.mul_ediv_cancel_left _ (by omega)]
  have up3 : up / r = c' := by
    have : up = r * c' := by rw [up1, er']; grind
    rw [this, Int.mul_ediv_cancel_left _ (by omega)]
  rw [up2] at ef
  rw [up3] at ee
  obtain ⟨G0, D', d', u, v, rfl, hG, eD2, ed, e3⟩ := gcd_parts (r := f - e) hD
  rw [← eG] at hG eD2 ed
  have erow : rows = D' := by rw [er, eD2, Int.mul_ediv_cancel_left _ (by omega)]
  have hW : W = a * p' := by
    rw [eW]
    have : a * p = D * (a * p') := by rw [ep]; grind
    rw [this, Int.mul_ediv_cancel_left _ (by omega)]
  have x : MP a b c p q r g c' r' m n D a' p' s t G D' d' u v := ⟨hg, ec, er', e1, hD, ea, ep, e2, hG, eD2, by rw [← ed, ef, ee], e3⟩
  have dv : (rows * e - rows * f) / D = -d' := by
    have : rows * e - rows * f = D * (-d') := by
      rw [erow]
      calc D' * e - D' * f = -(D' * (f - e)) := by grind
        _ = -(D' * (G * d')) := by rw [ed]
        _ = D * (-d') := by rw [eD2]; grind
    rw [this, Int.mul_ediv_cancel_left _ (by omega)]
  obtain ⟨z1, β, z2, z3⟩ := meet_of h h' x _ rfl
  rw [dv, hW, erow, up1]
  have e9 : D' * f + a * (-d' * s) = D' * (b * r') - a * (d' * s) := by rw [ef]; grind
  rw [e9]
  refine ⟨z1, fun A B C hF => ?_⟩
  have := form_uni hF z2
  simp only [Option.some.injEq, Prod.mk.injEq] at this
  obtain ⟨rfl, _, rfl⟩ := this
  exact z3
/-- Euclid's steps with factors -/
structure Bz (a p f0 f1 s0 s1 : Int) : Prop where
  f : ∃ t, f0 = f1 * a + t * p
  s : ∃ t, s0 = s1 * a + t * p
  g : Int.gcd f0 s0 = Int.gcd a p
  pos : 0 < f0
  nn : 0 ≤ s0
  sg : f1 * s1 ≤ 0
  sum : f0.natAbs * s1.natAbs + f1.natAbs * s0.natAbs = p.natAbs
  le : f1.natAbs ≤ p.natAbs
theorem Bz.start {a p : Int} (ha : 0 < a) (hp : 0 < p) : Bz a p a 1 p 0 := ⟨⟨0, by omega⟩, ⟨1, by omega⟩, rfl, ha, by omega, by omega, by simp, by simp; omega⟩
theorem Bz.step {a p f0 f1 s0 s1 : Int} (h : Bz a p f0 f1 s0 s1) (hs : 0 < s0) : Bz a p s0 s1 (f0 - f0 / s0 * s0) (f1 - f0 / s0 * s1) := by
  obtain ⟨⟨t, e1⟩, ⟨t', e2⟩, hg, hp, hn, sg, sm, le⟩ := h
  have hq : 0 ≤ f0 / s0 := Int.ediv_nonneg (by omega) (by omega)
  have e3 : f0 - f0 / s0 * s0 = f0 % s0 := by rw [Int.emod_def]; grind
  have hr := Int.emod_nonneg f0 (show s0 ≠ 0 by omega)
  have hr2 := Int.emod_lt_of_pos f0 hs
  have sq : 0 ≤ s1 * s1 := by
    rcases Int.le_total 0 s1 with z | z
    · exact Int.mul_nonneg z z
    · exact Int.mul_nonneg_of_nonpos_of_nonpos z z
  have abs : (f1 - f0 / s0 * s1).natAbs = f1.natAbs + (f0 / s0).natAbs * s1.natAbs := by
    rcases Int.le_total 0 s1 with z | z
    · have z2 : f1 ≤ 0 ∨ s1 = 0 := by
        rcases Int.lt_or_le 0 f1 with y | y
        · right
          rcases Int.lt_or_le 0 s1 with y' | y'
          · have := Int.mul_pos y y'; omega
          · omega
        · exact .inl y
      rcases z2 with z2 | z2
      · have : 0 ≤ f0 / s0 * s1 := Int.mul_nonneg hq z
        rw [← Int.natAbs_mul]
        omega
      · rw [z2]; simp
    · have z2 : 0 ≤ f1 ∨ s1 = 0 := by
        rcases Int.lt_or_le f1 0 with y | y
        · right
          rcases Int.lt_or_le s1 0 with y' | y'
          · have := Int.mul_pos_of_neg_of_neg y y'; omega
          · omega
        · exact .inl y
      rcases z2 with z2 | z2
      · have : f0 / s0 * s1 ≤ 0 := Int.mul_nonpos_of_nonneg_of_nonpos hq z
        rw [← Int.natAbs_mul]
        omega
      · rw [z2]; simp
  refine ⟨⟨t', e2⟩, ⟨t - f0 / s0 * t', ?_⟩, ?_, hs, by omega, ?_, ?_, ?_⟩
  · generalize f0 / s0 = k at *
    calc f0 - k * s0 = (f1 * a + t * p) - k * (s1 * a + t' * p) := by rw [← e1, ← e2]
      _ = _ := by grind
  · rw [e3, ← hg, ← fmod_gcd f0 s0, Int.fmod_eq_emod_of_nonneg _ (by omega)]
  · have : s1 * (f1 - f0 / s0 * s1) = f1 * s1 - f0 / s0 * (s1 * s1) := by grind
    rw [this]
    have := Int.mul_nonneg hq sq
    omega
  · rw [abs, ← sm]
    have e4 : f0.natAbs = (f0 / s0).natAbs * s0.natAbs + (f0 - f0 / s0 * s0).natAbs := by
      rw [← Int.natAbs_mul]
      have : 0 ≤ f0 / s0 * s0 := Int.mul_nonneg hq (by omega)
      omega
    rw [e4]
    grind
  · have h1 : 1 ≤ f0.natAbs := by omega
    have := Nat.mul_le_mul_right s1.natAbs h1
    omega
theorem Bz.fin {a p f0 f1 s1 : Int} (h : Bz a p f0 f1 0 s1) : f0 = (Int.gcd a p : Int) ∧ (∃ t, f0 = f1 * a + t * p) ∧ f1.natAbs ≤ p.natAbs := by
  refine ⟨?_, h.f, h.le⟩
  rw [← h.g]
  have := h.pos
  simp
  omega
end MN
namespace MN
/-! ### turns and mirror images -/
abbrev Mat := Int × Int × Int × Int
def turn (M : Mat) (p : Int × Int) : Int × Int := (M.1 * p.1 + M.2.1 * p.2, M.2.2.1 * p.1 + M.2.2.2 * p.2)
def tr (M : Mat) : Mat := (M.1, M.2.2.1, M.2.1, M.2.2.2)
def Orth (M : Mat) : Prop := M.1 * M.1 + M.2.2.1 * M.2.2.1 = 1 ∧ M.2.1 * M.2.1 + M.2.2.2 * M.2.2.2 = 1 ∧ M.1 * M.2.1 + M.2.2.1 * M.2.2.2 = 0 ∧ M.1 * M.1 + M.2.1 * M.2.1 = 1 ∧ M.2.2.1 * M.2.2.1 + M.2.2.2 * M.2.2.2 = 1 ∧ M.1 * M.2.2.1 + M.2.1 * M.2.2.2 = 0
instance (M : Mat) : Decidable (Orth M) := by unfold Orth; infer_instance
def Img (M : Mat) (a b c a' b' c' : Int) : Prop := Ok a' b' c' ∧ (∀ x y, InN a' b' c' (turn M (x, y)).1 (turn M (x, y)).2 ↔ InN a b c x y) ∧ a' * c' = a * c
/-! ### what is carried along -/
section
variable {M M' : Mat} {a b c a' b' c' p q r p' q' r' : Int}
/-- one motion behind another -/
def comp (M M' : Mat) : Mat := (M'.1 * M.1 + M'.2.1 * M.2.2.1, M'.1 * M.2.1 + M'.2.1 * M.2.2.2, M'.2.2.1 * M.1 + M'.2.2.2 * M.2.2.1, M'.2.2.1 * M.2.1 + M'.2.2.2 * M.2.2.2)
end
end MN
namespace MN
/-! ### the places of a cell -/
def rowL (a : Nat) (y : Int) : List (Int × Int) := (List.range a).map fun x => ((x : Nat), y)
def spotsL (a : Nat) : Nat → List (Int × Int)
  | 0 => []
  | c + 1 => spotsL a c ++ rowL a ((c : Nat) : Int)
theorem spotsL_len (a : Nat) : ∀ c, (spotsL a c).length = a * c
  | 0 => rfl
  | c + 1 => by simp [spotsL, rowL, spotsL_len a c, Nat.mul_succ]
theorem rowL_mem {a : Nat} {y : Int} {p : Int × Int} : p ∈ rowL a y ↔ 0 ≤ p.1 ∧ p.1 < a ∧ p.2 = y := by
  unfold rowL
  rw [List.mem_map]
  constructor
  · rintro ⟨x, hx, rfl⟩
    have := List.mem_range.mp hx
    exact ⟨by omega, by show (x : Int) < a; omega, rfl⟩
  · rintro ⟨h1, h2, h3⟩
    exact ⟨p.1.toNat, List.mem_range.mpr (by omega), Prod.ext (by show ((p.1.toNat : Nat) : Int) = p.1; omega) h3.symm⟩
theorem spotsL_mem {a : Nat} {p : Int × Int} : ∀ {c : Nat}, p ∈ spotsL a c ↔ 0 ≤ p.1 ∧ p.1 < a ∧ 0 ≤ p.2 ∧ p.2 < c
  | 0 => by
    constructor
    · intro h; cases h
    · rintro ⟨_, _, h1, h2⟩; exact absurd h1 (by omega)
  | c + 1 => by
    rw [spotsL, List.mem_append, spotsL_mem, rowL_mem]
    constructor
    · rintro (⟨h1, h2, h3, h4⟩ | ⟨h1, h2, h3⟩)
      · exact ⟨h1, h2, h3, by omega⟩
      · exact ⟨h1, h2, by omega, by omega⟩
    · rintro ⟨h1, h2, h3, h4⟩
      by_cases h : p.2 = (c : Int)
      · exact .inr ⟨h1, h2, h⟩
      · exact .inl ⟨h1, h2, h3, by omega⟩
theorem spotsL_get {a : Nat} : ∀ {c x y : Nat}, x < a → y < c → (spotsL a c)[y * a + x]? = some ((x : Int), (y : Int))
  | 0, _, _, _, h => absurd h (by omega)
  | c + 1, x, y, hx, hy => by
    unfold spotsL
    by_cases h : y < c
    · have hl : y * a + x < (spotsL a c).length := by
        rw [spotsL_len]
        have : (y + 1) * a ≤ c * a := Nat.mul_le_mul_right a h
        rw [Nat.add_mul, Nat.one_mul] at this
        rw [Nat.mul_comm a c]
        omega
      rw [List.getElem?_append_left hl]
      exact spotsL_get hx h
    · have e : y = c := by omega
      subst e
      have hl : (spotsL a y).length = y * a := by rw [spotsL_len, Nat.mul_comm]
      rw [List.getElem?_append_right (by omega), hl, show y * a + x - y * a = x by omega]
      unfold rowL
      rw [List.getElem?_map, List.getElem?_range hx]
      rfl
/-! ### colours -/
/-- the colour at a place: the text's letter at its place of the cell -/
def col (t : List Nat) (a b c : Int) (p : Int × Int) : Nat := t.getD ((low a b c p.1 p.2).2 * a + (low a b c p.1 p.2).1).toNat 0
theorem col_net {t : List Nat} {a b c : Int} (h : Ok a b c) {p q : Int × Int} (hn : InN a b c (p.1 - q.1) (p.2 - q.2)) : col t a b c p = col t a b c q := by
  unfold col
  rw [(low_eq (by have := h.2; omega) (by have := h.1; omega)).mpr hn]
theorem col_low {t : List Nat} {a b c : Int} (h : Ok a b c) (p : Int × Int) : col t a b c (low a b c p.1 p.2) = col t a b c p := by
  refine (col_net h ?_).symm
  exact low_in a b c p.1 p.2
/-- a shift keeps all colours -/
def Keeps (f : Int × Int → Nat) (x y : Int) : Prop := ∀ p : Int × Int, f (p.1 + x, p.2 + y) = f p
section
variable {f : Int × Int → Nat}
theorem keeps_zero : Keeps f 0 0 := fun p => by rw [Int.add_zero, Int.add_zero]
theorem keeps_add {x y u v : Int} (h : Keeps f x y) (h' : Keeps f u v) : Keeps f (x + u) (y + v) := fun p => by
  have := h' (p.1 + x, p.2 + y)
  dsimp only at this
  rw [← Int.add_assoc, ← Int.add_assoc, this, h p]
theorem keeps_neg {x y : Int} (h : Keeps f x y) : Keeps f (-x) (-y) := fun p => by
  have := h (p.1 + -x, p.2 + -y)
  dsimp only at this
  rw [show p.1 + -x + x = p.1 by omega, show p.2 + -y + y = p.2 by omega] at this
  exact this.symm
theorem keeps_nat {x y : Int} (h : Keeps f x y) : ∀ n : Nat, Keeps f ((n : Int) * x) ((n : Int) * y)
  | 0 => by simpa using keeps_zero (f := f)
  | n + 1 => by
    have := keeps_add (keeps_nat h n) h
    rw [show ((n + 1 : Nat) : Int) * x = (n : Int) * x + x by rw [Int.natCast_succ, Int.add_mul, Int.one_mul], show ((n + 1 : Nat) : Int) * y = (n : Int) * y + y by rw [Int.natCast_succ, Int.add_mul, Int.one_mul]]
    exact this
theorem keeps_mul {x y : Int} (h : Keeps f x y) (n : Int) : Keeps f (n * x) (n * y) := by
  rcases Int.le_total 0 n with z | z
  · obtain ⟨k, rfl⟩ := Int.eq_ofNat_of_zero_le z
    exact keeps_nat h k
  · obtain ⟨k, hk⟩ := Int.eq_ofNat_of_zero_le (show 0 ≤ -n by omega)
    have := keeps_neg (keeps_nat h k)
    rw [← Int.neg_mul, ← Int.neg_mul, show -(k : Int) = n by omega] at this
    exact this
end
theorem keeps_net {t : List Nat} {a b c x y : Int} (h : Ok a b c) (hn : InN a b c x y) : Keeps (col t a b c) x y := fun p => col_net h (by rw [show p.1 + x - p.1 = x by omega, show p.2 + y - p.2 = y by omega]; exact hn)
/-- looking at the cell is enough -/
theorem keeps_cell {t : List Nat} {a b c x y : Int} (h : Ok a b c) (hc : ∀ p ∈ spotsL a.toNat c.toNat, col t a b c p = col t a b c (p.1 + x, p.2 + y)) : Keeps (col t a b c) x y := fun p => by
  have ha : 0 < a := by have := h.2; omega
  have hcc : 0 < c := by have := h.1; omega
  obtain ⟨r1, r2, r3, r4⟩ := low_rng (a := a) (b := b) (c := c) (x := p.1) (y := p.2) ha hcc
  have m := hc (low a b c p.1 p.2) (spotsL_mem.mpr ⟨r1, by omega, r3, by omega⟩)
  rw [col_low h] at m
  rw [m]
  refine col_net h ?_
  have := low_in a b c p.1 p.2
  rw [show p.1 + x - ((low a b c p.1 p.2).1 + x) = p.1 - (low a b c p.1 p.2).1 by omega, show p.2 + y - ((low a b c p.1 p.2).2 + y) = p.2 - (low a b c p.1 p.2).2 by omega]
  exact this
/-- the net of all shifts that keep -/
def Exact (f : Int × Int → Nat) (w q r : Int) : Prop := Ok w q r ∧ ∀ x y, InN w q r x y ↔ Keeps f x y
theorem exact_uni {f : Int × Int → Nat} {w q r w' q' r' : Int} (h : Exact f w q r) (h' : Exact f w' q' r') : w = w' ∧ q = q' ∧ r = r' := net_eq h.1 h'.1 fun x y => (h.2 x y).trans (h'.2 x y).symm
theorem exact_of {f : Int × Int → Nat} {w q r : Int} (hw : 0 < w) (hr : 0 < r) (q0 : 0 ≤ q) (q1 : q < w) (k1 : Keeps f w 0) (m1 : ∀ x, Keeps f x 0 → w ∣ x) (k2 : Keeps f q r) (m2 : ∀ x y, Keeps f x y → r ∣ y) : Exact f w q r := by
  refine ⟨⟨by omega, q0, q1⟩, fun x y => ⟨fun ⟨m, k, e1, e2⟩ => ?_, fun h => ?_⟩⟩
  · rw [e1, e2]
    have := keeps_add (keeps_mul k1 m) (keeps_mul k2 k)
    rw [Int.mul_zero, Int.zero_add] at this
    exact this
  · obtain ⟨k, hk⟩ := m2 x y h
    have h2 := keeps_add h (keeps_mul k2 (-k))
    rw [show y + -k * r = 0 by rw [hk, Int.neg_mul, Int.mul_comm]; omega] at h2
    obtain ⟨m, hm⟩ := m1 _ h2
    refine ⟨m, k, ?_, by rw [hk, Int.mul_comm]⟩
    rw [Int.neg_mul, Int.mul_comm w m] at hm
    omega
/-! ### divisors, ascending -/
def upL (n : Nat) : List Int := (List.range n).map fun i => ((i : Nat) : Int) + 1
def divL (n : Int) : List Int := (upL n.toNat).filter fun d => decide (n % d = 0)
theorem upL_mem {n : Nat} {d : Int} : d ∈ upL n ↔ 1 ≤ d ∧ d ≤ n := by
  unfold upL
  rw [List.mem_map]
  constructor
  · rintro ⟨i, hi, rfl⟩
    have := List.mem_range.mp hi
    omega
  · rintro ⟨h1, h2⟩
    exact ⟨(d - 1).toNat, List.mem_range.mpr (by omega), by omega⟩
theorem divL_mem {n d : Int} (hn : 0 < n) : d ∈ divL n ↔ 0 < d ∧ d ∣ n := by
  unfold divL
  rw [List.mem_filter, upL_mem, decide_eq_true_eq]
  constructor
  · rintro ⟨⟨h1, h2⟩, h3⟩
    exact ⟨by omega, Int.dvd_of_emod_eq_zero h3⟩
  · rintro ⟨h1, h2⟩
    exact ⟨⟨by omega, by have := Int.le_of_dvd hn h2; omega⟩, Int.emod_eq_zero_of_dvd h2⟩
theorem divL_sorted (n : Int) : (divL n).Pairwise (· < ·) := by
  unfold divL
  refine List.Pairwise.filter _ ?_
  unfold upL
  rw [List.pairwise_map]
  exact List.pairwise_lt_range.imp fun h => by omega
/-- in an ascending list what is less stands ahead -/
theorem ahead {l : List Int} (hs : l.Pairwise (· < ·)) {i : Nat} {r g : Int} (hr : l[i]? = some r) (hg : g ∈ l) (h : g < r) : g ∈ l.take i := by
  obtain ⟨j, hj⟩ := List.mem_iff_getElem?.mp hg
  have hji : j < i := by
    rcases Nat.lt_or_ge j i with z | z
    · exact z
    · exfalso
      have hjl : j < l.length := by
        rcases Nat.lt_or_ge j l.length with y | y
        · exact y
        · rw [List.getElem?_eq_none y] at hj; cases hj
      have hil : i < l.length := by omega
      rw [List.getElem?_eq_getElem hjl] at hj
      rw [List.getElem?_eq_getElem hil] at hr
      have e1 := Option.some.inj hj
      have e2 := Option.some.inj hr
      rcases Nat.eq_or_lt_of_le z with e | e
      · subst e
        omega
      · have := List.pairwise_iff_getElem.mp hs i j hil hjl e
        omega
  rw [List.mem_iff_getElem?]
  exact ⟨j, by rw [List.getElem?_take_of_lt hji]; exact hj⟩
/-- the first divisor that keeps a row -/
theorem width_min {f : Int × Int → Nat} {a w : Int} (ha : 0 < a) (ka : Keeps f a 0) (hw : w ∈ divL a) (kw : Keeps f w 0) (first : ∀ d ∈ divL a, d < w → ¬ Keeps f d 0) : ∀ x, Keeps f x 0 → w ∣ x := fun x hx => by
  obtain ⟨w0, wa⟩ := (divL_mem ha).mp hw
  obtain ⟨s, t, e⟩ := bez w x
  have kg : Keeps f ((Int.gcd w x : Nat) : Int) 0 := by
    have := keeps_add (keeps_mul kw s) (keeps_mul hx t)
    rw [Int.mul_zero, Int.mul_zero, Int.add_zero, ← e] at this
    exact this
  have gw : ((Int.gcd w x : Nat) : Int) ∣ w := Int.gcd_dvd_left w x
  have g0 : 0 < ((Int.gcd w x : Nat) : Int) := by
    have : Int.gcd w x ≠ 0 := fun z => by
      rw [Int.gcd_eq_zero_iff] at z
      omega
    omega
  have gl := Int.le_of_dvd w0 gw
  have gm : ((Int.gcd w x : Nat) : Int) ∈ divL a := (divL_mem ha).mpr ⟨g0, Int.dvd_trans gw wa⟩
  have : ¬ ((Int.gcd w x : Nat) : Int) < w := fun z => first _ gm z kg
  have e2 : ((Int.gcd w x : Nat) : Int) = w := by omega
  rw [← e2]
  exact Int.gcd_dvd_right w x
theorem keeps_mod {f : Int × Int → Nat} {w x y : Int} (kw : Keeps f w 0) (h : Keeps f x y) : Keeps f (x % w) y := by
  have := keeps_add h (keeps_mul kw (-(x / w)))
  rw [Int.mul_zero, Int.add_zero] at this
  have e : x + -(x / w) * w = x % w := by
    have := Int.emod_add_mul_ediv x w
    rw [Int.neg_mul, Int.mul_comm (x / w) w]
    omega
  rw [e] at this
  exact this
theorem rows_min {f : Int × Int → Nat} {c w r q : Int} (hc : 0 < c) (hw : 0 < w) (kw : Keeps f w 0) (hr : r ∈ divL c) (kr : Keeps f q r) (first : ∀ d ∈ divL c, d < r → ∀ u, 0 ≤ u → u < w → ¬ Keeps f u d) : ∀ x y, Keeps f x y → r ∣ y := fun x y hx => by
  obtain ⟨r0, rc⟩ := (divL_mem hc).mp hr
  obtain ⟨s, t, e⟩ := bez r y
  have kg : Keeps f (s * q + t * x) ((Int.gcd r y : Nat) : Int) := by
    have := keeps_add (keeps_mul kr s) (keeps_mul hx t)
    rw [← e] at this
    exact this
  have gr : ((Int.gcd r y : Nat) : Int) ∣ r := Int.gcd_dvd_left r y
  have g0 : 0 < ((Int.gcd r y : Nat) : Int) := by
    have : Int.gcd r y ≠ 0 := fun z => by
      rw [Int.gcd_eq_zero_iff] at z
      omega
    omega
  have gl := Int.le_of_dvd r0 gr
  have gm : ((Int.gcd r y : Nat) : Int) ∈ divL c := (divL_mem hc).mpr ⟨g0, Int.dvd_trans gr rc⟩
  have : ¬ ((Int.gcd r y : Nat) : Int) < r := fun z => first _ gm z _ (Int.emod_nonneg _ (by omega)) (Int.emod_lt_of_pos _ hw) (keeps_mod kw kg)
  have e2 : ((Int.gcd r y : Nat) : Int) = r := by omega
  rw [← e2]
  exact Int.gcd_dvd_right r y
/-! ### the least cell -/
/-- the text of the cell of a net, of what f tells -/
def cellT (f : Int × Int → Nat) (a c : Int) : List Nat := (spotsL a.toNat c.toNat).map f
theorem cellT_len {f : Int × Int → Nat} {a c : Int} : (cellT f a c).length = a.toNat * c.toNat := by rw [cellT, List.length_map, spotsL_len]
theorem cellT_col {f : Int × Int → Nat} {a b c : Int} (h : Ok a b c) (k : ∀ x y, InN a b c x y → Keeps f x y) (p : Int × Int) : col (cellT f a c) a b c p = f p := by
  have ha : 0 < a := by have := h.2; omega
  have hc : 0 < c := by have := h.1; omega
  obtain ⟨r1, r2, r3, r4⟩ := low_rng (a := a) (b := b) (c := c) (x := p.1) (y := p.2) ha hc
  unfold col cellT
  generalize hu : (low a b c p.1 p.2).1 = u at *
  generalize hv : (low a b c p.1 p.2).2 = v at *
  obtain ⟨u', rfl⟩ := Int.eq_ofNat_of_zero_le r1
  obtain ⟨v', rfl⟩ := Int.eq_ofNat_of_zero_le r3
  obtain ⟨a', rfl⟩ := Int.eq_ofNat_of_zero_le (Int.le_of_lt ha)
  obtain ⟨c', rfl⟩ := Int.eq_ofNat_of_zero_le (Int.le_of_lt hc)
  have e : ((v' : Int) * (a' : Int) + (u' : Int)).toNat = v' * a' + u' := by
    rw [← Int.natCast_mul, ← Int.natCast_add, Int.toNat_natCast]
  rw [e, List.getD_eq_getElem?_getD, List.getElem?_map, Int.toNat_natCast, Int.toNat_natCast, spotsL_get (by omega) (by omega)]
  show f ((u' : Int), (v' : Int)) = f p
  have kk := k _ _ (low_in (a' : Int) b (c' : Int) p.1 p.2) ((u' : Int), (v' : Int))
  rw [hu, hv] at kk
  dsimp only at kk
  rw [show (u' : Int) + (p.1 - (u' : Int)) = p.1 by omega, show (v' : Int) + (p.2 - (v' : Int)) = p.2 by omega] at kk
  exact kk.symm
end MN
namespace MN
/-! ### connected parts of one colour -/
abbrev Pt := Int × Int
def nbs (p : Pt) : List Pt := [(p.1 + 1, p.2), (p.1, p.2 + 1), (p.1 - 1, p.2), (p.1, p.2 - 1)]
theorem nbs_mem {p q : Pt} : q ∈ nbs p ↔ q = (p.1 + 1, p.2) ∨ q = (p.1, p.2 + 1) ∨ q = (p.1 - 1, p.2) ∨ q = (p.1, p.2 - 1) := by
  simp only [nbs, List.mem_cons, List.not_mem_nil, or_false]
theorem nbs_symm {p q : Pt} (h : q ∈ nbs p) : p ∈ nbs q := by
  obtain ⟨x, y⟩ := p
  rw [nbs_mem] at h ⊢
  dsimp only at h ⊢
  rcases h with rfl | rfl | rfl | rfl
  · exact .inr (.inr (.inl (Prod.ext (by first | omega | (dsimp only; omega)) rfl)))
  · exact .inr (.inr (.inr (Prod.ext rfl (by first | omega | (dsimp only; omega)))))
  · exact .inl (Prod.ext (by first | omega | (dsimp only; omega)) rfl)
  · exact .inr (.inl (Prod.ext rfl (by first | omega | (dsimp only; omega))))
theorem nbs_shift {p q : Pt} (u v : Int) (h : q ∈ nbs p) : (q.1 + u, q.2 + v) ∈ nbs (p.1 + u, p.2 + v) := by
  rw [nbs_mem] at h ⊢
  dsimp only
  rcases h with rfl | rfl | rfl | rfl
  · exact .inl (Prod.ext (by first | omega | (dsimp only; omega)) rfl)
  · exact .inr (.inl (Prod.ext rfl (by first | omega | (dsimp only; omega))))
  · exact .inr (.inr (.inl (Prod.ext (by first | omega | (dsimp only; omega)) rfl)))
  · exact .inr (.inr (.inr (Prod.ext rfl (by first | omega | (dsimp only; omega)))))
inductive Conn (F : Pt → Nat) (s : Pt) : Pt → Prop
  | refl : Conn F s s
  | step {q r : Pt} : Conn F s q → r ∈ nbs q → F r = F q → Conn F s r
section
variable {F : Pt → Nat} {a b c : Int}
theorem Conn.col {s q : Pt} (h : Conn F s q) : F q = F s := by
  induction h with
  | refl => rfl
  | step _ _ e ih => rw [e, ih]
theorem Conn.trans {s q r : Pt} (h : Conn F s q) (h' : Conn F q r) : Conn F s r := by
  induction h' with
  | refl => exact h
  | step _ n e ih => exact ih.step n e
theorem Conn.one {p q : Pt} (n : q ∈ nbs p) (e : F q = F p) : Conn F p q := Conn.refl.step n e
theorem Conn.symm {s q : Pt} (h : Conn F s q) : Conn F q s := by
  induction h with
  | refl => exact .refl
  | step _ n e ih => exact (Conn.one (nbs_symm n) e.symm).trans ih
theorem Conn.shift {s q : Pt} {x y : Int} (k : Keeps F x y) (h : Conn F s q) : Conn F (s.1 + x, s.2 + y) (q.1 + x, q.2 + y) := by
  induction h with
  | refl => exact .refl
  | step _ n e ih => exact ih.step (nbs_shift x y n) (by rw [k _, k _, e])
theorem pt_eq {p : Pt} {x y : Int} (h1 : x = p.1) (h2 : y = p.2) : (x, y) = p := Prod.ext h1 h2
/-- the shifts of a net that carry the part of a place to itself -/
def Stab (F : Pt → Nat) (a b c : Int) (s : Pt) (x y : Int) : Prop := InN a b c x y ∧ Conn F s (s.1 + x, s.2 + y)
variable (kp : ∀ x y, InN a b c x y → Keeps F x y)
include kp
/-- the same place, up to the net: the class of a part -/
def Cls (F : Pt → Nat) (a b c : Int) (s q : Pt) : Prop := ∃ x y, InN a b c x y ∧ Conn F s (q.1 + x, q.2 + y)
omit kp in
theorem cls_conn {s q : Pt} (h : Conn F s q) : Cls F a b c s q := ⟨0, 0, inN_zero, by rw [pt_eq (p := q) (by omega) (by omega)]; exact h⟩
omit kp in
theorem cls_net {s q : Pt} {x y : Int} (i : InN a b c x y) : Cls F a b c s (q.1 + x, q.2 + y) ↔ Cls F a b c s q := by
  constructor
  · rintro ⟨u, v, j, z⟩
    refine ⟨x + u, y + v, inN_add i j, ?_⟩
    rw [pt_eq (p := (q.1 + x + u, q.2 + y + v)) (by first | omega | (dsimp only; omega)) (by first | omega | (dsimp only; omega))]
    exact z
  · rintro ⟨u, v, j, z⟩
    refine ⟨u - x, v - y, inN_sub j i, ?_⟩
    rw [pt_eq (p := (q.1 + u, q.2 + v)) (by first | omega | (dsimp only; omega)) (by first | omega | (dsimp only; omega))]
    exact z
omit kp in
theorem cls_low {s q : Pt} : Cls F a b c s (low a b c q.1 q.2) ↔ Cls F a b c s q := by
  have := cls_net (F := F) (s := s) (q := low a b c q.1 q.2) (low_in a b c q.1 q.2)
  rw [pt_eq (p := q) (by omega) (by omega)] at this
  exact this.symm
end
/-! ### the search -/
def lkQ (kn : List (Pt × Pt)) (k : Pt) : Option Pt := (kn.find? fun x => decide (x.1 = k)).map (·.2)
theorem lkQ_mem {kn : List (Pt × Pt)} {k p : Pt} (h : lkQ kn k = some p) : (k, p) ∈ kn := by
  obtain ⟨x, hx, rfl⟩ := Option.map_eq_some_iff.mp h
  have e : x.1 = k := by simpa using List.find?_some hx
  have := List.mem_of_find?_eq_some hx
  rw [← e]
  exact this
theorem lkQ_app {kn ms : List (Pt × Pt)} {k p : Pt} (h : lkQ kn k = some p) : lkQ (kn ++ ms) k = some p := by
  unfold lkQ at h ⊢
  obtain ⟨x, hx, rfl⟩ := Option.map_eq_some_iff.mp h
  rw [List.find?_append, hx]
  rfl
def lowP (a b c : Int) (p : Pt) : Pt := low a b c p.1 p.2
/-- what the search has found out about some neighbours of a place -/
def Done (F : Pt → Nat) (a b c : Int) (kn : List (Pt × Pt)) (sh : List Pt) (p : Pt) (l : List Pt) : Prop := ∀ q ∈ l, F q = F p → ∃ r, lkQ kn (lowP a b c q) = some r ∧ Sp sh (q.1 - r.1) (q.2 - r.2)
/-- how many neighbours have another colour -/
def unl (F : Pt → Nat) (p : Pt) (l : List Pt) : Nat := (l.filter fun q => !decide (F q = F p)).length
def edg (F : Pt → Nat) (p : Pt) : Nat := unl F p (nbs p)
def sumE (F : Pt → Nat) (l : List Pt) : Nat := (l.map (edg F)).sum
structure Srch (F : Pt → Nat) (a b c : Int) (s : Pt) (kn : List (Pt × Pt)) (wt sh : List Pt) (X : Pt → Prop) : Prop where
  st : lkQ kn s = some s
  kw : ∀ k p, (k, p) ∈ kn → lowP a b c p = k ∧ Conn F s p
  nd : (kn.map (·.1)).Nodup
  wi : ∀ p ∈ wt, ∃ k, (k, p) ∈ kn
  si : ∀ x y, (x, y) ∈ sh → Stab F a b c s x y
  dn : ∀ k p, (k, p) ∈ kn → p ∈ wt ∨ X p ∨ Done F a b c kn sh p (nbs p)
  nr : ∀ k p, (k, p) ∈ kn → (p.1 - s.1).natAbs + (p.2 - s.2).natAbs + 1 ≤ kn.length
  sn : ∀ x y, (x, y) ∈ sh → x.natAbs ≤ 2 * kn.length ∧ y.natAbs ≤ 2 * kn.length
/-- the numbers that go with it: e: neighbours of another colour of the one that is looked at, j: its neighbours that are left -/
structure SrN (F : Pt → Nat) (kn : List (Pt × Pt)) (wt sh : List Pt) (bd e j : Nat) : Prop where
  bd : bd + sumE F wt + e = sumE F (kn.map (·.2))
  ls : sh.length + 4 * wt.length + j ≤ 4 * kn.length
section
variable {F : Pt → Nat} {a b c : Int} {s : Pt} {kn : List (Pt × Pt)} {wt sh : List Pt} {X : Pt → Prop} {bd e j : Nat}
theorem Done.up {ms : List (Pt × Pt)} {ts : List Pt} {p : Pt} {l : List Pt} (h : Done F a b c kn sh p l) : Done F a b c (kn ++ ms) (sh ++ ts) p l := fun q hq eq => by
  obtain ⟨r, h1, h2⟩ := h q hq eq
  exact ⟨r, lkQ_app h1, h2.le fun u v m => .gen (List.mem_append.mpr (.inl m))⟩
theorem unl_yes {p q : Pt} {l : List Pt} (n : F q ≠ F p) : unl F p (q :: l) = unl F p l + 1 := by
  unfold unl
  rw [List.filter_cons_of_pos (by simpa using n)]
  rfl
theorem unl_no {p q : Pt} {l : List Pt} (n : F q = F p) : unl F p (q :: l) = unl F p l := by
  unfold unl
  rw [List.filter_cons_of_neg (by simpa using n)]
/-! ### what the search has found at its end -/
structure Prt (F : Pt → Nat) (a b c : Int) (s : Pt) (kn : List (Pt × Pt)) : Prop where
  st : lkQ kn s = some s
  kw : ∀ k p, (k, p) ∈ kn → lowP a b c p = k ∧ Conn F s p
  nd : (kn.map (·.1)).Nodup
  all : ∀ q, Conn F s q → ∃ r, lkQ kn (lowP a b c q) = some r ∧ Stab F a b c s (q.1 - r.1) (q.2 - r.2)
  nr : ∀ k p, (k, p) ∈ kn → (p.1 - s.1).natAbs + (p.2 - s.2).natAbs + 1 ≤ kn.length
/-- the places of the cell that belong to the class -/
theorem Prt.key (kp : ∀ x y, InN a b c x y → Keeps F x y) (ha : 0 < a) (hc : 0 < c) (h : Prt F a b c s kn) (k : Pt) : k ∈ kn.map (·.1) ↔ k ∈ spotsL a.toNat c.toNat ∧ Cls F a b c s k := by
  constructor
  · intro m
    obtain ⟨⟨k', p⟩, hx, rfl⟩ := List.mem_map.mp m
    obtain ⟨e, z⟩ := h.kw _ _ hx
    dsimp only
    rw [← e]
    obtain ⟨r1, r2, r3, r4⟩ := low_rng (a := a) (b := b) (c := c) (x := p.1) (y := p.2) ha hc
    exact ⟨spotsL_mem.mpr ⟨r1, by rw [Int.toNat_of_nonneg (by omega)]; exact r2, r3, by rw [Int.toNat_of_nonneg (by omega)]; exact r4⟩, cls_low.mpr (cls_conn z)⟩
  · rintro ⟨m, x, y, i, z⟩
    obtain ⟨m1, m2, m3, m4⟩ := spotsL_mem.mp m
    obtain ⟨r, h1, _⟩ := h.all _ z
    have e : lowP a b c (k.1 + x, k.2 + y) = k := by
      have e1 : lowP a b c (k.1 + x, k.2 + y) = lowP a b c k := by
        refine (low_eq ha hc).mpr ?_
        dsimp only
        rw [show k.1 + x - k.1 = x by omega, show k.2 + y - k.2 = y by omega]
        exact i
      rw [e1]
      exact low_self ⟨m1, by omega⟩ ⟨m3, by omega⟩
    rw [e] at h1
    exact List.mem_map.mpr ⟨_, lkQ_mem h1, rfl⟩
end
/-- whether a place is of the class of another one -/
noncomputable def clsB (F : Pt → Nat) (a b c : Int) (s q : Pt) : Bool := @decide (Cls F a b c s q) (Classical.propDecidable _)
theorem clsB_iff {F : Pt → Nat} {a b c : Int} {s q : Pt} : clsB F a b c s q = true ↔ Cls F a b c s q := by unfold clsB; exact @decide_eq_true_iff _ (Classical.propDecidable _)
noncomputable def clsL (F : Pt → Nat) (a b c : Int) (s : Pt) : List Pt := (spotsL a.toNat c.toNat).filter (clsB F a b c s)
theorem spotsL_nd (a : Nat) : ∀ c, (spotsL a c).Nodup := by
  intro c
  unfold List.Nodup
  rw [List.pairwise_iff_getElem]
  intro i j hi hj hij e
  rw [spotsL_len] at hi hj
  have key : ∀ n, n < a * c → (spotsL a c)[n]? = some (((n % a : Nat) : Int), ((n / a : Nat) : Int)) := fun n hn => by
    have ha : 0 < a := Nat.pos_of_ne_zero fun z => by rw [z] at hn; omega
    have := spotsL_get (a := a) (c := c) (x := n % a) (y := n / a) (Nat.mod_lt _ ha) (Nat.div_lt_of_lt_mul hn)
    rw [Nat.div_add_mod' n a] at this
    exact this
  have e1 := key i hi
  have e2 := key j hj
  rw [List.getElem?_eq_getElem (by rw [spotsL_len]; exact hi)] at e1
  rw [List.getElem?_eq_getElem (by rw [spotsL_len]; exact hj)] at e2
  rw [e] at e1
  rw [e1] at e2
  have e3 := Option.some.inj e2
  have e4 : i % a = j % a := by
    have := congrArg Prod.fst e3
    dsimp only at this
    omega
  have e5 : i / a = j / a := by
    have := congrArg Prod.snd e3
    dsimp only at this
    omega
  have := Nat.div_add_mod i a
  have := Nat.div_add_mod j a
  rw [e4, e5] at *
  omega
section
variable {F : Pt → Nat} {a b c : Int} {s : Pt} {kn : List (Pt × Pt)}
theorem Prt.perm (kp : ∀ x y, InN a b c x y → Keeps F x y) (ha : 0 < a) (hc : 0 < c) (h : Prt F a b c s kn) : (kn.map (·.1)).Perm (clsL F a b c s) := by
  refine (List.perm_ext_iff_of_nodup h.nd ((spotsL_nd _ _).filter _)).mpr fun k => ?_
  rw [h.key kp ha hc k, List.mem_filter, clsB_iff]
theorem Prt.len (kp : ∀ x y, InN a b c x y → Keeps F x y) (ha : 0 < a) (hc : 0 < c) (h : Prt F a b c s kn) : kn.length = (clsL F a b c s).length := by
  have := (h.perm kp ha hc).length_eq
  rw [List.length_map] at this
  exact this
theorem unl_shift (kp : ∀ x y, InN a b c x y → Keeps F x y) {x y : Int} (i : InN a b c x y) (p : Pt) : ∀ l : List Pt, unl F (p.1 + x, p.2 + y) (l.map fun q => (q.1 + x, q.2 + y)) = unl F p l
  | [] => rfl
  | q :: l => by
    have ih := unl_shift kp i p l
    have e1 := kp _ _ i p
    have e2 := kp _ _ i q
    rw [List.map_cons]
    by_cases e : F q = F p
    · rw [unl_no e, unl_no (by rw [e1, e2, e]), ih]
    · rw [unl_yes e, unl_yes (by rw [e1, e2]; exact e), ih]
theorem edg_shift (kp : ∀ x y, InN a b c x y → Keeps F x y) {x y : Int} (i : InN a b c x y) (p : Pt) : edg F (p.1 + x, p.2 + y) = edg F p := by
  have := unl_shift kp i p (nbs p)
  have e : (nbs p).map (fun q => (q.1 + x, q.2 + y)) = nbs (p.1 + x, p.2 + y) := by
    simp only [nbs, List.map_cons, List.map_nil]
    congr 1
    · exact Prod.ext (by first | omega | (dsimp only; omega)) rfl
    congr 1
    · exact Prod.ext rfl (by first | omega | (dsimp only; omega))
    congr 1
    · exact Prod.ext (by first | omega | (dsimp only; omega)) rfl
    congr 1
    · exact Prod.ext rfl (by first | omega | (dsimp only; omega))
  rw [e] at this
  exact this
theorem edg_low (kp : ∀ x y, InN a b c x y → Keeps F x y) (p : Pt) : edg F (lowP a b c p) = edg F p := by
  have := edg_shift kp (low_in a b c p.1 p.2) (low a b c p.1 p.2)
  rw [pt_eq (p := p) (by omega) (by omega)] at this
  exact this.symm
theorem sumE_perm {l m : List Pt} (h : l.Perm m) : sumE F l = sumE F m := by
  unfold sumE
  exact (h.map _).sum_nat
/-- the border of a class -/
noncomputable def brd (F : Pt → Nat) (a b c : Int) (s : Pt) : Nat := sumE F (clsL F a b c s)
theorem Prt.brd (kp : ∀ x y, InN a b c x y → Keeps F x y) (ha : 0 < a) (hc : 0 < c) (h : Prt F a b c s kn) : sumE F (kn.map (·.2)) = MN.brd F a b c s := by
  unfold MN.brd
  rw [← sumE_perm (h.perm kp ha hc)]
  unfold sumE
  rw [List.map_map, List.map_map]
  congr 1
  refine List.map_congr_left fun x hx => ?_
  obtain ⟨e, _⟩ := h.kw x.1 x.2 hx
  show edg F x.2 = edg F x.1
  rw [← e, edg_low kp]
end
end MN
namespace MN
/-! ### the basis of a group of shifts -/
inductive Bas where
  | nil | one (x y : Int) | two (a b c : Int)
def BasOk (S : Int → Int → Prop) : Bas → Prop
  | .nil => ∀ x y, S x y → x = 0 ∧ y = 0
  | .one x y => (0 < y ∨ y = 0 ∧ 0 < x) ∧ ∀ u v, S u v ↔ ∃ n : Int, u = n * x ∧ v = n * y
  | .two a b c => Ok a b c ∧ ∀ u v, S u v ↔ InN a b c u v
end MN
namespace Y
open PySem PySem.Spec PyProof.Rows L2 Z
/-! ### promises of carpets.integers and carpets.nets -/
def knD (d : D) : Prop := match d with
  | .obj _ _ _ | .ty _ | .glob _ | .tape | .fn _ | .dpl _ _ => False
  | _ => True
def isIntD (d : D) : Bool := match d with
  | .int _ => true
  | _ => false
def R_is_integer : RdF := ar1 fun d Q _ => knD d ∧ Q (.bl (isIntD d))
def knP (d : D) : Prop := match d with
  | .tup [a, b] => knD a ∧ knD b
  | d => knD d
def isPl (d : D) : Bool := match d with
  | .tup [a, b] => isIntD a && isIntD b
  | _ => false
def R_is_place : RdF := ar1 fun d Q _ => knP d ∧ Q (.bl (isPl d))
def R_are_numbers : RdF := ar1 fun d Q _ => match d with
  | .tup [.int a, .int b, .int c] => Q (.bl (decide (1 ≤ c) && (decide (0 ≤ b) && decide (b < a))))
  | _ => False
abbrev dNet (a b c : Int) : D := .obj "Net" ["own_numbers"] [.tup [.int a, .int b, .int c]]
abbrev dPl (x y : Int) : D := .tup [.int x, .int y]
def R_Net_UinitU : RdF := ar3 fun x y z Q _ => match x, y, z with
  | .int a, .int b, .int c => (1 ≤ c ∧ 0 ≤ b ∧ b < a) ∧ Q (dNet a b c)
  | _, _, _ => False
/-! ### nets of shifts -/
def plD (p : Int × Int) : D := .tup [.int p.1, .int p.2]
theorem map_get {α β : Type} {f : α → β} {S : List α} {i : Nat} {d : β} (h : (S.map f)[i]? = some d) : ∃ p, S[i]? = some p ∧ d = f p := by
  rw [List.getElem?_map] at h
  obtain ⟨p, h1, rfl⟩ := Option.map_eq_some_iff.mp h
  exact ⟨p, h1, rfl⟩
/-! ### methods of nets -/
def R_Net_numbers : RdF := ar1 fun d Q _ => ∃ a b c : Int, d = dNet a b c ∧ Q (.tup [.int a, .int b, .int c])
def R_Net_size : RdF := ar1 fun d Q _ => ∃ a b c : Int, d = dNet a b c ∧ (Sz 4000 a ∧ Sz 4000 c) ∧ Q (.int (a * c))
def R_Net_place_in_cell : RdF := ar2 fun s p Q _ => ∃ a b c x y : Int, s = dNet a b c ∧ p = dPl x y ∧ (MN.Ok a b c ∧ Sz 4000 a ∧ Sz 4000 c ∧ Sz 4000 y) ∧ Q (dPl (MN.low a b c x y).1 (MN.low a b c x y).2)
def R_Net_UeqU : RdF := ar2 fun s v Q _ => ∃ a b c : Int, s = dNet a b c ∧ ((∃ a' b' c' : Int, v = dNet a' b' c' ∧ Q (.bl (decide (a = a' ∧ b = b' ∧ c = c')))) ∨ (knD v ∧ Q (.bl false)))
def R_Net_whole : RdF := ar1 fun d Q _ => d = .glob "Net" ∧ Q (dNet 1 0 1)
theorem eqN3 {a b c d e f : Int} : eqD (.tup [.int a, .int b, .int c]) (.tup [.int d, .int e, .int f]) = decide (a = d ∧ b = e ∧ c = f) := by
  simp only [eqD, eqDs, Bool.and_true]
  by_cases h1 : a = d <;> by_cases h2 : b = e <;> by_cases h3 : c = f <;> simp [h1, h2, h3]
theorem leN {n : Nat} (h : Nat.ble n 100000 = true) : n ≤ 100000 := Nat.le_of_ble_eq_true h
/-! ### the law's own draws -/
theorem szP {n : Nat} {x : Int} (h : Nat.blt x.natAbs (2 ^ 100) = true) (hn : 100 ≤ n) : Sz n x := (sz_lit (n := 100) h).mono hn
theorem dIx_l {ds : List D} {i : Int} {d : D} {Q : D → Prop} (e : atI ds i = some d) (h : Q d) : dIx (.lst ds) (.int i) Q := by
  show (match atI ds i with | some d => Q d | none => False)
  rw [e]
  exact h
theorem dIx_t {ds : List D} {i : Int} {d : D} {Q : D → Prop} (e : atI ds i = some d) (h : Q d) : dIx (.tup ds) (.int i) Q := by
  show (match atI ds i with | some d => Q d | none => False)
  rw [e]
  exact h
theorem atI_D {α : Type} {ds : List α} {k : Int} (h0 : 0 ≤ k) (h1 : k < ds.length) : ∃ d, atI ds k = some d ∧ d ∈ ds := by
  obtain ⟨j, rfl⟩ := Int.eq_ofNat_of_zero_le h0
  have hj : j < ds.length := by omega
  exact ⟨ds[j], atI_nat (List.getElem?_eq_getElem hj), List.getElem_mem hj⟩
theorem cut_take {α : Type} {xs : List α} {n : Nat} (hn : n ≤ 1000000) : cutD xs none (some (n : Int)) = xs.take n := by
  unfold cutD
  have e1 : HT.sIx xs.length 0 none = 0 := rfl
  have e2 : HT.sIx xs.length xs.length (some (n : Int)) = min n xs.length := by
    unfold HT.sIx
    simp
    omega
  rw [e1, e2, List.drop_zero]
  simp [List.take_eq_take_min]
theorem cut_drop {α : Type} {xs : List α} {n : Nat} : cutD xs (some (n : Int)) none = xs.drop n := by
  unfold cutD
  rw [HT.sIx_none, HT.sIx_nat]
  rcases Nat.le_total n xs.length with h | h
  · rw [Nat.min_eq_left h]
    exact List.take_of_length_le (by rw [List.length_drop]; omega)
  · rw [Nat.min_eq_right h, List.drop_eq_nil_of_le (Nat.le_refl _), List.drop_eq_nil_of_le h]
    simp
theorem atI_0 {α : Type} {x : α} {xs : List α} : atI (x :: xs) 0 = some x := atI_nat (j := 0) rfl
theorem dSl_drop {xs : List D} {n : Nat} {Q : D → Prop} (h : Q (.lst (xs.drop n))) : dSl (.lst xs) (some (n : Int)) none Q := by
  unfold dSl
  dsimp only
  rw [cut_drop]
  exact h
theorem dSl_take {xs : List D} {n : Nat} {Q : D → Prop} (hn : n ≤ 1000000) (h : Q (.lst (xs.take n))) : dSl (.lst xs) none (some (n : Int)) Q := by
  unfold dSl
  dsimp only
  rw [cut_take hn]
  exact h
end Y
namespace MN
end MN
namespace Y
open PySem PySem.Spec PyProof.Rows L2 Z
abbrev n3 (a b c : Int) : D := .tup [.int a, .int b, .int c]
/-- two nets of moderate numbers -/
def okN (n : Nat) (a b c : Int) : Prop := MN.Ok a b c ∧ Sz n a ∧ Sz n c
theorem okN.mono {n m : Nat} {a b c : Int} (h : okN n a b c) (z : n ≤ m) : okN m a b c := ⟨h.1, h.2.1.mono z, h.2.2.mono z⟩
theorem okN.b {n : Nat} {a b c : Int} (h : okN n a b c) : Sz n b := sz_le h.1.2.1 (Int.le_of_lt h.1.2.2) h.2.1
/-! ### k04 -/
end Y
namespace Y
open PySem PySem.Spec PyProof.Rows L2 Z
open MN (Mat turn tr Orth comp Img)
/-! ### kinds of motions -/
def matL : List (Str × Mat) := [("none", (1, 0, 0, 1)), ("left", (0, -1, 1, 0)), ("half", (-1, 0, 0, -1)), ("right", (0, 1, -1, 0)), ("flip", (1, 0, 0, -1)), ("mirror", (-1, 0, 0, 1)), ("swap", (0, 1, 1, 0)), ("cross", (0, -1, -1, 0))]
def mat (k : Str) : Option Mat := matL.lookup k
theorem lookup_mem {α β : Type} [BEq α] [LawfulBEq α] {k : α} {v : β} : ∀ {l : List (α × β)}, l.lookup k = some v → (k, v) ∈ l
  | [], h => by cases h
  | (a, b) :: l, h => by
    rw [List.lookup_cons] at h
    cases e : k == a with
    | true =>
      rw [e] at h
      cases h
      rw [beq_iff_eq.mp e]
      exact List.mem_cons_self
    | false =>
      rw [e] at h
      exact List.mem_cons_of_mem _ (lookup_mem h)
theorem mat_mem {k : Str} {M : Mat} (h : mat k = some M) : (k, M) ∈ matL := lookup_mem h
theorem mat_cases {k : Str} {M : Mat} (h : mat k = some M) : (k = "none" ∧ M = (1, 0, 0, 1)) ∨ (k = "left" ∧ M = (0, -1, 1, 0)) ∨ (k = "half" ∧ M = (-1, 0, 0, -1)) ∨ (k = "right" ∧ M = (0, 1, -1, 0)) ∨ (k = "flip" ∧ M = (1, 0, 0, -1)) ∨ (k = "mirror" ∧ M = (-1, 0, 0, 1)) ∨ (k = "swap" ∧ M = (0, 1, 1, 0)) ∨ (k = "cross" ∧ M = (0, -1, -1, 0)) := by
  have h := mat_mem h
  unfold matL at h
  simpa only [List.mem_cons, List.not_mem_nil, or_false, Prod.mk.injEq] using h
theorem sz1 {n : Nat} {x : Int} (h : x.natAbs ≤ 1) : Sz (n + 1) x := Nat.lt_of_le_of_lt h (Nat.one_lt_two_pow (by omega))
/-! ### promises of carpets.motions -/
def R_plus : RdF := ar2 fun p q Q _ => ∃ x y u v, p = dPl x y ∧ q = dPl u v ∧ Q (dPl (x + u) (y + v))
/-! ### k09 -/
end Y
namespace Y
open PySem PySem.Spec PyProof.Rows L2 Z
theorem rngD_at {lo : Int} {n i : Nat} {d : D} (h : (rngD lo n)[i]? = some d) : i < n ∧ d = .int (lo + (i : Nat)) := by
  unfold rngD at h
  obtain ⟨j, h1, rfl⟩ := map_get h
  have hi := lt_of_get h1
  rw [List.length_range] at hi
  rw [List.getElem?_range hi] at h1
  cases h1
  exact ⟨hi, rfl⟩
end Y
namespace Y
open PySem PySem.Spec PyProof.Rows L2 Z
open MN (spotsL rowL upL Keeps Exact cellT)
/-! ### carpets -/
def chr1 (n : Nat) : Str := ⟨#[n]⟩
def ofL (l : List Nat) : Str := ⟨l.toArray⟩
theorem join_chrs : ∀ l : List Nat, Txt.join ("" : Str) (l.map chr1) = ofL l := by
  have key : ∀ l : List Nat, Str.join (Str.ofString "") (l.map chr1) = ofL l := by
    intro l
    induction l with
    | nil => rfl
    | cons x l ih =>
      cases l with
      | nil => rfl
      | cons y r =>
        show chr1 x ++ Str.ofString "" ++ Str.join (Str.ofString "") ((y :: r).map chr1) = ofL (x :: y :: r)
        rw [ih]
        show Str.mk (#[x] ++ (Str.ofString "").cps ++ (y :: r).toArray) = Str.mk _
        have : (Str.ofString "").cps = #[] := by decide +kernel
        rw [this]
        simp
  intro l
  unfold Txt.join
  rw [StrLaws.glued_eq_join]
  exact key l
theorem strsOf_str : ∀ l : List Str, strsOf (l.map D.str) = some l
  | [] => rfl
  | x :: l => by
    show (strsOf (l.map D.str)).map (x :: ·) = _
    rw [strsOf_str l]
    rfl
noncomputable def keepB (f : Int × Int → Nat) (x y : Int) : Bool := @decide (Keeps f x y) (Classical.propDecidable _)
theorem keepB_iff {f : Int × Int → Nat} {x y : Int} : keepB f x y = true ↔ Keeps f x y := by unfold keepB; exact @decide_eq_true_iff _ (Classical.propDecidable _)
theorem keepB_false {f : Int × Int → Nat} {x y : Int} : keepB f x y = false ↔ ¬ Keeps f x y := by
  rw [← keepB_iff]
  cases keepB f x y <;> simp
/-- a net of moderate size and a text with a sign for each place of its cell -/
structure okT (t : Str) (a b c : Int) : Prop where
  ok : MN.Ok a b c
  mx : a * c ≤ 5000
  ln : (t.cps.toList.length : Int) = a * c
theorem okT.a {t : Str} {a b c : Int} (h : okT t a b c) : 0 < a := by have := h.ok.2; omega
theorem okT.c {t : Str} {a b c : Int} (h : okT t a b c) : 0 < c := by have := h.ok.1; omega
theorem okT.al {t : Str} {a b c : Int} (h : okT t a b c) : a ≤ 5000 := by
  have := h.mx
  have l1 : a * 1 ≤ a * c := Int.mul_le_mul_of_nonneg_left (by have := h.c; omega) (by have := h.a; omega)
  omega
theorem okT.cl {t : Str} {a b c : Int} (h : okT t a b c) : c ≤ 5000 := by
  have := h.mx
  have l2 : 1 * c ≤ a * c := Int.mul_le_mul_of_nonneg_right (by have := h.a; omega) (by have := h.c; omega)
  omega
theorem sz13 {x : Int} (h0 : 0 ≤ x) (h : x ≤ 8000) : Sz 13 x := by
  show x.natAbs < 2 ^ 13
  have : (2 : Nat) ^ 13 = 8192 := by decide
  omega
theorem okT.sa {t : Str} {a b c : Int} (h : okT t a b c) : Sz 13 a := sz13 (by have := h.a; omega) (by have := h.al; omega)
theorem okT.sc {t : Str} {a b c : Int} (h : okT t a b c) : Sz 13 c := sz13 (by have := h.c; omega) (by have := h.cl; omega)
def colF (t : Str) (a b c : Int) : Int × Int → Nat := MN.col t.cps.toList a b c
abbrev dCar (C : Str) (a b c : Int) (t : Str) : D := .obj C ["own_net", "own_text"] [dNet a b c, .str t]
def R_minus : RdF := ar2 fun p q Q _ => ∃ x y u v, p = dPl x y ∧ q = dPl u v ∧ Q (dPl (x - u) (y - v))
def R_divisors : RdF := ar1 fun d Q _ => ∃ n : Int, d = .int n ∧ (1 ≤ n ∧ n ≤ 20000) ∧ Q (.lst ((MN.divL n).map D.int))
def R_Net_spots : RdF := ar1 fun d Q _ => ∃ a b c : Int, d = dNet a b c ∧ (MN.Ok a b c ∧ a * c ≤ 20000) ∧ Q (.lst ((spotsL a.toNat c.toNat).map plD))
def R_colour_at : RdF := ar3 fun n d p Q _ => ∃ a b c t x y, n = dNet a b c ∧ d = .str t ∧ p = dPl x y ∧ (okT t a b c ∧ Sz 4000 y) ∧ Q (.str (chr1 (colF t a b c (x, y))))
def R_is_kept : RdF := ar3 fun n d p Q _ => ∃ a b c t x y, n = dNet a b c ∧ d = .str t ∧ p = dPl x y ∧ (okT t a b c ∧ Sz 3000 y) ∧ Q (.bl (keepB (colF t a b c) x y))
def R_kept_net : RdF := ar2 fun n d Q _ => ∃ a b c t, n = dNet a b c ∧ d = .str t ∧ okT t a b c ∧ ∀ w q r, Exact (colF t a b c) w q r → w ≤ a → r ≤ c → Q (dNet w q r)
def R_least_cell : RdF := ar2 fun n d Q _ => ∃ a b c t, n = dNet a b c ∧ d = .str t ∧ okT t a b c ∧ ∀ w q r, Exact (colF t a b c) w q r → w ≤ a → r ≤ c → Q (.tup [dNet w q r, .str (ofL (cellT (colF t a b c) w r))])
/-- the carpet of f: the least net and the text of its cell -/
structure Carp (f : Int × Int → Nat) (w q r : Int) (t : Str) : Prop where
  ex : Exact f w q r
  mx : w * r ≤ 5000
  tx : t = ofL (cellT f w r)
theorem Carp.okT {f : Int × Int → Nat} {w q r : Int} {t : Str} (h : Carp f w q r t) : okT t w q r := by
  refine ⟨h.ex.1, h.mx, ?_⟩
  rw [h.tx]
  have hw : 0 < w := by have := h.ex.1.2; omega
  have hr : 0 < r := by have := h.ex.1.1; omega
  show (((cellT f w r).toArray.toList.length : Nat) : Int) = _
  rw [List.toList_toArray, MN.cellT_len]
  obtain ⟨w', rfl⟩ := Int.eq_ofNat_of_zero_le (Int.le_of_lt hw)
  obtain ⟨r', rfl⟩ := Int.eq_ofNat_of_zero_le (Int.le_of_lt hr)
  simp
theorem Carp.col {f : Int × Int → Nat} {w q r : Int} {t : Str} (h : Carp f w q r t) (p : Int × Int) : colF t w q r p = f p := by
  unfold colF
  rw [h.tx]
  show MN.col ((cellT f w r).toArray.toList) w q r p = f p
  rw [List.toList_toArray]
  exact MN.cellT_col h.ex.1 (fun x y z => (h.ex.2 x y).mp z) p
theorem carp_of {a b c w q r : Int} {t : Str} (o : Y.okT t a b c) (e : Exact (colF t a b c) w q r) (hw : w ≤ a) (hr : r ≤ c) : Carp (colF t a b c) w q r (ofL (cellT (colF t a b c) w r)) := by
  refine ⟨e, ?_, rfl⟩
  have := o.mx
  have : w * r ≤ a * c := Int.mul_le_mul hw hr (by have := e.1.1; omega) (by have := o.a; omega)
  omega
theorem sum_chr1 : ∀ l : List Nat, ((l.map chr1).map (·.length)).sum = l.length
  | [] => rfl
  | _ :: l => by
    show 1 + ((l.map chr1).map (·.length)).sum = l.length + 1
    rw [sum_chr1 l]
    omega
end Y
namespace Y
open PySem PySem.Spec PyProof.Rows L2 Z
open MN (spotsL rowL upL Keeps Exact cellT)
/-! ### blocks of letters -/
abbrev LETS : Str := "abcdefghijklmnopqrstuvwxyz"
def lowC (c : Nat) : Prop := 97 ≤ c ∧ c ≤ 122
def occ (t s : Str) : Bool := !(Builtin.Str.occurrences t s 0 t.length 1).isEmpty
theorem occ_low {c : Nat} (h : lowC c) : occ LETS ⟨#[c]⟩ = true := by
  have key : ∀ i : Fin 26, occ LETS ⟨#[97 + i.val]⟩ = true := by decide +kernel
  have := key ⟨c - 97, by have := h.1; have := h.2; omega⟩
  dsimp only at this
  rw [show 97 + (c - 97) = c by have := h.1; omega] at this
  exact this
def lowS (t : Str) : Prop := ∀ c ∈ t.cps.toList, lowC c
theorem lowS_sh {t : Str} (h : lowS t) : ∀ c ∈ t.cps.toList, c < 16 ^ 8 := fun c hc => by
  have := (h c hc).2
  have : (122 : Nat) < 16 ^ 8 := by decide
  omega
structure Blk (rs : List Str) (w : Nat) : Prop where
  n1 : 1 ≤ rs.length
  n2 : rs.length ≤ 100
  w1 : 1 ≤ w
  w2 : w ≤ 100
  mx : rs.length * w ≤ 1000
  row : ∀ r ∈ rs, r.cps.toList.length = w
  low : ∀ r ∈ rs, lowS r
def seqOf (v : D) (ds : List D) : Prop := v = .lst ds ∨ v = .tup ds
def rowTxt (rs : List Str) : Str := ofL (rs.flatMap fun r => r.cps.toList)
theorem join_rows (rs : List Str) : Txt.join ("" : Str) rs = rowTxt rs := by
  have key : ∀ l : List Str, Str.join (Str.ofString "") l = rowTxt l := by
    intro l
    induction l with
    | nil => rfl
    | cons x l ih =>
      cases l with
      | nil =>
        show x = rowTxt [x]
        unfold rowTxt ofL
        simp
      | cons y r =>
        show x ++ Str.ofString "" ++ Str.join (Str.ofString "") (y :: r) = rowTxt (x :: y :: r)
        rw [ih]
        show Str.mk (x.cps ++ (Str.ofString "").cps ++ ((y :: r).flatMap fun r => r.cps.toList).toArray) = Str.mk _
        have : (Str.ofString "").cps = #[] := by decide +kernel
        rw [this]
        apply congrArg Str.mk
        apply Array.ext'
        simp
  unfold Txt.join
  rw [StrLaws.glued_eq_join]
  exact key rs
theorem flat_len {w : Nat} : ∀ {rs : List Str}, (∀ r ∈ rs, r.cps.toList.length = w) → (rs.flatMap fun r => r.cps.toList).length = rs.length * w
  | [], _ => by simp
  | r :: rs, h => by
    rw [List.flatMap_cons, List.length_append, flat_len (fun x hx => h x (List.mem_cons_of_mem _ hx)), h r List.mem_cons_self, List.length_cons, Nat.add_mul]
    omega
theorem flat_get {w : Nat} : ∀ {rs : List Str} {y x : Nat} {r : Str}, (∀ r ∈ rs, r.cps.toList.length = w) → rs[y]? = some r → x < w → (rs.flatMap fun r => r.cps.toList)[y * w + x]? = r.cps.toList[x]?
  | [], y, x, r, h, e, hx => by cases e
  | q :: rs, 0, x, r, h, e, hx => by
    have e' : q = r := by simpa using e
    subst e'
    rw [List.flatMap_cons, Nat.zero_mul, Nat.zero_add, List.getElem?_append_left (by rw [h q List.mem_cons_self]; exact hx)]
  | q :: rs, y + 1, x, r, h, e, hx => by
    have hq := h q List.mem_cons_self
    rw [List.flatMap_cons, List.getElem?_append_right (by rw [hq, Nat.add_mul]; omega), hq, show (y + 1) * w + x - w = y * w + x by rw [Nat.add_mul]; omega]
    exact flat_get (fun x hx => h x (List.mem_cons_of_mem _ hx)) (by simpa using e) hx
theorem rowTxt_ln {rs : List Str} {w : Nat} (h : ∀ r ∈ rs, r.cps.toList.length = w) : (rowTxt rs).cps.toList.length = rs.length * w := by
  show ((rs.flatMap fun r => r.cps.toList).toArray.toList).length = _
  rw [List.toList_toArray, flat_len h]
theorem Blk.okT {rs : List Str} {w : Nat} (h : Blk rs w) (sh : Int) : okT (rowTxt rs) w (sh % w) rs.length := by
  have h1 := h.n1
  have h2 := h.w1
  refine ⟨⟨by omega, Int.emod_nonneg _ (by omega), Int.emod_lt_of_pos _ (by omega)⟩, ?_, ?_⟩
  · have := h.mx
    have e : ((w : Nat) : Int) * ((rs.length : Nat) : Int) = ((rs.length * w : Nat) : Int) := by rw [Int.natCast_mul, Int.mul_comm]
    omega
  · rw [rowTxt_ln h.row, Int.natCast_mul, Int.mul_comm]
/-- the colours of a block -/
def blkF (rs : List Str) (w : Nat) (sh : Int) : Int × Int → Nat := colF (rowTxt rs) w (sh % w) rs.length
theorem blkF_eq {rs : List Str} {w : Nat} (h : Blk rs w) (sh x y : Int) : ∃ r c, rs[(y - y / rs.length * rs.length).toNat]? = some r ∧ r.cps.toList[((x - sh * (y / rs.length)) % w).toNat]? = some c ∧ blkF rs w sh (x, y) = c ∧ r ∈ rs := by
  have h1 := h.n1
  have h2 := h.w1
  have hn : (0 : Int) < rs.length := by omega
  have hw : (0 : Int) < w := by omega
  have ey : y - y / rs.length * rs.length = y % rs.length := by
    have := Int.emod_add_mul_ediv y rs.length
    rw [Int.mul_comm] at this
    omega
  have y0 := Int.emod_nonneg y (show (rs.length : Int) ≠ 0 by omega)
  have y1 := Int.emod_lt_of_pos y hn
  have x0 := Int.emod_nonneg (x - sh * (y / rs.length)) (show (w : Int) ≠ 0 by omega)
  have x1 := Int.emod_lt_of_pos (x - sh * (y / rs.length)) hw
  have ex : (x - y / rs.length * (sh % w)) % w = (x - sh * (y / rs.length)) % w := by
    have e := Int.emod_add_mul_ediv sh w
    have : x - y / rs.length * (sh % w) = (x - sh * (y / rs.length)) + (w : Int) * (sh / w * (y / rs.length)) := by
      have e2 : sh * (y / rs.length) = (sh % w) * (y / rs.length) + (w : Int) * (sh / w) * (y / rs.length) := by rw [← Int.add_mul, e]
      rw [e2, Int.mul_comm (y / rs.length) (sh % w), Int.mul_assoc]
      omega
    rw [this, Int.add_mul_emod_self_left]
  have hy : (y - y / rs.length * rs.length).toNat < rs.length := by omega
  obtain ⟨r, hr⟩ : ∃ r, rs[(y - y / rs.length * rs.length).toNat]? = some r := ⟨_, List.getElem?_eq_getElem hy⟩
  have hm : r ∈ rs := List.mem_of_getElem? hr
  have hx : ((x - sh * (y / rs.length)) % w).toNat < w := by omega
  obtain ⟨c, hc⟩ : ∃ c, r.cps.toList[((x - sh * (y / rs.length)) % w).toNat]? = some c := ⟨_, List.getElem?_eq_getElem (by rw [h.row _ hm]; exact hx)⟩
  refine ⟨r, c, hr, hc, ?_, hm⟩
  unfold blkF colF MN.col MN.low rowTxt ofL
  dsimp only
  rw [ex]
  have et : ((y - y / rs.length * rs.length) * w + (x - sh * (y / rs.length)) % w).toNat = (y - y / rs.length * rs.length).toNat * w + ((x - sh * (y / rs.length)) % w).toNat := by
    have p0 : 0 ≤ (y - y / rs.length * rs.length) * (w : Int) := Int.mul_nonneg (by omega) (by omega)
    rw [Int.toNat_add p0 x0, Int.toNat_mul (by omega) (by omega), Int.toNat_natCast]
  rw [et, List.getD_eq_getElem?_getD, flat_get h.row hr hx, hc]
  rfl
theorem blkF_low {rs : List Str} {w : Nat} (h : Blk rs w) (sh : Int) (p : Int × Int) : lowC (blkF rs w sh p) := by
  obtain ⟨r, c, _, e2, e3, hm⟩ := blkF_eq h sh p.1 p.2
  rw [show blkF rs w sh p = c from e3]
  exact h.low r hm c (List.mem_of_getElem? e2)
/-! ### rows of a text -/
/-! ### contracts -/
def R_Carpet_net (cs : List Str) : RdF := ar1 fun d Q _ => ∃ C a b c t, d = dCar C a b c t ∧ C ∈ cs ∧ Q (dNet a b c)
def R_Carpet_text (cs : List Str) : RdF := ar1 fun d Q _ => ∃ C a b c t, d = dCar C a b c t ∧ C ∈ cs ∧ Q (.str t)
def R_Carpet_seen (cs : List Str) : RdF := ar2 fun d p Q _ => ∃ C a b c t x y, d = dCar C a b c t ∧ C ∈ cs ∧ p = dPl x y ∧ (okT t a b c ∧ Sz 4000 y) ∧ Q (.str (chr1 (colF t a b c (x, y))))
def R_Carpet_UlenU (cs : List Str) : RdF := ar1 fun d Q _ => ∃ C a b c t, d = dCar C a b c t ∧ C ∈ cs ∧ okT t a b c ∧ Q (.int (a * c))
theorem slen (t : Str) : t.length = t.cps.toList.length := by rw [Array.length_toList]; rfl
theorem strs_shP {n : Nat} : ∀ {l : List Str}, (∀ r ∈ l, lowS r) → shPs n (l.map D.str)
  | [], _ => trivial
  | x :: l, h => ⟨lowS_sh (h x List.mem_cons_self), strs_shP fun r hr => h r (List.mem_cons_of_mem _ hr)⟩
theorem strs_depth : ∀ {l : List Str}, PyData.depthAll (toPs (l.map D.str)) ≤ 1
  | [] => by simp [toPs, PyData.depthAll]
  | x :: l => by
    have := strs_depth (l := l)
    simp [toPs, toP, PyData.depthAll, PyData.depth] at this ⊢
    omega
end Y
namespace Y
open PySem PySem.Spec PyProof.Rows L2 Z
open MN (spotsL rowL upL Keeps Exact cellT)
theorem Carp.low {rs : List Str} {w0 : Nat} {sh w q r : Int} {t : Str} (hb : Blk rs w0) (h : Carp (blkF rs w0 sh) w q r t) : lowS t := by
  intro c hc
  rw [h.tx] at hc
  unfold ofL cellT at hc
  rw [List.toList_toArray] at hc
  obtain ⟨p, _, rfl⟩ := List.mem_map.mp hc
  exact blkF_low hb sh p
theorem Carp.bnd {rs : List Str} {w0 : Nat} {sh w q r : Int} {t : Str} (hb : Blk rs w0) (h : Carp (blkF rs w0 sh) w q r t) (hw : w ≤ w0) (hr : r ≤ rs.length) : (0 < w ∧ w ≤ 100) ∧ (0 < r ∧ r ≤ 100) ∧ w * r ≤ 1000 := by
  have o := h.okT
  have := hb.n2
  have := hb.w2
  refine ⟨⟨o.a, by omega⟩, ⟨o.c, by omega⟩, ?_⟩
  have m : w * r ≤ (w0 : Int) * (rs.length : Int) := Int.mul_le_mul hw hr (by have := o.c; omega) (by omega)
  have := hb.mx
  have e : (w0 : Int) * (rs.length : Int) = ((rs.length * w0 : Nat) : Int) := by rw [Int.natCast_mul, Int.mul_comm]
  omega
theorem bulk_strs {a : Nat} : ∀ l : List Str, (∀ r ∈ l, r.cps.toList.length = a) → PyData.bulkAll (toPs (l.map D.str)) = l.length * a + l.length := by
  intro l
  induction l with
  | nil => intro _; simp [toPs, PyData.bulkAll]
  | cons x l ih =>
    intro h
    show x.cps.size + 1 + PyData.bulkAll (toPs (l.map D.str)) = _
    rw [ih (fun r hr => h r (List.mem_cons_of_mem _ hr))]
    have := h x List.mem_cons_self
    rw [Array.length_toList] at this
    rw [this, List.length_cons, Nat.add_mul]
    omega
theorem Blk.sh {rs : List Str} {w : Nat} (h : Blk rs w) : shP 0 (.lst (rs.map D.str)) ∧ (toP (.lst (rs.map D.str))).bulk ≤ 8000 ∧ (toP (.lst (rs.map D.str))).depth ≤ 40 := by
  refine ⟨strs_shP h.low, ?_, ?_⟩
  · show PyData.bulkAll (toPs (rs.map D.str)) ≤ 8000
    rw [bulk_strs rs h.row]
    have := h.mx
    have := h.n2
    omega
  · show PyData.depthAll (toPs (rs.map D.str)) + 1 ≤ 40
    have := strs_depth (l := rs)
    omega
theorem Blk.zero {rs : List Str} {w : Nat} (h : Blk rs w) : ∃ r0 c, atI (rs.map D.str) 0 = some (.str r0) ∧ r0.length ≤ 100000 ∧ atI r0.cps.toList 0 = some c ∧ blkF rs w 0 (0, (rs.length : Int)) = c := by
  have n1 := h.n1
  have w1 := h.w1
  obtain ⟨r, c, e1, e2, e3, hm⟩ := blkF_eq h 0 0 rs.length
  have e : (rs.length : Int) / (rs.length : Int) = 1 := Int.ediv_self (by omega)
  rw [e] at e1 e2
  have i0 : ((rs.length : Int) - 1 * (rs.length : Int)).toNat = 0 := by omega
  have j0 : ((0 - 0 * 1 : Int) % (w : Int)).toNat = 0 := by simp
  rw [i0] at e1
  rw [j0] at e2
  refine ⟨r, c, atI_nat (j := 0) (by rw [List.getElem?_map, e1]; rfl), ?_, atI_nat (j := 0) e2, e3⟩
  rw [slen, h.row r hm]
  have := h.w2
  omega
end Y
namespace MN
/-! ### motions: a turn, then a shift -/
abbrev Mtn := Mat × Int × Int
def mmul (m n : Mtn) : Mtn := (comp m.1 n.1, (turn n.1 m.2).1 + n.2.1, (turn n.1 m.2).2 + n.2.2)
def mone : Mtn := ((1, 0, 0, 1), 0, 0)
def minv (m : Mtn) : Mtn := (tr m.1, -(turn (tr m.1) m.2).1, -(turn (tr m.1) m.2).2)
def mapp (m : Mtn) (p : Int × Int) : Int × Int := ((turn m.1 p).1 + m.2.1, (turn m.1 p).2 + m.2.2)
/-! ### powers -/
def npow (m : Mtn) : Nat → Mtn
  | 0 => mone
  | n + 1 => mmul (npow m n) m
def zpow (m : Mtn) (n : Int) : Mtn := if 0 ≤ n then npow m n.toNat else npow (minv m) n.natAbs
/-! ### sizes -/
def nrm (p : Int × Int) : Nat := p.1.natAbs + p.2.natAbs
end MN
namespace Y
open PySem PySem.Spec PyProof.Rows L2 Z
open MN (Mat Mtn turn tr Orth comp mmul mone minv mapp npow zpow nrm)
theorem nrm_turn {k : Str} {M : Mat} (h : mat k = some M) (p : Int × Int) : nrm (turn M p) = nrm p := by
  rcases mat_cases h with ⟨rfl, rfl⟩ | ⟨rfl, rfl⟩ | ⟨rfl, rfl⟩ | ⟨rfl, rfl⟩ | ⟨rfl, rfl⟩ | ⟨rfl, rfl⟩ | ⟨rfl, rfl⟩ | ⟨rfl, rfl⟩ <;> (simp only [nrm, turn]; omega)
/-- a motion of moderate shift, and its kind -/
structure okK (n : Nat) (k : Str) (m : Mtn) : Prop where
  mt : mat k = some m.1
  sz : nrm m.2 < 2 ^ n
theorem okK.mono {n n' : Nat} {k : Str} {m : Mtn} (h : okK n k m) (z : n ≤ n') : okK n' k m := ⟨h.mt, Nat.lt_of_lt_of_le h.sz (Nat.pow_le_pow_right (by decide) z)⟩
theorem okK.x {n : Nat} {k : Str} {m : Mtn} (h : okK n k m) : Sz n m.2.1 := Nat.lt_of_le_of_lt (Nat.le_add_right _ _) h.sz
theorem okK.y {n : Nat} {k : Str} {m : Mtn} (h : okK n k m) : Sz n m.2.2 := Nat.lt_of_le_of_lt (Nat.le_add_left _ _) h.sz
theorem nrm_add (p q : Int × Int) : nrm (p.1 + q.1, p.2 + q.2) ≤ nrm p + nrm q := by
  unfold nrm
  dsimp only
  omega
theorem nrm_mul {l : Str} {m n : Mtn} (h : mat l = some n.1) : nrm (mmul m n).2 ≤ nrm m.2 + nrm n.2 := by
  have := nrm_add (turn n.1 m.2) n.2
  rw [nrm_turn h] at this
  exact this
theorem pow2 (n : Nat) : (2 : Nat) ^ (n + 1) = 2 ^ n + 2 ^ n := by rw [Nat.pow_succ]; omega
theorem okK.mul {a : Nat} {k l t : Str} {m n : Mtn} (h : okK a k m) (h' : okK a l n) (ht : mat t = some (mmul m n).1) : okK (a + 1) t (mmul m n) := ⟨ht, by
  have := nrm_mul (m := m) h'.mt
  have := h.sz
  have := h'.sz
  have := pow2 a
  omega⟩
/-! ### promises -/
/-! ### texts -/
end Y
namespace MN
/-! ### motions that keep a net and colours -/
theorem keeps_span {f : Int × Int → Nat} {a b c : Int} (h1 : Keeps f a 0) (h2 : Keeps f b c) : ∀ x y, InN a b c x y → Keeps f x y := by
  rintro x y ⟨m, k, rfl, rfl⟩
  have := keeps_add (keeps_mul h1 m) (keeps_mul h2 k)
  rw [Int.mul_zero, Int.zero_add] at this
  exact this
end MN
namespace Y
open PySem PySem.Spec PyProof.Rows L2 Z
open MN (spotsL rowL upL Keeps Exact cellT)
/-! ### helpers -/
theorem dIx_s {t : Str} {i : Int} {x : Nat} {Q : D → Prop} (hl : t.cps.toList.length ≤ 100000) (e : atI t.cps.toList i = some x) (h : Q (.str (chr1 x))) : dIx (.str t) (.int i) Q := by
  show t.length ≤ 100000 ∧ (match atI t.cps.toList i with | some c => Q (.str ⟨#[c]⟩) | none => False)
  rw [e, slen]
  exact ⟨hl, h⟩
theorem okT.tl {t : Str} {a b c : Int} (o : Y.okT t a b c) : t.cps.toList.length ≤ 100000 := by
  have := o.ln
  have := o.mx
  omega
theorem join_ok {l : List Nat} {Q : D → Prop} (hl : l.length ≤ 100000) (h : Q (.str (ofL l))) : dJoin (.str ("" : Str)) (.lst (l.map fun x => D.str (chr1 x))) Q := by
  have e : (l.map fun x => D.str (chr1 x)) = (l.map chr1).map D.str := by rw [List.map_map]; rfl
  rw [e]
  show (match strsOf ((l.map chr1).map D.str) with | some ys => (ys.map (·.length)).sum + ys.length * ("" : Str).length ≤ 100000 ∧ Q (.str (Txt.join ("" : Str) ys)) | none => False)
  rw [strsOf_str]
  have e2 : ("" : Str).length = 0 := by decide +kernel
  refine ⟨?_, ?_⟩
  · rw [sum_chr1, e2, Nat.mul_zero]
    exact hl
  · rw [join_chrs]
    exact h
theorem spots_ln {t : Str} {a b c : Int} (o : Y.okT t a b c) : ((spotsL a.toNat c.toNat).length : Int) = a * c := by
  have a0 := o.a
  have c0 := o.c
  obtain ⟨a', rfl⟩ := Int.eq_ofNat_of_zero_le (Int.le_of_lt a0)
  obtain ⟨c', rfl⟩ := Int.eq_ofNat_of_zero_le (Int.le_of_lt c0)
  rw [MN.spotsL_len, Int.toNat_natCast, Int.toNat_natCast, Int.natCast_mul]
theorem spots_le {t : Str} {a b c : Int} (o : Y.okT t a b c) : (spotsL a.toNat c.toNat).length ≤ 5000 := by
  have := spots_ln o
  have := o.mx
  omega
theorem col_mem {t : Str} {a b c : Int} (o : Y.okT t a b c) (p : Int × Int) : colF t a b c p ∈ t.cps.toList := by
  obtain ⟨r1, r2, r3, r4⟩ := MN.low_rng (a := a) (b := b) (c := c) (x := p.1) (y := p.2) o.a o.c
  have i0 : 0 ≤ (MN.low a b c p.1 p.2).2 * a + (MN.low a b c p.1 p.2).1 := Int.add_nonneg (Int.mul_nonneg r3 (by have := o.a; omega)) r1
  have i1 : (MN.low a b c p.1 p.2).2 * a + (MN.low a b c p.1 p.2).1 < a * c := by
    have h1 : ((MN.low a b c p.1 p.2).2 + 1) * a ≤ c * a := Int.mul_le_mul_of_nonneg_right (by omega) (by have := o.a; omega)
    rw [Int.add_mul, Int.one_mul, Int.mul_comm c a] at h1
    omega
  unfold colF MN.col
  have hl : ((MN.low a b c p.1 p.2).2 * a + (MN.low a b c p.1 p.2).1).toNat < t.cps.toList.length := by have := o.ln; omega
  rw [List.getD_eq_getElem?_getD, List.getElem?_eq_getElem hl]
  exact List.getElem_mem hl
theorem mapI_fun {α : Type} {tg : Tg} {re : Rd} {ρ : Ev} {xs : List α} {f g : α → D} {Q : List D → Prop} (h : ∀ x ∈ xs, ∀ k : D → Prop, k (g x) → tgD tg (f x) ρ fun ρ2 => re ρ2 k) (hq : Q (xs.map g)) : mapI tg rYes re ρ (xs.map f) Q := by
  refine ⟨fun i acc => acc = (xs.take i).map g, rfl, fun i d acc hd hj => ?_, fun out hj => ?_⟩
  · obtain ⟨x, hx, rfl⟩ := map_get hd
    have z := h x (List.mem_of_getElem? hx) (fun y => acc ++ [y] = (xs.take (i + 1)).map g) (by rw [hj, List.take_succ, hx, List.map_append]; rfl)
    have key : ∀ (tg : Tg) (d : D) (q q' : Ev → Prop), (∀ ρ, q ρ → q' ρ) → tgD tg d ρ q → tgD tg d ρ q' := by
      intro tg d q q' hq
      have st : ∀ (is : List Nat) (ds : List D) (ρ : Ev), stN is ds ρ q → stN is ds ρ q' := by
        intro is
        induction is with
        | nil => intro ds ρ z; cases ds with
          | nil => exact hq _ z
          | cons _ _ => exact z
        | cons i is ih => intro ds ρ z; cases ds with
          | nil => exact z
          | cons d ds => exact ih ds _ z
      cases tg with
      | nm i => exact fun z => hq _ z
      | tp is => cases d <;> first | exact fun z => st _ _ _ z | exact fun z => z
    exact key _ _ _ _ (fun ρ2 z2 => ifB_T rfl z2) z
  · rw [List.length_map, List.take_length] at hj
    rw [hj]
    exact hq
/-! ### drawn carpets: a net and a text of its cell -/
def letSets : List Str := ["ab", "abc", "az", "qrb"]
def lets (t : Str) : Prop := ∃ s ∈ letSets, ∀ x ∈ t.cps.toList, x ∈ s.cps.toList
theorem lets_low {t : Str} (h : lets t) : lowS t := by
  obtain ⟨s, hs, h⟩ := h
  intro c hc
  have key : ∀ s ∈ letSets, ∀ c ∈ s.cps.toList, 97 ≤ c ∧ c ≤ 122 := by decide +kernel
  exact key s hs c (h c hc)
abbrev wovD (a b c : Int) (t : Str) : D := .tup [n3 a b c, .str t]
/-- a drawn carpet of at most n places -/
structure Wv (n : Int) (a b c : Int) (t : Str) : Prop where
  ok : MN.Ok a b c
  mx : a * c ≤ n
  ln : (t.cps.toList.length : Int) = a * c
  le : lets t
theorem Wv.okT {n a b c : Int} {t : Str} (h : Wv n a b c t) (hn : n ≤ 5000) : okT t a b c := ⟨h.ok, by have := h.mx; omega, h.ln⟩
def carCs : List Str := ["Carpet", "Woven"]
/-! ### carpets of both classes -/
def R_Woven_UinitU : RdF := ar2 fun n d Q _ => ∃ a b c t, n = dNet a b c ∧ d = .str t ∧ okT t a b c ∧ ∀ w q r t', Carp (colF t a b c) w q r t' → w ≤ a → r ≤ c → Q (dCar "Woven" w q r t')
def R_Carpet_eq2 (cs : List Str) : RdF := ar2 fun d v Q _ => ∃ C a b c t, d = dCar C a b c t ∧ C ∈ carCs ∧ ((∃ C' a' b' c' t', v = dCar C' a' b' c' t' ∧ C' ∈ carCs ∧ Q (.bl (decide ((a = a' ∧ b = b' ∧ c = c') ∧ t = t')))) ∨ (knD v ∧ Q (.bl false)) ∨ (∃ x ns ds, v = .obj x ns ds ∧ x ∈ cs ∧ ¬ x ∈ carCs ∧ Q (.bl false)))
theorem R_Carpet_UeqU_sym {cs : List Str} : ∀ x y Q E, R_Carpet_eq2 cs [x, y] Q E → ∀ ns ds, y = .obj "Woven" ns ds → R_Carpet_eq2 cs [y, x] Q E := by
  rintro x y Q E ⟨C, a, b, c, t, rfl, hC, h⟩ ns ds rfl
  rcases h with ⟨C', a', b', c', t', e, hC', h⟩ | ⟨h, _⟩ | ⟨x, ns, ds, e, _, h, _⟩
  · cases e
    refine ⟨_, a', b', c', t', rfl, hC', .inl ⟨C, a, b, c, t, rfl, hC, ?_⟩⟩
    have : decide ((a' = a ∧ b' = b ∧ c' = c) ∧ t' = t) = decide ((a = a' ∧ b = b' ∧ c = c') ∧ t = t') := decide_eq_decide.mpr ⟨fun ⟨⟨z1, z2, z3⟩, z4⟩ => ⟨⟨z1.symm, z2.symm, z3.symm⟩, z4.symm⟩, fun ⟨⟨z1, z2, z3⟩, z4⟩ => ⟨⟨z1.symm, z2.symm, z3.symm⟩, z4.symm⟩⟩
    rw [this]
    exact h
  · exact h.elim
  · cases e
    exact absurd (show ("Woven" : Str) ∈ carCs from .tail _ (.head _)) h
end Y
namespace Y
open PySem PySem.Spec PyProof.Rows L2 Z
open MN (spotsL rowL upL Keeps Exact cellT)
/-! ### dicts from places to letters -/
/-- so many different things of a list -/
theorem nodup_le {α : Type} [DecidableEq α] : ∀ {l m : List α}, l.Nodup → (∀ x ∈ l, x ∈ m) → l.length ≤ m.length
  | [], _, _, _ => Nat.zero_le _
  | x :: l, m, hn, hm => by
    have hx := hm x List.mem_cons_self
    have hn' := List.nodup_cons.mp hn
    have := nodup_le (l := l) (m := m.erase x) hn'.2 fun y hy => (List.mem_erase_of_ne (fun (e : y = x) => hn'.1 (e ▸ hy))).mpr (hm y (List.mem_cons_of_mem _ hy))
    rw [List.length_erase_of_mem hx] at this
    have : 0 < m.length := List.length_pos_of_mem hx
    rw [List.length_cons]
    omega
theorem v_ {ρ : Ev} {i : Nat} {d : D} {Q : D → Prop} (e : ρ[i]? = some (.val d)) (h : Q d) : rVar i ρ Q := by
  unfold rVar
  rw [e]
  exact h
/-- each item with an answer that only some promise binds -/
theorem mapI_rel {α β : Type} {tg : Tg} {re : Rd} {ρ : Ev} {xs : List α} {f : α → D} {g : β → D} {R : α → β → Prop} {Q : List D → Prop} (h : ∀ x ∈ xs, ∀ k : D → Prop, (∀ y, R x y → k (g y)) → tgD tg (f x) ρ fun ρ2 => re ρ2 k) (hq : ∀ ys : List β, ys.length = xs.length → (∀ (i : Nat) x y, xs[i]? = some x → ys[i]? = some y → R x y) → Q (ys.map g)) : mapI tg rYes re ρ (xs.map f) Q := by
  refine ⟨fun i acc => i ≤ xs.length ∧ ∃ ys : List β, ys.length = i ∧ (∀ (j : Nat) x y, xs[j]? = some x → ys[j]? = some y → R x y) ∧ acc = ys.map g, ⟨Nat.zero_le _, [], rfl, fun j x y _ h => by simp at h, rfl⟩, fun i d acc hd hj => ?_, fun out hj => ?_⟩
  · obtain ⟨x, hx, rfl⟩ := map_get hd
    obtain ⟨hi, ys, y1, y2, rfl⟩ := hj
    have hi2 := lt_of_get hx
    have z := h x (List.mem_of_getElem? hx) (fun y => i + 1 ≤ xs.length ∧ ∃ ys' : List β, ys'.length = i + 1 ∧ (∀ (j : Nat) x y, xs[j]? = some x → ys'[j]? = some y → R x y) ∧ ys.map g ++ [y] = ys'.map g) (fun y hy => ⟨hi2, ys ++ [y], by simp [y1], fun j x' y' h1 h2 => ?_, by simp⟩)
    · have key : ∀ (tg : Tg) (d : D) (q q' : Ev → Prop), (∀ ρ, q ρ → q' ρ) → tgD tg d ρ q → tgD tg d ρ q' := by
        intro tg d q q' hq
        have st : ∀ (is : List Nat) (ds : List D) (ρ : Ev), stN is ds ρ q → stN is ds ρ q' := by
          intro is
          induction is with
          | nil => intro ds ρ z; cases ds with
            | nil => exact hq _ z
            | cons _ _ => exact z
          | cons i is ih => intro ds ρ z; cases ds with
            | nil => exact z
            | cons d ds => exact ih ds _ z
        cases tg with
        | nm i => exact fun z => hq _ z
        | tp is => cases d <;> first | exact fun z => st _ _ _ z | exact fun z => z
      exact key _ _ _ _ (fun ρ2 z2 => ifB_T rfl z2) z
    · rcases Nat.lt_or_ge j ys.length with z | z
      · rw [List.getElem?_append_left z] at h2
        exact y2 j x' y' h1 h2
      · have hj : j = ys.length := by
          have := lt_of_get h2
          simp at this
          omega
        subst hj
        rw [List.getElem?_append_right (Nat.le_refl _)] at h2
        have e1 : y = y' := by simpa using h2
        rw [y1, hx] at h1
        have e2 := Option.some.inj h1
        subst e1 e2
        exact hy
  · rw [List.length_map] at hj
    obtain ⟨_, ys, y1, y2, rfl⟩ := hj
    exact hq ys y1 y2
end Y
namespace Y
open PySem PySem.Spec PyProof.Rows L2 Z
open MN (spotsL rowL upL Keeps Exact cellT)
/-! ### equal carpets -/
theorem carp_uni {f : Int × Int → Nat} {w q r w' q' r' : Int} {t t' : Str} (h : Carp f w q r t) (h' : Carp f w' q' r' t') : w = w' ∧ q = q' ∧ r = r' ∧ t = t' := by
  obtain ⟨rfl, rfl, rfl⟩ := MN.exact_uni h.ex h'.ex
  exact ⟨rfl, rfl, rfl, h.tx.trans h'.tx.symm⟩
/-- a drawn carpet and what the package made of it -/
abbrev Ent := (Int × Int × Int × Str) × (Str × Int × Int × Int × Str)
structure EntOk (n : Int) (e : Ent) : Prop where
  wv : Wv n e.1.1 e.1.2.1 e.1.2.2.1 e.1.2.2.2
  cl : e.2.1 ∈ carCs
  cp : Carp (colF e.1.2.2.2 e.1.1 e.1.2.1 e.1.2.2.1) e.2.2.1 e.2.2.2.1 e.2.2.2.2.1 e.2.2.2.2.2
/-- what is made of a drawn carpet is small -/
theorem Wv.bnd {n a b c w q r : Int} {t u : Str} (W : Wv n a b c t) (hn : n ≤ 5000) (cp : Carp (colF t a b c) w q r u) (hw : w ≤ a) (hr : r ≤ c) : (w ≤ n ∧ r ≤ n ∧ w * r ≤ n) ∧ lowS u ∧ (a ≤ n ∧ c ≤ n) := by
  have o := W.okT hn
  have o2 := cp.okT
  have m : w * r ≤ a * c := Int.mul_le_mul hw hr (by have := o2.c; omega) (by have := o.a; omega)
  have := W.mx
  have l1 : w * 1 ≤ w * r := Int.mul_le_mul_of_nonneg_left (by have := o2.c; omega) (by have := o2.a; omega)
  have l2 : 1 * r ≤ w * r := Int.mul_le_mul_of_nonneg_right (by have := o2.a; omega) (by have := o2.c; omega)
  have l3 : a * 1 ≤ a * c := Int.mul_le_mul_of_nonneg_left (by have := o.c; omega) (by have := o.a; omega)
  have l4 : 1 * c ≤ a * c := Int.mul_le_mul_of_nonneg_right (by have := o.a; omega) (by have := o.c; omega)
  refine ⟨⟨by omega, by omega, by omega⟩, fun x hx => ?_, by omega, by omega⟩
  rw [cp.tx] at hx
  unfold ofL MN.cellT at hx
  rw [List.toList_toArray] at hx
  obtain ⟨p, _, rfl⟩ := List.mem_map.mp hx
  exact lets_low W.le _ (col_mem o p)
theorem Wv.ac {n a b c : Int} {t : Str} (W : Wv n a b c t) : 0 < a ∧ 0 < c ∧ a ≤ n ∧ c ≤ n := by
  have a0 : 0 < a := by have := W.ok.2; omega
  have c0 : 0 < c := by have := W.ok.1; omega
  have := W.mx
  have l3 : a * 1 ≤ a * c := Int.mul_le_mul_of_nonneg_left (by omega) (by omega)
  have l4 : 1 * c ≤ a * c := Int.mul_le_mul_of_nonneg_right (by omega) (by omega)
  omega
theorem low_self {a b c x y : Int} (x0 : 0 ≤ x) (x1 : x < a) (y0 : 0 ≤ y) (y1 : y < c) : MN.low a b c x y = (x, y) := by
  unfold MN.low
  rw [Int.ediv_eq_zero_of_lt y0 y1]
  simp [Int.emod_eq_of_lt x0 x1]
end Y
namespace Y
open PySem PySem.Spec PyProof.Rows L2 Z
open MN (spotsL rowL upL Keeps Exact cellT Mtn mapp minv mmul turn tr Orth Img)
/-! ### carpets that are moved -/
theorem okT_cell {g : Int × Int → Nat} {a b c : Int} (ok : MN.Ok a b c) (mx : a * c ≤ 5000) : Y.okT (ofL (cellT g a c)) a b c := by
  refine ⟨ok, mx, ?_⟩
  have a0 : 0 < a := by have := ok.2; omega
  have c0 : 0 < c := by have := ok.1; omega
  show (((cellT g a c).toArray.toList.length : Nat) : Int) = _
  rw [List.toList_toArray, MN.cellT_len, Int.natCast_mul]
  have e1 : ((a.toNat : Nat) : Int) = a := by omega
  have e2 : ((c.toNat : Nat) : Int) = c := by omega
  rw [e1, e2]
theorem col_cell {g : Int × Int → Nat} {a b c : Int} (ok : MN.Ok a b c) (k : ∀ x y, MN.InN a b c x y → Keeps g x y) : colF (ofL (cellT g a c)) a b c = g := by
  funext p
  unfold colF ofL
  rw [List.toList_toArray]
  exact MN.cellT_col ok k p
/-- join of what g tells of the places of a cell -/
theorem join_cell {g : Int × Int → Nat} {a b c : Int} {Q : D → Prop} (ok : MN.Ok a b c) (mx : a * c ≤ 5000) (h : Q (.str (ofL (cellT g a c)))) : dJoin (.str ("" : Str)) (.lst ((spotsL a.toNat c.toNat).map fun p => D.str (chr1 (g p)))) Q := by
  have e : ((spotsL a.toNat c.toNat).map fun p => D.str (chr1 (g p))) = (cellT g a c).map fun x => D.str (chr1 x) := by
    unfold cellT
    rw [List.map_map]
    rfl
  rw [e]
  refine join_ok ?_ h
  have := spots_le (okT_cell (g := g) ok mx)
  rw [cellT, List.length_map]
  omega
theorem okT.keep {t : Str} {a b c x y : Int} (o : Y.okT t a b c) (z : MN.InN a b c x y) : Keeps (colF t a b c) x y := MN.keeps_net o.ok z
def shF (f : Int × Int → Nat) (x y : Int) : Int × Int → Nat := fun p => f (p.1 - x, p.2 - y)
theorem keeps_sh {f : Int × Int → Nat} {u v x y : Int} (h : Keeps f x y) : Keeps (shF f u v) x y := fun p => by
  have := h (p.1 - u, p.2 - v)
  unfold shF
  dsimp only at *
  rw [show p.1 + x - u = p.1 - u + x by omega, show p.2 + y - v = p.2 - v + y by omega]
  exact this
def R_Carpet_UaddU : RdF := ar2 fun d s Q _ => ∃ C w q r t x y, d = dCar C w q r t ∧ s = dPl x y ∧ (C ∈ carCs ∧ okT t w q r ∧ Sz 3000 y) ∧ ∀ w' q' r' t', Carp (shF (colF t w q r) x y) w' q' r' t' → w' ≤ w → r' ≤ r → Q (dCar "Woven" w' q' r' t')
end Y
namespace GX
open PySem PySem.Spec PyProof.Rows L2 GenW Z Y
section
variable {P : Program} {w : World} {K : Frg} {mg : Str → Option Value} {base : Heap}
end
/-- the index of an item, its place -/
def spI (a C : Nat) (r : Nat) : Int × Int := ((((C * a - 1 - r) % a : Nat) : Int), (((C * a - 1 - r) / a : Nat) : Int))
theorem spI_of {a C : Nat} : ∀ r j q x y : Nat, r = j + q * a → x + (j + 1) = a → y + 1 + q = C → spI a C r = ((x : Int), (y : Int)) := fun r j q x y h1 h2 h3 => by
  have e : C * a - 1 - r = x + y * a := by
    subst h3
    rw [Nat.add_mul, Nat.add_mul, Nat.one_mul]
    omega
  have hx : x < a := by omega
  unfold spI
  rw [e, Nat.add_mul_mod_self_right, Nat.mod_eq_of_lt hx, Nat.add_mul_div_right _ _ (by omega), Nat.div_eq_of_lt hx, Nat.zero_add]
section
variable {X : Cx} {B : Bs} {o tg : Expr} {ro : Rd} {f : Addr} {qual : Str} {st : Stmt} {N : List Str} {k : Nat} {pos apos : Pos} {pl : Sem Bool}
end
/-! ### the pure rules -/
section
variable {X : Cx} {B : Bs} {pos : Pos} {rt : RdT} {rl : RdA} {s1 : RdS}
end
end GX
namespace MN
/-! ### the size of a meet -/
theorem nodup_le : ∀ (l m : List Nat), l.Nodup → (∀ x ∈ l, x ∈ m) → l.length ≤ m.length
  | [], _, _, _ => Nat.zero_le _
  | x :: l, m, nd, h => by
    obtain ⟨n1, n2⟩ := List.nodup_cons.mp nd
    have hx := h x List.mem_cons_self
    have := nodup_le l (m.erase x) n2 fun y hy => (List.mem_erase_of_ne fun (e : y = x) => n1 (e ▸ hy)).mpr (h y (List.mem_cons_of_mem _ hy))
    rw [List.length_erase_of_mem hx] at this
    have h0 : 0 < m.length := List.length_pos_of_mem hx
    rw [List.length_cons]
    omega
theorem inj_le {n m : Nat} (f : Nat → Nat) (hf : ∀ i, i < n → f i < m) (inj : ∀ i j, i < n → j < n → f i = f j → i = j) : n ≤ m := by
  have := nodup_le ((List.range n).map f) (List.range m) (by
    unfold List.Nodup
    rw [List.pairwise_map]
    refine List.Pairwise.imp_of_mem ?_ List.nodup_range
    intro a b ha hb hab e
    exact hab (inj a b (List.mem_range.mp ha) (List.mem_range.mp hb) e)) (fun x hx => by
    obtain ⟨i, hi, rfl⟩ := List.mem_map.mp hx
    exact List.mem_range.mpr (hf i (List.mem_range.mp hi)))
  rw [List.length_map, List.length_range, List.length_range] at this
  exact this
/-- where a place of a net's cell lies in the cell's list -/
def ixC (a b c x y : Int) : Nat := ((low a b c x y).2 * a + (low a b c x y).1).toNat
theorem ixC_lt {a b c x y : Int} (h : Ok a b c) : ixC a b c x y < (a * c).toNat := by
  have ha : 0 < a := by have := h.2; omega
  have hc : 0 < c := by have := h.1; omega
  obtain ⟨r1, r2, r3, r4⟩ := low_rng (a := a) (b := b) (c := c) (x := x) (y := y) ha hc
  have h1 : ((low a b c x y).2 + 1) * a ≤ c * a := Int.mul_le_mul_of_nonneg_right (by omega) (by omega)
  have h2 : 0 ≤ (low a b c x y).2 * a := Int.mul_nonneg r3 (by omega)
  rw [Int.add_mul, Int.one_mul, Int.mul_comm c a] at h1
  unfold ixC
  omega
theorem ixC_inj {a b c x y u v : Int} (h : Ok a b c) (e : ixC a b c x y = ixC a b c u v) : low a b c x y = low a b c u v := by
  have ha : 0 < a := by have := h.2; omega
  have hc : 0 < c := by have := h.1; omega
  obtain ⟨r1, r2, r3, r4⟩ := low_rng (a := a) (b := b) (c := c) (x := x) (y := y) ha hc
  obtain ⟨s1, s2, s3, s4⟩ := low_rng (a := a) (b := b) (c := c) (x := u) (y := v) ha hc
  unfold ixC at e
  generalize (low a b c x y) = p at *
  generalize (low a b c u v) = q at *
  obtain ⟨p1, p2⟩ := p
  obtain ⟨q1, q2⟩ := q
  dsimp only at *
  have h1 : 0 ≤ p2 * a := Int.mul_nonneg r3 (by omega)
  have h2 : 0 ≤ q2 * a := Int.mul_nonneg s3 (by omega)
  have e2 : p2 * a + p1 = q2 * a + q1 := by omega
  have d1 : (p2 * a + p1) / a = p2 := by rw [Int.add_comm, Int.add_mul_ediv_right _ _ (by omega), Int.ediv_eq_zero_of_lt r1 r2]; omega
  have d2 : (q2 * a + q1) / a = q2 := by rw [Int.add_comm, Int.add_mul_ediv_right _ _ (by omega), Int.ediv_eq_zero_of_lt s1 s2]; omega
  have e3 : p2 = q2 := by rw [← d1, ← d2, e2]
  subst e3
  exact Prod.ext (by show p1 = q1; omega) rfl
/-- a net whose shifts are those of two nets has at most the product of their sizes -/
theorem both_size {a b c p q r W R U : Int} (h : Ok a b c) (h' : Ok p q r) (k : Ok W R U) (e : ∀ x y, InN a b c x y → InN p q r x y → InN W R U x y) : W * U ≤ (a * c) * (p * r) := by
  have hW : 0 < W := by have := k.2; omega
  have hU : 0 < U := by have := k.1; omega
  have ha : 0 < a := by have := h.2; omega
  have hc : 0 < c := by have := h.1; omega
  have hp : 0 < p := by have := h'.2; omega
  have hr : 0 < r := by have := h'.1; omega
  have h1 : 0 < a * c := Int.mul_pos ha hc
  have h2 : 0 < p * r := Int.mul_pos hp hr
  have h3 : 0 < W * U := Int.mul_pos hW hU
  have key := inj_le (n := (W * U).toNat) (m := (a * c).toNat * (p * r).toNat) (fun i => ixC a b c ((i : Int) % W) ((i : Int) / W) * (p * r).toNat + ixC p q r ((i : Int) % W) ((i : Int) / W)) (fun i hi => by
      have l1 := ixC_lt (x := (i : Int) % W) (y := (i : Int) / W) h
      have l2 := ixC_lt (x := (i : Int) % W) (y := (i : Int) / W) h'
      have l3 : (ixC a b c ((i : Int) % W) ((i : Int) / W) + 1) * (p * r).toNat ≤ (a * c).toNat * (p * r).toNat := Nat.mul_le_mul_right _ l1
      rw [Nat.add_mul, Nat.one_mul] at l3
      omega) (fun i j hi hj eij => by
      have l2 := ixC_lt (x := (i : Int) % W) (y := (i : Int) / W) h'
      have l3 := ixC_lt (x := (j : Int) % W) (y := (j : Int) / W) h'
      have m0 : 0 < (p * r).toNat := by omega
      have d1 : ixC a b c ((i : Int) % W) ((i : Int) / W) = ixC a b c ((j : Int) % W) ((j : Int) / W) := by
        have q1 := congrArg (· / (p * r).toNat) eij
        rw [Nat.add_comm, Nat.add_mul_div_right _ _ m0, Nat.div_eq_of_lt l2, Nat.add_comm _ (ixC p q r _ _), Nat.add_mul_div_right _ _ m0, Nat.div_eq_of_lt l3] at q1
        omega
      have d2 : ixC p q r ((i : Int) % W) ((i : Int) / W) = ixC p q r ((j : Int) % W) ((j : Int) / W) := by
        rw [d1] at eij
        omega
      have z1 := (low_eq (by omega) (by omega)).mp (ixC_inj h d1)
      have z2 := (low_eq (by omega) (by omega)).mp (ixC_inj h' d2)
      have z := (low_eq hW hU).mpr (e _ _ z1 z2)
      have bi : (i : Int) / W < U := Int.ediv_lt_of_lt_mul hW (by rw [Int.mul_comm U W]; omega)
      have bj : (j : Int) / W < U := Int.ediv_lt_of_lt_mul hW (by rw [Int.mul_comm U W]; omega)
      rw [Y.low_self (Int.emod_nonneg _ (by omega)) (Int.emod_lt_of_pos _ hW) (Int.ediv_nonneg (by omega) (by omega)) bi, Y.low_self (Int.emod_nonneg _ (by omega)) (Int.emod_lt_of_pos _ hW) (Int.ediv_nonneg (by omega) (by omega)) bj] at z
      have z1 := congrArg Prod.fst z
      have z2 := congrArg Prod.snd z
      dsimp only at z1 z2
      have e1 := Int.emod_add_mul_ediv (i : Int) W
      have e2 := Int.emod_add_mul_ediv (j : Int) W
      rw [z1, z2] at e1
      omega)
  have e1 : (((W * U).toNat : Nat) : Int) = W * U := by omega
  have e2 : (((a * c).toNat * (p * r).toNat : Nat) : Int) = (a * c) * (p * r) := by
    rw [Int.natCast_mul]
    have z1 : (((a * c).toNat : Nat) : Int) = a * c := by omega
    have z2 : (((p * r).toNat : Nat) : Int) = p * r := by omega
    rw [z1, z2]
  omega
end MN
namespace MN
theorem keeps_sub {f : Int × Int → Nat} {x y u v : Int} (h : Keeps f x y) (h' : Keeps f u v) : Keeps f (x - u) (y - v) := fun p => by
  have e1 := h (p.1 - u, p.2 - v)
  have e2 := h' (p.1 - u, p.2 - v)
  dsimp only at e1 e2
  rw [show p.1 - u + x = p.1 + (x - u) by omega, show p.2 - v + y = p.2 + (y - v) by omega] at e1
  rw [show p.1 - u + u = p.1 by omega, show p.2 - v + v = p.2 by omega] at e2
  rw [e1, ← e2]
/-- a net is the net of a carpet, by looking at all places of the cell -/
theorem exact_dec {f : Int × Int → Nat} {a b c : Int} (ok : Ok a b c) (k : ∀ x y, InN a b c x y → Keeps f x y)
    (h : ((spotsL a.toNat c.toNat).all fun s => decide (s = (0, 0)) || (spotsL a.toNat c.toNat).any fun p => !(Nat.beq (f (p.1 + s.1, p.2 + s.2)) (f p))) = true) : Exact f a b c := by
  refine ⟨ok, fun x y => ⟨k x y, fun z => ?_⟩⟩
  have ha : 0 < a := by have := ok.2; omega
  have hc : 0 < c := by have := ok.1; omega
  obtain ⟨r1, r2, r3, r4⟩ := low_rng (a := a) (b := b) (c := c) (x := x) (y := y) ha hc
  have hk := keeps_sub z (k _ _ (low_in a b c x y))
  rw [show x - (x - (low a b c x y).1) = (low a b c x y).1 by omega, show y - (y - (low a b c x y).2) = (low a b c x y).2 by omega] at hk
  have hm : low a b c x y ∈ spotsL a.toNat c.toNat := spotsL_mem.mpr ⟨r1, by omega, r3, by omega⟩
  have := List.all_eq_true.mp h _ hm
  rcases Bool.or_eq_true_iff.mp this with e | e
  · exact (low_zero ha hc).mp (of_decide_eq_true e)
  · obtain ⟨p, _, e⟩ := List.any_eq_true.mp e
    have := hk p
    rw [this] at e
    simp at e
end MN
namespace Y
open PySem PySem.Spec PyProof.Rows L2 Z
open MN (spotsL Keeps Exact cellT)
/-! ### overlays -/
def isCol : D → Bool
  | .str s => decide ((s.length : Int) = 1) && occ LETS s
  | _ => false
def colD (d : D) : Prop := knD d ∧ ∀ s, d = .str s → s.length ≤ 100000
theorem isCol_chr {k : Nat} (h : lowC k) : isCol (.str (chr1 k)) = true := by
  show (decide (((chr1 k).length : Int) = 1) && occ LETS (chr1 k)) = true
  have e : ((chr1 k).length : Int) = 1 := rfl
  have o : occ LETS (chr1 k) = true := occ_low h
  rw [e, o]
  rfl
theorem colD_chr {k : Nat} : colD (.str (chr1 k)) := ⟨trivial, fun s e => by
  cases e
  exact leN rfl⟩
def R_is_colour : RdF := ar1 fun d Q _ => colD d ∧ Q (.bl (isCol d))
def R_check_colour : RdF := ar1 fun d Q E => colD d ∧ ((isCol d = false ∧ E (exV "InvalidColour" d)) ∨ (isCol d = true ∧ Q .non))
/-- the shifts of all of some nets -/
def AllN (ns : List (Int × Int × Int)) (W R U : Int) : Prop := MN.Ok W R U ∧ ∀ x y, MN.InN W R U x y ↔ ∀ n ∈ ns, MN.InN n.1 n.2.1 n.2.2 x y
/-! ### the net of some nets -/
theorem alln_nil : AllN [] 1 0 1 := ⟨⟨by decide, by decide, by decide⟩, fun x y => ⟨fun _ n h => (nomatch h), fun _ => ⟨x, y, by omega, by omega⟩⟩⟩
theorem alln_snoc {ns : List (Int × Int × Int)} {n : Int × Int × Int} {W R U W' R' U' : Int} (h : AllN ns W R U) (m : MN.Meet W R U n.1 n.2.1 n.2.2 W' R' U') : AllN (ns ++ [n]) W' R' U' := by
  refine ⟨m.1, fun x y => (m.2.1 x y).trans ?_⟩
  rw [h.2]
  constructor
  · rintro ⟨h1, h2⟩ z hz
    rcases List.mem_append.mp hz with hz | hz
    · exact h1 z hz
    · rw [List.mem_singleton.mp hz]
      exact h2
  · intro h1
    exact ⟨fun z hz => h1 z (List.mem_append.mpr (.inl hz)), h1 n (List.mem_append.mpr (.inr (List.mem_singleton.mpr rfl)))⟩
theorem alln_uni {ns : List (Int × Int × Int)} {W R U W' R' U' : Int} (h : AllN ns W R U) (h' : AllN ns W' R' U') : W = W' ∧ R = R' ∧ U = U' := MN.net_eq h.1 h'.1 fun x y => (h.2 x y).trans (h'.2 x y).symm
theorem plain_col (k : Nat) (p : Int × Int) : colF (chr1 k) 1 0 1 p = k := by
  have o : okT (chr1 k) 1 0 1 := ⟨⟨by decide, by decide, by decide⟩, by decide, rfl⟩
  have z : MN.InN 1 0 1 (p.1 - 0) (p.2 - 0) := ⟨p.1, p.2, by omega, by omega⟩
  have := o.keep z (0, 0)
  rw [show ((0, 0) : Int × Int).1 + (p.1 - 0) = p.1 by show (0 : Int) + (p.1 - 0) = p.1; omega, show ((0, 0) : Int × Int).2 + (p.2 - 0) = p.2 by show (0 : Int) + (p.2 - 0) = p.2; omega] at this
  rw [show p = (p.1, p.2) from rfl, this]
  rfl
/-! ### carpets with a cell that is known -/
def blkB (rs : List Str) (w : Nat) : Bool := Nat.ble 1 rs.length && (Nat.ble rs.length 100 && (Nat.ble 1 w && (Nat.ble w 100 && (Nat.ble (rs.length * w) 1000 && rs.all fun r => Nat.beq r.cps.toList.length w && r.cps.toList.all fun c => Nat.ble 97 c && Nat.ble c 122))))
theorem blk_of {rs : List Str} {w : Nat} (h : blkB rs w = true) : Blk rs w := by
  unfold blkB at h
  simp only [Bool.and_eq_true, List.all_eq_true, Nat.ble_eq, Nat.beq_eq] at h
  obtain ⟨h1, h2, h3, h4, h5, h6⟩ := h
  exact ⟨h1, h2, h3, h4, h5, fun r hr => (h6 r hr).1, fun r hr c hc => (h6 r hr).2 c hc⟩
theorem c_ {d : D} {ρ : Ev} {Q : D → Prop} (h : Q d) : rC d ρ Q := h
theorem knD_of {d : D} (h : knB d = true) : knD d := by
  cases d <;> first | trivial | cases h
end Y
namespace Y
open PySem PySem.Spec PyProof.Rows L2 Z
open MN (spotsL Keeps Exact cellT)
/-! ### observations -/
structure Cw where
  C : Str
  a : Int
  b : Int
  c : Int
  t : Str
def Cw.d (x : Cw) : D := dCar x.C x.a x.b x.c x.t
def Cw.ok (x : Cw) : Prop := x.C ∈ carCs ∧ Y.okT x.t x.a x.b x.c
def Cw.col (x : Cw) : Int × Int → Nat := colF x.t x.a x.b x.c
/-! ### the law -/
structure Wq where
  a : Int
  b : Int
  c : Int
  t : Str
def Wq.d (w : Wq) : D := wovD w.a w.b w.c w.t
def Wq.ok (w : Wq) : Prop := Wv 12 w.a w.b w.c w.t
def Wq.col (w : Wq) : Int × Int → Nat := colF w.t w.a w.b w.c
/-- the carpet of a drawn cell -/
def mad (w : Wq) (x : Cw) : Prop := x.C ∈ carCs ∧ Carp w.col x.a x.b x.c x.t
theorem mad_ok {w : Wq} {x : Cw} (h : mad w x) : x.ok ∧ x.col = w.col := ⟨⟨h.1, h.2.okT⟩, funext h.2.col⟩
theorem rel_mem {α β : Type} {xs : List α} {ys : List β} {R : α → β → Prop} (hl : ys.length = xs.length) (h : ∀ (i : Nat) x y, xs[i]? = some x → ys[i]? = some y → R x y) {y : β} (hy : y ∈ ys) : ∃ x ∈ xs, R x y := by
  obtain ⟨i, hi⟩ := List.getElem?_of_mem hy
  have hi2 := lt_of_get hi
  have e : xs[i]? = some (xs[i]'(by omega)) := List.getElem?_eq_getElem _
  exact ⟨_, List.mem_of_getElem? e, h i _ _ e hi⟩
theorem a_ {ra : Rd} {rl : RdA} {ρ : Ev} {Q : List D → Prop} (h : ra ρ fun x => rl ρ fun xs => Q (x :: xs)) : aCons ra rl ρ Q := h
end Y
namespace MN
end MN
namespace Y
open PySem PySem.Spec PyProof.Rows L2 Z
open MN (spotsL Keeps Exact cellT)
/-- the greatest number of times that something occurs in a list -/
def mxc (l : List Nat) : Nat := (l.map fun x => l.count x).foldl max 0
def grpC (cs : List Cw) (p : Int × Int) : Nat := mxc (cs.map fun c => c.col p)
/-- the first place with the least number -/
def least (cs : List Cw) (W U : Int) (p : Int × Int) : Prop := ∃ i : Nat, (spotsL W.toNat U.toNat)[i]? = some p ∧ ∀ (j : Nat) q, (spotsL W.toNat U.toNat)[j]? = some q → grpC cs p ≤ grpC cs q ∧ (j < i → grpC cs p < grpC cs q)
end Y
namespace MN
theorem meet_ex {a b c p q r : Int} (h : Ok a b c) (h' : Ok p q r) : ∃ W R U, Meet a b c p q r W R U := by
  obtain ⟨s, t, e⟩ := bez a p
  exact ⟨_, _, _, (meet_prog h h' rfl rfl rfl rfl rfl e rfl rfl rfl).1⟩
theorem pos_a {a b c : Int} (h : Ok a b c) : 0 < a := by have := h.2; omega
theorem pos_c {a b c : Int} (h : Ok a b c) : 0 < c := by have := h.1; omega
end MN
namespace Y
open PySem PySem.Spec PyProof.Rows L2 Z
open MN (spotsL Keeps Exact cellT)
/-- the product of the sizes -/
def szP2 : List (Int × Int × Int) → Int
  | [] => 1
  | n :: ns => n.1 * n.2.2 * szP2 ns
theorem alln_size : ∀ (ms ns : List (Int × Int × Int)) {W R U W' R' U' : Int}, AllN ns W R U → (∀ n ∈ ms, MN.Ok n.1 n.2.1 n.2.2) → AllN (ns ++ ms) W' R' U' → W' * U' ≤ W * U * szP2 ms
  | [], ns, W, R, U, W', R', U', h, _, h' => by
    rw [List.append_nil] at h'
    obtain ⟨rfl, rfl, rfl⟩ := alln_uni h h'
    show _ ≤ _ * 1
    omega
  | m :: ms, ns, W, R, U, W', R', U', h, k, h' => by
    obtain ⟨W1, R1, U1, hm⟩ := MN.meet_ex h.1 (k m (.head _))
    rw [show ns ++ m :: ms = (ns ++ [m]) ++ ms by rw [List.append_assoc]; rfl] at h'
    have z := alln_size ms (ns ++ [m]) (alln_snoc h hm) (fun n hn => k n (.tail _ hn)) h'
    have z1 := MN.both_size h.1 (k m (.head _)) hm.1 fun x y h1 h2 => (hm.2.1 x y).mpr ⟨h1, h2⟩
    have zp : 0 ≤ szP2 ms := by
      have key : ∀ l : List (Int × Int × Int), (∀ n ∈ l, MN.Ok n.1 n.2.1 n.2.2) → 0 ≤ szP2 l := by
        intro l
        induction l with
        | nil => intro _; decide
        | cons n l ih =>
          intro kk
          have o := kk n (.head _)
          have p1 := MN.pos_a o
          have p2 := MN.pos_c o
          exact Int.mul_nonneg (Int.mul_nonneg (by omega) (by omega)) (ih fun x hx => kk x (.tail _ hx))
      exact key ms fun n hn => k n (.tail _ hn)
    have z2 : W1 * U1 * szP2 ms ≤ W * U * (m.1 * m.2.2) * szP2 ms := Int.mul_le_mul_of_nonneg_right z1 zp
    show _ ≤ W * U * (m.1 * m.2.2 * szP2 ms)
    rw [← Int.mul_assoc (W * U)]
    omega
theorem alln_prod {ns : List (Int × Int × Int)} {W R U : Int} (k : ∀ n ∈ ns, MN.Ok n.1 n.2.1 n.2.2) (h : AllN ns W R U) : W * U ≤ szP2 ns := by
  have := alln_size ns [] alln_nil k h
  omega
/-! ### groups of doubled lists -/
/-- the carpets of the law: the last one may be a copy -/
structure okW (ws : List Wq) (k : Nat) : Prop where
  k1 : 1 ≤ k
  k3 : k ≤ 3
  kn : k ≤ ws.length
  n4 : ws.length ≤ 4
  ok : ∀ w ∈ ws, (Y.okT w.t w.a w.b w.c ∧ lowS w.t) ∧ w.a * w.c ≤ 16
  s8 : ∀ w ∈ ws.take k, w.a * w.c ≤ 8
  cp : ∀ w ∈ ws, ∃ w1 ∈ ws.take k, w1.col = w.col
/-- the carpets that the package makes of them -/
def madW (w : Wq) (x : Cw) : Prop := mad w x ∧ x.a ≤ w.a ∧ x.c ≤ w.c
/-! ### the fixed carpets -/
def w2 : List Str := List.replicate 2 ("ab" : Str) ++ [("bb" : Str)]
end Y
namespace GX
open PySem PySem.Spec PyProof.Rows L2 Z Y
section
variable {X : Cx} {B : Bs} {pos : Pos} {rt : RdT} {rl : RdA}
end
end GX
namespace Y
open PySem PySem.Spec PyProof.Rows L2 Z
open MN (spotsL Keeps Exact cellT)
section
variable {X : Cx} {B : Bs} {e : Expr} {r : Rd} {pos : Pos}
end
/-! ### what is known of a net's places -/
/-! ### promises -/
/-! ### lists of places -/
/-! ### the last one -/
end Y
namespace MN
section
variable {F : Pt → Nat} {a b c : Int} {s : Pt} {kn : List (Pt × Pt)} {wt sh : List Pt} {X : Pt → Prop}
theorem Srch.keys (h : Srch F a b c s kn wt sh X) (ha : 0 < a) (hc : 0 < c) : ∀ k ∈ kn.map (·.1), k ∈ spotsL a.toNat c.toNat := by
  intro k hk
  obtain ⟨⟨k', p⟩, hx, rfl⟩ := List.mem_map.mp hk
  obtain ⟨e, _⟩ := h.kw _ _ hx
  obtain ⟨r1, r2, r3, r4⟩ := low_rng (a := a) (b := b) (c := c) (x := p.1) (y := p.2) ha hc
  rw [show (k', p).1 = low a b c p.1 p.2 from e.symm]
  exact spotsL_mem.mpr ⟨r1, by omega, r3, by omega⟩
theorem nd_le {α : Type} [DecidableEq α] : ∀ (l m : List α), l.Nodup → (∀ x ∈ l, x ∈ m) → l.length ≤ m.length
  | [], _, _, _ => Nat.zero_le _
  | x :: l, m, nd, h => by
    obtain ⟨n1, n2⟩ := List.nodup_cons.mp nd
    have hx := h x List.mem_cons_self
    have := nd_le l (m.erase x) n2 fun y hy => (List.mem_erase_of_ne fun (e : y = x) => n1 (e ▸ hy)).mpr (h y (List.mem_cons_of_mem _ hy))
    rw [List.length_erase_of_mem hx] at this
    have h0 : 0 < m.length := List.length_pos_of_mem hx
    rw [List.length_cons]
    omega
theorem Srch.len (h : Srch F a b c s kn wt sh X) (ha : 0 < a) (hc : 0 < c) : kn.length ≤ (spotsL a.toNat c.toNat).length := by
  have := nd_le _ _ h.nd (h.keys ha hc)
  rwa [List.length_map] at this
/-- the first places of the classes -/
noncomputable def stq (F : Pt → Nat) (a b c : Int) (l : List Pt) : List Pt := l.foldl (fun acc k => if acc.any (fun s => clsB F a b c s k) then acc else acc ++ [k]) []
noncomputable def startsL (F : Pt → Nat) (a b c : Int) : List Pt := stq F a b c (spotsL a.toNat c.toNat)
end
end MN
namespace Y
open PySem PySem.Spec PyProof.Rows L2 Z
open MN (Pt nbs Conn Stab Cls lkQ lowP Srch SrN Prt Bas BasOk spotsL Keeps Sp Form clsB startsL)
/-! ### parts -/
def kvK (kn : List (Pt × Pt)) : List (List Int × D) := kn.map fun x => ([x.1.1, x.1.2], plD x.2)
def kpD (kn : List (Pt × Pt)) : D := .dpl ((kvK kn).map (·.1)) ((kvK kn).map (·.2))
def basD : Bas → D
  | .nil => .tup []
  | .one x y => .tup [dPl x y]
  | .two a b c => .tup [dPl a 0, dPl b c]
structure Pr where
  st : Pt
  kn : List (Pt × Pt)
  bas : Bas
  col : Nat
  bd : Nat
abbrev partD (k : Nat) (s : Pt) (kn : List (Pt × Pt)) (β : Bas) (bd : Nat) : D := .obj "Part" ["own_colour", "own_start", "known", "own_places", "own_basis", "own_border"] [.str (chr1 k), plD s, kpD kn, .int (kn.length : Nat), basD β, .int (bd : Nat)]
def Pr.d (x : Pr) : D := partD x.col x.st x.kn x.bas x.bd
/-- how great the numbers of a basis are -/
def basSz (n : Nat) : Bas → Prop
  | .nil => True
  | .one x y => Sz n x ∧ Sz n y
  | .two a _ c => Sz n a ∧ Sz n c
structure PrOk (F : Pt → Nat) (a b c : Int) (x : Pr) : Prop where
  prt : Prt F a b c x.st x.kn
  bs : BasOk (Stab F a b c x.st) x.bas
  cl : x.col = F x.st
  br : x.bd = MN.brd F a b c x.st
  cell : x.st ∈ spotsL a.toNat c.toNat
  sz : basSz 100 x.bas
def pMax : Int := 64
/-- a carpet whose parts are looked for -/
structure CarP (C : Str) (a b c : Int) (t : Str) : Prop where
  cs : C ∈ carCs
  o : okT t a b c
  mx : a * c ≤ pMax
/-! ### the search, as the programs do it -/
theorem CarP.N {C : Str} {a b c : Int} {t : Str} (h : CarP C a b c t) : (spotsL a.toNat c.toNat).length ≤ 64 := by
  have mx : a * c ≤ 64 := h.mx
  have a0 := h.o.a
  have c0 := h.o.c
  rw [MN.spotsL_len]
  obtain ⟨a', rfl⟩ := Int.eq_ofNat_of_zero_le (Int.le_of_lt a0)
  obtain ⟨c', rfl⟩ := Int.eq_ofNat_of_zero_le (Int.le_of_lt c0)
  rw [Int.toNat_natCast, Int.toNat_natCast]
  exact_mod_cast mx
theorem CarP.ac {C : Str} {a b c : Int} {t : Str} (h : CarP C a b c t) : a ≤ 64 ∧ c ≤ 64 := by
  have mx : a * c ≤ 64 := h.mx
  have a0 := h.o.a
  have c0 := h.o.c
  have l1 : a * 1 ≤ a * c := Int.mul_le_mul_of_nonneg_left (by omega) (by omega)
  have l2 : 1 * c ≤ a * c := Int.mul_le_mul_of_nonneg_right (by omega) (by omega)
  omega
/-- the state of the search -/
structure SrS (F : Pt → Nat) (a b c : Int) (s : Pt) (kn : List (Pt × Pt)) (wt sh : List Pt) (bd : Nat) : Prop where
  z : Srch F a b c s kn wt sh fun _ => False
  n : SrN F kn wt sh bd 0 0
/-- the state while the neighbours l of p are looked at, those of l1 are done -/
structure SrM (F : Pt → Nat) (a b c : Int) (s p : Pt) (l1 l2 : List Pt) (kn : List (Pt × Pt)) (wt sh : List Pt) (bd : Nat) : Prop where
  z : Srch F a b c s kn wt sh (· = p)
  k : ∃ k, (k, p) ∈ kn
  d : MN.Done F a b c kn sh p l1
  n : SrN F kn wt sh bd (MN.unl F p l2) l2.length
section
variable {F : Pt → Nat} {a b c : Int} {s p q : Pt} {l1 l2 : List Pt} {kn : List (Pt × Pt)} {wt sh : List Pt} {bd : Nat}
end
/-! ### the parts of a carpet -/
/-- what is known of the places when the parts of some starts were found -/
structure PtS (F : Pt → Nat) (a b c : Int) (l : List Pt) (xs : List Pr) (ks : List Pt) : Prop where
  ok : ∀ x ∈ xs, PrOk F a b c x
  st : xs.map Pr.st = MN.stq F a b c l
  sub : ∀ k ∈ ks, k ∈ spotsL a.toNat c.toNat
  nd : ks.Nodup
  iff : ∀ k ∈ spotsL a.toNat c.toNat, (k ∈ ks ↔ ∃ s ∈ MN.stq F a b c l, Cls F a b c s k)
section
variable {F : Pt → Nat} {a b c : Int} {l : List Pt} {xs : List Pr} {ks : List Pt} {k : Pt}
theorem PtS.len (h : PtS F a b c l xs ks) : ks.length ≤ (spotsL a.toNat c.toNat).length := MN.nd_le _ _ h.nd h.sub
end
end Y
namespace Y
open PySem PySem.Spec PyProof.Rows L2 Z
open MN (spotsL rowL upL Keeps Exact cellT Mtn mapp minv mmul turn tr Orth Img)
end Y
namespace Y
open PySem PySem.Spec PyProof.Rows L2 Z
open MN (spotsL rowL upL Keeps Exact cellT Mtn mapp minv mmul turn tr Orth Img)
/-! ### comparing carpets -/
/-- an exact carpet, its text small letters -/
structure Ex1 (n : Int) (a b c : Int) (t : Str) : Prop where
  cp : Carp (colF t a b c) a b c t
  mx : a * c ≤ n
  lo : lowS t
end Y
namespace Y
open PySem PySem.Spec PyProof.Rows L2 Z
/-! ### one letter of a text changed -/
end Y
namespace Y
open PySem PySem.Spec PyProof.Rows L2 Z
theorem dSl_str {t : Str} {lo hi : Option Int} {Q : D → Prop} (hl : t.cps.toList.length ≤ 100000) (h : Q (.str (cutS t lo hi))) : dSl (.str t) lo hi Q := by
  unfold dSl
  exact ⟨by rw [slen]; exact hl, h⟩
end Y
namespace Y
open PySem PySem.Spec PyProof.Rows L2 Z
open MN (spotsL rowL upL Keeps Exact cellT Mtn mapp minv mmul turn tr Orth Img InN)
/-! ### where carpets differ -/
end Y
namespace Y
open PySem PySem.Spec PyProof.Rows L2 Z
open MN (Pt nbs Conn Stab Cls lkQ lowP Srch SrN Prt Bas BasOk spotsL Keeps Sp Form clsB startsL)
/-! ### repainted parts -/
/-- a least cell with letters of its own -/
structure Lw (n : Int) (a b c : Int) (t : Str) : Prop where
  cp : Carp (colF t a b c) a b c t
  mx : a * c ≤ n
  le : lets t
section
variable {F : Pt → Nat} {a b c : Int} {p q s : Pt} {k : Nat}
end
end Y
namespace Y
open PySem PySem.Spec PyProof.Rows L2 Z
open MN (Pt nbs Conn Stab Cls lkQ lowP Srch SrN Prt Bas BasOk spotsL Keeps Sp Form clsB startsL)
/-! ### tuples put together, empty ones too -/
def dCatA (x y : D) (Q : D → Prop) : Prop := match x, y with
  | .tup xs, .tup ys => xs.length + ys.length ≤ 100000 ∧ Q (.tup (xs ++ ys))
  | _, _ => False
theorem catAL {K : Frg} {ms : List Addr} : OpL K ms (L2.rCatA K) dCatA := by
  intro F H x y dx dy Qd Q hs rx ry h k
  unfold dCatA at h
  split at h
  · cases rx with
    | tup h1 h2 =>
      cases ry with
      | tup h3 h4 =>
        obtain ⟨n3, h⟩ := h
        have m1 := h2.len
        have m2 := h4.len
        refine ⟨_, _, _, _, rfl, rfl, sqT hs h1, sqT hs h3, by rw [m1, m2]; exact Nat.le_trans n3 line_ge, fun e => ?_, fun _ e => ?_, fun _ _ p hp => ?_⟩
        · rw [e] at m1
          rw [List.length_eq_zero_iff.mp m1.symm, List.nil_append] at h
          exact k _ F H _ (Go.refl hs) (.tup h3 h4) h
        · rw [e] at m2
          rw [List.length_eq_zero_iff.mp m2.symm, List.append_nil] at h
          exact k _ F H _ (Go.refl hs) (.tup h1 h2) h
        · obtain ⟨F2, g2, q2, _⟩ := newE hs hp rfl
          exact k _ F2 _ _ g2 (.tup (SqT.of q2) ((h2.app h4).up g2.ff)) h
  · exact h.elim
/-! ### joined places -/
section
variable {F : Pt → Nat} {a b c : Int} {s first second p1 q1 : Pt} {kn : List (Pt × Pt)}
end
/-! the starts differ -/
/-! ### promises -/
/-- what is told: a shown value, a truth -/
abbrev hr1 (d : D) : D := .lst [.str (shD d), .bl true]
end Y
namespace L2
open PySem PySem.Spec PyProof.Rows
/-! ### set(l) of a list of ints -/
section
variable {P : Program} {w : World} {A : Around} {E : Value → Shared → Prop} {s : Shared}
variable {a : Addr} {S : Int → Bool} {n : Nat}
end
end L2
namespace Y
open PySem PySem.Spec PyProof.Rows L2 Z
section
variable {X : Cx}
end
section
variable {X : Cx} {B : Bs} {e : Expr} {rl : RdA} {p0 p1 pos pos1 : Pos}
end
end Y
namespace TK
open PySem PySem.Spec PyProof.Rows L2
/-! ### sets of tuples of ints, texts and None -/
def flatN : NestedKey → Bool
  | .tup _ => false
  | _ => true
def flatT : NestedKey → Bool
  | .tup ks => ks.all flatN
  | _ => false
/-- the tuple k at b -/
def IsF (h : Heap) (k : NestedKey) (b : Addr) : Prop := NestedIs h k (.ref b) ∧ flatT k = true
theorem IsF.keep {h h' : Heap} {k : NestedKey} {b : Addr} (x : IsF h k b) (hk : ∀ c o, h.get? c = some o → h'.get? c = some o) : IsF h' k b := ⟨NestedIs.at (fun c o _ _ e _ => hk c o e) k _ x.1, x.2⟩
theorem IsF.items {h : Heap} {k : NestedKey} {b : Addr} (x : IsF h k b) : ∃ o vs n ks, h.get? b = some o ∧ o.cls = .type "tuple" ∧ o.data = .seq vs n ∧ NestedAll h ks vs.toList ∧ ks.all flatN = true ∧ k = .tup ks := by
  obtain ⟨x1, x2⟩ := x
  cases k with
  | tup ks => cases x1 with | tup h1 h2 h3 h4 => exact ⟨_, _, _, _, h1, h2, h3, h4, x2, rfl⟩
  | _ => cases x2
theorem IsF.same {h h' : Heap} {k : NestedKey} {a b : Addr} {o : Obj} {es : Array (Int × Value)} {ep : Nat} {t : SetTable} (x : IsF h k b) (ho : h.get? a = some o) (hd : o.data = .set es ep t) (hs : Heap.SameBut a h h') : IsF h' k b :=
  ⟨NestedIs.at (fun c u _ _ e1 e2 => by
    refine (hs.2 c fun e => ?_).trans e1
    subst e
    obtain rfl := Option.some.inj (ho.symm.trans e1)
    rw [hd] at e2
    cases e2) k _ x.1, x.2⟩
section
variable {P : Program} {w : World} {A : Around} {E : Value → Shared → Prop} {s : Shared}
end
/-! ### the set: its rows and its table -/
abbrev Row := Addr × NestedKey
def hv (w : World) (p : Row) : Int := p.2.hash w
def tabRows (w : World) (L : List Row) : List (Int × Value) := L.map fun p => (hv w p, Value.ref p.1)
theorem tabRows_len (w : World) (L : List Row) : (tabRows w L).length = L.length := by simp [tabRows]
structure SetK (w : World) (h : Heap) (a : Addr) (L : List Row) (es : Array (Int × Value)) (ep : Nat) (t : SetTable) : Prop where
  ob : ∃ o, h.get? a = some o ∧ o.ExactSet ∧ o.data = .set es ep t
  rw : es.toList = tabRows w L
  tb : TabOk t (L.map (hv w))
  nd : (L.map (·.2)).Nodup
  tp : ∀ p ∈ L, IsF h p.2 p.1
  ld : w.params.followText "set-order" = true ∨ t.led = true
  rm : L.length * 5 < t.mask * 3
  fw : L.length < 64
section
variable {P : Program} {w : World} {A : Around} {E : Value → Shared → Prop} {s : Shared} {a : Addr} {L : List Row} {es : Array (Int × Value)} {ep : Nat} {t : SetTable}
theorem SetK.sz {h : Heap} (R : SetK w h a L es ep t) : es.size = L.length := by
  rw [← Array.length_toList, R.rw, tabRows_len]
theorem SetK.fits {h : Heap} (R : SetK w h a L es ep t) : t.fits es.size = true := by
  have h1 := R.tb.sz
  have h2 := R.sz
  have h3 := R.rm
  rw [List.length_map] at h1
  simp only [SetTable.fits, SetTable.fill, R.tb.dm, Bool.and_eq_true, beq_iff_eq, decide_eq_true_eq]
  exact ⟨by omega, by show t.place.size + 0 ≤ t.mask; omega⟩
theorem SetK.entry {h : Heap} (R : SetK w h a L es ep t) {i : Nat} {p : Row} (hp : L[i]? = some p) : es[i]? = some (hv w p, Value.ref p.1) := by
  rw [← Array.getElem?_toList, R.rw, tabRows, List.getElem?_map, hp]
  rfl
theorem SetK.keep {h h' : Heap} (R : SetK w h a L es ep t) (hk : ∀ c o, h.get? c = some o → h'.get? c = some o) : SetK w h' a L es ep t :=
  let ⟨o, h1, h2⟩ := R.ob
  ⟨⟨o, hk a o h1, h2⟩, R.rw, R.tb, R.nd, fun p hp => (R.tp p hp).keep hk, R.ld, R.rm, R.fw⟩
/-! ### adding -/
end
end TK
namespace TK
open PySem PySem.Spec PyProof.Rows L2
/-- the rows that are in, when i rows of ks have been put in -/
structure InI (ks : List Row) (i : Nat) (L : List Row) : Prop where
  sub : ∀ p ∈ L, p ∈ ks.take i
  all : ∀ p ∈ ks.take i, p.2 ∈ L.map (·.2)
theorem take1 {α : Type} {l : List α} {i : Nat} {x : α} (h : l[i]? = some x) : l.take (i + 1) = l.take i ++ [x] := by
  rw [List.take_succ, h]
  rfl
theorem InI.old {ks L : List Row} {i : Nat} {x : Row} (g : InI ks i L) (h : ks[i]? = some x) (m : x.2 ∈ L.map (·.2)) : InI ks (i + 1) L := by
  refine ⟨fun p hp => ?_, fun p hp => ?_⟩ <;> rw [take1 h] at *
  · exact List.mem_append_left _ (g.sub p hp)
  · rcases List.mem_append.mp hp with z | z
    · exact g.all p z
    · exact List.mem_singleton.mp z ▸ m
theorem InI.new {ks L L' : List Row} {i : Nat} {x : Row} (g : InI ks i L) (h : ks[i]? = some x) (pm : L'.Perm (x :: L)) : InI ks (i + 1) L' := by
  refine ⟨fun p hp => ?_, fun p hp => ?_⟩ <;> rw [take1 h] at *
  · rcases List.mem_cons.mp (pm.mem_iff.mp hp) with z | z
    · exact List.mem_append_right _ (List.mem_singleton.mpr z)
    · exact List.mem_append_left _ (g.sub p z)
  · rw [(pm.map (·.2)).mem_iff]
    rcases List.mem_append.mp hp with z | z
    · exact .tail _ (g.all p z)
    · rw [List.mem_singleton.mp z]
      exact .head _
abbrev set0 (w : World) : Obj := { cls := .type "set", dict := none, data := .set #[] 0 (.fresh 0 0 (!w.params.followText "set-order")) }
section
variable {P : Program} {w : World} {A : Around} {E : Value → Shared → Prop} {s : Shared}
end
end TK
namespace Y
open PySem PySem.Spec PyProof.Rows L2 Z TK
/-! ### sorted(set(l)) of a list of flat tuples -/
def nk0 : D → NestedKey
  | .int i => .num i
  | .str s => .text s
  | _ => .none
def nk : D → NestedKey
  | .tup ds => .tup (ds.map nk0)
  | _ => .none
section
variable {X : Cx} {pins : List (Addr × Obj)} {σ : L2.St} {H F : Hp} {s : Shared} {ms : List Addr}
end
section
variable {X : Cx}
end
section
variable {X : Cx} {B : Bs} {e : Expr} {rl : RdA} {p0 p1 pos pos1 : Pos}
end
end Y
namespace MN
/-! ### colours that touch -/
def Tou (F : Pt → Nat) (i j : Nat) : Prop := ∃ p q, q ∈ nbs p ∧ F p = i ∧ F q = j
end MN
namespace Y
open PySem PySem.Spec PyProof.Rows L2 Z
open MN (Pt nbs spotsL Tou)
/-! ### pairs of colours, sorted -/
structure TouM (F : Pt → Nat) (L : List (Nat × Nat)) : Prop where
  nd : L.Nodup
  mem : ∀ x, x ∈ L ↔ x.1 < x.2 ∧ Tou F x.1 x.2
/-! ### < of texts -/
/-! ### pairs that are gathered -/
structure AccP (F : Pt → Nat) (PL : List (Pt × Pt)) (A : List (Nat × Nat)) (k : Nat) : Prop where
  nd : A.Nodup
  mem : ∀ x, x ∈ A ↔ x.1 < x.2 ∧ ∃ z ∈ PL, F z.1 = x.1 ∧ F z.2 = x.2
  len : A.length ≤ k
theorem AccP.new {F : Pt → Nat} {PL : List (Pt × Pt)} {A : List (Nat × Nat)} {k : Nat} (h : AccP F PL A k) {p q : Pt} (l : F p < F q) (n : (F p, F q) ∉ A) : AccP F (PL ++ [(p, q)]) (A ++ [(F p, F q)]) (k + 1) := by
  refine ⟨List.nodup_append.mpr ⟨h.nd, List.nodup_cons.mpr ⟨(fun z => nomatch z), .nil⟩, fun a ha b hb e => n ?_⟩, fun x => ?_, by rw [List.length_append]; exact Nat.succ_le_succ h.len⟩
  · rw [← List.mem_singleton.mp hb, ← e]
    exact ha
  · rw [List.mem_append, List.mem_singleton, h.mem]
    constructor
    · rintro (⟨h1, z, hz, h2⟩ | rfl)
      · exact ⟨h1, z, List.mem_append_left _ hz, h2⟩
      · exact ⟨l, (p, q), List.mem_append_right _ (.head _), rfl, rfl⟩
    · rintro ⟨h1, z, hz, h2, h3⟩
      rcases List.mem_append.mp hz with hz | hz
      · exact .inl ⟨h1, z, hz, h2, h3⟩
      · rw [List.mem_singleton.mp hz] at h2 h3
        exact .inr (Prod.ext h2.symm h3.symm)
theorem AccP.old {F : Pt → Nat} {PL : List (Pt × Pt)} {A : List (Nat × Nat)} {k : Nat} (h : AccP F PL A k) {p q : Pt} (n : F p < F q → (F p, F q) ∈ A) : AccP F (PL ++ [(p, q)]) A (k + 1) := by
  refine ⟨h.nd, fun x => ?_, Nat.le_succ_of_le h.len⟩
  rw [h.mem]
  constructor
  · rintro ⟨h1, z, hz, h2⟩
    exact ⟨h1, z, List.mem_append_left _ hz, h2⟩
  · rintro ⟨h1, z, hz, h2, h3⟩
    rcases List.mem_append.mp hz with hz | hz
    · exact ⟨h1, z, hz, h2, h3⟩
    · rw [List.mem_singleton.mp hz] at h2 h3
      have := (h.mem _).mp (n (by dsimp only at h2 h3; omega))
      dsimp only at this h2 h3
      rw [h2, h3] at this
      exact this
/-! ### two carpets of the last rows -/
/-! ### contracts -/
end Y
namespace Y
open PySem PySem.Spec PyProof.Rows L2 Z
/-! ### sorted(d.items()) of an own dict -/
section
variable {X : Cx} {pins : List (Addr × Obj)} {σ : L2.St} {H F : Hp} {s : Shared} {ms : List Addr}
mutual
theorem reads_adr {h : Heap} : ∀ {v : Value} {d : PyData} {A : List Addr}, Reads h v d A → ∀ b ∈ A, ∃ o, h.get? b = Option.some o
  | _, _, _, .none, b, hb => nomatch hb
  | _, _, _, .bool _, b, hb => nomatch hb
  | _, _, _, .int _ _, b, hb => nomatch hb
  | _, _, _, .str _ _, b, hb => nomatch hb
  | _, _, _, .list h1 _ _ r, b, hb => by
    rcases List.mem_cons.mp hb with rfl | hb
    · exact ⟨_, h1⟩
    · exact readsAll_adr r b hb
  | _, _, _, .tuple h1 _ _ r, b, hb => readsAll_adr r b hb
  | _, _, _, .dict h1 _ _ r1 r2, b, hb => by
    rcases List.mem_append.mp hb with hb | hb
    · rcases List.mem_cons.mp hb with rfl | hb
      · exact ⟨_, h1⟩
      · exact readsAll_adr r1 b hb
    · exact readsAll_adr r2 b hb
theorem readsAll_adr {h : Heap} : ∀ {v : List Value} {d : List PyData} {A : List Addr}, ReadsAll h v d A → ∀ b ∈ A, ∃ o, h.get? b = Option.some o
  | _, _, _, .nil, b, hb => nomatch hb
  | _, _, _, .cons r1 r2, b, hb => by
    rcases List.mem_append.mp hb with hb | hb
    · exact reads_adr r1 b hb
    · exact readsAll_adr r2 b hb
end
end
section
variable {X : Cx} {pins : List (Addr × Obj)} {σ : L2.St} {H F : Hp} {s : Shared}
end
section
variable {X : Cx} {B : Bs} {x : Str} {i k : Nat} {pv p0 apos cpos pos : Pos}
end
end Y
namespace Y
open PySem PySem.Spec PyProof.Rows L2 Z
/-! ### l.count(x) of a list of data -/
section
variable {X : Cx} {B : Bs} {o e : Expr} {ro r : Rd} {pos apos cpos : Pos}
end
end Y
/-! tuple * number -/
namespace Y
open PySem PySem.Spec PyProof.Rows L2 Z
end Y
/-! told dicts with place keys: items(), values() -/
namespace Y
open PySem PySem.Spec PyProof.Rows L2 Z
theorem DKs.get {K : Frg} {F : Hp} {ks : List (List Int)} {xs : List (List Int × Addr × Value)} {vs : List V} (h : DKs K F ks xs vs) : ∀ {i : Nat} {x : List Int × Addr × Value}, xs[i]? = some x → ∃ v, ks[i]? = some x.1 ∧ vs[i]? = some v ∧ SqT K F x.2.1 (x.1.map V.int) ∧ RelV v x.2.2 := by
  induction h with
  | nil => intro i x hx; cases hx
  | cons h1 h2 _ ih =>
    intro i x hx
    cases i with
    | zero => cases hx; exact ⟨_, rfl, rfl, h1, h2⟩
    | succ i => exact ih hx
theorem DKs.len {K : Frg} {F : Hp} {ks : List (List Int)} {xs : List (List Int × Addr × Value)} {vs : List V} (h : DKs K F ks xs vs) : ks.length = xs.length ∧ vs.length = xs.length := by
  induction h with
  | nil => exact ⟨rfl, rfl⟩
  | cons _ _ _ ih => exact ⟨by simp [ih.1], by simp [ih.2]⟩
section
variable {X : Cx} {B : Bs} {e o : Expr} {r ro : Rd} {pos apos cpos tpos : Pos}
end
end Y
/-! set comprehensions -/
namespace Y
open PySem PySem.Spec PyProof.Rows L2 Z
/-- sets that a comprehension fills -/
structure SFam (T : Type) where
  O : World → Addr → T → HO
  z : T
  cap : Nat
  el : D → Bool
  Nx : V × D → T → T → Prop
inductive SFam.Fills {T : Type} (S : SFam T) : List (V × D) → T → Prop
  | nil : S.Fills [] S.z
  | snoc {zs : List (V × D)} {p : V × D} {st st' : T} : S.Fills zs st → S.Nx p st st' → S.Fills (zs ++ [p]) st'
def SFam.Put {T : Type} (S : SFam T) (K : Frg) (H : Hp) (y : V) (st : T) (P : T → Prop) : Prop := ∃ (d : D) (zs : List (V × D)) (ms : List Addr) (F : Hp) (U : List D), Same F H ∧ (∀ z ∈ zs, Rp K ms F z.1 z.2 ∧ S.el z.2 = true) ∧ Rp K ms F y d ∧ S.el d = true ∧ S.Fills zs st ∧ (∀ z ∈ zs, z.2 ∈ U) ∧ d ∈ U ∧ U.length ≤ S.cap ∧ ∀ st', S.Nx (y, d) st st' → P st'
structure SFam.Good {T : Type} (S : SFam T) : Prop where
  new : ∀ {P : Program} {w : World} {H : Hp} {h : Heap}, ObjOk P w H (h.push (TK.set0 w)) h.objs.size (S.O w h.objs.size S.z)
  add : ∀ {X : Cx} {pins : List (Addr × Obj)} {σ : L2.St} {H : Hp} {s : Shared} {E : Value → Shared → Prop} {D : Addr} {st : T} {y : V} {u : Value} {P : T → Prop} {Q : Value → Shared → Prop}, X.A.units + 64 < cLine → L2.Inv X pins σ H s → H D = some (S.O X.w D st) → RelV y u → S.Put X.K H y st P →
    (∀ st' s', P st' → L2.Inv X pins σ (upd H D (S.O X.w D st')) s' → Q .none s') → wpAny (model X.prog X.w) X.A (call (.builtin "set.add") [.ref D, u]) Q E s
section
variable {T : Type} {S : SFam T} {X : Cx}
/-- what differs from one sort of comprehension to the next: the new thing, what a turn does with an item, the kit's rules of the loop and of its start -/
structure CSort (X : Cx) (ex tg : Expr) (ifs : List Expr) where
  nw : Sem Value
  ob : Obj
  step : Env → Addr → (Shared → Prop) → (Value → Shared → Prop) → Shared → Prop
  made : ∀ {s : Shared} {E : Value → Shared → Prop} {Q : Value → Shared → Prop}, Q (.ref s.heap.objs.size) { s with heap := s.heap.push ob } → wpAny (model X.prog X.w) X.A nw Q E s
  loop : ∀ {R : Result → Shared → Prop} {it : Value} {D : Addr} {env : Env} (J : Nat → Shared → Prop),
    (∀ n s, J n s → wpAny (model X.prog X.w) X.A (pyNext it) (fun r s1 => match r with
      | none => R (.ok .next) s1
      | some v => wpAny (model X.prog X.w) X.A (letOwnedTupleGo tg it v) (fun _ s2 => wpAny (model X.prog X.w) X.A (assign tg env v) (fun _ s3 =>
          wpAny (model X.prog X.w) X.A (forIn ifs true fun c r => if r = true then do let ok ← isTrue c env (eval c env); pure (ForInStep.yield ok) else pure (ForInStep.yield r)) (fun ok s4 =>
            if ok = true then step env D (fun s' => ∃ m, m < n ∧ J m s') (notedBy (model X.prog X.w) X.A env fun e s' => R (.error e) s') s4 else ∃ m, m < n ∧ J m s4)
            (notedBy (model X.prog X.w) X.A env fun e s' => R (.error e) s') s3) (notedBy (model X.prog X.w) X.A env fun e s' => R (.error e) s') s2) (notedBy (model X.prog X.w) X.A env fun e s' => R (.error e) s') s1)
      (notedBy (model X.prog X.w) X.A env fun e s' => R (.error e) s') s) → ∀ n s, J n s → codeAny (model X.prog X.w) X.A (.compLoop ex 0 it (.ref D) env) R s
  start : ∀ {R : Result → Shared → Prop} {it : Value} {D : Addr} {env : Env} {s : Shared}, codeAny (model X.prog X.w) X.A (.compLoop ex 0 it (.ref D) env) R s →
    wpAny (model X.prog X.w) X.A (pyIter it) (fun jt s' => codeAny (model X.prog X.w) X.A (.compLoop ex 0 jt (.ref D) env) R s') (notedBy (model X.prog X.w) X.A env fun e s' => R (.error e) s') s → codeAny (model X.prog X.w) X.A (.compStart ex 0 it (.ref D) env) R s
end
/-! ### sets -/
section
variable {T : Type} {S : SFam T} {X : Cx}
end
/-! ### in the pure layer -/
section
variable {T : Type} {S : SFam T}
variable {X : Cx} {B : Bs} {rt : RdT} {rl : RdA} {pos : Pos}
end
end Y
/-! sets of numbers, sets of tuples from a comprehension: len, sorted -/
namespace Y
open PySem PySem.Spec PyProof.Rows L2 Z
open TK (SetK IsF)
/-! ### tuples -/
end Y
/-! len and sorted of a set comprehension -/
namespace Y
open PySem PySem.Spec PyProof.Rows L2 Z
section
variable {X : Cx}
end
section
variable {X : Cx} {B : Bs} {rt : RdT} {rl : RdA} {p0 pos pos1 : Pos}
end
end Y
/-! dict comprehensions whose keys are tuples of numbers -/
namespace Y
open PySem PySem.Spec PyProof.Rows L2 Z
section
variable {X : Cx}
end
section
variable {X : Cx} {B : Bs} {rt : RdT} {rl : RdA} {pos : Pos}
end
end Y
namespace TX
open PySem PySem.Spec PyProof.Rows L2
/-! ### sets of texts -/
def txOf (e : Int × Value) : Str := match e.2 with
  | .str x _ => x
  | _ => Str.empty
def IsTx (w : World) (e : Int × Value) : Prop := ∃ x u, e.2 = Value.str x u ∧ e.1 = hashStr w x
structure SetS (w : World) (h : Heap) (a : Addr) (L : List Str) (es : Array (Int × Value)) (ep : Nat) (t : SetTable) : Prop where
  ob : ∃ o, h.get? a = some o ∧ o.ExactSet ∧ o.data = .set es ep t
  tx : ∀ e ∈ es.toList, IsTx w e
  ls : es.toList.map txOf = L
  nd : L.Nodup
  ft : t.fits es.size = true
  rs : Ris t.place.toList
  ld : w.params.followText "set-order" = true ∨ t.led = true
section
variable {P : Program} {w : World} {A : Around} {E : Value → Shared → Prop} {s : Shared} {a : Addr} {L : List Str} {es : Array (Int × Value)} {ep : Nat} {t : SetTable}
theorem SetS.sz {h : Heap} (R : SetS w h a L es ep t) : es.size = L.length := by
  rw [← R.ls, List.length_map, Array.length_toList]
theorem SetS.keep {h h' : Heap} (R : SetS w h a L es ep t) (hk : ∀ o, h.get? a = some o → h'.get? a = some o) : SetS w h' a L es ep t :=
  let ⟨o, h1, h2⟩ := R.ob
  ⟨⟨o, hk o h1, h2⟩, R.tx, R.ls, R.nd, R.ft, R.rs, R.ld⟩
/-- the texts that are in, when i of ks have been put in -/
structure InS (ks : List Str) (i : Nat) (L : List Str) : Prop where
  mem : ∀ k, k ∈ L ↔ k ∈ ks.take i
end
end TX
namespace Y
open PySem PySem.Spec PyProof.Rows L2 Z TX
/-! ### sorted(set(x)) of a text -/
section
variable {X : Cx}
end
section
variable {X : Cx} {B : Bs} {e : Expr} {rl : RdA} {p0 p1 pos pos1 : Pos}
end
end Y
namespace Y
open PySem PySem.Spec PyProof.Rows L2 Z Builtin Builtin.Float
/-! ### f"{n:>w}" of ints that are not below 0 -/
section
variable {prog : Program} {w : World} {A : Around} {E : Value → Shared → Prop} {s : Shared}
end
end Y
namespace Y
open PySem PySem.Spec PyProof.Rows L2 Z Builtin Builtin.Float
section
variable {X : Cx} {B : Bs} {e : Expr} {r : Rd}
end
end Y
namespace Y
open PySem PySem.Spec PyProof.Rows L2 Z
open MN (spotsL Keeps Exact cellT)
/-! ### carpets of other sizes -/
def numOk : D → Int → D → Bool
  | .int i, l, .non => decide (l ≤ i)
  | .int i, l, .int u => decide (l ≤ i) && decide (i ≤ u)
  | _, _, _ => false
abbrev pos1 (v : D) : Bool := numOk v 1 .non
/-! ### what is refused -/
def knPB' : D → Bool
  | .tup [a, b] => knB a && knB b
  | d => knB d
theorem knPB'_P {d : D} (h : knPB' d = true) : knP d := by
  unfold knPB' at h
  split at h
  · obtain ⟨h1, h2⟩ := He.ba h
    exact ⟨knD_of h1, knD_of h2⟩
  · rename_i hn
    unfold knP
    split
    · exact (hn _ _ rfl).elim
    · exact knD_of h
end Y
namespace Y
open PySem PySem.Spec PyProof.Rows L2 Z
/-! ### text.count(sign), rows[::-1] -/
section
variable {X : Cx} {B : Bs} {o e : Expr} {ro r : Rd} {apos cpos : Pos}
end
end Y
namespace Y
open PySem PySem.Spec PyProof.Rows L2 Z
/-! ### contracts of pictures -/
end Y
namespace Y
open PySem PySem.Spec PyProof.Rows L2 Z
/-! ### s * n for any n -/
def rRepT : R2 := fun x y H Q => ∃ s k, x = .str s ∧ y = .int k ∧ -1000000 ≤ k ∧ k ≤ 100000 ∧ s.length ≠ 0 ∧ s.length * k.toNat ≤ 100000 ∧ Q (.str (repS s k.toNat)) H
theorem repS_one (s : Str) : repS s 1 = s := by
  unfold repS
  simp
theorem op_repT {X : Cx} : OpR X (binaryOp .Mult) rRepT := by
  intro pins s σ H x y v u Q I rx ry h
  obtain ⟨a, k, rfl, rfl, h1, h2, h3, h4, q⟩ := h
  by_cases k2 : 2 ≤ k
  · exact op_repS pins s σ H _ _ _ _ Q I rx ry ⟨a, k, rfl, rfl, k2, h2, h3, h4, q⟩
  · obtain ⟨t, rfl⟩ := rx
    obtain ⟨t', rfl⟩ := ry
    have lo : (decide (k < -(2 ^ 63 : Int)) || decide (k ≥ 2 ^ 63)) = false := by
      have e1 : ¬ k < -(2 ^ 63 : Int) := by omega
      have e2 : ¬ k ≥ 2 ^ 63 := by omega
      rw [decide_eq_false e1, decide_eq_false e2]
      rfl
    by_cases k1 : k < 1
    · refine PySem.P.mul_str lo (fun z => absurd k1 z) (fun z => absurd k1 z) ?_
      rw [if_pos k1]
      refine ⟨by decide, .str (repS a k.toNat), H, I.tok _, ?_, q⟩
      rw [show k.toNat = 0 by omega]
      exact ⟨_, rfl⟩
    · obtain rfl : k = 1 := by omega
      refine PySem.P.mul_str lo (fun _ z => by simp at z) (fun _ z => by simp at z) ?_
      rw [if_neg (by decide), if_pos (by simp)]
      have e : repS a (1 : Int).toNat = a := repS_one a
      rw [e] at q
      exact ⟨.str a, H, I, ⟨_, rfl⟩, q⟩
def dMulT (x y : D) (Q : D → Prop) : Prop := match x, y with
  | .str s, .int n => (-1000000 ≤ n ∧ n ≤ 100000 ∧ s.length ≠ 0 ∧ s.length * n.toNat ≤ 100000) ∧ Q (.str (repS s n.toNat))
  | _, _ => False
theorem repTL {K : Frg} {ms : List Addr} : OpL K ms rRepT dMulT := by
  intro F H x y dx dy Qd Q hs rx ry h k
  unfold dMulT at h
  split at h
  · cases rx; cases ry
    obtain ⟨⟨h1, h2, h3, h4⟩, h⟩ := h
    exact ⟨_, _, rfl, rfl, h1, h2, h3, h4, k _ F H _ (Go.refl hs) (.str _) h⟩
  · exact h.elim
end Y
namespace Y
open PySem PySem.Spec PyProof.Rows L2 Z
end Y
namespace Y
open PySem PySem.Spec PyProof.Rows L2 Z
/-! ### lists of texts, compared -/
end Y
namespace Y
open PySem PySem.Spec PyProof.Rows L2 Z
end Y
namespace Y
open PySem PySem.Spec PyProof.Rows L2 Z
end Y
/-! new dicts with tuple keys, their len, d[e] = x.setdefault(..), xs[::-1] -/
namespace Y
open PySem PySem.Spec PyProof.Rows L2 Z
section
variable {X : Cx} {B : Bs} {e ev : Expr} {r : Rd} {pos pv pos' p0 p1 p2 p3 : Pos} {x : Str} {i k : Nat}
end
end Y
/-! set and dict comprehensions over a generator -/
namespace GX
open PySem PySem.Spec PyProof.Rows L2 Z Y
section
variable {X : Cx}
variable {B : Bs} {rt : RdT} {rl : RdA} {pos : Pos}
end
end GX
namespace Y
open PySem PySem.Spec PyProof.Rows L2 Z
/-! ### try: body, except C as n: suite, except (C1, C2, C3, C4) as n: suite, .. -/
/-- a clause's test, once the error lies in a suite's state -/
def TestM (X : Cx) (te : Expr) (cs : List Value) : Prop := ∀ {a : Addr} {pn : List (Addr × Obj)} {σ : L2.St} {H : Hp} {s : Shared} {cls : Value} {b : Bool} {Q : Bool → Shared → Prop} {E : Value → Shared → Prop},
  Inv (X.suite a pn) [] σ H s → PySem.W.Looks (model X.prog X.w) s.heap (typeOf (.ref a)) cls → PySem.W.exmAny X.K cls cs = some b →
  (∀ h', (∀ q o, s.heap.get? q = some o → h'.get? q = some o) → Q b { s with heap := h' }) →
  wpAny (model X.prog X.w) (X.A.mark (some (.ref a))) (eval te X.env) (fun c s1 => wpAny (model X.prog X.w) (X.A.mark (some (.ref a))) (excMatches (.ref a) c) Q E s1) E s
section
variable {X : Cx} {x x1 x2 x3 x4 : Str} {c c1 c2 c3 c4 : Value} {p p1 p2 p3 p4 : Pos}
theorem nm_ld {a : Addr} {pn : List (Addr × Obj)} {σ : L2.St} {H : Hp} {s : Shared} {Q : Value → Shared → Prop} {E : Value → Shared → Prop} (hc : Names X x c) (I : Inv (X.suite a pn) [] σ H s) (q : Q c s) : wpAny (model X.prog X.w) (X.A.mark (some (.ref a))) (eval (.Name x p) X.env) Q E s := by
  obtain ⟨hg, hdbg, hm | ⟨hm, hv, hnn⟩⟩ := hc
  · exact ld_glob (X := X.suite a pn) I hg hm q hdbg
  · exact ld_blt (X := X.suite a pn) I hg hm hv q hnn hdbg
theorem tm_one (hc : Names X x c) : TestM X (.Name x p) [c] := fun {a pn σ H s cls b Q E} I LT he q => by
  obtain ⟨b1, d1, h1, h2, e⟩ := PySem.W.exmAny_cons he
  have : some false = some d1 := h2
  cases this
  subst e
  rw [Bool.or_false] at q
  exact nm_ld hc I ((PySem.W.exm_one I.kIn LT h1).here (q s.heap fun _ _ z => z))
theorem tm_four {kk : Nat} {tpos : Pos} (n1 : Names X x1 c1) (n2 : Names X x2 c2) (n3 : Names X x3 c3) (n4 : Names X x4 c4) : TestM X (.Tuple [.Name x1 p1, .Name x2 p2, .Name x3 p3, .Name x4 p4] kk tpos) [c1, c2, c3, c4] := fun {a pn σ H s cls b Q E} I LT he q => by
  refine wpAny_Tuple ?_
  refine wpAny_items_cons (nm_ld n1 I ?_)
  refine wpAny_items_cons (nm_ld n2 I ?_)
  refine wpAny_items_cons (nm_ld n3 I ?_)
  refine wpAny_items_cons (nm_ld n4 I ?_)
  refine wpAny_items_nil ⟨by size_fits, ?_⟩
  have kp : ∀ q o, s.heap.get? q = some o → (s.heap.push { cls := .type "tuple", data := .seq [c1, c2, c3, c4].toArray }).get? q = some o := fun _ _ z => Heap.get?_push_of_some _ z
  exact (PySem.W.exm_tup4 (I.kIn.keeps kp) (LT.keeps kp) (Heap.get?_push_size s.heap rfl) he).here (q _ kp)
end
/-- .. by the classes' names -/
structure TestQ (X : Cx) (te : Expr) (cs : List Str) : Prop where
  t : TestM X te (cs.map fun C => .ref (He.ga X.K C))
theorem tmn_one {X : Cx} {C : Str} {p : Pos} (h : Names X C (.ref (He.ga X.K C))) : TestQ X (.Name C p) [C] := ⟨tm_one h⟩
theorem tmn_four {X : Cx} {C D G I : Str} {p p1 p2 p3 tpos : Pos} {kk : Nat} (h : Names X C (.ref (He.ga X.K C))) (h1 : Names X D (.ref (He.ga X.K D))) (h2 : Names X G (.ref (He.ga X.K G))) (h3 : Names X I (.ref (He.ga X.K I))) :
    TestQ X (.Tuple [.Name C p, .Name D p1, .Name G p2, .Name I p3] kk tpos) [C, D, G, I] := ⟨tm_four h h1 h2 h3⟩
def wM (K : Frg) (Wout : WX) (D : Ends) : List (List Value × Nat × TS) → WX
  | [] => Wout
  | (cs, i, ts) :: l => fun cls d σ H => ∃ b, PySem.W.exmAny K cls cs = some b ∧ (b = true → ∀ a, H a = none → ts (endX i D) (σ.set i (some (.ref a))) (upd H a (XO cls d a))) ∧ (b = false → wM K Wout D l cls d σ H)
inductive HdsM (X : Cx) : List ExceptHandler → List (List Value × Nat × TS) → Prop
  | nil : HdsM X [] []
  | cons {te : Expr} {n : Str} {cs : List Value} {i : Nat} {ts : TS} {b₀ : Stmt} {suite : List Stmt} {pos' : Pos} {hds : List ExceptHandler} {l : List (List Value × Nat × TS)} (hc : TestM X te cs) (hi : X.N[i]? = some n) (hln : X.env.kindOf n = some .local)
      (hsu : ∀ (a : Addr) (pn : List (Addr × Obj)), PSs (X.suite a pn) (b₀ :: suite) ts) (r : HdsM X hds l) :
      HdsM X (.ExceptHandler (some te) (some n) (b₀ :: suite) pos' :: hds) ((cs, i, ts) :: l)
theorem flyZ_keeps {B h h' : Heap} {l : List Env} {a : Addr} {Z : Obj → Prop} (x : HandSPX.FlyingZ B l a Z h) (k : ∀ b o, h.get? b = some o → h'.get? b = some o) : HandSPX.FlyingZ B l a Z h' := by
  obtain ⟨f1, f2, f3, oe, vs, T, oT, ts, he, hz, hd, h1, hn, hne, hT, hdT, h3⟩ := x
  exact ⟨fun b o q => k b o (f1 b o q), f2, f3.of_keeps fun b o q _ => ⟨o, k b o q, rfl⟩, oe, vs, T, oT, ts, k _ _ he, hz, hd, h1, hn, hne, k _ _ hT, hdT, h3⟩
section
variable {X : Cx} {body : List Stmt} {h₀ : ExceptHandler} {hds : List ExceptHandler} {l : List (List Value × Nat × TS)} {pos : Pos} {tb : WX → TS} {Wout : WX}
theorem ps_tryM (hs : X.stack = X.env :: X.outer) (hf : X.env.frame = some X.env.locals) (hN : X.N.Nodup) (hex : X.ex = []) (tk : Takes X Wout)
    (hb : ∀ (W : WX) (pn : List (Addr × Obj)) (xe : Value → Shared → Prop), Takes (X.tr pn xe) W → PassesOwn (model X.prog X.w) X.A X.env xe → PSs (X.tr pn xe) body (tb W))
    (hh : HdsM X (h₀ :: hds) l) : PS X (.Try body (h₀ :: hds) [] [] pos) (fun D σ H => tb (wM X.K Wout D l) D σ H) := by
  refine ⟨fun pins s σ H D I h => ?_⟩
  have ok := I.ok
  have hfr : X.A.frames = some (X.env :: X.outer) := by rw [ok.frames, hs]
  refine wpAny_Try_except ?_
  refine wpAny_mono ((hb (wM X.K Wout D l) (X.pn ++ pins) (fun e s₁ => wpAny (model X.prog X.w) X.A (noteFrame e X.env) (fun _ s₂ => wpAny (model X.prog X.w) X.A (setFlight e none) (fun _ s₃ =>
    wpAny (model X.prog X.w) X.A (handleBy e X.env (h₀ :: hds)) (SP X pins D) X.xe s₃) X.xe s₂) X.xe s₁) (fun u s' xx => ?_) PassesOwn.looking).run [] s σ H D (I.toTry _) h) (fun f s1 hsp => ?_) (fun e s1 he => he)
  · obtain ⟨a, B, sI, pins', σ', H', cls, d, rfl, J', nb, up, sky, na, os, ag, w⟩ := xx
    have J : Inv X pins σ' H' sI := J'.ofTry ok
    have sky' : Sky B (X.env :: X.outer) a (Zc cls d) X.env.locals s'.heap := by rw [← hs]; exact sky
    show wpAny (model X.prog X.w) X.A (noteFrame (.ref a) X.env) _ _ _
    refine Sky.land Zc.steady hfr hf sky' fun h3 fl3 up3 => ?_
    have notFr : ∀ {h : Heap} {o : Obj} {vs : Array Value}, h.FunFrames B (X.env :: X.outer) → h.get? a = some o → o.data = .fields vs → a ∉ frs (X.env :: X.outer) := fun {h o vs} ff e dd hm => by
      obtain ⟨_, o', e', hnf⟩ := ff.mem hm
      rw [e] at e'; cases e'
      exact hnf _ dd
    have nfr : a ∉ frs (X.env :: X.outer) := by
      obtain ⟨oe3, vs3, he3, hz3, hd3⟩ := fl3.there
      exact notFr fl3.2.2.1 he3 hd3
    have nL : a ≠ X.env.locals := fun z => nfr (List.mem_filterMap.mpr ⟨X.env, List.mem_cons_self, by rw [hf, z]⟩)
    have nF : a ∉ X.fs := fun hm => by
      obtain ⟨e, he, q⟩ := List.mem_filterMap.mp hm
      exact nfr (List.mem_filterMap.mpr ⟨e, List.mem_cons_of_mem _ he, q⟩)
    have nfrS : a ∉ frs X.stack := by rw [hs]; exact nfr
    have nI : ∀ o, sI.heap.get? a ≠ some o := fun o e => by
      have z := nb a o e nfrS
      rw [fl3.2.1] at z
      cases z
    have n0 : X.s_0.heap.get? a = none := by
      cases e : X.s_0.heap.get? a with
      | none => rfl
      | some o =>
        obtain ⟨o', z⟩ := J.base.there a o e (by rw [hex]; exact fun z => nomatch z)
        exact absurd z (nI o')
    have hpn : ∀ p ∈ X.pn ++ pins, p.1 ≠ a := fun p hp z => by
      have q := (J.pin p hp).1
      rw [z] at q
      exact nI _ q
    have hcl : ∀ x c, X.env.cells.lookup x = some c → c ≠ a := fun x c e z => by
      obtain ⟨v, o, q, _⟩ := J.cell x c e
      rw [z] at q
      exact nI _ q
    have go : ∀ {hds' : List ExceptHandler} {l' : List (List Value × Nat × TS)}, HdsM X hds' l' → ∀ {h : Heap}, HandSPX.FlyingZ B (X.env :: X.outer) a (Zc cls d) h → sI.heap.UpToSlots h → wM X.K Wout D l' cls d σ' H' →
        wpAny (model X.prog X.w) X.A (handleBy (.ref a) X.env hds') (SP X pins D) X.xe { s' with heap := h } := by
      intro hds' l' hk
      induction hk with
      | nil =>
        intro h fl uph w
        refine wpAny_handleBy_nil ?_
        obtain ⟨k1, k2, k3, oe, vs, T, oT, ts', he, hz, hd, h1, hr⟩ := id fl
        unfold PySem.passOn
        refine wpAny_bind (wpAny_field he hd h1 ?_)
        rw [if_neg (show ¬ ((Value.ref T == Value.none) = true) from by simp)]
        have fin : wpAny (model X.prog X.w) X.A (setFlight (.ref a) X.env.frame) (fun _ s4 => wpAny (model X.prog X.w) X.A (throw (.ref a) : Sem Flow) (SP X pins D) X.xe s4) X.xe { s' with heap := h } := by
          rw [hf]
          refine HandSPX.setFlight_upZ fl fun h4 hh4 up4 => wpAny_throw (tk _ _ ?_)
          exact ⟨a, B, sI, pins, σ', H', cls, d, rfl, J, nb, uph.trans up4, .inr (.inr (by rw [hs]; exact hh4)), na, os, ag, w⟩
        first
          | exact wpAny_bind (wpAny_pure (wpAny_bind fin))
          | exact wpAny_bind fin
      | @cons te n cs i ts b₀ suite pos' hds2 l2 hc hi hln hsu r ih =>
        intro h fl uph w
        obtain ⟨b, hb1, hyes, hno⟩ := w
        obtain ⟨oe3, vs3, he3, hz3, hd3⟩ := fl.there
        have J3 : Inv X pins σ' H' { s' with heap := h } := J.landed nb fl.1 uph os ag
        have S3 := J3.suite he3 hd3 na nL nF
        refine wpAny_handleBy_cons (codeAny_handlers_test ?_) (by intro q; cases q)
        have LT : PySem.W.Looks (model X.prog X.w) h (typeOf (.ref a)) cls := fun A Q E s k q => wpAny_typeOf_ref (k _ _ he3) (by rw [hz3.1]; exact q)
        refine hc S3 LT hb1 fun h' kp => ?_
        have fl' := flyZ_keeps fl kp
        have up' : sI.heap.UpToSlots h' := uph.trans (Heap.UpToSlots.of_keeps kp)
        cases b with
        | true =>
          refine codeAny_handlers_suite_as ?_
          refine HandSPX.lands_againZ fl' fun h4 fl4 up4 => ?_
          have J4 : Inv X pins σ' H' { s' with heap := h4 } := J.landed nb fl4.1 (up'.trans up4) os ag
          obtain ⟨oe4, vs4, he4, hz4, hd4⟩ := fl4.there
          have S4 := inv_track (m := a) (o := XO cls d a) J4 na n0 nL hcl hpn (xo_ok he4 hz4 hd4)
          refine store_ok (X := X.suite a (X.pn ++ pins)) (v := .ref a) S4 hN hi (.inl hln) rfl (fun s5 S5 => ?_) (.inr hln)
          refine wpAny_mono ((hsu a (X.pn ++ pins)).run [] s5 _ _ _ S5 (hyes rfl a na)) (fun f s6 hsp => ?_) (fun _ _ z => False.elim z)
          have end_ : ∀ {σ6 : L2.St} {H6 : Hp} {Q : Shared → Prop}, Inv (X.suite a (X.pn ++ pins)) [] σ6 H6 s6 → (∀ s7, Inv X pins (σ6.set i none) H6 s7 → Q s7) →
              wpAny (model X.prog X.w) X.A (do bindName X.env n .none; unbindBehindTheSuite X.env n pos') (fun _ s7 => Q s7) X.xe s6 := fun {σ6 H6 Q} S6 hq => gone_ok (inv_untrk S6 ok) hN hi hln hq
          cases f with
          | next =>
            obtain ⟨σ6, H6, S6, q6⟩ := hsp
            exact end_ S6 fun s7 J7 => ⟨_, _, J7, q6⟩
          | brk =>
            obtain ⟨σ6, H6, S6, q6⟩ := hsp
            exact end_ S6 fun s7 J7 => ⟨_, _, J7, q6⟩
          | cont =>
            obtain ⟨σ6, H6, S6, q6⟩ := hsp
            exact end_ S6 fun s7 J7 => ⟨_, _, J7, q6⟩
          | ret u =>
            obtain ⟨v6, σ6, H6, S6, r6, q6⟩ := hsp
            exact end_ S6 fun s7 J7 => ⟨_, _, _, J7, r6, q6⟩
        | false =>
          show wpAny _ X.A (handleBy (.ref a) X.env hds2) _ _ _
          exact ih fl' up' (hno rfl)
    exact go hh fl3 (up.trans up3) w
  · cases f with
    | next =>
      obtain ⟨σ', H', J', q⟩ := hsp
      exact wpAny_execs_nil ⟨σ', H', J'.ofTry ok, q⟩
    | brk =>
      obtain ⟨σ', H', J', q⟩ := hsp
      exact ⟨σ', H', J'.ofTry ok, q⟩
    | cont =>
      obtain ⟨σ', H', J', q⟩ := hsp
      exact ⟨σ', H', J'.ofTry ok, q⟩
    | ret u =>
      obtain ⟨v, σ', H', J', r, q⟩ := hsp
      exact ⟨v, σ', H', J'.ofTry ok, r, q⟩
end
section
variable {X : Cx} {B : Bs} {e : Expr} {pos p1 : Pos}
def hndM (K : Frg) (Ed : Ex → Prop) : List (List Str × Nat × RdS) → Ex → Ev → En → Prop
  | [], x, _, _ => Ed x
  | (Cs, i, rs) :: l, x, ρ, E => ∃ b, (∃ cls, clsV K x.c = some cls ∧ PySem.W.exmAny K cls (Cs.map fun C => .ref (He.ga K C)) = some b) ∧ ifB b (rs (ρ.set i (.mu (.exc x))) (endR i E)) (hndM K Ed l x ρ E)
inductive HdsQ (X : Cx) (B : Bs) : List ExceptHandler → List (List Str × Nat × RdS) → Prop
  | nil : HdsQ X B [] []
  | cons {te : Expr} {n : Str} {cs : List Str} {i : Nat} {rs : RdS} {b₀ : Stmt} {suite : List Stmt} {pos' : Pos} {hds : List ExceptHandler} {l : List (List Str × Nat × RdS)} (hc : TestQ X te cs) (hi : X.N[i]? = some n) (hln : X.env.kindOf n = some .local)
      (hsu : ∀ (a : Addr) (pn : List (Addr × Obj)), PSsp (X.suite a pn) B.nox (b₀ :: suite) rs) (r : HdsQ X B hds l) :
      HdsQ X B (.ExceptHandler (some te) (some n) (b₀ :: suite) pos' :: hds) ((cs, i, rs) :: l)
def hdM (K : Frg) (B : Bs) (q : List Str × Nat × RdS) : List Value × Nat × TS := (q.1.map fun C => .ref (He.ga K C), q.2.1, tS K B.nox q.2.2)
theorem HdsQ.n {hds : List ExceptHandler} {l : List (List Str × Nat × RdS)} (h : HdsQ X B hds l) : HdsM X hds (l.map (hdM X.K B)) := by
  induction h with
  | nil => exact .nil
  | cons hc hi hln hsu _ ih => exact .cons hc.t hi hln hsu ih
theorem hnd_okM {K : Frg} {E : En} {Dd : Ends} {F H : Hp} {σ : L2.St} {ρ : Ev} {cls : Value} {d : Option Addr} {x : Ex} (h0 : Same B.F0 B.H0) (I : Iv K B F H σ ρ) (xr : XR K B.ms F cls d x)
    (kn : ∀ σ' ρ' F' H', Same F F' → Iv K B F' H' σ' ρ' → E.nx ρ' → Dd.nx σ' H') (kr : ∀ v d F' H', Go B.ms B.F0 B.H0 F' H' → Tp K B.ms F' H' → Rp K B.ms F' v d → E.rt d → Dd.rt v H')
    (kb : ∀ σ' ρ' F' H', Same F F' → Iv K B F' H' σ' ρ' → E.bk ρ' → Dd.bk σ' H') (kc : ∀ σ' ρ' F' H', Same F F' → Iv K B F' H' σ' ρ' → E.ct ρ' → Dd.ct σ' H') :
    ∀ {l : List (List Str × Nat × RdS)}, hndM K B.Ed l x ρ E → wM K (fun cls d _ H => EE K B cls d H) Dd (l.map (hdM K B)) cls d σ H
  | [], q => ⟨F, x, I.go, I.tp, xr, q⟩
  | (Cs, i, rs) :: l, q => by
    obtain ⟨b, ⟨cls', e1, e2⟩, q⟩ := q
    have e3 : cls' = cls := Option.some.inj (e1.symm.trans xr.1)
    subst e3
    refine ⟨b, e2, fun hb a na => ?_, fun hb => ?_⟩
    · subst hb
      refine ⟨F, _, endR i E, (I.newM (m := .exc x) h0 i na rfl ⟨cls', d, rfl, xr⟩).nox, ifB_t q, fun σ' ρ' F' H' s J z => ?_, fun v d F' H' g t r z => kr v d F' H' g t r z, fun σ' ρ' F' H' s J z => ?_, fun σ' ρ' F' H' s J z => ?_⟩
      · exact kn _ _ F' H' s (J.unnox.wipe i) z
      · exact kb _ _ F' H' s (J.unnox.wipe i) z
      · exact kc _ _ F' H' s (J.unnox.wipe i) z
    · subst hb
      exact hnd_okM h0 I xr kn kr kb kc (ifB_f q)
theorem s_tryEM {h₀ : ExceptHandler} {hds : List ExceptHandler} {l : List (List Str × Nat × RdS)} {rx : Ev → (D → Prop) → (Ex → Prop) → Prop} (h0 : Same B.F0 B.H0) (hs : X.stack = X.env :: X.outer) (hf : X.env.frame = some X.env.locals) (hN : X.N.Nodup) (hex : X.ex = []) (tk : Tk X B)
    (hx : ∀ (pn : List (Addr × Obj)) (xe : Value → Shared → Prop), PXp (X.tr pn xe) B e rx) (hh : HdsQ X B (h₀ :: hds) l) (hsw : swapsWith e none p1.line X.env = pure false := by rfl) :
    PSp X B (.Try [.Expr e p1] (h₀ :: hds) [] [] pos) (fun ρ E => rx ρ (fun _ => E.nx ρ) (fun x => hndM X.K B.Ed l x ρ E)) :=
  ps_imp (ps_tryM (Wout := fun cls d _ H => EE X.K B cls d H) (tb := fun W => tDrop (tX X.K B rx W)) hs hf hN hex tk (fun W pn xe tk' po => pss_one (ps_expr (hx pn xe W tk') hsw)) hh.n) fun σ H Dd ⟨F, ρ, E, I, z, kn, kr, kb, kc⟩ =>
    ⟨F, ρ, _, _, I, z, fun v F' H' d g t r q => kn σ ρ F' H' g.ff (I.step g t) q, fun cls d F' H' x g t xr q => hnd_okM h0 (I.step g t) xr (fun σ2 ρ2 F2 H2 s => kn σ2 ρ2 F2 H2 (g.ff.trans s)) kr (fun σ2 ρ2 F2 H2 s => kb σ2 ρ2 F2 H2 (g.ff.trans s)) (fun σ2 ρ2 F2 H2 s => kc σ2 ρ2 F2 H2 (g.ff.trans s)) q⟩
/-- isinstance(e, C), C a class of the language -/
def rIsEB (K : Frg) (i : Nat) (cv : Value) : Rd := fun ρ Q => match ρ[i]? with
  | some (.mu (.exc x)) => ∃ c b, (x.c = .glob c ∧ x.ns ≠ []) ∧ ExcC K (He.ga K c) ∧ PySem.W.kitOne K (.ref (He.ga K c)) cv = some b ∧ Q (.bl b)
  | _ => False
theorem y_isxB {K : Frg} {n C : Str} {T : String} {i : Nat} {p p0 p1 pos : Pos} {u : Value} (hv : PE X (.Name n p) (tVar i)) (hg : Gl X C) (hm : X.mg C = none) (hb : bootBuiltins C = some u) (ht : RelV (V.ty T) u) (hn : C ≠ "__name__") (hi : Gl X "isinstance") (hmi : X.mg "isinstance" = none) (hdC : (C == ("__debug__" : Str)) = false := by decide)
    (h1 : starEach [.Name n p, .Name C p1] X.env = (false, eval (.Name n p) X.env) :: starEach [.Name C p1] X.env := by rfl) (h2 : starEach [.Name C p1] X.env = (false, eval (.Name C p1) X.env) :: starEach [] X.env := by rfl)
    (hpl : (backTo pos (starEach [.Name C p1] X.env)).any (·.1) = false := by rfl) (hK : X.K = K := by rfl) : PEp X B (.Call (.Name "isinstance" p0) [.Name n p, .Name C p1] [] pos) (rIsEB K i (.type T)) := by
  subst hK
  exact pe_imp (pe_callB call_isX hi hmi (by decide +kernel) (pa_cons hv (pa_cons (pe_bltn (v := .ty T) hg hm hb ht hn hdC) pa_nil h2) h1) (by decide) (by decide) h1 hpl) fun σ H Q ⟨F, ρ, Qd, J, z, kk⟩ => by
    unfold rIsEB at z
    split at z
    · rename_i x hx
      obtain ⟨c, b, ⟨ec, hns⟩, EC, hk, z⟩ := z
      obtain ⟨a, o, s1, s2, s3, s4, s5, cls, d, rfl, xr⟩ := J.own i _ hx
      obtain ⟨ec1, xr2⟩ := xr
      rw [ec] at ec1
      have ecl : cls = .ref (He.ga X.K c) := (Option.some.inj ec1).symm
      subst ecl
      refine ⟨_, s1, a, He.ga X.K c, d, _, _, b, rfl, s5, fun dd ed => ?_, EC, fun u r => r, hk, kk _ F H _ (Go.refl J.same) J.tp (.bl b) z⟩
      obtain ⟨dd2, ws, ed2, eF, _⟩ := xr2 hns
      rw [ed] at ed2
      cases ed2
      exact ⟨_, J.same _ _ eF⟩
    · exact z.elim
end
def bKtB (x : Str) (T : String) (b : Bool) : Frg → Bool := fun K => decide (PySem.W.kitOne K (.ref (He.ga K x)) (.type T) = some b)
theorem ktB_of {K : Frg} {x : Str} {T : String} {b : Bool} (h : bKtB x T b K = true) : PySem.W.kitOne K (.ref (He.ga K x)) (.type T) = some b := of_decide_eq_true h
/-! ### o.m(..), m a class method of o's class -/
/-- the class C (or its base D, whose method it is) -/
def bCI (C D m : Str) : Frg → Bool := fun K => PySem.W.plainGet K (He.ga K C) Str.empty && (PySem.W.isClsIn K (He.ga K C) && (He.eqO (PySem.W.findIn K (.ref (He.ga K C)) m) (some (some (.ref (He.ma K (He.ga K D) m)))) && (decide (PySem.W.typeIn K (.ref (He.ma K (He.ga K D) m)) = some (.type "classmethod")) &&
  (He.eqO (PySem.W.specialIn K (.ref (He.ma K (He.ga K D) m)) "__get__") (some (some (.builtin "classmethod.__get__"))) && (decide (PySem.W.takesIn K (.ref (He.ma K (He.ga K D) m)) = some false) && (!PySem.W.copiedNames.contains m &&
  ((match PySem.W.recIn K (He.ma K (He.ga K D) m) "classmethod" with | some (.ref g :: _) => decide (g = He5.wf K (He.ga K D) "classmethod" m) | _ => false) && PySem.W.fnIn K (He5.wf K (He.ga K D) "classmethod" m))))))))
theorem ci_of {K : Frg} {C D m : Str} (h : bCI C D m K = true) : ClX.CInst K (He.ga K C) m (He.ma K (He.ga K D) m) (He5.wf K (He.ga K D) "classmethod" m) := by
  obtain ⟨h1, h⟩ := He.ba h
  obtain ⟨h2, h⟩ := He.ba h
  obtain ⟨h3, h⟩ := He.ba h
  obtain ⟨h4, h⟩ := He.ba h
  obtain ⟨h5, h⟩ := He.ba h
  obtain ⟨h6, h⟩ := He.ba h
  obtain ⟨h7, h⟩ := He.ba h
  obtain ⟨h8, h9⟩ := He.ba h
  refine ⟨h1, h2, He.eqO_ok h3, of_decide_eq_true h4, He.eqO_ok h5, of_decide_eq_true h6, by simpa using h7, ?_, h9⟩
  split at h8
  · rename_i g rest e
    exact ⟨rest, by rw [e, of_decide_eq_true h8]⟩
  · cases h8
section
variable {X : Cx} {B : Bs} {o e : Expr} {es : List Expr} {ro : Rd} {rl : RdA} {pos apos : Pos} {R : RdF} {k : Nat} {g p : Addr} {m : Str}
/-- the reading: the class of the object is handed in -/
def asC (cs ns : List Str) (d : D) (k : Str → Prop) : Prop := match d with
  | .obj C ms _ => C ∈ cs ∧ ms = ns ∧ k C
  | _ => False
theorem y_imeth {cs ns : List Str} {pl : Sem Bool} (ho : PEp X B o ro) (hc : ∀ c ∈ cs, ClX.CInst X.K (He.ga X.K c) m p g) (F : FnG X.prog X.w X.K X.mg X.base (L2.CX X.prog X.w) k g (spP X.K R)) (hr : RoomG k X.A) (hx : Px X B) (ha : PAp X B (e :: es) rl)
    (hn : (ns.all fun y => !(m == y)) = true := by decide +kernel) (hst : starEach (e :: es) X.env = (false, eval e X.env) :: starEach es X.env := by rfl) (hpl : (backTo pos (starEach es X.env)).any (·.1) = false := by rfl)
    (ht : eval (.Call (.Attribute o m apos) (e :: es) [] pos) X.env = (do
      let ov ← eval o X.env
      standAt apos.atName
      let (f, first) ← holding [ov] (getMethod ov m pl)
      callWith pos f first (backTo pos (starEach (e :: es) X.env)) (backToKw pos (keywordEach [] X.env))) := by rfl) :
    PEp X B (.Call (.Attribute o m apos) (e :: es) [] pos) (fun ρ Q => ro ρ fun d => asC cs ns d fun C => rl ρ fun ds => R (.glob C :: ds) Q B.Ed) := by
  refine ⟨fun pins s σ H Q I ⟨F0, ρ, Qd, J, z, kk⟩ => ?_⟩
  refine PySem.W.methodCall_KW (pl := pl) (thn (ho.run pins s σ H (fun v H1 => ∃ F1 d, Go B.ms F0 H F1 H1 ∧ Tp X.K B.ms F1 H1 ∧ Rp X.K B.ms F1 v d ∧ asC cs ns d fun C => rl ρ fun ds => R (.glob C :: ds) Qd B.Ed) I ⟨F0, ρ, _, J, z, fun v F1 H1 d g1 t1 r1 z1 => ⟨F1, d, g1, t1, r1, z1⟩⟩) fun u s1 ⟨v, H1, I1, rx, F1, d, g1, t1, r1, z1⟩ => ?_) ht
  unfold asC at z1
  split at z1
  · rename_i C ms ds0
    obtain ⟨hcs, rfl, z2⟩ := z1
    cases r1 with
    | @obj a dx _ _ vs ds h1 h2 h3 =>
      obtain rfl : u = Value.ref a := rx
      obtain ⟨mA, O, rr, _, _, _⟩ := ins_get I1.hok (t1.1 _ _ h1)
      have hno : mA m = none := RelO.none_of (by rw [← look_none (vs := vs) hn]; exact rr m)
      obtain ⟨od, J2, hl⟩ := O.look
      refine ClX.getmethim_ok I1 J2 (by rw [hl m, hno]) (hc _ hcs) fun s2 I2 => ?_
      refine ClX.callwith_cm I2 (ClX.base_none I1 (Nat.le_refl _)) (hc _ hcs).fi (thn (ha.run pos _ s2 σ H1 (fun vs H2 => ∃ F2 ds', Go B.ms F1 H1 F2 H2 ∧ Tp X.K B.ms F2 H2 ∧ Rps X.K B.ms F2 vs ds' ∧ R (.glob C :: ds') Qd B.Ed) I2 ⟨F1, ρ, _, J.step g1 t1, z2, fun vs F2 H2 ds g2 t2 r2 z3 => ⟨F2, ds, g2, t2, r2, z3⟩⟩) fun us s3 ⟨vs', H2, I3, rv, F2, ds', g2, t2, r2, z3⟩ => ⟨⟨ClX.pin_at I3, I3.kIn⟩, ?_⟩) hst hpl
      exact run_cmA (F.at hr) hx I3 rv (sp_call (vs := .ref _ :: vs') J kk (g1.trans g2) t2 (.cons (.glob C) r2) z3)
  · exact z1.elim
end
theorem all3 {p : Str → Prop} {C D G : Str} (h : p C) (h' : p D) (h2 : p G) : ∀ c ∈ [C, D, G], p c := fun c hc => by
  rcases List.mem_cons.mp hc with rfl | hc
  · exact h
  · exact all2 h' h2 c hc
theorem all4 {p : Str → Prop} {C D G I : Str} (h : p C) (h' : p D) (h2 : p G) (h3 : p I) : ∀ c ∈ [C, D, G, I], p c := fun c hc => by
  rcases List.mem_cons.mp hc with rfl | hc
  · exact h
  · exact all3 h' h2 h3 c hc
/-! ### isinstance(x, (list, tuple)), x any plain value -/
def lotB (d : D) : Bool := match d with
  | .lst _ | .tup _ => true
  | _ => false
def plB (d : D) : Bool := match d with
  | .non | .bl _ | .int _ | .str _ | .lst _ | .tup _ | .dic _ _ => true
  | _ => false
def dIsLT (d : D) (Q : D → Prop) : Prop := plB d = true ∧ Q (.bl (lotB d))
section
variable {X : Cx} {B : Bs} {a : Expr} {ra : Rd} {pos p0 : Pos}
theorem isLT_two {K : PySem.W.Frag} {t : String} (h1 : kitB t "list" = some false) (h2 : kitB t "tuple" = some false) : PySem.W.kitAny K (.type t) [.type "list", .type "tuple"] = some false :=
  kitAny_cons (kit_ty h1) (fun _ => kitAny_cons (kit_ty h2) (fun _ => rfl) (fun z => nomatch z)) (fun z => nomatch z)
theorem y_isLT {e1 e2 : Expr} {x1 : Nat} {tp : Pos} (ha : PEp X B a ra) (h1 : PE X e1 (tC (.ty "list"))) (h2 : PE X e2 (tC (.ty "tuple"))) (hg : Gl X "isinstance") (hm : X.mg "isinstance" = none)
    (hs1 : starEach [e1, e2] X.env = (false, eval e1 X.env) :: starEach [e2] X.env := by rfl) (hs2 : starEach [e2] X.env = (false, eval e2 X.env) :: starEach [] X.env := by rfl)
    (hs : starEach [a, .Tuple [e1, e2] x1 tp] X.env = (false, eval a X.env) :: starEach [.Tuple [e1, e2] x1 tp] X.env := by rfl) (hs3 : starEach [.Tuple [e1, e2] x1 tp] X.env = (false, eval (.Tuple [e1, e2] x1 tp) X.env) :: starEach [] X.env := by rfl) (hpl : (backTo pos (starEach [.Tuple [e1, e2] x1 tp] X.env)).any (·.1) = false := by rfl) :
    PEp X B (.Call (.Name "isinstance" p0) [a, .Tuple [e1, e2] x1 tp] [] pos) (fun ρ Q => ra ρ fun d => dIsLT d Q) :=
  pe_imp (pe_callB call_isiT hg hm (by decide +kernel) (pa_cons ha (pa_cons (pe_tupZ (pa_cons h1 (pa_cons h2 pa_nil hs2) hs1)) pa_nil hs3) hs) (by decide) (by decide) hs hpl) fun σ H Q ⟨F0, ρ, Qd, I, z, kk⟩ => ⟨F0, ρ, _, I, z, fun v F1 H1 d g1 t1 r1 ⟨zp, z1⟩ => by
    refine ⟨by show 2 ≤ sizeLine; decide, fun p H2 hp e2' => ?_⟩
    obtain ⟨F2, g2, q2, _⟩ := newE g1.fh hp e2'
    have fin := kk _ F2 H2 _ (g1.trans g2.nil) (t1.go0 g2) (.bl _) z1
    have r2 := r1.up g2.ff
    cases d with
    | non => exact ⟨v, p, [.ty "list", .ty "tuple"], .type "NoneType", [.type "list", .type "tuple"], false, rfl, g2.fh _ _ q2, .cons (.ty _) (.cons (.ty _) .nil), tyX_of r2 g2.fh rfl (fun _ _ _ z => nomatch z), isLT_two (by decide +kernel) (by decide +kernel), fin⟩
    | bl b => exact ⟨v, p, [.ty "list", .ty "tuple"], .type "bool", [.type "list", .type "tuple"], false, rfl, g2.fh _ _ q2, .cons (.ty _) (.cons (.ty _) .nil), tyX_of r2 g2.fh rfl (fun _ _ _ z => nomatch z), isLT_two (by decide +kernel) (by decide +kernel), fin⟩
    | int i => exact ⟨v, p, [.ty "list", .ty "tuple"], .type "int", [.type "list", .type "tuple"], false, rfl, g2.fh _ _ q2, .cons (.ty _) (.cons (.ty _) .nil), tyX_of r2 g2.fh rfl (fun _ _ _ z => nomatch z), isLT_two (by decide +kernel) (by decide +kernel), fin⟩
    | str t => exact ⟨v, p, [.ty "list", .ty "tuple"], .type "str", [.type "list", .type "tuple"], false, rfl, g2.fh _ _ q2, .cons (.ty _) (.cons (.ty _) .nil), tyX_of r2 g2.fh rfl (fun _ _ _ z => nomatch z), isLT_two (by decide +kernel) (by decide +kernel), fin⟩
    | dic k v' => exact ⟨v, p, [.ty "list", .ty "tuple"], .type "dict", [.type "list", .type "tuple"], false, rfl, g2.fh _ _ q2, .cons (.ty _) (.cons (.ty _) .nil), tyX_of r2 g2.fh rfl (fun _ _ _ z => nomatch z), isLT_two (by decide +kernel) (by decide +kernel), fin⟩
    | lst ds => exact ⟨v, p, [.ty "list", .ty "tuple"], .type "list", [.type "list", .type "tuple"], true, rfl, g2.fh _ _ q2, .cons (.ty _) (.cons (.ty _) .nil), tyX_of r2 g2.fh rfl (fun _ _ _ z => nomatch z), kitAny_cons (kit_ty (show kitB "list" "list" = some true by decide +kernel)) (fun z => nomatch z) (fun _ => rfl), fin⟩
    | tup ds => exact ⟨v, p, [.ty "list", .ty "tuple"], .type "tuple", [.type "list", .type "tuple"], true, rfl, g2.fh _ _ q2, .cons (.ty _) (.cons (.ty _) .nil), tyX_of r2 g2.fh rfl (fun _ _ _ z => nomatch z), kitAny_cons (kit_ty (show kitB "tuple" "list" = some false by decide +kernel)) (fun _ => kitAny_cons (kit_ty (show kitB "tuple" "tuple" = some true by decide +kernel)) (fun z => nomatch z) (fun _ => rfl)) (fun z => nomatch z), fin⟩
    | _ => cases zp⟩
end
theorem any_one {K : Frg} {cls c : Value} {b : Bool} (h : PySem.W.exmOne K cls c = some b) : PySem.W.exmAny K cls [c] = some b := by
  unfold PySem.W.exmAny PySem.W.exmAny
  rw [h]
  simp
theorem any_cons {K : Frg} {cls c : Value} {l : List Value} {b d : Bool} (h : PySem.W.exmOne K cls c = some b) (h' : PySem.W.exmAny K cls l = some d) : PySem.W.exmAny K cls (c :: l) = some (b || d) := by
  rw [PySem.W.exmAny, h, h']
section
variable {X : Cx} {B : Bs} {o e : Expr} {ro r : Rd} {pos apos cpos : Pos} {k : Nat}
/-- l.index(e) in a suite -/
theorem y_indexU (hu : X.A.units + 65 < cLine) (ho : PEp X B o ro) (he : PEp X B e r) (h1 : starEach [e] X.env = (false, eval e X.env) :: starEach [] X.env := by rfl)
    (hba : attributeBase o "index" X.env (eval o X.env) = eval o X.env := by rfl) (hline : (apos.endLine == cpos.line) = true := by rfl)
    (hfew : ((backTo cpos (starEach [e] X.env)).all (fun x => !x.1) && (backToKw cpos (keywordEach [] X.env)).all (fun x => x.1.isSome) && decide (([e] : List Expr).length + ([] : List Keyword).length + (if ([] : List Keyword).isEmpty then 0 else 1) < 30)) = true := by rfl) :
    PEp X B (.Call (.Attribute o "index" apos) [e] [] cpos) (fun ρ Q => ro ρ fun l => isLs l (r ρ fun d => dIndex l d Q)) :=
  pe_imp (pe_bm PySem.F.plainAttrs_list PySem.F.slot_list_index PySem.F.type_list_index (mt_indexD hu) ho (pa_cons he pa_nil h1) hba hfew hline h1 rfl) fun σ H Q ⟨F, ρ, Qd, I, z, kk⟩ => ⟨F, ρ, _, I, z, fun v F1 H1 l g1 t1 r1 z1 => by
    unfold isLs at z1
    split at z1
    · rename_i ds
      have r1' := r1
      cases r1 with
      | @lst p ws _ q1 q2 =>
        refine ⟨.inl ⟨rfl, _, SqL.of (t1.1 _ _ q1)⟩, F1, ρ, _, I.step g1 t1, z1, fun v2 F2 H2 d g2 t2 r2 z2 => ?_⟩
        obtain ⟨j, z, ⟨o1, o2⟩, hz, hq, hno, q⟩ := z2
        obtain ⟨e1, a1, a2, a3⟩ := okD_pd 8 _ o2
        obtain ⟨e2, b1, b2, b3⟩ := okD_pd 8 _ o1
        simp [pd] at b1
        obtain ⟨es, b1, rfl⟩ := b1
        obtain ⟨ez, z1, z2⟩ := (pds_get b1 j).1 z hz
        refine ⟨p, v2, e1, es, j, ez, rfl, rfl, dp_mono t2.1 _ _ (dp_of (K := X.K) (ms := B.ms) _ _ _ (by simp [pd, b1]) (r1'.up g2.ff)), dp_mono t2.1 _ _ (dp_of _ _ _ a1 r2), shaped_of b2 b3 (by decide), shaped_of a2 a3 (by decide), z2, ?_, fun m e' hm hme => ?_, kk _ F2 H2 _ (g1.trans g2) t2 (.int _) q⟩
        · rw [← eqD_pd _ _ _ _ z1 a1]; exact hq
        · obtain ⟨z', w1, w2⟩ := (pds_get b1 m).2 e' hme
          rw [← eqD_pd _ _ _ _ w2 a1]
          exact hno m z' hm w1
    · exact z1.elim⟩
end
section
variable {X : Cx} {B : Bs} {e2 : Expr} {r2 : Rd} {pos apos kpos cp : Pos} {R : RdF} {k : Nat} {g p : Addr} {m kn : Str}
/-- C.m(kn = e), m a class method -/
theorem y_cmethK0 {C : Str} {pl : Sem Bool} (hg : Gl X C) (hm : X.mg C = some (.ref (He.ga X.K C))) (rd : ClX.CRead X.K (He.ga X.K C) (.type "type")) (k0 : ClX.CMet X.K (He.ga X.K C) (.type "type") m p g) (F : FnK X.prog X.w X.K X.mg X.base (L2.CX X.prog X.w) k g kn (spP X.K R)) (hr : RoomG k X.A) (hx : Px X B) (h2 : PEp X B e2 r2)
    (hall : (backToKw pos (keywordEach [⟨some kn, e2, kpos⟩] X.env)).all (·.1.isSome) = true := by rfl) (hks : (backToKw pos (keywordEach [⟨some kn, e2, kpos⟩] X.env)).filterMap (·.1) = [kn] := by rfl) (hdb : (C == ("__debug__" : Str)) = false := by decide)
    (hpl : ((backTo pos (starEach [] X.env)).any (·.1) || (backToKw pos (keywordEach [⟨some kn, e2, kpos⟩] X.env)).any (·.1.isNone)) = false := by rfl)
    (ht : eval (.Call (.Attribute (.Name C cp) m apos) [] [⟨some kn, e2, kpos⟩] pos) X.env = (do
      let ov ← eval (.Name C cp) X.env
      standAt apos.atName
      let (f, first) ← holding [ov] (getMethod ov m pl)
      callWith pos f first (backTo pos (starEach [] X.env)) (backToKw pos (keywordEach [⟨some kn, e2, kpos⟩] X.env))) := by rfl) :
    PEp X B (.Call (.Attribute (.Name C cp) m apos) [] [⟨some kn, e2, kpos⟩] pos) (fun ρ Q => r2 ρ fun d2 => R [.glob C, d2] Q B.Ed) := by
  refine ⟨fun pins s σ H Q I ⟨F0, ρ, Qd, J, z, kk⟩ => ?_⟩
  refine PySem.W.methodCall_KW (pl := pl) (ld_glob I hg hm ?_ hdb) ht
  refine ClX.getmethcm_ok I rd k0 fun s1 I1 => ?_
  refine PySem.W.callWith_of hpl (PySem.W.keeps_M (self := .ref (He.ga X.K C)) k0.fi) (evalArgs_kw2_nil hall ?_)
  refine thn ((pk_cons (kpos := kpos) (nm := some kn) h2 pk_nil).run pos _ s1 σ H (fun vs2 H2 => ∃ F2 v2 d2, vs2 = [v2] ∧ Go B.ms F0 H F2 H2 ∧ Tp X.K B.ms F2 H2 ∧ Rp X.K B.ms F2 v2 d2 ∧ R [.glob C, d2] Qd B.Ed) I1 ⟨F0, ρ, _, J, z, fun v2 F2 H2 d2 g2 t2 r2 z2 => ⟨F2, v2, d2, rfl, g2, t2, r2, z2⟩⟩) fun ws s2 ⟨zs, H2, I2, rz, F2, v2, d2, ez, g2, t2, r2', q2⟩ => ⟨⟨ClX.pin_at I2, I2.kIn⟩, ?_⟩
  subst ez
  rw [hks]
  obtain ⟨u2, rfl, ru2⟩ := vals1 rz
  show wpAny _ _ (call (.ref s.heap.objs.size) [] [(kn, u2)]) _ _ _
  have z : wpAny (model X.prog X.w) X.A (call (.ref s.heap.objs.size) [] [(kn, u2)]) (EP X _ σ Q) X.xe s2 :=
    wpAny_call (PySem.W.method_call (ClX.pin_at I2) (codeAny_mono (F X.A X.stack s2 H2 [.ref _] u2 [.ref _] v2 Q (EE X.K B) hr I2.env0 (.cons rfl .nil) ru2 (sp_call (vs := [.ref _, v2]) J kk g2 t2 (.cons (.glob C) (.one r2')) q2)) fun q s' hq => match q, hq with
      | .error er, hq => hx _ σ _ _ er s' I2 hq
      | .ok (.ret _), hq => I2.after hq
      | .ok .next, hq => False.elim hq
      | .ok .brk, hq => False.elim hq
      | .ok .cont, hq => False.elim hq))
  exact thn z fun _ _ y => ClX.unpinE y
end
end Y
namespace K11
open PySem PySem.Spec PyProof.Rows L2 Z Y
def topS (i : Nat) : Stmt := PySem.Challenge.pw_carpets_k11_carpets_that_are_refused.main.body.getD i (.Pass ⟨0, 0, 0, 0⟩)
abbrev s__law_tape : Stmt := (topS 44)
abbrev N__law_tape : List Str := ["_law_script"]
abbrev ps__law_tape : List Str := ["_law_script"]
theorem sc__law_tape : FnScope N__law_tape ps__law_tape (defScope s__law_tape) := ⟨rfl, rfl, rfl, by decide +kernel, rfl, by decide +kernel, by decide +kernel⟩
abbrev s__law_draw : Stmt := (topS 45)
abbrev N__law_draw : List Str := ["_law_tape_here", "_law_many", "_law_digit", "_law_cell", "_law_near"]
abbrev ps__law_draw : List Str := ["_law_tape_here", "_law_many"]
theorem sc__law_draw : FnScope N__law_draw ps__law_draw (defScope s__law_draw) := ⟨rfl, rfl, rfl, by decide +kernel, rfl, by decide +kernel, by decide +kernel⟩
abbrev s_InvalidRows_UinitU : Stmt := (inClass (topS 5) 0)
abbrev s_InvalidNumber_UinitU : Stmt := (inClass (topS 7) 0)
abbrev s_InvalidPlace_UinitU : Stmt := (inClass (topS 4) 0)
abbrev s_InvalidColour_UinitU : Stmt := (inClass (topS 6) 0)
abbrev s_InvalidText_UinitU : Stmt := (inClass (topS 8) 0)
abbrev s_LimitExceeded_UinitU : Stmt := (inClass (topS 9) 0)
abbrev s_is_integer : Stmt := (topS 11)
abbrev N_is_integer : List Str := ["value"]
abbrev ps_is_integer : List Str := ["value"]
theorem sc_is_integer : FnScope N_is_integer ps_is_integer (defScope s_is_integer) := ⟨rfl, rfl, rfl, by decide +kernel, rfl, by decide +kernel, by decide +kernel⟩
abbrev s_is_place : Stmt := (topS 12)
abbrev N_is_place : List Str := ["value", "number"]
abbrev ps_is_place : List Str := ["value"]
theorem sc_is_place : FnScope N_is_place ps_is_place (defScope s_is_place) := ⟨rfl, rfl, rfl, by decide +kernel, rfl, by decide +kernel, by decide +kernel⟩
abbrev s_plus : Stmt := (topS 17)
abbrev N_plus : List Str := ["one", "other"]
abbrev ps_plus : List Str := ["one", "other"]
theorem sc_plus : FnScope N_plus ps_plus (defScope s_plus) := ⟨rfl, rfl, rfl, by decide +kernel, rfl, by decide +kernel, by decide +kernel⟩
abbrev s_minus : Stmt := (topS 18)
abbrev N_minus : List Str := ["one", "other"]
abbrev ps_minus : List Str := ["one", "other"]
theorem sc_minus : FnScope N_minus ps_minus (defScope s_minus) := ⟨rfl, rfl, rfl, by decide +kernel, rfl, by decide +kernel, by decide +kernel⟩
abbrev s_divisors : Stmt := (topS 16)
abbrev N_divisors : List Str := ["number", "divisor"]
abbrev ps_divisors : List Str := ["number"]
theorem sc_divisors : FnScope N_divisors ps_divisors (defScope s_divisors) := ⟨rfl, rfl, rfl, by decide +kernel, rfl, by decide +kernel, by decide +kernel⟩
abbrev s_are_numbers : Stmt := (topS 24)
abbrev N_are_numbers : List Str := ["numbers", "a", "b", "c", "number"]
abbrev ps_are_numbers : List Str := ["numbers"]
theorem sc_are_numbers : FnScope N_are_numbers ps_are_numbers (defScope s_are_numbers) := ⟨rfl, rfl, rfl, by decide +kernel, rfl, by decide +kernel, by decide +kernel⟩
abbrev s_Net_UinitU : Stmt := (inClass (topS 26) 0)
abbrev N_Net_UinitU : List Str := ["self", "a", "b", "c"]
abbrev ps_Net_UinitU : List Str := ["self", "a", "b", "c"]
theorem sc_Net_UinitU : FnScope N_Net_UinitU ps_Net_UinitU (defScope s_Net_UinitU) := ⟨rfl, rfl, rfl, by decide +kernel, rfl, by decide +kernel, by decide +kernel⟩
abbrev s_Net_numbers : Stmt := (inClass (topS 26) 3)
abbrev N_Net_numbers : List Str := ["self"]
abbrev ps_Net_numbers : List Str := ["self"]
theorem sc_Net_numbers : FnScope N_Net_numbers ps_Net_numbers (defScope s_Net_numbers) := ⟨rfl, rfl, rfl, by decide +kernel, rfl, by decide +kernel, by decide +kernel⟩
abbrev s_Net_size : Stmt := (inClass (topS 26) 4)
abbrev N_Net_size : List Str := ["self"]
abbrev ps_Net_size : List Str := ["self"]
theorem sc_Net_size : FnScope N_Net_size ps_Net_size (defScope s_Net_size) := ⟨rfl, rfl, rfl, by decide +kernel, rfl, by decide +kernel, by decide +kernel⟩
abbrev s_Net_whole : Stmt := (inClass (topS 26) 2)
abbrev N_Net_whole : List Str := ["cls"]
abbrev ps_Net_whole : List Str := ["cls"]
theorem sc_Net_whole : FnScope N_Net_whole ps_Net_whole (defScope s_Net_whole) := ⟨rfl, rfl, rfl, by decide +kernel, rfl, by decide +kernel, by decide +kernel⟩
abbrev s_Net_UeqU : Stmt := (inClass (topS 26) 11)
abbrev N_Net_UeqU : List Str := ["self", "other"]
abbrev ps_Net_UeqU : List Str := ["self", "other"]
theorem sc_Net_UeqU : FnScope N_Net_UeqU ps_Net_UeqU (defScope s_Net_UeqU) := ⟨rfl, rfl, rfl, by decide +kernel, rfl, by decide +kernel, by decide +kernel⟩
abbrev s_Net_place_in_cell : Stmt := (inClass (topS 26) 6)
abbrev N_Net_place_in_cell : List Str := ["self", "place", "a", "b", "c", "rows"]
abbrev ps_Net_place_in_cell : List Str := ["self", "place"]
theorem sc_Net_place_in_cell : FnScope N_Net_place_in_cell ps_Net_place_in_cell (defScope s_Net_place_in_cell) := ⟨rfl, rfl, rfl, by decide +kernel, rfl, by decide +kernel, by decide +kernel⟩
abbrev s_Net_spots : Stmt := (inClass (topS 26) 15)
abbrev N_Net_spots : List Str := ["self", "a", "b", "c", "y", "x"]
abbrev ps_Net_spots : List Str := ["self"]
theorem sc_Net_spots : FnScope N_Net_spots ps_Net_spots (defScope s_Net_spots) := ⟨rfl, rfl, rfl, by decide +kernel, rfl, by decide +kernel, by decide +kernel⟩
abbrev s_colour_at : Stmt := (topS 37)
abbrev N_colour_at : List Str := ["net", "text", "place", "x", "y"]
abbrev ps_colour_at : List Str := ["net", "text", "place"]
theorem sc_colour_at : FnScope N_colour_at ps_colour_at (defScope s_colour_at) := ⟨rfl, rfl, rfl, by decide +kernel, rfl, by decide +kernel, by decide +kernel⟩
abbrev s_is_kept : Stmt := (topS 38)
abbrev N_is_kept : List Str := ["net", "text", "shift", "place"]
abbrev ps_is_kept : List Str := ["net", "text", "shift"]
theorem sc_is_kept : FnScope N_is_kept ps_is_kept (defScope s_is_kept) := ⟨rfl, rfl, rfl, by decide +kernel, rfl, by decide +kernel, by decide +kernel⟩
abbrev s_kept_net : Stmt := (topS 39)
abbrev N_kept_net : List Str := ["net", "text", "a", "b", "c", "width", "rows", "right", "number"]
abbrev ps_kept_net : List Str := ["net", "text"]
theorem sc_kept_net : FnScope N_kept_net ps_kept_net (defScope s_kept_net) := ⟨rfl, rfl, rfl, by decide +kernel, rfl, by decide +kernel, by decide +kernel⟩
abbrev s_least_cell : Stmt := (topS 40)
abbrev N_least_cell : List Str := ["net", "text", "least", "place"]
abbrev ps_least_cell : List Str := ["net", "text"]
theorem sc_least_cell : FnScope N_least_cell ps_least_cell (defScope s_least_cell) := ⟨rfl, rfl, rfl, by decide +kernel, rfl, by decide +kernel, by decide +kernel⟩
abbrev s_is_colour : Stmt := (topS 32)
abbrev N_is_colour : List Str := ["value"]
abbrev ps_is_colour : List Str := ["value"]
theorem sc_is_colour : FnScope N_is_colour ps_is_colour (defScope s_is_colour) := ⟨rfl, rfl, rfl, by decide +kernel, rfl, by decide +kernel, by decide +kernel⟩
abbrev s_check_colour : Stmt := (topS 33)
abbrev N_check_colour : List Str := ["value"]
abbrev ps_check_colour : List Str := ["value"]
theorem sc_check_colour : FnScope N_check_colour ps_check_colour (defScope s_check_colour) := ⟨rfl, rfl, rfl, by decide +kernel, rfl, by decide +kernel, by decide +kernel⟩
abbrev s_is_row : Stmt := (topS 34)
abbrev N_is_row : List Str := ["value", "signs", "most", "sign"]
abbrev ps_is_row : List Str := ["value", "signs", "most"]
theorem sc_is_row : FnScope N_is_row ps_is_row (defScope s_is_row) := ⟨rfl, rfl, rfl, by decide +kernel, rfl, by decide +kernel, by decide +kernel⟩
abbrev s_check_rows : Stmt := (topS 35)
abbrev N_check_rows : List Str := ["rows", "signs", "most", "index", "row"]
abbrev ps_check_rows : List Str := ["rows", "signs", "most"]
theorem sc_check_rows : FnScope N_check_rows ps_check_rows (defScope s_check_rows) := ⟨rfl, rfl, rfl, by decide +kernel, rfl, by decide +kernel, by decide +kernel⟩
abbrev s_checked_block : Stmt := (topS 36)
abbrev N_checked_block : List Str := ["rows", "shift", "width"]
abbrev ps_checked_block : List Str := ["rows", "shift"]
theorem sc_checked_block : FnScope N_checked_block ps_checked_block (defScope s_checked_block) := ⟨rfl, rfl, rfl, by decide +kernel, rfl, by decide +kernel, by decide +kernel⟩
abbrev s_Carpet_UinitU : Stmt := (inClass (topS 41) 0)
abbrev N_Carpet_UinitU : List Str := ["self", "rows", "shift", "net", "text"]
abbrev ps_Carpet_UinitU : List Str := ["self", "rows", "shift"]
theorem sc_Carpet_UinitU : FnScope N_Carpet_UinitU ps_Carpet_UinitU (defScope s_Carpet_UinitU) := ⟨rfl, rfl, rfl, by decide +kernel, rfl, by decide +kernel, by decide +kernel⟩
abbrev s_Woven_UinitU : Stmt := (inClass (topS 42) 0)
abbrev N_Woven_UinitU : List Str := ["self", "net", "text"]
abbrev ps_Woven_UinitU : List Str := ["self", "net", "text"]
theorem sc_Woven_UinitU : FnScope N_Woven_UinitU ps_Woven_UinitU (defScope s_Woven_UinitU) := ⟨rfl, rfl, rfl, by decide +kernel, rfl, by decide +kernel, by decide +kernel⟩
abbrev s_Carpet_on : Stmt := (inClass (topS 41) 1)
abbrev N_Carpet_on : List Str := ["net", "text"]
abbrev ps_Carpet_on : List Str := ["net", "text"]
theorem sc_Carpet_on : FnScope N_Carpet_on ps_Carpet_on (defScope s_Carpet_on) := ⟨rfl, rfl, rfl, by decide +kernel, rfl, by decide +kernel, by decide +kernel⟩
abbrev s_Carpet_plain : Stmt := (inClass (topS 41) 2)
abbrev N_Carpet_plain : List Str := ["cls", "colour"]
abbrev ps_Carpet_plain : List Str := ["cls", "colour"]
theorem sc_Carpet_plain : FnScope N_Carpet_plain ps_Carpet_plain (defScope s_Carpet_plain) := ⟨rfl, rfl, rfl, by decide +kernel, rfl, by decide +kernel, by decide +kernel⟩
abbrev s_Carpet_net : Stmt := (inClass (topS 41) 3)
abbrev N_Carpet_net : List Str := ["self"]
abbrev ps_Carpet_net : List Str := ["self"]
theorem sc_Carpet_net : FnScope N_Carpet_net ps_Carpet_net (defScope s_Carpet_net) := ⟨rfl, rfl, rfl, by decide +kernel, rfl, by decide +kernel, by decide +kernel⟩
abbrev s_Carpet_text : Stmt := (inClass (topS 41) 4)
abbrev N_Carpet_text : List Str := ["self"]
abbrev ps_Carpet_text : List Str := ["self"]
theorem sc_Carpet_text : FnScope N_Carpet_text ps_Carpet_text (defScope s_Carpet_text) := ⟨rfl, rfl, rfl, by decide +kernel, rfl, by decide +kernel, by decide +kernel⟩
abbrev s_Carpet_seen : Stmt := (inClass (topS 41) 7)
abbrev N_Carpet_seen : List Str := ["self", "place"]
abbrev ps_Carpet_seen : List Str := ["self", "place"]
theorem sc_Carpet_seen : FnScope N_Carpet_seen ps_Carpet_seen (defScope s_Carpet_seen) := ⟨rfl, rfl, rfl, by decide +kernel, rfl, by decide +kernel, by decide +kernel⟩
abbrev s_Carpet_UgetitemU : Stmt := (inClass (topS 41) 8)
abbrev N_Carpet_UgetitemU : List Str := ["self", "place"]
abbrev ps_Carpet_UgetitemU : List Str := ["self", "place"]
theorem sc_Carpet_UgetitemU : FnScope N_Carpet_UgetitemU ps_Carpet_UgetitemU (defScope s_Carpet_UgetitemU) := ⟨rfl, rfl, rfl, by decide +kernel, rfl, by decide +kernel, by decide +kernel⟩
abbrev s_Carpet_UlenU : Stmt := (inClass (topS 41) 10)
abbrev N_Carpet_UlenU : List Str := ["self"]
abbrev ps_Carpet_UlenU : List Str := ["self"]
theorem sc_Carpet_UlenU : FnScope N_Carpet_UlenU ps_Carpet_UlenU (defScope s_Carpet_UlenU) := ⟨rfl, rfl, rfl, by decide +kernel, rfl, by decide +kernel, by decide +kernel⟩
abbrev s_Carpet_UeqU : Stmt := (inClass (topS 41) 11)
abbrev N_Carpet_UeqU : List Str := ["self", "other"]
abbrev ps_Carpet_UeqU : List Str := ["self", "other"]
theorem sc_Carpet_UeqU : FnScope N_Carpet_UeqU ps_Carpet_UeqU (defScope s_Carpet_UeqU) := ⟨rfl, rfl, rfl, by decide +kernel, rfl, by decide +kernel, by decide +kernel⟩
abbrev s_Carpet_UaddU : Stmt := (inClass (topS 41) 13)
abbrev N_Carpet_UaddU : List Str := ["self", "shift", "place"]
abbrev ps_Carpet_UaddU : List Str := ["self", "shift"]
theorem sc_Carpet_UaddU : FnScope N_Carpet_UaddU ps_Carpet_UaddU (defScope s_Carpet_UaddU) := ⟨rfl, rfl, rfl, by decide +kernel, rfl, by decide +kernel, by decide +kernel⟩
abbrev s__law_told : Stmt := (topS 46)
abbrev N__law_told : List Str := ["_law_call", "e", "_law_kinds"]
abbrev ps__law_told : List Str := ["_law_call"]
theorem sc__law_told : FnScope N__law_told ps__law_told (defScope s__law_told) := ⟨rfl, rfl, rfl, by decide +kernel, rfl, by decide +kernel, by decide +kernel⟩
abbrev s__law_rows_right : Stmt := (topS 47)
abbrev N__law_rows_right : List Str := ["_law_tape_here", "_law_wide", "_law_good", "_law_at", "_law_odd", "_law_bad", "_law_due", "_law_k"]
abbrev ps__law_rows_right : List Str := ["_law_tape_here"]
theorem sc__law_rows_right : FnScope N__law_rows_right ps__law_rows_right (defScope s__law_rows_right) := ⟨rfl, rfl, rfl, by decide +kernel, rfl, by decide +kernel, by decide +kernel⟩
abbrev s__law_fixed_right : Stmt := (topS 48)
abbrev N__law_fixed_right : List Str := ["_law_odd", "_law_large"]
abbrev ps__law_fixed_right : List Str := []
theorem sc__law_fixed_right : FnScope N__law_fixed_right ps__law_fixed_right (defScope s__law_fixed_right) := ⟨rfl, rfl, rfl, by decide +kernel, rfl, by decide +kernel, by decide +kernel⟩
abbrev s_law : Stmt := (topS 49)
abbrev N_law : List Str := ["_law_script", "_law_tape_here", "_law_carpet", "_law_odd", "_law_turn", "_law_sign", "_law_plain"]
abbrev ps_law : List Str := ["_law_script"]
theorem sc_law : FnScope N_law ps_law (defScope s_law) := ⟨rfl, rfl, rfl, by decide +kernel, rfl, by decide +kernel, by decide +kernel⟩
structure Tx (w : World) (K : Frg) (mg : Str → Option Value) : Prop where
  b_OverflowError : mg "OverflowError" = none
  b_ValueError : mg "ValueError" = none
  b_all : mg "all" = none
  b_bool : mg "bool" = none
  b_enumerate : mg "enumerate" = none
  b_int : mg "int" = none
  b_isinstance : mg "isinstance" = none
  b_len : mg "len" = none
  b_list : mg "list" = none
  b_range : mg "range" = none
  b_repr : mg "repr" = none
  b_str : mg "str" = none
  b_tuple : mg "tuple" = none
  bt_Carpet_tuple_add : BinT K "add" (He.ga K "Carpet") "tuple"
  bt_Woven_tuple_add : BinT K "add" (He.ga K "Woven") "tuple"
  ci_Carpet_plain : ClX.CInst K (He.ga K "Carpet") "plain" (He.ma K (He.ga K "Carpet") "plain") (He5.wf K (He.ga K "Carpet") "classmethod" "plain")
  ci_Woven_plain : ClX.CInst K (He.ga K "Woven") "plain" (He.ma K (He.ga K "Carpet") "plain") (He5.wf K (He.ga K "Carpet") "classmethod" "plain")
  cl_Carpet : Cls K (He.ga K "Carpet")
  cl_Net : Cls K (He.ga K "Net")
  cl_Woven : Cls K (He.ga K "Woven")
  cm_Carpet_plain : ClX.CMet K (He.ga K "Carpet") (.type "type") "plain" (He.ma K (He.ga K "Carpet") "plain") (He5.wf K (He.ga K "Carpet") "classmethod" "plain")
  cm_Net_whole : ClX.CMet K (He.ga K "Net") (.type "type") "whole" (He.ma K (He.ga K "Net") "whole") (He5.wf K (He.ga K "Net") "classmethod" "whole")
  ec_InvalidColour : ExcC K (He.ga K "InvalidColour")
  ec_InvalidNumber : ExcC K (He.ga K "InvalidNumber")
  ec_InvalidPlace : ExcC K (He.ga K "InvalidPlace")
  ec_InvalidRows : ExcC K (He.ga K "InvalidRows")
  ec_InvalidText : ExcC K (He.ga K "InvalidText")
  ec_LimitExceeded : ExcC K (He.ga K "LimitExceeded")
  exf_InvalidColour_InvalidNumber : PySem.W.exmOne K (.ref (He.ga K "InvalidColour")) (.ref (He.ga K "InvalidNumber")) = some false
  exf_InvalidColour_InvalidPlace : PySem.W.exmOne K (.ref (He.ga K "InvalidColour")) (.ref (He.ga K "InvalidPlace")) = some false
  exf_InvalidColour_InvalidRows : PySem.W.exmOne K (.ref (He.ga K "InvalidColour")) (.ref (He.ga K "InvalidRows")) = some false
  exf_InvalidColour_InvalidText : PySem.W.exmOne K (.ref (He.ga K "InvalidColour")) (.ref (He.ga K "InvalidText")) = some false
  exf_InvalidNumber_InvalidColour : PySem.W.exmOne K (.ref (He.ga K "InvalidNumber")) (.ref (He.ga K "InvalidColour")) = some false
  exf_InvalidNumber_InvalidPlace : PySem.W.exmOne K (.ref (He.ga K "InvalidNumber")) (.ref (He.ga K "InvalidPlace")) = some false
  exf_InvalidNumber_InvalidRows : PySem.W.exmOne K (.ref (He.ga K "InvalidNumber")) (.ref (He.ga K "InvalidRows")) = some false
  exf_InvalidNumber_InvalidText : PySem.W.exmOne K (.ref (He.ga K "InvalidNumber")) (.ref (He.ga K "InvalidText")) = some false
  exf_InvalidPlace_InvalidColour : PySem.W.exmOne K (.ref (He.ga K "InvalidPlace")) (.ref (He.ga K "InvalidColour")) = some false
  exf_InvalidPlace_InvalidNumber : PySem.W.exmOne K (.ref (He.ga K "InvalidPlace")) (.ref (He.ga K "InvalidNumber")) = some false
  exf_InvalidPlace_InvalidRows : PySem.W.exmOne K (.ref (He.ga K "InvalidPlace")) (.ref (He.ga K "InvalidRows")) = some false
  exf_InvalidPlace_InvalidText : PySem.W.exmOne K (.ref (He.ga K "InvalidPlace")) (.ref (He.ga K "InvalidText")) = some false
  exf_InvalidText_InvalidColour : PySem.W.exmOne K (.ref (He.ga K "InvalidText")) (.ref (He.ga K "InvalidColour")) = some false
  exf_InvalidText_InvalidNumber : PySem.W.exmOne K (.ref (He.ga K "InvalidText")) (.ref (He.ga K "InvalidNumber")) = some false
  exf_InvalidText_InvalidPlace : PySem.W.exmOne K (.ref (He.ga K "InvalidText")) (.ref (He.ga K "InvalidPlace")) = some false
  exf_InvalidText_InvalidRows : PySem.W.exmOne K (.ref (He.ga K "InvalidText")) (.ref (He.ga K "InvalidRows")) = some false
  exf_LimitExceeded_InvalidColour : PySem.W.exmOne K (.ref (He.ga K "LimitExceeded")) (.ref (He.ga K "InvalidColour")) = some false
  exf_LimitExceeded_InvalidNumber : PySem.W.exmOne K (.ref (He.ga K "LimitExceeded")) (.ref (He.ga K "InvalidNumber")) = some false
  exf_LimitExceeded_InvalidPlace : PySem.W.exmOne K (.ref (He.ga K "LimitExceeded")) (.ref (He.ga K "InvalidPlace")) = some false
  exf_LimitExceeded_InvalidRows : PySem.W.exmOne K (.ref (He.ga K "LimitExceeded")) (.ref (He.ga K "InvalidRows")) = some false
  exf_LimitExceeded_InvalidText : PySem.W.exmOne K (.ref (He.ga K "LimitExceeded")) (.ref (He.ga K "InvalidText")) = some false
  ext_InvalidColour_InvalidColour : PySem.W.exmOne K (.ref (He.ga K "InvalidColour")) (.ref (He.ga K "InvalidColour")) = some true
  ext_InvalidNumber_InvalidNumber : PySem.W.exmOne K (.ref (He.ga K "InvalidNumber")) (.ref (He.ga K "InvalidNumber")) = some true
  ext_InvalidPlace_InvalidPlace : PySem.W.exmOne K (.ref (He.ga K "InvalidPlace")) (.ref (He.ga K "InvalidPlace")) = some true
  ext_InvalidRows_InvalidRows : PySem.W.exmOne K (.ref (He.ga K "InvalidRows")) (.ref (He.ga K "InvalidRows")) = some true
  ext_InvalidText_InvalidText : PySem.W.exmOne K (.ref (He.ga K "InvalidText")) (.ref (He.ga K "InvalidText")) = some true
  ext_LimitExceeded_LimitExceeded : PySem.W.exmOne K (.ref (He.ga K "LimitExceeded")) (.ref (He.ga K "LimitExceeded")) = some true
  fi_Carpet_UgetitemU : PySem.W.fnIn K (He.ma K (He.ga K "Carpet") "__getitem__") = true
  g_Carpet : mg "Carpet" = some (.ref (He.ga K "Carpet"))
  g_CarpetError : mg "CarpetError" = some (.ref (He.ga K "CarpetError"))
  g_InvalidColour : mg "InvalidColour" = some (.ref (He.ga K "InvalidColour"))
  g_InvalidNumber : mg "InvalidNumber" = some (.ref (He.ga K "InvalidNumber"))
  g_InvalidPlace : mg "InvalidPlace" = some (.ref (He.ga K "InvalidPlace"))
  g_InvalidRows : mg "InvalidRows" = some (.ref (He.ga K "InvalidRows"))
  g_InvalidText : mg "InvalidText" = some (.ref (He.ga K "InvalidText"))
  g_LETTERS : ∃ t, mg "LETTERS" = some (.str "abcdefghijklmnopqrstuvwxyz" t)
  g_LimitExceeded : mg "LimitExceeded" = some (.ref (He.ga K "LimitExceeded"))
  g_MOST_LETTERS : ∃ t, mg "MOST_LETTERS" = some (.int 1000 t)
  g_MOST_PLACES : ∃ t, mg "MOST_PLACES" = some (.int 2000 t)
  g_MOST_ROWS : ∃ t, mg "MOST_ROWS" = some (.int 100 t)
  g_Net : mg "Net" = some (.ref (He.ga K "Net"))
  g_Woven : mg "Woven" = some (.ref (He.ga K "Woven"))
  g__law_draw : mg "_law_draw" = some (.ref (He.ga K "_law_draw"))
  g__law_fixed_right : mg "_law_fixed_right" = some (.ref (He.ga K "_law_fixed_right"))
  g__law_rows_right : mg "_law_rows_right" = some (.ref (He.ga K "_law_rows_right"))
  g__law_tape : mg "_law_tape" = some (.ref (He.ga K "_law_tape"))
  g__law_told : mg "_law_told" = some (.ref (He.ga K "_law_told"))
  g_are_numbers : mg "are_numbers" = some (.ref (He.ga K "are_numbers"))
  g_check_colour : mg "check_colour" = some (.ref (He.ga K "check_colour"))
  g_check_rows : mg "check_rows" = some (.ref (He.ga K "check_rows"))
  g_checked_block : mg "checked_block" = some (.ref (He.ga K "checked_block"))
  g_colour_at : mg "colour_at" = some (.ref (He.ga K "colour_at"))
  g_divisors : mg "divisors" = some (.ref (He.ga K "divisors"))
  g_is_colour : mg "is_colour" = some (.ref (He.ga K "is_colour"))
  g_is_integer : mg "is_integer" = some (.ref (He.ga K "is_integer"))
  g_is_kept : mg "is_kept" = some (.ref (He.ga K "is_kept"))
  g_is_place : mg "is_place" = some (.ref (He.ga K "is_place"))
  g_is_row : mg "is_row" = some (.ref (He.ga K "is_row"))
  g_kept_net : mg "kept_net" = some (.ref (He.ga K "kept_net"))
  g_law : mg "law" = some (.ref (He.ga K "law"))
  g_least_cell : mg "least_cell" = some (.ref (He.ga K "least_cell"))
  g_minus : mg "minus" = some (.ref (He.ga K "minus"))
  g_plus : mg "plus" = some (.ref (He.ga K "plus"))
  k__law_draw : PySem.W.keepIn K (.ref (He.ga K "_law_draw")) = true
  k__law_fixed_right : PySem.W.keepIn K (.ref (He.ga K "_law_fixed_right")) = true
  k__law_rows_right : PySem.W.keepIn K (.ref (He.ga K "_law_rows_right")) = true
  k__law_tape : PySem.W.keepIn K (.ref (He.ga K "_law_tape")) = true
  k__law_told : PySem.W.keepIn K (.ref (He.ga K "_law_told")) = true
  k_are_numbers : PySem.W.keepIn K (.ref (He.ga K "are_numbers")) = true
  k_check_colour : PySem.W.keepIn K (.ref (He.ga K "check_colour")) = true
  k_check_rows : PySem.W.keepIn K (.ref (He.ga K "check_rows")) = true
  k_checked_block : PySem.W.keepIn K (.ref (He.ga K "checked_block")) = true
  k_colour_at : PySem.W.keepIn K (.ref (He.ga K "colour_at")) = true
  k_divisors : PySem.W.keepIn K (.ref (He.ga K "divisors")) = true
  k_is_colour : PySem.W.keepIn K (.ref (He.ga K "is_colour")) = true
  k_is_integer : PySem.W.keepIn K (.ref (He.ga K "is_integer")) = true
  k_is_kept : PySem.W.keepIn K (.ref (He.ga K "is_kept")) = true
  k_is_place : PySem.W.keepIn K (.ref (He.ga K "is_place")) = true
  k_is_row : PySem.W.keepIn K (.ref (He.ga K "is_row")) = true
  k_kept_net : PySem.W.keepIn K (.ref (He.ga K "kept_net")) = true
  k_least_cell : PySem.W.keepIn K (.ref (He.ga K "least_cell")) = true
  k_minus : PySem.W.keepIn K (.ref (He.ga K "minus")) = true
  k_plus : PySem.W.keepIn K (.ref (He.ga K "plus")) = true
  kf_InvalidColour_InvalidNumber : PySem.W.kitOne K (.ref (He.ga K "InvalidColour")) (.ref (He.ga K "InvalidNumber")) = some false
  kf_InvalidColour_InvalidPlace : PySem.W.kitOne K (.ref (He.ga K "InvalidColour")) (.ref (He.ga K "InvalidPlace")) = some false
  kf_InvalidNumber_InvalidColour : PySem.W.kitOne K (.ref (He.ga K "InvalidNumber")) (.ref (He.ga K "InvalidColour")) = some false
  kf_InvalidNumber_InvalidPlace : PySem.W.kitOne K (.ref (He.ga K "InvalidNumber")) (.ref (He.ga K "InvalidPlace")) = some false
  kf_InvalidPlace_InvalidColour : PySem.W.kitOne K (.ref (He.ga K "InvalidPlace")) (.ref (He.ga K "InvalidColour")) = some false
  kf_InvalidPlace_InvalidNumber : PySem.W.kitOne K (.ref (He.ga K "InvalidPlace")) (.ref (He.ga K "InvalidNumber")) = some false
  kf_InvalidText_InvalidColour : PySem.W.kitOne K (.ref (He.ga K "InvalidText")) (.ref (He.ga K "InvalidColour")) = some false
  kf_InvalidText_InvalidNumber : PySem.W.kitOne K (.ref (He.ga K "InvalidText")) (.ref (He.ga K "InvalidNumber")) = some false
  kf_InvalidText_InvalidPlace : PySem.W.kitOne K (.ref (He.ga K "InvalidText")) (.ref (He.ga K "InvalidPlace")) = some false
  kf_LimitExceeded_CarpetError : PySem.W.kitOne K (.ref (He.ga K "LimitExceeded")) (.ref (He.ga K "CarpetError")) = some false
  kf_Net_Carpet : PySem.W.kitOne K (.ref (He.ga K "Net")) (.ref (He.ga K "Carpet")) = some false
  kt_InvalidColour_InvalidColour : PySem.W.kitOne K (.ref (He.ga K "InvalidColour")) (.ref (He.ga K "InvalidColour")) = some true
  kt_InvalidNumber_InvalidNumber : PySem.W.kitOne K (.ref (He.ga K "InvalidNumber")) (.ref (He.ga K "InvalidNumber")) = some true
  kt_InvalidPlace_InvalidPlace : PySem.W.kitOne K (.ref (He.ga K "InvalidPlace")) (.ref (He.ga K "InvalidPlace")) = some true
  kt_InvalidRows_CarpetError : PySem.W.kitOne K (.ref (He.ga K "InvalidRows")) (.ref (He.ga K "CarpetError")) = some true
  kt_Woven_Carpet : PySem.W.kitOne K (.ref (He.ga K "Woven")) (.ref (He.ga K "Carpet")) = some true
  ktb_InvalidRows_ValueError : PySem.W.kitOne K (.ref (He.ga K "InvalidRows")) (.type "ValueError") = some true
  ktb_LimitExceeded_OverflowError : PySem.W.kitOne K (.ref (He.ga K "LimitExceeded")) (.type "OverflowError") = some true
  lf__law_fixed_right : LamF K mg "_law_fixed_right"
  lf__law_rows_right : LamF K mg "_law_rows_right"
  lf_law : LamF K mg "law"
  m_Carpet_UaddU : Meth K (He.ga K "Carpet") "__add__" (He.ma K (He.ga K "Carpet") "__add__")
  m_Carpet_UgetitemU : Meth K (He.ga K "Carpet") "__getitem__" (He.ma K (He.ga K "Carpet") "__getitem__")
  m_Carpet_UlenU : Meth K (He.ga K "Carpet") "__len__" (He.ma K (He.ga K "Carpet") "__len__")
  m_Carpet_seen : Meth K (He.ga K "Carpet") "seen" (He.ma K (He.ga K "Carpet") "seen")
  m_Net_UeqU : Meth K (He.ga K "Net") "__eq__" (He.ma K (He.ga K "Net") "__eq__")
  m_Net_place_in_cell : Meth K (He.ga K "Net") "place_in_cell" (He.ma K (He.ga K "Net") "place_in_cell")
  m_Net_spots : Meth K (He.ga K "Net") "spots" (He.ma K (He.ga K "Net") "spots")
  m_Woven_UaddU : Meth K (He.ga K "Woven") "__add__" (He.ma K (He.ga K "Carpet") "__add__")
  m_Woven_UgetitemU : Meth K (He.ga K "Woven") "__getitem__" (He.ma K (He.ga K "Carpet") "__getitem__")
  m_Woven_UlenU : Meth K (He.ga K "Woven") "__len__" (He.ma K (He.ga K "Carpet") "__len__")
  m_Woven_seen : Meth K (He.ga K "Woven") "seen" (He.ma K (He.ga K "Carpet") "seen")
  mk_Carpet : Mk K (He.ga K "Carpet") (He.ma K (He.ga K "Carpet") "__init__")
  mk_Net : Mk K (He.ga K "Net") (He.ma K (He.ga K "Net") "__init__")
  mk_Woven : Mk K (He.ga K "Woven") (He.ma K (He.ga K "Woven") "__init__")
  na_Carpet_own_net : NoAttr K (He.ga K "Carpet") "own_net"
  na_Carpet_own_text : NoAttr K (He.ga K "Carpet") "own_text"
  na_Net_own_numbers : NoAttr K (He.ga K "Net") "own_numbers"
  na_Woven_own_net : NoAttr K (He.ga K "Woven") "own_net"
  na_Woven_own_text : NoAttr K (He.ga K "Woven") "own_text"
  nf_Carpet_Net : PySem.W.notFirst K (He.ga K "Carpet") (.ref (He.ga K "Net")) = true
  nf_Woven_Net : PySem.W.notFirst K (He.ga K "Woven") (.ref (He.ga K "Net")) = true
  ow_Carpet : Own K (He.ga K "Carpet")
  ow_Net : Own K (He.ga K "Net")
  ow_Woven : Own K (He.ga K "Woven")
  p_Carpet_net : PropOf K (He.ga K "Carpet") "net" (He.ma K (He.ga K "Carpet") "net") (He5.wf K (He.ga K "Carpet") "property" "net")
  p_Carpet_text : PropOf K (He.ga K "Carpet") "text" (He.ma K (He.ga K "Carpet") "text") (He5.wf K (He.ga K "Carpet") "property" "text")
  p_Net_numbers : PropOf K (He.ga K "Net") "numbers" (He.ma K (He.ga K "Net") "numbers") (He5.wf K (He.ga K "Net") "property" "numbers")
  p_Net_size : PropOf K (He.ga K "Net") "size" (He.ma K (He.ga K "Net") "size") (He5.wf K (He.ga K "Net") "property" "size")
  p_Woven_net : PropOf K (He.ga K "Woven") "net" (He.ma K (He.ga K "Carpet") "net") (He5.wf K (He.ga K "Carpet") "property" "net")
  p_Woven_text : PropOf K (He.ga K "Woven") "text" (He.ma K (He.ga K "Carpet") "text") (He5.wf K (He.ga K "Carpet") "property" "text")
  rd_Carpet : ClX.CRead K (He.ga K "Carpet") (.type "type")
  rd_Net : ClX.CRead K (He.ga K "Net") (.type "type")
  sm_Carpet_on : SMet K (He.ga K "Carpet") "on" (He.ma K (He.ga K "Carpet") "on") (He5.wf K (He.ga K "Carpet") "staticmethod" "on")
  tw_Carpet_Woven : Two K (He.ga K "Carpet") (He.ga K "Woven") (He.ma K (He.ga K "Carpet") "__eq__")
  xc_InvalidColour : XcB K (He.ga K "InvalidColour") (He.ma K (He.ga K "InvalidColour") "__init__") "value"
  xc_InvalidNumber : XcB K (He.ga K "InvalidNumber") (He.ma K (He.ga K "InvalidNumber") "__init__") "value"
  xc_InvalidPlace : XcB K (He.ga K "InvalidPlace") (He.ma K (He.ga K "InvalidPlace") "__init__") "value"
  xc_InvalidRows : XcB K (He.ga K "InvalidRows") (He.ma K (He.ga K "InvalidRows") "__init__") "index"
  xc_InvalidText : XcB K (He.ga K "InvalidText") (He.ma K (He.ga K "InvalidText") "__init__") "value"
  xc_LimitExceeded : XcB K (He.ga K "LimitExceeded") (He.ma K (He.ga K "LimitExceeded") "__init__") "limit"
  d__law_tape : DefAt K "_law_tape" "_law_tape" s__law_tape (He.ga K "_law_tape")
  d__law_draw : DefAt K "_law_draw" "_law_draw" s__law_draw (He.ga K "_law_draw")
  d_InvalidRows_UinitU : DefAt K "__init__" "InvalidRows.__init__" s_InvalidRows_UinitU (He.ma K (He.ga K "InvalidRows") "__init__")
  d_InvalidNumber_UinitU : DefAt K "__init__" "InvalidNumber.__init__" s_InvalidNumber_UinitU (He.ma K (He.ga K "InvalidNumber") "__init__")
  d_InvalidPlace_UinitU : DefAt K "__init__" "InvalidPlace.__init__" s_InvalidPlace_UinitU (He.ma K (He.ga K "InvalidPlace") "__init__")
  d_InvalidColour_UinitU : DefAt K "__init__" "InvalidColour.__init__" s_InvalidColour_UinitU (He.ma K (He.ga K "InvalidColour") "__init__")
  d_InvalidText_UinitU : DefAt K "__init__" "InvalidText.__init__" s_InvalidText_UinitU (He.ma K (He.ga K "InvalidText") "__init__")
  d_LimitExceeded_UinitU : DefAt K "__init__" "LimitExceeded.__init__" s_LimitExceeded_UinitU (He.ma K (He.ga K "LimitExceeded") "__init__")
  d_is_integer : DefAt K "is_integer" "is_integer" s_is_integer (He.ga K "is_integer")
  d_is_place : DefAt K "is_place" "is_place" s_is_place (He.ga K "is_place")
  d_plus : DefAt K "plus" "plus" s_plus (He.ga K "plus")
  d_minus : DefAt K "minus" "minus" s_minus (He.ga K "minus")
  d_divisors : DefAt K "divisors" "divisors" s_divisors (He.ga K "divisors")
  d_are_numbers : DefAt K "are_numbers" "are_numbers" s_are_numbers (He.ga K "are_numbers")
  d_Net_UinitU : DefAt K "__init__" "Net.__init__" s_Net_UinitU (He.ma K (He.ga K "Net") "__init__")
  d_Net_numbers : DefAt K "numbers" "Net.numbers" s_Net_numbers (He5.wf K (He.ga K "Net") "property" "numbers")
  d_Net_size : DefAt K "size" "Net.size" s_Net_size (He5.wf K (He.ga K "Net") "property" "size")
  d_Net_whole : DefAt K "whole" "Net.whole" s_Net_whole (He5.wf K (He.ga K "Net") "classmethod" "whole")
  d_Net_UeqU : DefAt K "__eq__" "Net.__eq__" s_Net_UeqU (He.ma K (He.ga K "Net") "__eq__")
  d_Net_place_in_cell : DefAt K "place_in_cell" "Net.place_in_cell" s_Net_place_in_cell (He.ma K (He.ga K "Net") "place_in_cell")
  d_Net_spots : DefAt K "spots" "Net.spots" s_Net_spots (He.ma K (He.ga K "Net") "spots")
  d_colour_at : DefAt K "colour_at" "colour_at" s_colour_at (He.ga K "colour_at")
  d_is_kept : DefAt K "is_kept" "is_kept" s_is_kept (He.ga K "is_kept")
  d_kept_net : DefAt K "kept_net" "kept_net" s_kept_net (He.ga K "kept_net")
  d_least_cell : DefAt K "least_cell" "least_cell" s_least_cell (He.ga K "least_cell")
  d_is_colour : DefAt K "is_colour" "is_colour" s_is_colour (He.ga K "is_colour")
  d_check_colour : DefAt K "check_colour" "check_colour" s_check_colour (He.ga K "check_colour")
  d_is_row : DefAt K "is_row" "is_row" s_is_row (He.ga K "is_row")
  d_check_rows : DefAt K "check_rows" "check_rows" s_check_rows (He.ga K "check_rows")
  d_checked_block : DefAt K "checked_block" "checked_block" s_checked_block (He.ga K "checked_block")
  d_Carpet_UinitU : DefAtK K "__init__" "Carpet.__init__" s_Carpet_UinitU (He.ma K (He.ga K "Carpet") "__init__") "shift" (.int (0))
  d_Woven_UinitU : DefAt K "__init__" "Woven.__init__" s_Woven_UinitU (He.ma K (He.ga K "Woven") "__init__")
  d_Carpet_on : DefAt K "on" "Carpet.on" s_Carpet_on (He5.wf K (He.ga K "Carpet") "staticmethod" "on")
  d_Carpet_plain : DefAt K "plain" "Carpet.plain" s_Carpet_plain (He5.wf K (He.ga K "Carpet") "classmethod" "plain")
  d_Carpet_net : DefAt K "net" "Carpet.net" s_Carpet_net (He5.wf K (He.ga K "Carpet") "property" "net")
  d_Carpet_text : DefAt K "text" "Carpet.text" s_Carpet_text (He5.wf K (He.ga K "Carpet") "property" "text")
  d_Carpet_seen : DefAt K "seen" "Carpet.seen" s_Carpet_seen (He.ma K (He.ga K "Carpet") "seen")
  d_Carpet_UgetitemU : DefAt K "__getitem__" "Carpet.__getitem__" s_Carpet_UgetitemU (He.ma K (He.ga K "Carpet") "__getitem__")
  d_Carpet_UlenU : DefAt K "__len__" "Carpet.__len__" s_Carpet_UlenU (He.ma K (He.ga K "Carpet") "__len__")
  d_Carpet_UeqU : DefAt K "__eq__" "Carpet.__eq__" s_Carpet_UeqU (He.ma K (He.ga K "Carpet") "__eq__")
  d_Carpet_UaddU : DefAt K "__add__" "Carpet.__add__" s_Carpet_UaddU (He.ma K (He.ga K "Carpet") "__add__")
  d__law_told : DefAt K "_law_told" "_law_told" s__law_told (He.ga K "_law_told")
  d__law_rows_right : DefAt K "_law_rows_right" "_law_rows_right" s__law_rows_right (He.ga K "_law_rows_right")
  d__law_fixed_right : DefAt K "_law_fixed_right" "_law_fixed_right" s__law_fixed_right (He.ga K "_law_fixed_right")
  d_law : DefAt K "law" "law" s_law (He.ga K "law")
end K11
namespace K11
open PySem PySem.Spec PyProof.Rows L2 Z Y
def fs : List (Frg → Bool) := [bFree "OverflowError", bFree "ValueError", bFree "all", bFree "bool", bFree "enumerate", bFree "int", bFree "isinstance", bFree "len", bFree "list", bFree "range", bFree "repr", bFree "str", bFree "tuple", bBinT "Carpet" "tuple" "add", bBinT "Woven" "tuple" "add", bCI "Carpet" "Carpet" "plain", bCI "Woven" "Carpet" "plain", bCls "Carpet", bCls "Net", bCls "Woven", bCM "Carpet" "plain", bCM "Net" "whole", bExC "InvalidColour", bExC "InvalidNumber", bExC "InvalidPlace", bExC "InvalidRows", bExC "InvalidText", bExC "LimitExceeded", bEx "InvalidColour" "InvalidNumber" false, bEx "InvalidColour" "InvalidPlace" false, bEx "InvalidColour" "InvalidRows" false, bEx "InvalidColour" "InvalidText" false, bEx "InvalidNumber" "InvalidColour" false, bEx "InvalidNumber" "InvalidPlace" false, bEx "InvalidNumber" "InvalidRows" false, bEx "InvalidNumber" "InvalidText" false, bEx "InvalidPlace" "InvalidColour" false, bEx "InvalidPlace" "InvalidNumber" false, bEx "InvalidPlace" "InvalidRows" false, bEx "InvalidPlace" "InvalidText" false, bEx "InvalidText" "InvalidColour" false, bEx "InvalidText" "InvalidNumber" false, bEx "InvalidText" "InvalidPlace" false, bEx "InvalidText" "InvalidRows" false, bEx "LimitExceeded" "InvalidColour" false, bEx "LimitExceeded" "InvalidNumber" false, bEx "LimitExceeded" "InvalidPlace" false, bEx "LimitExceeded" "InvalidRows" false, bEx "LimitExceeded" "InvalidText" false, bEx "InvalidColour" "InvalidColour" true, bEx "InvalidNumber" "InvalidNumber" true, bEx "InvalidPlace" "InvalidPlace" true, bEx "InvalidRows" "InvalidRows" true, bEx "InvalidText" "InvalidText" true, bEx "LimitExceeded" "LimitExceeded" true, bFi "Carpet" "__getitem__", bGlo "Carpet", bGlo "CarpetError", bGlo "InvalidColour", bGlo "InvalidNumber", bGlo "InvalidPlace", bGlo "InvalidRows", bGlo "InvalidText", bStr "LETTERS" "abcdefghijklmnopqrstuvwxyz", bGlo "LimitExceeded", bInt "MOST_LETTERS" 1000, bInt "MOST_PLACES" 2000, bInt "MOST_ROWS" 100, bGlo "Net", bGlo "Woven", bGlo "_law_draw", bGlo "_law_fixed_right", bGlo "_law_rows_right", bGlo "_law_tape", bGlo "_law_told", bGlo "are_numbers", bGlo "check_colour", bGlo "check_rows", bGlo "checked_block", bGlo "colour_at", bGlo "divisors", bGlo "is_colour", bGlo "is_integer", bGlo "is_kept", bGlo "is_place", bGlo "is_row", bGlo "kept_net", bGlo "law", bGlo "least_cell", bGlo "minus", bGlo "plus", bKeep "_law_draw", bKeep "_law_fixed_right", bKeep "_law_rows_right", bKeep "_law_tape", bKeep "_law_told", bKeep "are_numbers", bKeep "check_colour", bKeep "check_rows", bKeep "checked_block", bKeep "colour_at", bKeep "divisors", bKeep "is_colour", bKeep "is_integer", bKeep "is_kept", bKeep "is_place", bKeep "is_row", bKeep "kept_net", bKeep "least_cell", bKeep "minus", bKeep "plus", bKt "InvalidColour" "InvalidNumber" false, bKt "InvalidColour" "InvalidPlace" false, bKt "InvalidNumber" "InvalidColour" false, bKt "InvalidNumber" "InvalidPlace" false, bKt "InvalidPlace" "InvalidColour" false, bKt "InvalidPlace" "InvalidNumber" false, bKt "InvalidText" "InvalidColour" false, bKt "InvalidText" "InvalidNumber" false, bKt "InvalidText" "InvalidPlace" false, bKt "LimitExceeded" "CarpetError" false, bKt "Net" "Carpet" false, bKt "InvalidColour" "InvalidColour" true, bKt "InvalidNumber" "InvalidNumber" true, bKt "InvalidPlace" "InvalidPlace" true, bKt "InvalidRows" "CarpetError" true, bKt "Woven" "Carpet" true, bKtB "InvalidRows" "ValueError" true, bKtB "LimitExceeded" "OverflowError" true, bLamG "_law_fixed_right", bLamG "_law_rows_right", bLamG "law", bMeth "Carpet" "__add__", bMeth "Carpet" "__getitem__", bMeth "Carpet" "__len__", bMeth "Carpet" "seen", bMeth "Net" "__eq__", bMeth "Net" "place_in_cell", bMeth "Net" "spots", bMeth2 "Woven" "Carpet" "__add__", bMeth2 "Woven" "Carpet" "__getitem__", bMeth2 "Woven" "Carpet" "__len__", bMeth2 "Woven" "Carpet" "seen", bMk "Carpet", bMk "Net", bMk "Woven", bNo "Carpet" "own_net", bNo "Carpet" "own_text", bNo "Net" "own_numbers", bNo "Woven" "own_net", bNo "Woven" "own_text", bNf "Carpet" "Net", bNf "Woven" "Net", bOwn "Carpet", bOwn "Net", bOwn "Woven", bProp "Carpet" "net", bProp "Carpet" "text", bProp "Net" "numbers", bProp "Net" "size", bProp2 "Woven" "Carpet" "net", bProp2 "Woven" "Carpet" "text", bRd "Carpet", bRd "Net", bSM "Carpet" "on", bTwo "Carpet" "Woven", bXc "InvalidColour" "value" 0, bXc "InvalidNumber" "value" 0, bXc "InvalidPlace" "value" 0, bXc "InvalidRows" "index" 0, bXc "InvalidText" "value" 0, bXc "LimitExceeded" "limit" 1]
def fn : List He5.DefA := [⟨fun K => (He.ga K "_law_tape"), "_law_tape", "_law_tape", defArgs s__law_tape, defBody s__law_tape, defScope s__law_tape, [], []⟩, ⟨fun K => (He.ga K "_law_draw"), "_law_draw", "_law_draw", defArgs s__law_draw, defBody s__law_draw, defScope s__law_draw, [], []⟩, ⟨fun K => (He.ma K (He.ga K "InvalidRows") "__init__"), "__init__", "InvalidRows.__init__", defArgs s_InvalidRows_UinitU, defBody s_InvalidRows_UinitU, defScope s_InvalidRows_UinitU, [], []⟩, ⟨fun K => (He.ma K (He.ga K "InvalidNumber") "__init__"), "__init__", "InvalidNumber.__init__", defArgs s_InvalidNumber_UinitU, defBody s_InvalidNumber_UinitU, defScope s_InvalidNumber_UinitU, [], []⟩, ⟨fun K => (He.ma K (He.ga K "InvalidPlace") "__init__"), "__init__", "InvalidPlace.__init__", defArgs s_InvalidPlace_UinitU, defBody s_InvalidPlace_UinitU, defScope s_InvalidPlace_UinitU, [], []⟩, ⟨fun K => (He.ma K (He.ga K "InvalidColour") "__init__"), "__init__", "InvalidColour.__init__", defArgs s_InvalidColour_UinitU, defBody s_InvalidColour_UinitU, defScope s_InvalidColour_UinitU, [], []⟩, ⟨fun K => (He.ma K (He.ga K "InvalidText") "__init__"), "__init__", "InvalidText.__init__", defArgs s_InvalidText_UinitU, defBody s_InvalidText_UinitU, defScope s_InvalidText_UinitU, [], []⟩, ⟨fun K => (He.ma K (He.ga K "LimitExceeded") "__init__"), "__init__", "LimitExceeded.__init__", defArgs s_LimitExceeded_UinitU, defBody s_LimitExceeded_UinitU, defScope s_LimitExceeded_UinitU, [], []⟩, ⟨fun K => (He.ga K "is_integer"), "is_integer", "is_integer", defArgs s_is_integer, defBody s_is_integer, defScope s_is_integer, [], []⟩, ⟨fun K => (He.ga K "is_place"), "is_place", "is_place", defArgs s_is_place, defBody s_is_place, defScope s_is_place, [], []⟩, ⟨fun K => (He.ga K "plus"), "plus", "plus", defArgs s_plus, defBody s_plus, defScope s_plus, [], []⟩, ⟨fun K => (He.ga K "minus"), "minus", "minus", defArgs s_minus, defBody s_minus, defScope s_minus, [], []⟩, ⟨fun K => (He.ga K "divisors"), "divisors", "divisors", defArgs s_divisors, defBody s_divisors, defScope s_divisors, [], []⟩, ⟨fun K => (He.ga K "are_numbers"), "are_numbers", "are_numbers", defArgs s_are_numbers, defBody s_are_numbers, defScope s_are_numbers, [], []⟩, ⟨fun K => (He.ma K (He.ga K "Net") "__init__"), "__init__", "Net.__init__", defArgs s_Net_UinitU, defBody s_Net_UinitU, defScope s_Net_UinitU, [], []⟩, ⟨fun K => (He5.wf K (He.ga K "Net") "property" "numbers"), "numbers", "Net.numbers", defArgs s_Net_numbers, defBody s_Net_numbers, defScope s_Net_numbers, [], []⟩, ⟨fun K => (He5.wf K (He.ga K "Net") "property" "size"), "size", "Net.size", defArgs s_Net_size, defBody s_Net_size, defScope s_Net_size, [], []⟩, ⟨fun K => (He5.wf K (He.ga K "Net") "classmethod" "whole"), "whole", "Net.whole", defArgs s_Net_whole, defBody s_Net_whole, defScope s_Net_whole, [], []⟩, ⟨fun K => (He.ma K (He.ga K "Net") "__eq__"), "__eq__", "Net.__eq__", defArgs s_Net_UeqU, defBody s_Net_UeqU, defScope s_Net_UeqU, [], []⟩, ⟨fun K => (He.ma K (He.ga K "Net") "place_in_cell"), "place_in_cell", "Net.place_in_cell", defArgs s_Net_place_in_cell, defBody s_Net_place_in_cell, defScope s_Net_place_in_cell, [], []⟩, ⟨fun K => (He.ma K (He.ga K "Net") "spots"), "spots", "Net.spots", defArgs s_Net_spots, defBody s_Net_spots, defScope s_Net_spots, [], []⟩, ⟨fun K => (He.ga K "colour_at"), "colour_at", "colour_at", defArgs s_colour_at, defBody s_colour_at, defScope s_colour_at, [], []⟩, ⟨fun K => (He.ga K "is_kept"), "is_kept", "is_kept", defArgs s_is_kept, defBody s_is_kept, defScope s_is_kept, [], []⟩, ⟨fun K => (He.ga K "kept_net"), "kept_net", "kept_net", defArgs s_kept_net, defBody s_kept_net, defScope s_kept_net, [], []⟩, ⟨fun K => (He.ga K "least_cell"), "least_cell", "least_cell", defArgs s_least_cell, defBody s_least_cell, defScope s_least_cell, [], []⟩, ⟨fun K => (He.ga K "is_colour"), "is_colour", "is_colour", defArgs s_is_colour, defBody s_is_colour, defScope s_is_colour, [], []⟩, ⟨fun K => (He.ga K "check_colour"), "check_colour", "check_colour", defArgs s_check_colour, defBody s_check_colour, defScope s_check_colour, [], []⟩, ⟨fun K => (He.ga K "is_row"), "is_row", "is_row", defArgs s_is_row, defBody s_is_row, defScope s_is_row, [], []⟩, ⟨fun K => (He.ga K "check_rows"), "check_rows", "check_rows", defArgs s_check_rows, defBody s_check_rows, defScope s_check_rows, [], []⟩, ⟨fun K => (He.ga K "checked_block"), "checked_block", "checked_block", defArgs s_checked_block, defBody s_checked_block, defScope s_checked_block, [], []⟩, ⟨fun K => (He.ma K (He.ga K "Carpet") "__init__"), "__init__", "Carpet.__init__", defArgs s_Carpet_UinitU, defBody s_Carpet_UinitU, defScope s_Carpet_UinitU, [], [("shift", .int (0))]⟩, ⟨fun K => (He.ma K (He.ga K "Woven") "__init__"), "__init__", "Woven.__init__", defArgs s_Woven_UinitU, defBody s_Woven_UinitU, defScope s_Woven_UinitU, [], []⟩, ⟨fun K => (He5.wf K (He.ga K "Carpet") "staticmethod" "on"), "on", "Carpet.on", defArgs s_Carpet_on, defBody s_Carpet_on, defScope s_Carpet_on, [], []⟩, ⟨fun K => (He5.wf K (He.ga K "Carpet") "classmethod" "plain"), "plain", "Carpet.plain", defArgs s_Carpet_plain, defBody s_Carpet_plain, defScope s_Carpet_plain, [], []⟩, ⟨fun K => (He5.wf K (He.ga K "Carpet") "property" "net"), "net", "Carpet.net", defArgs s_Carpet_net, defBody s_Carpet_net, defScope s_Carpet_net, [], []⟩, ⟨fun K => (He5.wf K (He.ga K "Carpet") "property" "text"), "text", "Carpet.text", defArgs s_Carpet_text, defBody s_Carpet_text, defScope s_Carpet_text, [], []⟩, ⟨fun K => (He.ma K (He.ga K "Carpet") "seen"), "seen", "Carpet.seen", defArgs s_Carpet_seen, defBody s_Carpet_seen, defScope s_Carpet_seen, [], []⟩, ⟨fun K => (He.ma K (He.ga K "Carpet") "__getitem__"), "__getitem__", "Carpet.__getitem__", defArgs s_Carpet_UgetitemU, defBody s_Carpet_UgetitemU, defScope s_Carpet_UgetitemU, [], []⟩, ⟨fun K => (He.ma K (He.ga K "Carpet") "__len__"), "__len__", "Carpet.__len__", defArgs s_Carpet_UlenU, defBody s_Carpet_UlenU, defScope s_Carpet_UlenU, [], []⟩, ⟨fun K => (He.ma K (He.ga K "Carpet") "__eq__"), "__eq__", "Carpet.__eq__", defArgs s_Carpet_UeqU, defBody s_Carpet_UeqU, defScope s_Carpet_UeqU, [], []⟩, ⟨fun K => (He.ma K (He.ga K "Carpet") "__add__"), "__add__", "Carpet.__add__", defArgs s_Carpet_UaddU, defBody s_Carpet_UaddU, defScope s_Carpet_UaddU, [], []⟩, ⟨fun K => (He.ga K "_law_told"), "_law_told", "_law_told", defArgs s__law_told, defBody s__law_told, defScope s__law_told, [], []⟩, ⟨fun K => (He.ga K "_law_rows_right"), "_law_rows_right", "_law_rows_right", defArgs s__law_rows_right, defBody s__law_rows_right, defScope s__law_rows_right, [], []⟩, ⟨fun K => (He.ga K "_law_fixed_right"), "_law_fixed_right", "_law_fixed_right", defArgs s__law_fixed_right, defBody s__law_fixed_right, defScope s__law_fixed_right, [], []⟩, ⟨fun K => (He.ga K "law"), "law", "law", defArgs s_law, defBody s_law, defScope s_law, [], []⟩]
def ask : Ask := ⟨fs, fn, [], tfAll⟩
def fs0 : List (Frg → Bool) := [bFree "OverflowError", bFree "ValueError", bFree "all", bFree "bool", bFree "enumerate", bFree "int", bFree "isinstance", bFree "len", bFree "list", bFree "range", bFree "repr", bFree "str", bFree "tuple", bBinT "Carpet" "tuple" "add", bBinT "Woven" "tuple" "add", bCI "Carpet" "Carpet" "plain", bCI "Woven" "Carpet" "plain", bCls "Carpet", bCls "Net", bCls "Woven", bCM "Carpet" "plain", bCM "Net" "whole", bExC "InvalidColour", bExC "InvalidNumber", bExC "InvalidPlace", bExC "InvalidRows", bExC "InvalidText", bExC "LimitExceeded", bEx "InvalidColour" "InvalidNumber" false, bEx "InvalidColour" "InvalidPlace" false, bEx "InvalidColour" "InvalidRows" false, bEx "InvalidColour" "InvalidText" false, bEx "InvalidNumber" "InvalidColour" false, bEx "InvalidNumber" "InvalidPlace" false, bEx "InvalidNumber" "InvalidRows" false, bEx "InvalidNumber" "InvalidText" false, bEx "InvalidPlace" "InvalidColour" false, bEx "InvalidPlace" "InvalidNumber" false, bEx "InvalidPlace" "InvalidRows" false, bEx "InvalidPlace" "InvalidText" false, bEx "InvalidText" "InvalidColour" false, bEx "InvalidText" "InvalidNumber" false, bEx "InvalidText" "InvalidPlace" false, bEx "InvalidText" "InvalidRows" false, bEx "LimitExceeded" "InvalidColour" false, bEx "LimitExceeded" "InvalidNumber" false, bEx "LimitExceeded" "InvalidPlace" false, bEx "LimitExceeded" "InvalidRows" false, bEx "LimitExceeded" "InvalidText" false, bEx "InvalidColour" "InvalidColour" true, bEx "InvalidNumber" "InvalidNumber" true, bEx "InvalidPlace" "InvalidPlace" true, bEx "InvalidRows" "InvalidRows" true, bEx "InvalidText" "InvalidText" true, bEx "LimitExceeded" "LimitExceeded" true, bFi "Carpet" "__getitem__", bGlo "Carpet", bGlo "CarpetError", bGlo "InvalidColour", bGlo "InvalidNumber", bGlo "InvalidPlace", bGlo "InvalidRows", bGlo "InvalidText", bStr "LETTERS" "abcdefghijklmnopqrstuvwxyz", bGlo "LimitExceeded", bInt "MOST_LETTERS" 1000, bInt "MOST_PLACES" 2000, bInt "MOST_ROWS" 100, bGlo "Net", bGlo "Woven", bGlo "_law_draw", bGlo "_law_fixed_right", bGlo "_law_rows_right", bGlo "_law_tape", bGlo "_law_told", bGlo "are_numbers", bGlo "check_colour", bGlo "check_rows", bGlo "checked_block", bGlo "colour_at", bGlo "divisors", bGlo "is_colour", bGlo "is_integer", bGlo "is_kept", bGlo "is_place", bGlo "is_row"]
def fn0 : List He5.DefA := [⟨fun K => (He.ga K "_law_tape"), "_law_tape", "_law_tape", defArgs s__law_tape, defBody s__law_tape, defScope s__law_tape, [], []⟩, ⟨fun K => (He.ga K "_law_draw"), "_law_draw", "_law_draw", defArgs s__law_draw, defBody s__law_draw, defScope s__law_draw, [], []⟩, ⟨fun K => (He.ma K (He.ga K "InvalidRows") "__init__"), "__init__", "InvalidRows.__init__", defArgs s_InvalidRows_UinitU, defBody s_InvalidRows_UinitU, defScope s_InvalidRows_UinitU, [], []⟩, ⟨fun K => (He.ma K (He.ga K "InvalidNumber") "__init__"), "__init__", "InvalidNumber.__init__", defArgs s_InvalidNumber_UinitU, defBody s_InvalidNumber_UinitU, defScope s_InvalidNumber_UinitU, [], []⟩, ⟨fun K => (He.ma K (He.ga K "InvalidPlace") "__init__"), "__init__", "InvalidPlace.__init__", defArgs s_InvalidPlace_UinitU, defBody s_InvalidPlace_UinitU, defScope s_InvalidPlace_UinitU, [], []⟩, ⟨fun K => (He.ma K (He.ga K "InvalidColour") "__init__"), "__init__", "InvalidColour.__init__", defArgs s_InvalidColour_UinitU, defBody s_InvalidColour_UinitU, defScope s_InvalidColour_UinitU, [], []⟩, ⟨fun K => (He.ma K (He.ga K "InvalidText") "__init__"), "__init__", "InvalidText.__init__", defArgs s_InvalidText_UinitU, defBody s_InvalidText_UinitU, defScope s_InvalidText_UinitU, [], []⟩, ⟨fun K => (He.ma K (He.ga K "LimitExceeded") "__init__"), "__init__", "LimitExceeded.__init__", defArgs s_LimitExceeded_UinitU, defBody s_LimitExceeded_UinitU, defScope s_LimitExceeded_UinitU, [], []⟩, ⟨fun K => (He.ga K "is_integer"), "is_integer", "is_integer", defArgs s_is_integer, defBody s_is_integer, defScope s_is_integer, [], []⟩, ⟨fun K => (He.ga K "is_place"), "is_place", "is_place", defArgs s_is_place, defBody s_is_place, defScope s_is_place, [], []⟩, ⟨fun K => (He.ga K "plus"), "plus", "plus", defArgs s_plus, defBody s_plus, defScope s_plus, [], []⟩, ⟨fun K => (He.ga K "minus"), "minus", "minus", defArgs s_minus, defBody s_minus, defScope s_minus, [], []⟩, ⟨fun K => (He.ga K "divisors"), "divisors", "divisors", defArgs s_divisors, defBody s_divisors, defScope s_divisors, [], []⟩, ⟨fun K => (He.ga K "are_numbers"), "are_numbers", "are_numbers", defArgs s_are_numbers, defBody s_are_numbers, defScope s_are_numbers, [], []⟩, ⟨fun K => (He.ma K (He.ga K "Net") "__init__"), "__init__", "Net.__init__", defArgs s_Net_UinitU, defBody s_Net_UinitU, defScope s_Net_UinitU, [], []⟩, ⟨fun K => (He5.wf K (He.ga K "Net") "property" "numbers"), "numbers", "Net.numbers", defArgs s_Net_numbers, defBody s_Net_numbers, defScope s_Net_numbers, [], []⟩, ⟨fun K => (He5.wf K (He.ga K "Net") "property" "size"), "size", "Net.size", defArgs s_Net_size, defBody s_Net_size, defScope s_Net_size, [], []⟩, ⟨fun K => (He5.wf K (He.ga K "Net") "classmethod" "whole"), "whole", "Net.whole", defArgs s_Net_whole, defBody s_Net_whole, defScope s_Net_whole, [], []⟩, ⟨fun K => (He.ma K (He.ga K "Net") "__eq__"), "__eq__", "Net.__eq__", defArgs s_Net_UeqU, defBody s_Net_UeqU, defScope s_Net_UeqU, [], []⟩, ⟨fun K => (He.ma K (He.ga K "Net") "place_in_cell"), "place_in_cell", "Net.place_in_cell", defArgs s_Net_place_in_cell, defBody s_Net_place_in_cell, defScope s_Net_place_in_cell, [], []⟩, ⟨fun K => (He.ma K (He.ga K "Net") "spots"), "spots", "Net.spots", defArgs s_Net_spots, defBody s_Net_spots, defScope s_Net_spots, [], []⟩, ⟨fun K => (He.ga K "colour_at"), "colour_at", "colour_at", defArgs s_colour_at, defBody s_colour_at, defScope s_colour_at, [], []⟩]
def fs1 : List (Frg → Bool) := [bGlo "kept_net", bGlo "law", bGlo "least_cell", bGlo "minus", bGlo "plus", bKeep "_law_draw", bKeep "_law_fixed_right", bKeep "_law_rows_right", bKeep "_law_tape", bKeep "_law_told", bKeep "are_numbers", bKeep "check_colour", bKeep "check_rows", bKeep "checked_block", bKeep "colour_at", bKeep "divisors", bKeep "is_colour", bKeep "is_integer", bKeep "is_kept", bKeep "is_place", bKeep "is_row", bKeep "kept_net", bKeep "least_cell", bKeep "minus", bKeep "plus", bKt "InvalidColour" "InvalidNumber" false, bKt "InvalidColour" "InvalidPlace" false, bKt "InvalidNumber" "InvalidColour" false, bKt "InvalidNumber" "InvalidPlace" false, bKt "InvalidPlace" "InvalidColour" false, bKt "InvalidPlace" "InvalidNumber" false, bKt "InvalidText" "InvalidColour" false, bKt "InvalidText" "InvalidNumber" false, bKt "InvalidText" "InvalidPlace" false, bKt "LimitExceeded" "CarpetError" false, bKt "Net" "Carpet" false, bKt "InvalidColour" "InvalidColour" true, bKt "InvalidNumber" "InvalidNumber" true, bKt "InvalidPlace" "InvalidPlace" true, bKt "InvalidRows" "CarpetError" true, bKt "Woven" "Carpet" true, bKtB "InvalidRows" "ValueError" true, bKtB "LimitExceeded" "OverflowError" true, bLamG "_law_fixed_right", bLamG "_law_rows_right", bLamG "law", bMeth "Carpet" "__add__", bMeth "Carpet" "__getitem__", bMeth "Carpet" "__len__", bMeth "Carpet" "seen", bMeth "Net" "__eq__", bMeth "Net" "place_in_cell", bMeth "Net" "spots", bMeth2 "Woven" "Carpet" "__add__", bMeth2 "Woven" "Carpet" "__getitem__", bMeth2 "Woven" "Carpet" "__len__", bMeth2 "Woven" "Carpet" "seen", bMk "Carpet", bMk "Net", bMk "Woven", bNo "Carpet" "own_net", bNo "Carpet" "own_text", bNo "Net" "own_numbers", bNo "Woven" "own_net", bNo "Woven" "own_text", bNf "Carpet" "Net", bNf "Woven" "Net", bOwn "Carpet", bOwn "Net", bOwn "Woven", bProp "Carpet" "net", bProp "Carpet" "text", bProp "Net" "numbers", bProp "Net" "size", bProp2 "Woven" "Carpet" "net", bProp2 "Woven" "Carpet" "text", bRd "Carpet", bRd "Net", bSM "Carpet" "on", bTwo "Carpet" "Woven", bXc "InvalidColour" "value" 0, bXc "InvalidNumber" "value" 0, bXc "InvalidPlace" "value" 0, bXc "InvalidRows" "index" 0, bXc "InvalidText" "value" 0, bXc "LimitExceeded" "limit" 1]
def fn1 : List He5.DefA := [⟨fun K => (He.ga K "is_kept"), "is_kept", "is_kept", defArgs s_is_kept, defBody s_is_kept, defScope s_is_kept, [], []⟩, ⟨fun K => (He.ga K "kept_net"), "kept_net", "kept_net", defArgs s_kept_net, defBody s_kept_net, defScope s_kept_net, [], []⟩, ⟨fun K => (He.ga K "least_cell"), "least_cell", "least_cell", defArgs s_least_cell, defBody s_least_cell, defScope s_least_cell, [], []⟩, ⟨fun K => (He.ga K "is_colour"), "is_colour", "is_colour", defArgs s_is_colour, defBody s_is_colour, defScope s_is_colour, [], []⟩, ⟨fun K => (He.ga K "check_colour"), "check_colour", "check_colour", defArgs s_check_colour, defBody s_check_colour, defScope s_check_colour, [], []⟩, ⟨fun K => (He.ga K "is_row"), "is_row", "is_row", defArgs s_is_row, defBody s_is_row, defScope s_is_row, [], []⟩, ⟨fun K => (He.ga K "check_rows"), "check_rows", "check_rows", defArgs s_check_rows, defBody s_check_rows, defScope s_check_rows, [], []⟩, ⟨fun K => (He.ga K "checked_block"), "checked_block", "checked_block", defArgs s_checked_block, defBody s_checked_block, defScope s_checked_block, [], []⟩, ⟨fun K => (He.ma K (He.ga K "Carpet") "__init__"), "__init__", "Carpet.__init__", defArgs s_Carpet_UinitU, defBody s_Carpet_UinitU, defScope s_Carpet_UinitU, [], [("shift", .int (0))]⟩, ⟨fun K => (He.ma K (He.ga K "Woven") "__init__"), "__init__", "Woven.__init__", defArgs s_Woven_UinitU, defBody s_Woven_UinitU, defScope s_Woven_UinitU, [], []⟩, ⟨fun K => (He5.wf K (He.ga K "Carpet") "staticmethod" "on"), "on", "Carpet.on", defArgs s_Carpet_on, defBody s_Carpet_on, defScope s_Carpet_on, [], []⟩, ⟨fun K => (He5.wf K (He.ga K "Carpet") "classmethod" "plain"), "plain", "Carpet.plain", defArgs s_Carpet_plain, defBody s_Carpet_plain, defScope s_Carpet_plain, [], []⟩, ⟨fun K => (He5.wf K (He.ga K "Carpet") "property" "net"), "net", "Carpet.net", defArgs s_Carpet_net, defBody s_Carpet_net, defScope s_Carpet_net, [], []⟩, ⟨fun K => (He5.wf K (He.ga K "Carpet") "property" "text"), "text", "Carpet.text", defArgs s_Carpet_text, defBody s_Carpet_text, defScope s_Carpet_text, [], []⟩, ⟨fun K => (He.ma K (He.ga K "Carpet") "seen"), "seen", "Carpet.seen", defArgs s_Carpet_seen, defBody s_Carpet_seen, defScope s_Carpet_seen, [], []⟩, ⟨fun K => (He.ma K (He.ga K "Carpet") "__getitem__"), "__getitem__", "Carpet.__getitem__", defArgs s_Carpet_UgetitemU, defBody s_Carpet_UgetitemU, defScope s_Carpet_UgetitemU, [], []⟩, ⟨fun K => (He.ma K (He.ga K "Carpet") "__len__"), "__len__", "Carpet.__len__", defArgs s_Carpet_UlenU, defBody s_Carpet_UlenU, defScope s_Carpet_UlenU, [], []⟩, ⟨fun K => (He.ma K (He.ga K "Carpet") "__eq__"), "__eq__", "Carpet.__eq__", defArgs s_Carpet_UeqU, defBody s_Carpet_UeqU, defScope s_Carpet_UeqU, [], []⟩, ⟨fun K => (He.ma K (He.ga K "Carpet") "__add__"), "__add__", "Carpet.__add__", defArgs s_Carpet_UaddU, defBody s_Carpet_UaddU, defScope s_Carpet_UaddU, [], []⟩, ⟨fun K => (He.ga K "_law_told"), "_law_told", "_law_told", defArgs s__law_told, defBody s__law_told, defScope s__law_told, [], []⟩, ⟨fun K => (He.ga K "_law_rows_right"), "_law_rows_right", "_law_rows_right", defArgs s__law_rows_right, defBody s__law_rows_right, defScope s__law_rows_right, [], []⟩, ⟨fun K => (He.ga K "_law_fixed_right"), "_law_fixed_right", "_law_fixed_right", defArgs s__law_fixed_right, defBody s__law_fixed_right, defScope s__law_fixed_right, [], []⟩, ⟨fun K => (He.ga K "law"), "law", "law", defArgs s_law, defBody s_law, defScope s_law, [], []⟩]
def ts : List He.Tab := []
abbrev askC : Ask := ⟨(fs0 ++ fs1), (fn0 ++ fn1), ts, tfAll⟩
theorem askC_eq : askC = ask := by kernel_rfl
theorem tx_of {w : World} {h : Heap} {K : Frg} {mg : Str → Option Value} (X : K.In h) (G : h.Ns mainGlobals mg) (c : Says ask w h K) : Tx w K mg where
  b_OverflowError := free_of X G (c.at 0)
  b_ValueError := free_of X G (c.at 1)
  b_all := free_of X G (c.at 2)
  b_bool := free_of X G (c.at 3)
  b_enumerate := free_of X G (c.at 4)
  b_int := free_of X G (c.at 5)
  b_isinstance := free_of X G (c.at 6)
  b_len := free_of X G (c.at 7)
  b_list := free_of X G (c.at 8)
  b_range := free_of X G (c.at 9)
  b_repr := free_of X G (c.at 10)
  b_str := free_of X G (c.at 11)
  b_tuple := free_of X G (c.at 12)
  bt_Carpet_tuple_add := binT_of (c.at 13)
  bt_Woven_tuple_add := binT_of (c.at 14)
  ci_Carpet_plain := ci_of (c.at 15)
  ci_Woven_plain := ci_of (c.at 16)
  cl_Carpet := cls_of (c.at 17)
  cl_Net := cls_of (c.at 18)
  cl_Woven := cls_of (c.at 19)
  cm_Carpet_plain := cm_of (c.at 20)
  cm_Net_whole := cm_of (c.at 21)
  ec_InvalidColour := exc_of (c.at 22)
  ec_InvalidNumber := exc_of (c.at 23)
  ec_InvalidPlace := exc_of (c.at 24)
  ec_InvalidRows := exc_of (c.at 25)
  ec_InvalidText := exc_of (c.at 26)
  ec_LimitExceeded := exc_of (c.at 27)
  exf_InvalidColour_InvalidNumber := ex_of (c.at 28)
  exf_InvalidColour_InvalidPlace := ex_of (c.at 29)
  exf_InvalidColour_InvalidRows := ex_of (c.at 30)
  exf_InvalidColour_InvalidText := ex_of (c.at 31)
  exf_InvalidNumber_InvalidColour := ex_of (c.at 32)
  exf_InvalidNumber_InvalidPlace := ex_of (c.at 33)
  exf_InvalidNumber_InvalidRows := ex_of (c.at 34)
  exf_InvalidNumber_InvalidText := ex_of (c.at 35)
  exf_InvalidPlace_InvalidColour := ex_of (c.at 36)
  exf_InvalidPlace_InvalidNumber := ex_of (c.at 37)
  exf_InvalidPlace_InvalidRows := ex_of (c.at 38)
  exf_InvalidPlace_InvalidText := ex_of (c.at 39)
  exf_InvalidText_InvalidColour := ex_of (c.at 40)
  exf_InvalidText_InvalidNumber := ex_of (c.at 41)
  exf_InvalidText_InvalidPlace := ex_of (c.at 42)
  exf_InvalidText_InvalidRows := ex_of (c.at 43)
  exf_LimitExceeded_InvalidColour := ex_of (c.at 44)
  exf_LimitExceeded_InvalidNumber := ex_of (c.at 45)
  exf_LimitExceeded_InvalidPlace := ex_of (c.at 46)
  exf_LimitExceeded_InvalidRows := ex_of (c.at 47)
  exf_LimitExceeded_InvalidText := ex_of (c.at 48)
  ext_InvalidColour_InvalidColour := ex_of (c.at 49)
  ext_InvalidNumber_InvalidNumber := ex_of (c.at 50)
  ext_InvalidPlace_InvalidPlace := ex_of (c.at 51)
  ext_InvalidRows_InvalidRows := ex_of (c.at 52)
  ext_InvalidText_InvalidText := ex_of (c.at 53)
  ext_LimitExceeded_LimitExceeded := ex_of (c.at 54)
  fi_Carpet_UgetitemU := fi_of (c.at 55)
  g_Carpet := glo_of X G (c.at 56)
  g_CarpetError := glo_of X G (c.at 57)
  g_InvalidColour := glo_of X G (c.at 58)
  g_InvalidNumber := glo_of X G (c.at 59)
  g_InvalidPlace := glo_of X G (c.at 60)
  g_InvalidRows := glo_of X G (c.at 61)
  g_InvalidText := glo_of X G (c.at 62)
  g_LETTERS := str_of X G (c.at 63)
  g_LimitExceeded := glo_of X G (c.at 64)
  g_MOST_LETTERS := int_of X G (c.at 65)
  g_MOST_PLACES := int_of X G (c.at 66)
  g_MOST_ROWS := int_of X G (c.at 67)
  g_Net := glo_of X G (c.at 68)
  g_Woven := glo_of X G (c.at 69)
  g__law_draw := glo_of X G (c.at 70)
  g__law_fixed_right := glo_of X G (c.at 71)
  g__law_rows_right := glo_of X G (c.at 72)
  g__law_tape := glo_of X G (c.at 73)
  g__law_told := glo_of X G (c.at 74)
  g_are_numbers := glo_of X G (c.at 75)
  g_check_colour := glo_of X G (c.at 76)
  g_check_rows := glo_of X G (c.at 77)
  g_checked_block := glo_of X G (c.at 78)
  g_colour_at := glo_of X G (c.at 79)
  g_divisors := glo_of X G (c.at 80)
  g_is_colour := glo_of X G (c.at 81)
  g_is_integer := glo_of X G (c.at 82)
  g_is_kept := glo_of X G (c.at 83)
  g_is_place := glo_of X G (c.at 84)
  g_is_row := glo_of X G (c.at 85)
  g_kept_net := glo_of X G (c.at 86)
  g_law := glo_of X G (c.at 87)
  g_least_cell := glo_of X G (c.at 88)
  g_minus := glo_of X G (c.at 89)
  g_plus := glo_of X G (c.at 90)
  k__law_draw := keep_of (c.at 91)
  k__law_fixed_right := keep_of (c.at 92)
  k__law_rows_right := keep_of (c.at 93)
  k__law_tape := keep_of (c.at 94)
  k__law_told := keep_of (c.at 95)
  k_are_numbers := keep_of (c.at 96)
  k_check_colour := keep_of (c.at 97)
  k_check_rows := keep_of (c.at 98)
  k_checked_block := keep_of (c.at 99)
  k_colour_at := keep_of (c.at 100)
  k_divisors := keep_of (c.at 101)
  k_is_colour := keep_of (c.at 102)
  k_is_integer := keep_of (c.at 103)
  k_is_kept := keep_of (c.at 104)
  k_is_place := keep_of (c.at 105)
  k_is_row := keep_of (c.at 106)
  k_kept_net := keep_of (c.at 107)
  k_least_cell := keep_of (c.at 108)
  k_minus := keep_of (c.at 109)
  k_plus := keep_of (c.at 110)
  kf_InvalidColour_InvalidNumber := kt_of (c.at 111)
  kf_InvalidColour_InvalidPlace := kt_of (c.at 112)
  kf_InvalidNumber_InvalidColour := kt_of (c.at 113)
  kf_InvalidNumber_InvalidPlace := kt_of (c.at 114)
  kf_InvalidPlace_InvalidColour := kt_of (c.at 115)
  kf_InvalidPlace_InvalidNumber := kt_of (c.at 116)
  kf_InvalidText_InvalidColour := kt_of (c.at 117)
  kf_InvalidText_InvalidNumber := kt_of (c.at 118)
  kf_InvalidText_InvalidPlace := kt_of (c.at 119)
  kf_LimitExceeded_CarpetError := kt_of (c.at 120)
  kf_Net_Carpet := kt_of (c.at 121)
  kt_InvalidColour_InvalidColour := kt_of (c.at 122)
  kt_InvalidNumber_InvalidNumber := kt_of (c.at 123)
  kt_InvalidPlace_InvalidPlace := kt_of (c.at 124)
  kt_InvalidRows_CarpetError := kt_of (c.at 125)
  kt_Woven_Carpet := kt_of (c.at 126)
  ktb_InvalidRows_ValueError := ktB_of (c.at 127)
  ktb_LimitExceeded_OverflowError := ktB_of (c.at 128)
  lf__law_fixed_right := lamG_of X G (c.at 129)
  lf__law_rows_right := lamG_of X G (c.at 130)
  lf_law := lamG_of X G (c.at 131)
  m_Carpet_UaddU := meth_of (c.at 132)
  m_Carpet_UgetitemU := meth_of (c.at 133)
  m_Carpet_UlenU := meth_of (c.at 134)
  m_Carpet_seen := meth_of (c.at 135)
  m_Net_UeqU := meth_of (c.at 136)
  m_Net_place_in_cell := meth_of (c.at 137)
  m_Net_spots := meth_of (c.at 138)
  m_Woven_UaddU := meth2_of (c.at 139)
  m_Woven_UgetitemU := meth2_of (c.at 140)
  m_Woven_UlenU := meth2_of (c.at 141)
  m_Woven_seen := meth2_of (c.at 142)
  mk_Carpet := mk_of (c.at 143)
  mk_Net := mk_of (c.at 144)
  mk_Woven := mk_of (c.at 145)
  na_Carpet_own_net := no_of (c.at 146)
  na_Carpet_own_text := no_of (c.at 147)
  na_Net_own_numbers := no_of (c.at 148)
  na_Woven_own_net := no_of (c.at 149)
  na_Woven_own_text := no_of (c.at 150)
  nf_Carpet_Net := nf_of (c.at 151)
  nf_Woven_Net := nf_of (c.at 152)
  ow_Carpet := own_of (c.at 153)
  ow_Net := own_of (c.at 154)
  ow_Woven := own_of (c.at 155)
  p_Carpet_net := prop_of (c.at 156)
  p_Carpet_text := prop_of (c.at 157)
  p_Net_numbers := prop_of (c.at 158)
  p_Net_size := prop_of (c.at 159)
  p_Woven_net := prop2_of (c.at 160)
  p_Woven_text := prop2_of (c.at 161)
  rd_Carpet := rd_of (c.at 162)
  rd_Net := rd_of (c.at 163)
  sm_Carpet_on := sm_of (c.at 164)
  tw_Carpet_Woven := two_of (c.at 165)
  xc_InvalidColour := xcb_of (c.at 166)
  xc_InvalidNumber := xcb_of (c.at 167)
  xc_InvalidPlace := xcb_of (c.at 168)
  xc_InvalidRows := xcb_of (c.at 169)
  xc_InvalidText := xcb_of (c.at 170)
  xc_LimitExceeded := xcb_of (c.at 171)
  d__law_tape := c.df 0
  d__law_draw := c.df 1
  d_InvalidRows_UinitU := c.df 2
  d_InvalidNumber_UinitU := c.df 3
  d_InvalidPlace_UinitU := c.df 4
  d_InvalidColour_UinitU := c.df 5
  d_InvalidText_UinitU := c.df 6
  d_LimitExceeded_UinitU := c.df 7
  d_is_integer := c.df 8
  d_is_place := c.df 9
  d_plus := c.df 10
  d_minus := c.df 11
  d_divisors := c.df 12
  d_are_numbers := c.df 13
  d_Net_UinitU := c.df 14
  d_Net_numbers := c.df 15
  d_Net_size := c.df 16
  d_Net_whole := c.df 17
  d_Net_UeqU := c.df 18
  d_Net_place_in_cell := c.df 19
  d_Net_spots := c.df 20
  d_colour_at := c.df 21
  d_is_kept := c.df 22
  d_kept_net := c.df 23
  d_least_cell := c.df 24
  d_is_colour := c.df 25
  d_check_colour := c.df 26
  d_is_row := c.df 27
  d_check_rows := c.df 28
  d_checked_block := c.df 29
  d_Carpet_UinitU := defK_of (c.df 30) (fun _ _ => .int _)
  d_Woven_UinitU := c.df 31
  d_Carpet_on := c.df 32
  d_Carpet_plain := c.df 33
  d_Carpet_net := c.df 34
  d_Carpet_text := c.df 35
  d_Carpet_seen := c.df 36
  d_Carpet_UgetitemU := c.df 37
  d_Carpet_UlenU := c.df 38
  d_Carpet_UeqU := c.df 39
  d_Carpet_UaddU := c.df 40
  d__law_told := c.df 41
  d__law_rows_right := c.df 42
  d__law_fixed_right := c.df 43
  d_law := c.df 44
abbrev R : PySem.W.OpenRow := PySem.W.OpenLaw.row PySem.Challenge.rw_carpets_k11_carpets_that_are_refused
abbrev hk : PySem.W.Hook := hookZ 2000 ask
def ob (s : PySem.W.SharedT) : AlZ := obsG 2000 ask (HandSHeadRun.getT s)
theorem ob_eq (s : PySem.W.SharedT) : ob s = hk.obs s.abs := obsG_eq (HandSHeadRun.getT_eq s)
def loose : List Str := (["_wall", "CarpetError", "InvalidNet", "InvalidPlace", "InvalidRows", "InvalidColour", "InvalidNumber", "InvalidText", "LimitExceeded", "is_integer", "is_place", "check_place", "greatest_divisor", "bezout", "divisors", "plus", "minus", "MATRICES", "turned", "form_of"] : List Str) ++ (["are_numbers", "common_numbers", "Net", "LETTERS", "MOST_ROWS", "MOST_LETTERS", "MOST_PLACES", "is_colour", "check_colour", "is_row", "check_rows", "checked_block", "colour_at", "is_kept", "kept_net", "least_cell", "Carpet", "Woven", "_law_tape", "_law_draw"] : List Str) ++ (["_law_told", "_law_rows_right", "_law_fixed_right"] : List Str)
abbrev qv : Program := PySem.W.view R.prog [49]
theorem run0_0 (w : World) : HandSHeadRun.RunEq R qv (hookZ 2000 ⟨fs0, fn0, ts, tfAll⟩) (fun s => obsG 2000 ⟨fs0, fn0, ts, tfAll⟩ (HandSHeadRun.getT s)) 12000 loose (w.withFollow "special-get-raises" false) := by
  intro os; kernel_rfl
theorem run0_1 (w : World) : RunP R 2000 ⟨fs1, fn1, [], []⟩ 12000 (w.withFollow "special-get-raises" false) := by
  intro os; kernel_rfl
theorem run0 (w : World) : HandSHeadRun.RunEq R qv hk ob 12000 loose (w.withFollow "special-get-raises" false) := by
  have h := run_add (run0_0 w) (run0_1 w)
  have e : ∀ a : Ask, a = ask → HandSHeadRun.RunEq R qv (hookZ 2000 a) (fun s => obsG 2000 a (HandSHeadRun.getT s)) 12000 loose (w.withFollow "special-get-raises" false) → HandSHeadRun.RunEq R qv (hookZ 2000 ask) (fun s => obsG 2000 ask (HandSHeadRun.getT s)) 12000 loose (w.withFollow "special-get-raises" false) := fun a e h => e ▸ h
  exact e askC askC_eq h
theorem run1_0 (w : World) : HandSHeadRun.RunEq R qv (hookZ 2000 ⟨fs0, fn0, ts, tfAll⟩) (fun s => obsG 2000 ⟨fs0, fn0, ts, tfAll⟩ (HandSHeadRun.getT s)) 12000 loose (w.withFollow "special-get-raises" true) := by
  intro os; kernel_rfl
theorem run1_1 (w : World) : RunP R 2000 ⟨fs1, fn1, [], []⟩ 12000 (w.withFollow "special-get-raises" true) := by
  intro os; kernel_rfl
theorem run1 (w : World) : HandSHeadRun.RunEq R qv hk ob 12000 loose (w.withFollow "special-get-raises" true) := by
  have h := run_add (run1_0 w) (run1_1 w)
  have e : ∀ a : Ask, a = ask → HandSHeadRun.RunEq R qv (hookZ 2000 a) (fun s => obsG 2000 a (HandSHeadRun.getT s)) 12000 loose (w.withFollow "special-get-raises" true) → HandSHeadRun.RunEq R qv (hookZ 2000 ask) (fun s => obsG 2000 ask (HandSHeadRun.getT s)) 12000 loose (w.withFollow "special-get-raises" true) := fun a e h => e ▸ h
  exact e askC askC_eq h
theorem run (w : World) : HandSHeadRun.RunEq R qv hk ob 12000 loose w := PySem.W.byRow2 "special-get-raises" (P := fun w => HandSHeadRun.RunEq R qv hk ob 12000 loose w) run0 run1 w
end K11
namespace GX
open PySem PySem.Spec PyProof.Rows L2 Z
/-! ### name = [.. for tg in a generator] -/
section
variable {X : Cx} {tg : Expr}
end
end GX
namespace GX
open PySem PySem.Spec PyProof.Rows L2 Z Y
section
variable {X : Cx} {B : Bs} {rl : RdA} {rt : RdT} {pos : Pos}
end
end GX
namespace Y
open PySem PySem.Spec PyProof.Rows L2 Z
/-! ### patches -/
abbrev SIGS : Str := "abcdefghijklmnopqrstuvwxyz."
def sgC (c : Nat) : Prop := lowC c ∨ c = 46
structure RowsOk (S : Str) (n : Nat) (rs : List Str) (w : Nat) : Prop where
  n1 : 1 ≤ rs.length
  n2 : rs.length ≤ n
  w1 : 1 ≤ w
  w2 : w ≤ n
  row : ∀ r ∈ rs, r.cps.toList.length = w
  oc : ∀ r ∈ rs, ∀ c ∈ r.cps.toList, occ S ⟨#[c]⟩ = true
structure PRows (rs : List Str) (w : Nat) : Prop where
  n1 : 1 ≤ rs.length
  n2 : rs.length ≤ 50
  w1 : 1 ≤ w
  w2 : w ≤ 50
  row : ∀ r ∈ rs, r.cps.toList.length = w
  sg : ∀ r ∈ rs, ∀ c ∈ r.cps.toList, sgC c
theorem occ_sg {c : Nat} (h : sgC c) : occ SIGS ⟨#[c]⟩ = true := by
  have key : ∀ c : Fin 123, 97 ≤ c.val ∨ c.val = 46 → occ SIGS ⟨#[c.val]⟩ = true := by decide +kernel
  rcases h with h | rfl
  · exact key ⟨c, by unfold lowC at h; omega⟩ (.inl h.1)
  · exact key ⟨46, by decide⟩ (.inr rfl)
theorem PRows.ok {rs : List Str} {w : Nat} (h : PRows rs w) : RowsOk SIGS 50 rs w := ⟨h.n1, h.n2, h.w1, h.w2, h.row, fun r hr c hc => occ_sg (h.sg r hr c hc)⟩
theorem Blk.ok2 {rs : List Str} {w : Nat} (h : Blk rs w) : RowsOk LETS 100 rs w := ⟨h.n1, h.n2, h.w1, h.w2, h.row, fun r hr c hc => occ_low (h.low r hr c hc)⟩
theorem PRows.len {rs : List Str} {w : Nat} (h : PRows rs w) {u : Nat} {t : Str} (ht : rs[u]? = some t) : t.cps.toList.length = w := h.row t (List.mem_of_getElem? ht)
/-! ### contracts -/
end Y
namespace Y
open PySem PySem.Spec PyProof.Rows L2 Z
open MN (Keeps InN)
section
variable {K : Frg} {B : Bs} {R : RdF}
end
end Y
namespace Y
open PySem PySem.Spec PyProof.Rows L2 Z
open MN (Keeps)
/-! ### layers and masks -/
def Cw.n3 (x : Cw) : Int × Int × Int := (x.a, x.b, x.c)
/-! ### what is refused -/
/-! ### the law -/
structure W34 (ws : List Wq) (cs : List Cw) : Prop where
  l1 : 1 ≤ ws.length
  l3 : ws.length ≤ 3
  wk : ∀ w ∈ ws, Wq.ok w
  cl : cs.length = ws.length
  cr : ∀ (i : Nat) w x, ws[i]? = some w → cs[i]? = some x → madW w x
theorem W34.ok {ws : List Wq} {cs : List Cw} (h : W34 ws cs) {c : Cw} (hc : c ∈ cs) : c.ok ∧ c.a * c.c ≤ 12 ∧ lowS c.t := by
  obtain ⟨w, hw, m, h1, h2⟩ := rel_mem h.cl h.cr hc
  have W := h.wk w hw
  obtain ⟨⟨_, _, b⟩, lo, _⟩ := W.bnd (by decide) m.2 h1 h2
  exact ⟨(mad_ok m).1, b, lo⟩
theorem W34.sz {ws : List Wq} {cs : List Cw} (h : W34 ws cs) {ds : List Cw} (l : ds.length ≤ 3) (hd : ∀ c ∈ ds, c ∈ cs) {W R U : Int} (al : AllN (ds.map Cw.n3) W R U) : W * U ≤ 2000 := by
  have pos : ∀ c ∈ cs, 0 < c.a * c.c := fun c hc => by
    have o := (h.ok hc).1.2
    exact Int.mul_pos o.a o.c
  have key := alln_prod (fun n hn => by
    obtain ⟨c, hc, rfl⟩ := List.mem_map.mp hn
    exact (h.ok (hd c hc)).1.2.ok) al
  refine Int.le_trans key ?_
  have mul : ∀ a b m : Int, 0 < a → a ≤ 12 → 0 ≤ b → b ≤ m → a * b ≤ 12 * m := fun a b m a0 a1 b0 b1 => Int.mul_le_mul a1 b1 b0 (by omega)
  rcases ds with _ | ⟨x, _ | ⟨y, _ | ⟨z, _ | ⟨u, ds⟩⟩⟩⟩
  · exact (by decide : (1 : Int) ≤ 2000)
  · have hx := hd x (.head _)
    have := (h.ok hx).2.1
    show x.a * x.c * 1 ≤ 2000
    omega
  · have hx := hd x (.head _)
    have hy := hd y (.tail _ (.head _))
    have a := mul (x.a * x.c) (y.a * y.c) 12 (pos x hx) (h.ok hx).2.1 (Int.le_of_lt (pos y hy)) (h.ok hy).2.1
    show x.a * x.c * (y.a * y.c * 1) ≤ 2000
    rw [Int.mul_one]
    omega
  · have hx := hd x (.head _)
    have hy := hd y (.tail _ (.head _))
    have hz := hd z (.tail _ (.tail _ (.head _)))
    have a := mul (y.a * y.c) (z.a * z.c) 12 (pos y hy) (h.ok hy).2.1 (Int.le_of_lt (pos z hz)) (h.ok hz).2.1
    have b0 : 0 ≤ (y.a * y.c) * (z.a * z.c) := Int.mul_nonneg (Int.le_of_lt (pos y hy)) (Int.le_of_lt (pos z hz))
    have b := mul (x.a * x.c) ((y.a * y.c) * (z.a * z.c)) 144 (pos x hx) (h.ok hx).2.1 b0 a
    show x.a * x.c * (y.a * y.c * (z.a * z.c * 1)) ≤ 2000
    rw [Int.mul_one]
    omega
  · simp at l
end Y
namespace Y
open PySem PySem.Spec PyProof.Rows L2 Z
open MN (Keeps)
/-! ### colours exchanged by a table -/
end Y
namespace Y
open PySem PySem.Spec PyProof.Rows L2 Z
open MN (spotsL Keeps Exact cellT)
/-! ### all texts of some letters, in order -/
end Y
namespace Y
open PySem PySem.Spec PyProof.Rows L2 Z
open MN (spotsL Keeps Exact cellT InN)
/-! ### what may lie below -/
section
variable {a b c : Int}
end
end Y
namespace Y
open PySem PySem.Spec PyProof.Rows L2 Z
open MN (spotsL Keeps Exact cellT InN)
/-! ### promises -/
end Y
namespace Y
open PySem PySem.Spec PyProof.Rows L2 Z
open MN (spotsL Keeps Exact cellT InN)
/-! ### the law's carpets -/
structure Cq (n : Int) (C : Str) (w q r : Int) (t : Str) : Prop where
  cs : C ∈ carCs
  cp : Carp (colF t w q r) w q r t
  lo : lowS t
  mx : w * r ≤ n
theorem Cq.o {n : Int} {C : Str} {w q r : Int} {t : Str} (h : Cq n C w q r t) : okT t w q r := h.cp.okT
theorem Cq.kp {n : Int} {C : Str} {w q r : Int} {t : Str} (h : Cq n C w q r t) : ∀ x y, InN w q r x y → Keeps (colF t w q r) x y := fun _ _ z => h.o.keep z
end Y
namespace Y
open PySem PySem.Spec PyProof.Rows L2 Z
open MN (spotsL Keeps Exact cellT InN)
structure S5 (m : Nat) (C1 : Str) (w1 q1 r1 : Int) (t1 : Str) (C3 : Str) (w3 q3 r3 : Int) (t3 : Str) (k : Nat) : Prop where
  X1 : Cq 8 C1 w1 q1 r1 t1
  X3 : Cq 64 C3 w3 q3 r3 t3
  kl : lowC k
  nm : ∀ p, colF t1 w1 q1 r1 p ≠ 109
  lt : ∃ u : List Nat, u.length ≤ m ∧ ∀ z ∈ t3.cps.toList, z ∈ u
  sub : ∃ u1 u2 u3, MN.Ok u1 u2 u3 ∧ u1 * u3 ≤ 8 ∧ ∀ x y, InN w1 q1 r1 x y → InN u1 u2 u3 x y → InN w3 q3 r3 x y
end Y
namespace Y
open PySem PySem.Spec PyProof.Rows L2 Z
open MN (spotsL Keeps Exact cellT InN)
theorem S5.up {C1 C3 : Str} {w1 q1 r1 w3 q3 r3 : Int} {t1 t3 : Str} {k : Nat} (h : S5 6 C1 w1 q1 r1 t1 C3 w3 q3 r3 t3 k) : S5 8 C1 w1 q1 r1 t1 C3 w3 q3 r3 t3 k :=
  ⟨h.X1, h.X3, h.kl, h.nm, let ⟨u, l, m⟩ := h.lt; ⟨u, by omega, m⟩, h.sub⟩
end Y
namespace Y
open PySem PySem.Spec PyProof.Rows L2 Z
open MN (spotsL Keeps Exact cellT InN)
/-! ### what is found, and what is due -/
end Y
namespace Y
open PySem PySem.Spec PyProof.Rows L2 Z
end Y
namespace Y
open PySem PySem.Spec PyProof.Rows L2 Z
open MN (Keeps)
/-! ### rules of overlays, by points -/
/-! ### carpets of the law -/
structure C38 (x : Cw) : Prop where
  ok : x.ok
  cp : Carp x.col x.a x.b x.c x.t
  mx : x.a * x.c ≤ 8
  lo : lowS x.t
  le : ∀ p, x.col p ∈ [97, 98, 99, 122, 113, 114]
  ch : ∀ c ∈ x.t.cps.toList, c ∈ [97, 98, 99, 122, 113, 114]
structure Z38 (f : Int × Int → Nat) (m : Int) (z : Cw) : Prop where
  ok : z.ok
  cp : Carp f z.a z.b z.c z.t
  ce : z.col = f
  mx : z.a * z.c ≤ m
theorem C38.z {x : Cw} (h : C38 x) : Z38 x.col 8 x := ⟨h.ok, h.cp, rfl, h.mx⟩
/-! ### what the law does with a carpet -/
end Y
namespace MN
/-! ### places of a window of eleven by eleven -/
def inW (p : Pt) : Prop := 0 ≤ p.1 ∧ p.1 < 11 ∧ 0 ≤ p.2 ∧ p.2 < 11
instance (p : Pt) : Decidable (inW p) := inferInstanceAs (Decidable (0 ≤ p.1 ∧ p.1 < 11 ∧ 0 ≤ p.2 ∧ p.2 < 11))
def winF (G : Pt → Nat) (p : Pt) : Nat := if inW p then G p + 1 else 0
section
variable {G : Pt → Nat} {p q s x : Pt} {m : Nat} {ps : List (Pt × Nat)} {nw l fl : List Pt}
structure GrO (G : Pt → Nat) (ps : List (Pt × Nat)) (m : Nat) : Prop where
  nd : (ps.map (·.1)).Nodup
  w : ∀ p n, (p, n) ∈ ps → inW p ∧ n < m
  cl : ∀ p n q, (p, n) ∈ ps → Conn (winF G) p q → (q, n) ∈ ps
  one : ∀ p q n, (p, n) ∈ ps → (q, n) ∈ ps → Conn (winF G) p q
def added (ps : List (Pt × Nat)) (m : Nat) (nw : List Pt) : List (Pt × Nat) := ps ++ nw.map fun p => (p, m)
structure GrI (G : Pt → Nat) (ps : List (Pt × Nat)) (m : Nat) (s : Pt) (nw l : List Pt) : Prop where
  nd : (ps.map (·.1) ++ nw).Nodup
  cn : ∀ p ∈ nw, Conn (winF G) s p
  ln : ∀ p ∈ l, Conn (winF G) s p
  fr : ∀ p ∈ nw, ∀ q ∈ nbs p, winF G q = winF G p → q ∈ ps.map (·.1) ++ nw ∨ q ∈ l
  st : s ∈ ps.map (·.1) ++ nw ∨ s ∈ l
/-- the groups of a window -/
structure WinG (G : Pt → Nat) (ps : List (Pt × Nat)) : Prop where
  nd : (ps.map (·.1)).Nodup
  w : ∀ p, p ∈ ps.map (·.1) ↔ inW p
  gr : ∀ p q n k, (p, n) ∈ ps → (q, k) ∈ ps → (n = k ↔ Conn (winF G) p q)
  lo : ∀ p n, (p, n) ∈ ps → n < 1000
/-- the number of a place -/
def lkN (ps : List (Pt × Nat)) (k : Pt) : Option Nat := (ps.find? fun x => decide (x.1 = k)).map (·.2)
theorem lkN_mem {n : Nat} (h : lkN ps p = some n) : (p, n) ∈ ps := by
  unfold lkN at h
  obtain ⟨x, hx, e⟩ := Option.map_eq_some_iff.mp h
  have e1 := List.find?_some hx
  have e2 : x.1 = p := by simpa using e1
  rw [← e2, ← e]
  exact List.mem_of_find?_eq_some hx
theorem lkN_none (h : lkN ps p = none) : p ∉ ps.map (·.1) := fun hp => by
  obtain ⟨x, hx, e⟩ := List.mem_map.mp hp
  unfold lkN at h
  have h2 := Option.map_eq_none_iff.mp h
  have := List.find?_eq_none.mp h2 x hx
  simp at this
  exact this e
theorem WinG.at (h : WinG G ps) (hp : inW p) : ∃ n, lkN ps p = some n ∧ (p, n) ∈ ps := by
  cases e : lkN ps p with
  | none => exact absurd ((h.w p).mpr hp) (lkN_none e)
  | some n => exact ⟨n, rfl, lkN_mem e⟩
/-! ### a window of a carpet -/
variable {F : Pt → Nat} {ox oy : Int}
def offP (ox oy : Int) (p : Pt) : Pt := (ox + p.1, oy + p.2)
end
end MN
namespace Y
open PySem PySem.Spec PyProof.Rows L2 Z
open MN (Pt nbs Conn Stab Cls lkQ lowP Prt Bas BasOk spotsL inW winF WinG GrO GrI lkN added offP)
/-! ### dicts of places with a number each -/
/-! ### windows -/
end Y
namespace Y
open PySem PySem.Spec PyProof.Rows L2 Z
open MN (Pt nbs Conn Stab Cls lkQ lowP Prt Bas BasOk spotsL inW winF WinG GrO GrI lkN added offP)
end Y
namespace MN
/-! ### sums over a cell -/
section
variable {F : Pt → Nat} {a b c : Int}
/-- g does not change under the shifts of a net -/
def Per (g : Pt → Nat) (a b c : Int) : Prop := ∀ x y, InN a b c x y → ∀ p : Pt, g (p.1 + x, p.2 + y) = g p
def sumC (g : Pt → Nat) (l : List Pt) : Nat := (l.map g).sum
end
end MN
namespace MN
/-! ### classes, counted -/
section
variable {F : Pt → Nat} {a b c : Int} (kp : ∀ x y, InN a b c x y → Keeps F x y)
include kp
end
end MN
namespace Y
open PySem PySem.Spec PyProof.Rows L2 Z
open MN (Pt nbs Conn Stab Cls lkQ lowP Prt Bas BasOk spotsL Keeps Sp clsB startsL InN clsB_iff Per sumC edg sumE clsL brd)
/-! ### a class in a colour of its own -/
section
variable {F : Pt → Nat} {a b c w q r : Int} {s : Pt} {k : Nat}
section
variable (kp : ∀ x y, InN a b c x y → Keeps F x y) (nk : ∀ p, F p ≠ k)
include nk
include kp
end
end
end Y
namespace Y
open PySem PySem.Spec PyProof.Rows L2 Z
open MN (Pt nbs Conn Stab Cls lkQ lowP Prt Bas BasOk spotsL Keeps Sp clsB startsL InN clsB_iff Per sumC edg sumE clsL brd)
/-! ### a part joined to a neighbour -/
/-! ### all parts repainted, one by one -/
structure RepI (F G : Pt → Nat) (k : Nat) (a b c : Int) (dn : List Pt) : Prop where
  col : ∀ p, G p = k ∨ G p = F p
  con : ∀ p q, q ∈ nbs p → F q = F p → G p = k → G q = k
  per : ∀ x y, InN a b c x y → Keeps G x y
  dn : ∀ s ∈ dn, G s = k
/-! ### borders, summed -/
/-! ### contracts -/
end Y
namespace MN
/-! ### the share of a colour does not depend on the cell in which it is counted -/
end MN
namespace Y
open PySem PySem.Spec PyProof.Rows L2 Z
open MN (Keeps spotsL sumC Per)
/-! ### how often a sign stands in a text -/
/-! ### shares -/
/-! ### a dict made of pairs with different keys -/
/-! ### the law's own -/
def L6 : List Nat := [97, 98, 99, 113, 114, 122]
structure Tau31 (τ : List (Nat × Nat)) : Prop where
  nd : (τ.map (·.1)).Nodup
  ln : τ.length ≤ 6
  low : ∀ q ∈ τ, lowC q.1 ∧ lowC q.2
structure K31 (a b c : Int) (s : Str) (x : Cw) : Prop where
  o : okT s a b c
  mx : a * c ≤ 20
  ls : lowS s
  z : Z38 (colF s a b c) 20 x
  six : ∀ p, colF s a b c p ∈ [97, 98, 99, 122, 113, 114]
theorem K31.kp {a b c : Int} {s : Str} {x : Cw} (h : K31 a b c s x) : ∀ u v, MN.InN a b c u v → Keeps (colF s a b c) u v := fun u v hi => MN.keeps_net h.o.ok hi
end Y
namespace Y
open PySem PySem.Spec PyProof.Rows L2 Z
open MN (Keeps spotsL)
/-! ### windows and how often they fit -/
abbrev Win := List Str
def winD (r : Win) : D := .tup (r.map D.str)
structure WinOk (h : Nat) (r : Win) : Prop where
  ln : r.length = h
  lo : ∀ t ∈ r, lowS t
  wd : ∀ t ∈ r, t.cps.toList.length ≤ 50
/-! ### the counted windows -/
structure Cnt (L ks : List Win) : Prop where
  nd : ks.Nodup
  mem : ∀ r, r ∈ ks ↔ r ∈ L
/-! ### the order of the items is that of the windows -/
/-! ### facts of lists of windows -/
/-! ### windows as patches -/
/-! ### contracts -/
/-! ### the law's own -/
structure K42 (a b c : Int) (s : Str) (x : Cw) : Prop where
  o : okT s a b c
  mx : a * c ≤ 16
  ls : lowS s
  ok : x.ok
  lx : lowS x.t
  ce : x.col = colF s a b c
  xm : x.a * x.c ≤ 16
/-- the sorted windows -/
structure Srt (L M : List Win) : Prop where
  nd : M.Nodup
  mem : ∀ r, r ∈ M ↔ r ∈ L
  st : (M.map winD).Pairwise fun a b => leD a b = true
/-! ### the plain carpet's only window -/
/-! ### odd numbers -/
end Y
namespace Y
open PySem PySem.Spec PyProof.Rows L2 Z
/-! ### classes of places, numbered as they are met -/
abbrev LK := List Key
instance (priority := high) beqLK : BEq LK := instBEqOfDecidableEq
instance (priority := high) lawLK : LawfulBEq LK := inferInstance
/-! ### windows that are alike -/
def winEq (F : Int × Int → Nat) (s : Nat) (p q : Int × Int) : Prop := ∀ i j : Nat, i < s → j < s → F (p.1 + i, p.2 + j) = F (q.1 + i, q.2 + j)
/-! ### contracts -/
/-- a told size -/
structure TellOk (F : Int × Int → Nat) (w r : Int) (z : Nat) : Prop where
  z1 : 1 ≤ z
  z2 : z ≤ 16
  inj : ∀ p ∈ MN.spotsL w.toNat r.toNat, ∀ q ∈ MN.spotsL w.toNat r.toNat, winEq F z p q → p = q
end Y
namespace Y
open PySem PySem.Spec PyProof.Rows L2 Z
/-! ### k11: carpets that are refused -/
abbrev exR (i : D) : Ex := ⟨.glob "InvalidRows", ["index"], [i]⟩
def lenD : D → Nat
  | .str t => t.length
  | _ => 0
def rowB (n : Int) : D → Bool
  | .str t => (decide ((1 : Int) ≤ (t.length : Nat)) && decide (((t.length : Nat) : Int) ≤ n)) && t.cps.toList.all fun c => occ LETS ⟨#[c]⟩
  | _ => false
def goodR (d0 d : D) : Bool := rowB 100 d && decide (lenD d = lenD d0)
def noSeq (v : D) : Prop := knD v ∧ (∀ ds, v ≠ .lst ds) ∧ ∀ ds, v ≠ .tup ds
def R_is_row11 : RdF := ar3 fun v s m Q _ => ∃ n : Int, s = .str LETS ∧ m = .int n ∧ colD v ∧ Q (.bl (rowB n v))
/-- what check_rows raises -/
def rowsE (v : D) (E : Ex → Prop) : Prop := (noSeq v ∧ E (exR .non)) ∨ ∃ ds, seqOf v ds ∧ (((ds.length = 0 ∨ 100 < ds.length) ∧ ds.length ≤ 100000 ∧ E (exR .non)) ∨
  ∃ d0 ds', ds = d0 :: ds' ∧ ds.length ≤ 100 ∧ (∀ d ∈ ds, colD d) ∧ ∃ i : Nat, (∃ d, ds[i]? = some d ∧ goodR d0 d = false) ∧ (∀ j, j < i → ∀ d, ds[j]? = some d → goodR d0 d = true) ∧ E (exR (.int i)))
def rowsG (v : D) (rs : List Str) (w : Nat) : Prop := seqOf v (rs.map D.str) ∧ RowsOk LETS 100 rs w
def R_check_rows11 : RdF := ar3 fun v s m Q E => s = .str LETS ∧ m = .int 100 ∧ (rowsE v E ∨ ∃ rs w, rowsG v rs w ∧ Q .non)
def R_checked_block11 : RdF := ar2 fun v s Q E => rowsE v E ∨ ∃ rs w, rowsG v rs w ∧ ((1000 < rs.length * w ∧ E (exL 1000)) ∨ (rs.length * w ≤ 1000 ∧ knD s ∧ isIntD s = false ∧ E (exV "InvalidNumber" s)) ∨
  ∃ sh, s = .int sh ∧ Blk rs w ∧ Q (.tup [dNet w (sh % w) rs.length, .str (rowTxt rs)]))
def R_Carpet_init11 : RdF := ar2 fun v s Q E => rowsE v E ∨ ∃ rs w0, rowsG v rs w0 ∧ ((1000 < rs.length * w0 ∧ E (exL 1000)) ∨ (rs.length * w0 ≤ 1000 ∧ knD s ∧ isIntD s = false ∧ E (exV "InvalidNumber" s)) ∨
  ∃ sh, s = .int sh ∧ Blk rs w0 ∧ ∀ w q r t, Carp (blkF rs w0 sh) w q r t → w ≤ w0 → r ≤ rs.length → Q (dCar "Carpet" w q r t))
def R_Carpet_on11 : RdF := ar2 fun n d Q E => ∃ a b c, n = dNet a b c ∧ ((MN.Ok a b c ∧ Sz 4000 a ∧ Sz 4000 c) ∧ ((2000 < a * c ∧ E (exL 2000)) ∨ (a * c ≤ 2000 ∧ colD d ∧ (rowB 2000 d = false ∨ ((lenD d : Nat) : Int) ≠ a * c) ∧ E (exV "InvalidText" d)) ∨
  ∃ t, d = .str t ∧ (okT t a b c ∧ a * c ≤ 2000 ∧ lowS t) ∧ ∀ w q r t', Carp (colF t a b c) w q r t' → w ≤ a → r ≤ c → Q (dCar "Woven" w q r t')))
def R_Carpet_getitem11 : RdF := ar2 fun d p Q E => knP p ∧ isPl p = false ∧ E (exV "InvalidPlace" p)
def R_Carpet_plain11 : RdF := ar2 fun c d Q E => (∃ C, c = .glob C) ∧ ((colD d ∧ isCol d = false ∧ E (exV "InvalidColour" d)) ∨ ∃ k, d = .str (chr1 k) ∧ lowC k ∧ ∀ w q r t, Carp (fun _ => k) w q r t → w ≤ 1 → r ≤ 1 → Q (dCar "Woven" w q r t))
def R_told11 (fa : Addr) (Rc : RdF) : RdF := ar1 fun f Q E => f = .fn fa ∧ Rc [] (fun _ => Q (.lst [.str "none"])) fun x =>
  (∃ i, x = exR i ∧ Q (.lst [.str "rows", i, .bl true])) ∨ (∃ n : Int, x = exL n ∧ Q (.lst [.str "limit", .int n, .bl true])) ∨
  ∃ d, shB d ∧ ((x = exV "InvalidNumber" d ∧ Q (.lst [.str "number", .str (shD d)])) ∨ (x = exV "InvalidPlace" d ∧ Q (.lst [.str "place", .str (shD d)])) ∨
    (x = exV "InvalidColour" d ∧ Q (.lst [.str "colour", .str (shD d)])) ∨ (x = exV "InvalidText" d ∧ Q (.lst [.str "text", .str (shD d)])))
def R__law_rows_right11 : RdF := ar1 fun t Q _ => t = .tape ∧ Q (.bl true)
theorem row_slen (t : Str) : t.length = t.cps.toList.length := by rw [Array.length_toList]; rfl
theorem rowB_str {t : Str} {n : Int} (h1 : 1 ≤ t.cps.toList.length) (h2 : (t.cps.toList.length : Int) ≤ n) (lo : ∀ c ∈ t.cps.toList, occ LETS ⟨#[c]⟩ = true) : rowB n (.str t) = true := by
  show ((decide _ && decide _) && _) = true
  rw [decide_eq_true (by rw [row_slen]; omega), decide_eq_true (by rw [row_slen]; omega), List.all_eq_true.mpr lo]
  rfl
/-- the good rows of the law, and a bad one among them -/
def goodRs (W : Nat) (rs : List Str) : Prop := (1 ≤ rs.length ∧ rs.length ≤ 9) ∧ (1 ≤ W ∧ W ≤ 9) ∧ ∀ r ∈ rs, r.cps.toList.length = W ∧ lowS r
def badD (W : Nat) (d : D) : Prop := colD d ∧ okD 8 d = true ∧ ((rowB 100 d = false ∧ eqD d (.str (repS "a" (W + 1))) = false) ∨ d = .str (repS "a" (W + 1)))
noncomputable def dueI (W at_ : Nat) (d : D) : Nat := @ite _ (at_ = 0 ∧ d = .str (repS "a" (W + 1))) (Classical.propDecidable _) 1 at_
theorem rep_len (c : Nat) (n : Nat) : (repS ⟨#[c]⟩ n).cps.toList = List.replicate n c := by
  unfold repS
  show (List.replicate n [c]).flatten.toArray.toList = _
  rw [List.toList_toArray]
  induction n with
  | zero => rfl
  | succ n ih => rw [List.replicate_succ, List.flatten_cons, ih]; rfl
theorem rep_a (n : Nat) : (repS "a" n).cps.toList = List.replicate n 97 := rep_len 97 n
theorem rep_row {n : Nat} (h1 : 1 ≤ n) (h2 : n ≤ 100) : rowB 100 (.str (repS "a" n)) = true := by
  refine rowB_str ?_ ?_ ?_
  · rw [rep_a, List.length_replicate]; exact h1
  · rw [rep_a, List.length_replicate]; omega
  · intro c hc
    rw [rep_a] at hc
    rw [(List.mem_replicate.mp hc).2]
    decide +kernel
theorem good_row {W : Nat} {rs : List Str} (g : goodRs W rs) {r : Str} (h : r ∈ rs) : rowB 100 (.str r) = true ∧ lenD (.str r) = W := by
  obtain ⟨h1, h2⟩ := g.2.2 r h
  have w := g.2.1
  refine ⟨rowB_str (by omega) (by omega) fun c hc => occ_low (h2 c hc), ?_⟩
  show r.length = W
  rw [row_slen]
  exact h1
theorem rows_refused {W at_ : Nat} {rs : List Str} {d : D} {tl : List D} (g : goodRs W rs) (ha : at_ ≤ rs.length) (hb : badD W d) (ht : tl.length ≤ 2 ∧ ∀ x ∈ tl, colD x) {v : D} (hv : seqOf v ((((rs.map D.str).take at_ ++ [d]) ++ (rs.map D.str).drop at_) ++ tl)) {E : Ex → Prop} (h : E (exR (.int (dueI W at_ d : Nat)))) : rowsE v E := by
  refine .inr ⟨_, hv, .inr ?_⟩
  obtain ⟨hc, ho, hb⟩ := hb
  have ln : ((((rs.map D.str).take at_ ++ [d]) ++ (rs.map D.str).drop at_) ++ tl).length = rs.length + 1 + tl.length := by
    simp only [List.length_append, List.length_take, List.length_drop, List.length_map, List.length_cons, List.length_nil]
    omega
  have cols : ∀ x ∈ ((((rs.map D.str).take at_ ++ [d]) ++ (rs.map D.str).drop at_) ++ tl), colD x := by
    have cs : ∀ x ∈ rs.map D.str, colD x := fun x hx => by
      obtain ⟨r, hr, rfl⟩ := List.mem_map.mp hx
      refine ⟨trivial, fun s e => ?_⟩
      cases e
      have := (g.2.2 r hr).1
      have w := g.2.1
      rw [row_slen]
      omega
    intro x hx
    rcases List.mem_append.mp hx with hx | hx
    · rcases List.mem_append.mp hx with hx | hx
      · rcases List.mem_append.mp hx with hx | hx
        · exact cs x (List.mem_of_mem_take hx)
        · rcases List.mem_cons.mp hx with rfl | hx
          · exact hc
          · cases hx
      · exact cs x (List.mem_of_mem_drop hx)
    · exact ht.2 x hx
  have n9 := g.1
  cases at_ with
  | zero =>
    have e0 : ((((rs.map D.str).take 0 ++ [d]) ++ (rs.map D.str).drop 0) ++ tl) = d :: (rs.map D.str ++ tl) := by simp
    rw [e0] at ln cols ⊢
    refine ⟨d, _, rfl, by omega, cols, ?_⟩
    rcases hb with ⟨b1, b2⟩ | rfl
    · have e : dueI W 0 d = 0 := by
        unfold dueI
        by_cases z : 0 = 0 ∧ d = .str (repS "a" (W + 1))
        · obtain ⟨_, rfl⟩ := z
          rw [rep_row (by omega) (by have := g.2.1; omega)] at b1
          cases b1
        · rw [if_neg z]
      rw [e] at h
      exact ⟨0, ⟨d, rfl, by unfold goodR; rw [b1]; rfl⟩, fun j hj => absurd hj (Nat.not_lt_zero _), h⟩
    · have e : dueI W 0 (.str (repS "a" (W + 1))) = 1 := by
        unfold dueI
        rw [if_pos ⟨rfl, rfl⟩]
      rw [e] at h
      have gb : rowB 100 (.str (repS "a" (W + 1))) = true := rep_row (by omega) (by have := g.2.1; omega)
      obtain ⟨r0, rest, rfl⟩ : ∃ r0 rest, rs = r0 :: rest := by
        cases rs with
        | nil => simp at n9
        | cons a b => exact ⟨a, b, rfl⟩
      refine ⟨1, ⟨.str r0, rfl, ?_⟩, fun j hj x hx => ?_, h⟩
      · obtain ⟨g1, g2⟩ := good_row g (List.mem_cons_self (a := r0))
        unfold goodR
        rw [g1, g2, Bool.true_and]
        refine decide_eq_false ?_
        show ¬ W = (repS "a" (W + 1)).length
        rw [row_slen, rep_a, List.length_replicate]
        omega
      · obtain rfl : j = 0 := by omega
        cases hx
        unfold goodR
        rw [gb, Bool.true_and]
        exact decide_eq_true rfl
  | succ k =>
    obtain ⟨r0, rest, rfl⟩ : ∃ r0 rest, rs = r0 :: rest := by
      cases rs with
      | nil => simp at n9
      | cons a b => exact ⟨a, b, rfl⟩
    have e : dueI W (k + 1) d = k + 1 := by
      unfold dueI
      rw [if_neg (fun z => absurd z.1 (by omega))]
    rw [e] at h
    obtain ⟨g1, g2⟩ := good_row g (List.mem_cons_self (a := r0))
    have tk : (((r0 :: rest).map D.str).take (k + 1)).length = k + 1 := by
      rw [List.length_take, List.length_map]
      exact Nat.min_eq_left ha
    refine ⟨.str r0, (((rest.map D.str).take k ++ [d]) ++ ((r0 :: rest).map D.str).drop (k + 1)) ++ tl, by simp, by omega, cols, k + 1, ⟨d, ?_, ?_⟩, fun j hj x hx => ?_, h⟩
    · rw [List.append_assoc, List.append_assoc, List.getElem?_append_right (by rw [tk]; exact Nat.le_refl _), tk, Nat.sub_self]
      rfl
    · unfold goodR
      rcases hb with ⟨b1, b2⟩ | rfl
      · rw [b1]; rfl
      · rw [g2]
        refine Bool.and_eq_false_iff.mpr (.inr (decide_eq_false ?_))
        show ¬ (repS "a" (W + 1)).length = W
        rw [row_slen, rep_a, List.length_replicate]
        omega
    · rw [List.append_assoc, List.append_assoc, List.getElem?_append_left (by rw [tk]; exact hj)] at hx
      have hx2 : x ∈ ((r0 :: rest).map D.str) := List.mem_of_mem_take (List.mem_of_getElem? hx)
      obtain ⟨r, hr, rfl⟩ := List.mem_map.mp hx2
      obtain ⟨g3, g4⟩ := good_row g hr
      unfold goodR
      rw [g3, g4, g2, Bool.true_and]
      exact decide_eq_true rfl
def oddL (W : Nat) : List D := [.non, .str "", .str (repS "A" W), .str (repS "a" (W + 1)), .str (repS "a" (W - 1) ++ "1"), .int 5, .lst [.str "a"], .str (repS "a" (W - 1) ++ ".")]
def oddS (W : Nat) (t : Str) : Bool := decide (t.length ≤ 20) && (PyData.strOk t && (!rowB 100 (.str t) && !eqD (.str t) (.str (repS "a" (W + 1)))))
theorem odd_str {W : Nat} {t : Str} (h : oddS W t = true) : badD W (.str t) := by
  obtain ⟨h1, h⟩ := He.ba h
  obtain ⟨h2, h⟩ := He.ba h
  obtain ⟨h3, h4⟩ := He.ba h
  have h1 := of_decide_eq_true h1
  refine ⟨⟨trivial, fun s e => ?_⟩, h2, .inl ⟨by simpa using h3, by simpa using h4⟩⟩
  cases e
  omega
theorem odd_all : ∀ W : Nat, W < 10 → 1 ≤ W → oddS W "" = true ∧ oddS W (repS "A" W) = true ∧ oddS W (repS "a" (W - 1) ++ "1") = true ∧ oddS W (repS "a" (W - 1) ++ ".") = true ∧ PyData.strOk (repS "a" (W + 1)) = true := by decide +kernel
theorem odd_bad {W : Nat} (h : 1 ≤ W ∧ W ≤ 9) : ∀ d ∈ oddL W, badD W d := by
  obtain ⟨o1, o2, o3, o4, o5⟩ := odd_all W (by omega) h.1
  intro d hd
  unfold oddL at hd
  rcases List.mem_cons.mp hd with rfl | hd
  · exact ⟨⟨trivial, fun s e => nomatch e⟩, rfl, .inl ⟨rfl, rfl⟩⟩
  rcases List.mem_cons.mp hd with rfl | hd
  · exact odd_str o1
  rcases List.mem_cons.mp hd with rfl | hd
  · exact odd_str o2
  rcases List.mem_cons.mp hd with rfl | hd
  · refine ⟨⟨trivial, fun s e => ?_⟩, o5, .inr rfl⟩
    cases e
    rw [row_slen, rep_a, List.length_replicate]
    omega
  rcases List.mem_cons.mp hd with rfl | hd
  · exact odd_str o3
  rcases List.mem_cons.mp hd with rfl | hd
  · exact ⟨⟨trivial, fun s e => nomatch e⟩, rfl, .inl ⟨rfl, rfl⟩⟩
  rcases List.mem_cons.mp hd with rfl | hd
  · exact ⟨⟨trivial, fun s e => nomatch e⟩, by decide +kernel, .inl ⟨rfl, rfl⟩⟩
  rcases List.mem_cons.mp hd with rfl | hd
  · exact odd_str o4
  · cases hd
/-- the comparison with the row that is one letter too long -/
noncomputable def isLong (W : Nat) (d : D) : Bool := @decide (d = .str (repS "a" (W + 1))) (Classical.propDecidable _)
theorem bad_eq {W : Nat} {d : D} (h9 : W ≤ 9 ∧ 1 ≤ W) (hb : badD W d) {Q : D → Prop} (h : Q (.bl (isLong W d))) : dEq d (.str (repS "a" (W + 1))) Q := by
  obtain ⟨_, ho, hb⟩ := hb
  have ok := (odd_all W (by omega) h9.2).2.2.2.2
  rcases hb with ⟨b1, b2⟩ | rfl
  · have e : isLong W d = false := by
      unfold isLong
      refine @decide_eq_false _ (Classical.propDecidable _) fun z => ?_
      subst z
      rw [rep_row (by omega) (by omega)] at b1
      cases b1
    rw [e] at h
    cases d with
    | str t =>
      show Q (.bl (decide (t = _)))
      rw [decide_eq_false (fun z => by subst z; rw [rep_row (by omega) (by omega)] at b1; cases b1)]
      exact h
    | _ => exact ⟨⟨ho, ok⟩, by rw [b2]; exact h⟩
  · have e : isLong W (.str (repS "a" (W + 1))) = true := by
      unfold isLong
      exact @decide_eq_true _ (Classical.propDecidable _) rfl
    rw [e] at h
    show Q (.bl (decide (_ = _)))
    rw [decide_eq_true rfl]
    exact h
theorem due_long {W at_ : Nat} {d : D} : dueI W at_ d = if at_ = 0 ∧ isLong W d = true then 1 else at_ := by
  unfold dueI isLong
  by_cases z : d = .str (repS "a" (W + 1))
  · rw [@decide_eq_true _ (Classical.propDecidable _) z]
    by_cases y : at_ = 0
    · rw [if_pos ⟨y, z⟩, if_pos ⟨y, rfl⟩]
    · rw [if_neg fun q => y q.1, if_neg fun q => y q.1]
  · rw [@decide_eq_false _ (Classical.propDecidable _) z, if_neg fun q => z q.2, if_neg fun q => by cases q.2]
/-- the rows cut out of a longer one -/
theorem cut_rows : ∀ i : Nat, i < 3 → ∀ W : Nat, W < 10 → 1 ≤ W → (decide ((cutS "abcabcabcab" (some (i : Int)) (some ((i : Int) + (W : Int)))).cps.toList.length = W) && (cutS "abcabcabcab" (some (i : Int)) (some ((i : Int) + (W : Int)))).cps.toList.all fun c => decide (97 ≤ c) && decide (c ≤ 122)) = true := by decide +kernel
theorem cut_good {i : Int} {W : Nat} (hi : 0 ≤ i ∧ i < 3) (hW : 1 ≤ W ∧ W ≤ 9) : (cutS "abcabcabcab" (some i) (some (i + (W : Int)))).cps.toList.length = W ∧ lowS (cutS "abcabcabcab" (some i) (some (i + (W : Int)))) := by
  obtain ⟨k, rfl⟩ := Int.eq_ofNat_of_zero_le hi.1
  obtain ⟨h1, h2⟩ := He.ba (cut_rows k (by omega) W (by omega) hW.1)
  refine ⟨of_decide_eq_true h1, fun c hc => ?_⟩
  obtain ⟨h3, h4⟩ := He.ba (List.all_eq_true.mp h2 c hc)
  exact ⟨of_decide_eq_true h3, of_decide_eq_true h4⟩
theorem add_i {a b : Int} {Q : D → Prop} (h : Q (.int (a + b))) : dAdd (.int a) (.int b) Q := h
theorem sub_i {a b : Int} {Q : D → Prop} (h : Q (.int (a - b))) : dSub (.int a) (.int b) Q := h
theorem mul_t {s : Str} {i : Int} {n : Nat} (e : i = (n : Int)) (hs : s.length = 1) (hn : n ≤ 1000) {Q : D → Prop} (h : Q (.str (repS s n))) : dMulT (.str s) (.int i) Q := by
  subst e
  exact ⟨⟨by omega, by omega, by omega, by rw [hs]; omega⟩, h⟩
theorem cat_s {s t : Str} (hs : s.length + t.length ≤ 100000) {Q : D → Prop} (h : Q (.str (s ++ t))) : dAdd (.str s) (.str t) Q := ⟨hs, h⟩
/-- what is no list or tuple of 1 to 100 items -/
def noRows (d : D) : Bool := match d with
  | .lst ds | .tup ds => decide (ds.length = 0 ∨ 100 < ds.length) && decide (ds.length ≤ 100000)
  | .non | .str _ | .int _ | .dic _ _ | .bl _ => true
  | _ => false
theorem noRows_E {d : D} (h : noRows d = true) {E : Ex → Prop} (q : E (exR .non)) : rowsE d E := by
  cases d with
  | lst ds =>
    obtain ⟨h1, h2⟩ := He.ba h
    exact .inr ⟨ds, .inl rfl, .inl ⟨of_decide_eq_true h1, of_decide_eq_true h2, q⟩⟩
  | tup ds =>
    obtain ⟨h1, h2⟩ := He.ba h
    exact .inr ⟨ds, .inr rfl, .inl ⟨of_decide_eq_true h1, of_decide_eq_true h2, q⟩⟩
  | non => exact .inl ⟨⟨trivial, (fun _ e => nomatch e), (fun _ e => nomatch e)⟩, q⟩
  | str s => exact .inl ⟨⟨trivial, (fun _ e => nomatch e), (fun _ e => nomatch e)⟩, q⟩
  | int s => exact .inl ⟨⟨trivial, (fun _ e => nomatch e), (fun _ e => nomatch e)⟩, q⟩
  | dic s t => exact .inl ⟨⟨trivial, (fun _ e => nomatch e), (fun _ e => nomatch e)⟩, q⟩
  | bl s => exact .inl ⟨⟨trivial, (fun _ e => nomatch e), (fun _ e => nomatch e)⟩, q⟩
  | _ => cases h
/-- one row of too many letters -/
theorem long_E {E : Ex → Prop} (q : E (exR (.int 0))) : rowsE (.lst [.str (repS "a" 101)]) E := by
  have l : (repS "a" 101).length = 101 := by rw [row_slen, rep_a, List.length_replicate]
  refine .inr ⟨_, .inl rfl, .inr ⟨_, _, rfl, (by show 1 ≤ 100; decide), fun d hd => ?_, 0, ⟨_, rfl, ?_⟩, fun j hj => absurd hj (Nat.not_lt_zero _), q⟩⟩
  · rcases List.mem_cons.mp hd with rfl | hd
    · exact ⟨trivial, fun s e => by cases e; rw [l]; decide⟩
    · cases hd
  · have rb : rowB 100 (.str (repS "a" 101)) = false := by
      rw [rowB, l]
      rfl
    unfold goodR
    rw [rb]
    rfl
def abRow : Str := repS "ab" 50
def abRows (n : Nat) : List Str := List.replicate n abRow
theorem ab_ok : (decide (abRow.cps.toList.length = 100) && abRow.cps.toList.all fun c => occ LETS ⟨#[c]⟩) = true := by decide +kernel
theorem ab_rows {n : Nat} (h : 1 ≤ n ∧ n ≤ 100) : RowsOk LETS 100 (abRows n) 100 := by
  obtain ⟨h1, h2⟩ := He.ba ab_ok
  refine ⟨by unfold abRows; rw [List.length_replicate]; exact h.1, by unfold abRows; rw [List.length_replicate]; exact h.2, by decide, by decide, fun r hr => ?_, fun r hr c hc => ?_⟩
  · rw [(List.mem_replicate.mp hr).2]; exact of_decide_eq_true h1
  · rw [(List.mem_replicate.mp hr).2] at hc
    exact List.all_eq_true.mp h2 c hc
/-- a block whose net is told by two shifts -/
theorem fix_two {rs : List Str} {w : Nat} (L : List Nat) (h1 : blkB rs w = true) (h2 : (rowTxt rs).cps.toList = L) {a b c : Nat} (ok : c ≠ 0 ∧ b < a)
    (k1 : ((MN.spotsL w rs.length).all fun p => Nat.beq (MN.col L w 0 rs.length p) (MN.col L w 0 rs.length (p.1 + a, p.2 + 0))) = true)
    (k2 : ((MN.spotsL w rs.length).all fun p => Nat.beq (MN.col L w 0 rs.length p) (MN.col L w 0 rs.length (p.1 + b, p.2 + c))) = true)
    (h3 : ((MN.spotsL a c).all fun s => decide (s = (0, 0)) || (MN.spotsL a c).any fun p => !(Nat.beq (MN.col L w 0 rs.length (p.1 + s.1, p.2 + s.2)) (MN.col L w 0 rs.length p))) = true) {w' q' r' : Int} {t : Str} (cp : Carp (blkF rs w 0) w' q' r' t) : w' = a ∧ q' = b ∧ r' = c := by
  have bk := blk_of h1
  have z1 := bk.n1
  have z2 := bk.w1
  have okw : MN.Ok (w : Int) 0 rs.length := ⟨by omega, by omega, by omega⟩
  have e : blkF rs w 0 = MN.col L w 0 rs.length := by
    unfold blkF colF
    rw [h2, Int.zero_emod]
  have kk : ∀ (u v : Int), ((MN.spotsL w rs.length).all fun p => Nat.beq (MN.col L w 0 rs.length p) (MN.col L w 0 rs.length (p.1 + u, p.2 + v))) = true → MN.Keeps (MN.col L w 0 rs.length) u v := fun u v h => MN.keeps_cell okw fun p hp => by
    rw [Int.toNat_natCast, Int.toNat_natCast] at hp
    exact Nat.eq_of_beq_eq_true (List.all_eq_true.mp h p hp)
  have ex : MN.Exact (blkF rs w 0) a b c := by
    rw [e]
    refine MN.exact_dec ⟨by omega, by omega, by omega⟩ (MN.keeps_span (kk _ _ k1) (kk _ _ k2)) ?_
    rw [Int.toNat_natCast, Int.toNat_natCast]
    exact h3
  exact MN.exact_uni cp.ex ex
end Y
namespace Y
open PySem PySem.Spec PyProof.Rows L2 Z
/-! ### k11: the fixed carpets -/
theorem const_exact (k : Nat) : MN.Exact (fun _ => k) 1 0 1 := ⟨⟨by decide, by decide, by decide⟩, fun x y => ⟨fun _ _ => rfl, fun _ => ⟨x, y, by omega, by omega⟩⟩⟩
theorem const_fix {k : Nat} {w q r : Int} {t : Str} (cp : Carp (fun _ => k) w q r t) : w = 1 ∧ q = 0 ∧ r = 1 := MN.exact_uni cp.ex (const_exact k)
theorem a2000_ok : okT (repS "a" 2000) 1 0 2000 := ⟨⟨by decide, by decide, by decide⟩, by decide, by rw [rep_a, List.length_replicate]; rfl⟩
theorem a2000_col : colF (repS "a" 2000) 1 0 2000 = fun _ => 97 := by
  funext p
  have := col_mem a2000_ok p
  rw [rep_a] at this
  exact (List.mem_replicate.mp this).2
theorem a100_b : blkB (List.replicate 100 ("a" : Str)) 1 = true := by decide +kernel
theorem a100_fix {w q r : Int} {t : Str} (cp : Carp (blkF (List.replicate 100 ("a" : Str)) 1 0) w q r t) : w = (1 : Nat) ∧ q = (0 : Nat) ∧ r = (1 : Nat) := by
  have e : (List.replicate 100 ("a" : Str)).length = 100 := List.length_replicate
  refine fix_two (List.replicate 100 97) a100_b (by decide +kernel) ⟨by decide, by decide⟩ ?_ ?_ ?_ cp <;> decide +kernel
theorem ab10_b : blkB (abRows 10) 100 = true := by decide +kernel
theorem ab10_fix {w q r : Int} {t : Str} (cp : Carp (blkF (abRows 10) 100 0) w q r t) : w = (2 : Nat) ∧ q = (0 : Nat) ∧ r = (1 : Nat) := by
  refine fix_two ((List.replicate 500 [97, 98]).flatten) ab10_b (by decide +kernel) ⟨by decide, by decide⟩ ?_ ?_ ?_ cp <;> decide +kernel
end Y
namespace Y
open PySem PySem.Spec PyProof.Rows L2 Z
def R__law_fixed11 : RdF := ar0 fun Q _ => Q (.bl true)
/-- the comparison of a told list with itself -/
theorem ne_self {ds : List D} (o : okD 8 (.lst ds) = true) (e : eqD (.lst ds) (.lst ds) = true) {Q : D → Prop} (h : Q (.bl false)) : dNe (.lst ds) (.lst ds) Q := ⟨⟨o, o⟩, by rw [e]; exact h⟩
def odd11a : List D := [.non, .lst [], .tup [], .str "ab", .int 5, .dic [] [], .lst (List.replicate 101 [D.str "a"]).flatten, .dic [.inr "ab"] [.str "ab"]]
theorem odd11a_ok : (odd11a.all noRows) = true := by decide +kernel
def odd11n : List D := [.non, .bl true, .str "1", .tup [.int 1], .lst [.int 0]]
theorem odd11n_ok : (odd11n.all fun d => smD d && !isIntD d) = true := by decide +kernel
def lenS9 (d : D) : Bool := match d with
  | .str s => decide (s.length ≤ 100000)
  | _ => true
theorem colD_9 {d : D} (h : smD d = true) (h2 : lenS9 d = true) : colD d := ⟨knD_of (smD_kn h), fun s e => by
  subst e
  exact of_decide_eq_true h2⟩
def odd11t : List D := [.non, .str "", .str "a", .str "b", .str "ab ", .str "aB", .str "abc", .lst [.str "a", .str "b"], .int 5, .str "a1"]
theorem odd11t_ok : (odd11t.all fun d => smD d && (lenS9 d && (!rowB 2000 d || !decide (((lenD d : Nat) : Int) = 2)))) = true := by decide +kernel
def odd11p : List D := [.non, .int 5, .tup [.int 1], .tup [.int 1, .int 2, .int 3], .tup [.bl true, .int 0], .tup [.int 0, .str "1"], .str "ab", .lst [.int 0, .int 0], .tup [.tup [.int 0, .int 0], .int 0], .tup []]
theorem odd11p_ok : (odd11p.all fun d => smD d && (!isPl d && knPB' d)) = true := by decide +kernel
def odd11c : List D := [.non, .str "", .str "A", .str "ab", .str "1", .int 5, .lst [.str "a"], .bl true, .str " "]
theorem odd11c_ok : (odd11c.all fun d => smD d && (lenS9 d && !isCol d)) = true := by decide +kernel
theorem ne_two {l : Str} {d : D} {Q : D → Prop} (hl : PyData.strOk l = true) (h : okD 8 (.str (shD d)) = true) (q : Q (.bl false)) : dNe (.lst [.str l, .str (shD d)]) (.lst [.str l, .str (shD d)]) Q := by
  have h2 : PyData.strOk (shD d) = true := h
  refine ne_self ?_ ?_ q
  · show ([D.str l, D.str (shD d)].all (okD 7)) = true
    simp [okD, hl, h2]
  · simp [eqD, eqDs]
theorem let_at {e : Int} (h0 : 0 ≤ e) (h1 : e < 26) : ∃ x, atI LETS.cps.toList e = some x ∧ lowC x := by
  obtain ⟨x, ex, hm⟩ := atI_D (ds := LETS.cps.toList) (k := e) h0 (by show e < ((LETS.cps.toList.length : Nat) : Int); rw [show LETS.cps.toList.length = 26 by decide +kernel]; exact h1)
  refine ⟨x, ex, ?_⟩
  have : (LETS.cps.toList.all fun c => decide (97 ≤ c) && decide (c ≤ 122)) = true := by decide +kernel
  obtain ⟨h3, h4⟩ := He.ba (List.all_eq_true.mp this x hm)
  exact ⟨of_decide_eq_true h3, of_decide_eq_true h4⟩
theorem plain_tx {k : Nat} {t : Str} (cp : Carp (fun _ => k) 1 0 1 t) : t = chr1 k := by rw [cp.tx]; rfl
theorem one_blk {k : Nat} (h : lowC k) : Blk [chr1 k] 1 := ⟨by simp, by simp, by decide, by decide, by simp, fun r hr => by rw [List.mem_singleton.mp hr]; rfl, fun r hr c hc => by
  rw [List.mem_singleton.mp hr] at hc
  have : c = k := by simpa [chr1] using hc
  rw [this]; exact h⟩
theorem one_col (k : Nat) : blkF [chr1 k] 1 0 = fun _ => k := by
  have e : rowTxt [chr1 k] = chr1 k := rfl
  unfold blkF
  rw [e]
  funext p
  exact plain_col k p
end Y
section
open PySem PySem.Spec PyProof.Rows L2 Z Y
local macro_rules | `(tactic| walk_at "s0") => `(tactic| first | assumption | exact SqT.of (by assumption) | exact SqL.of (by assumption))
local macro_rules | `(tactic| walk_at "s1") => `(tactic| first | assumption | exact SqT.of (by assumption) | exact SqL.of (by assumption) | exact sqT (Go.ff (by assumption)) (by walk_at "s0") | exact sqL (Go.ff (by assumption)) (by walk_at "s0"))
local macro_rules | `(tactic| walk_at "s2") => `(tactic| first | assumption | exact SqT.of (by assumption) | exact SqL.of (by assumption) | exact sqT (Go.ff (by assumption)) (by walk_at "s1") | exact sqL (Go.ff (by assumption)) (by walk_at "s1"))
local macro_rules | `(tactic| walk_at "s3") => `(tactic| first | assumption | exact SqT.of (by assumption) | exact SqL.of (by assumption) | exact sqT (Go.ff (by assumption)) (by walk_at "s2") | exact sqL (Go.ff (by assumption)) (by walk_at "s2"))
local macro_rules | `(tactic| walk_at "s4") => `(tactic| first | assumption | exact SqT.of (by assumption) | exact SqL.of (by assumption) | exact sqT (Go.ff (by assumption)) (by walk_at "s3") | exact sqL (Go.ff (by assumption)) (by walk_at "s3"))
local macro_rules | `(tactic| walk_at "s5") => `(tactic| first | assumption | exact SqT.of (by assumption) | exact SqL.of (by assumption) | exact sqT (Go.ff (by assumption)) (by walk_at "s4") | exact sqL (Go.ff (by assumption)) (by walk_at "s4"))
local macro_rules | `(tactic| walk_at "s6") => `(tactic| first | assumption | exact SqT.of (by assumption) | exact SqL.of (by assumption) | exact sqT (Go.ff (by assumption)) (by walk_at "s5") | exact sqL (Go.ff (by assumption)) (by walk_at "s5"))
local macro_rules | `(tactic| walk_at "s7") => `(tactic| first | assumption | exact SqT.of (by assumption) | exact SqL.of (by assumption) | exact sqT (Go.ff (by assumption)) (by walk_at "s6") | exact sqL (Go.ff (by assumption)) (by walk_at "s6"))
local macro_rules | `(tactic| walk_at "s8") => `(tactic| first | assumption | exact SqT.of (by assumption) | exact SqL.of (by assumption) | exact sqT (Go.ff (by assumption)) (by walk_at "s7") | exact sqL (Go.ff (by assumption)) (by walk_at "s7"))
local macro_rules | `(tactic| walk_at "s9") => `(tactic| first | assumption | exact SqT.of (by assumption) | exact SqL.of (by assumption) | exact sqT (Go.ff (by assumption)) (by walk_at "s8") | exact sqL (Go.ff (by assumption)) (by walk_at "s8"))
local macro_rules | `(tactic| walk_at "s10") => `(tactic| first | assumption | exact SqT.of (by assumption) | exact SqL.of (by assumption) | exact sqT (Go.ff (by assumption)) (by walk_at "s9") | exact sqL (Go.ff (by assumption)) (by walk_at "s9"))
local macro_rules | `(tactic| walk_at "sq") => `(tactic| first | assumption | exact SqT.of (by assumption) | exact SqL.of (by assumption) | exact sqT (Go.fh (by assumption)) (by walk_at "s10") | exact sqL (Go.fh (by assumption)) (by walk_at "s10") | exact sqT (F := _) (by assumption) (by walk_at "s10") | exact sqL (F := _) (by assumption) (by walk_at "s10"))
local macro_rules | `(tactic| walk_at "c") => `(tactic| ((try dsimp only); first | omega | assumption | exact ⟨by omega, by assumption⟩ | exact ⟨by assumption, by assumption⟩ | exact Or.inl ⟨by decide, by decide⟩ | exact Or.inr ⟨by decide, by decide⟩ | exact ⟨by decide, by decide, by decide⟩ | exact ⟨by decide, by decide⟩))
local macro_rules | `(tactic| walk_at "z") => `(tactic| repeat (first | refine ⟨_, rfl, ?_⟩ | refine ⟨_, _, rfl, rfl, ?_⟩ | refine ⟨_, _, _, _, rfl, rfl, by walk_at "sq", rfl, ?_⟩ | refine ⟨_, _, rfl, Or.inl (by walk_at "sq"), ?_⟩ | refine ⟨_, _, rfl, Or.inr (by walk_at "sq"), ?_⟩ | refine ⟨_, _, rfl, by walk_at "sq", rfl, ?_⟩ | refine ⟨rfl, ?_⟩ | refine And.intro (by walk_at "c") ?_ | refine ⟨lenOk rfl, ?_⟩ | refine ⟨_, _, rfl, ?_⟩))
local macro_rules | `(tactic| walk_at "p") => `(tactic| simp only [Y.rVar, Y.rC, Y.tst, Y.chn, Y.aNil, Y.aCons, Y.stN, Y.tgD, Y.rYes, Y.wipeR, Y.asO, Y.fldD, Y.dAdd, Y.dSub, Y.dMul, Y.dDiv, Y.dDivZ, Y.dMod, Y.dModZ, Y.dIsBl, Y.dInt1, Y.dPow, Y.dNeg, Y.dCmp, Y.dEq, Y.dNe, Y.isNon, Y.dIsN, Y.dNotN, Y.dIn, Y.dIx, Y.dSl, Y.asI, Y.dLen, Y.dAbs, Y.blsOf, Y.dAll, Y.dList, Y.dTuple, Y.dIsB, Y.dIs2, Y.dIsO, Y.appM, Y.frzM, Y.dBinO, Y.dEqO, Y.dInO, Y.finI, Y.putM, Y.starD, Y.rng1, Y.rng2, Y.dJoin, Y.strsOf, Y.isS, Y.rDraw, Y.ar0, Y.ar1, Y.ar2, Y.ar3, Y.ar4, Y.ar5, List.getElem?_cons_zero, List.getElem?_cons_succ, List.set_cons_zero, List.set_cons_succ, List.map_cons, List.map_nil, List.length_cons, List.length_nil, Option.map_some, List.nil_append, List.cons_append, List.mem_cons, List.not_mem_nil, or_false, true_and, and_true, if_true, Bool.false_eq_true, if_false, Bool.not_true, Bool.not_false, Nat.reduceAdd, Nat.reduceLeDiff, decide_eq_true_eq, reduceCtorEq, ite_true, ite_false, Int.cast_ofNat_Int, Int.natCast_add, eq_self, Int.reduceEq, Int.reduceLE, Int.reduceLT, Int.reduceNeg, Int.reduceSub, Int.reduceAdd, decide_true, decide_false, String.reduceBEq, Bool.or_self, Bool.or_true, Bool.true_or, Bool.or_false, Bool.false_or])
local macro_rules | `(tactic| walk_at "m") => `(tactic| simp only [Y.forP, Y.mapP, Y.rVar, Y.rC, Y.tst, Y.chn, Y.aNil, Y.aCons, Y.stN, Y.tgD, Y.rYes, Y.wipeR, Y.asO, Y.fldD, Y.dAdd, Y.dSub, Y.dMul, Y.dDiv, Y.dDivZ, Y.dMod, Y.dModZ, Y.dIsBl, Y.dInt1, Y.dPow, Y.dNeg, Y.dCmp, Y.dEq, Y.dNe, Y.isNon, Y.dIsN, Y.dNotN, Y.dIn, Y.dIx, Y.dSl, Y.asI, Y.dLen, Y.dAbs, Y.blsOf, Y.dAll, Y.dList, Y.dTuple, Y.dIsB, Y.dIs2, Y.dIsO, Y.appM, Y.frzM, Y.dBinO, Y.dEqO, Y.dInO, Y.finI, Y.putM, Y.starD, Y.rng1, Y.rng2, Y.dJoin, Y.strsOf, Y.isS, Y.rDraw, Y.ar0, Y.ar1, Y.ar2, Y.ar3, Y.ar4, Y.ar5, List.getElem?_cons_zero, List.getElem?_cons_succ, List.set_cons_zero, List.set_cons_succ, List.map_cons, List.map_nil, List.length_cons, List.length_nil, Option.map_some, List.nil_append, List.cons_append, List.mem_cons, List.not_mem_nil, or_false, true_and, and_true, if_true, Bool.false_eq_true, if_false, Bool.not_true, Bool.not_false, Nat.reduceAdd, Nat.reduceLeDiff, decide_eq_true_eq, reduceCtorEq, ite_true, ite_false, Int.cast_ofNat_Int, Int.natCast_add, eq_self, Int.reduceEq, Int.reduceLE, Int.reduceLT, Int.reduceNeg, Int.reduceSub, Int.reduceAdd, decide_true, decide_false, String.reduceBEq, Bool.or_self, Bool.or_true, Bool.true_or, Bool.or_false, Bool.false_or])
namespace K11
open PySem PySem.Spec PyProof.Rows L2 Z Y
section
variable {P : Program} {w : World} {K : Frg} {mg : Str → Option Value} {base : Heap}
theorem ok__law_tape (T : Tx w K mg) : FnR P w K mg base (L2.CX P w) 1 (He.ga K "_law_tape") (spTape K) := by
  refine zfn T.d__law_tape sc__law_tape len1 (fun _ _ _ _ _ _ us hl => match us, hl with | [_], _ => rfl) (fun cdv A outer s H vs Q E hr h => ?_)
  obtain ⟨_, rfl, F, s, ns, rfl, hs, hS, k⟩ := h
  refine ⟨_, PSs.nox (pss_one (ps_ret (pe_lstZ (pa_cons (pe_callTy call_listZ (by rfl) T.b_list (by decide +kernel) (pa_cons (pe_slice sl_listZ (pv 0) po_none (po_some pe_int)) pa_nil)) (pa_cons pe_int (pa_cons pe_int (pa_cons pe_int pa_nil))))))), ?_⟩
  have hSH := sqL hs hS
  refine ⟨_, rfl, _, rfl, _, _, rfl, hSH, ?_⟩
  intro p1 H1 hp1 e1
  obtain ⟨F1, g1, q1, r1⟩ := newE hs hp1 e1
  obtain ⟨ms, em⟩ := cut_ints ns none (some 63)
  rw [em] at q1 r1
  refine ⟨_, _, rfl, .inl (SqL.of r1), ?_⟩
  intro p2 H2 hp2 e2
  obtain ⟨F2, g2, q2, r2⟩ := newE g1.fh hp2 e2
  walk_at "z"
  intro p3 H3 hp3 e3
  obtain ⟨g3, f3, r3⟩ := newM g2.fh hp3 e3
  exact k p3 F2 H3 ((g1.trans g2).trans g3) ⟨f3, _, r3, p2, ms, 0, 0, 17, rfl, SqL.of q2, by decide, by decide, by decide, by decide⟩
end
end K11
namespace K11
open PySem PySem.Spec PyProof.Rows L2 Z Y
section
variable {P : Program} {w : World} {K : Frg} {mg : Str → Option Value} {base : Heap}
theorem ok0__law_draw (T : Tx w K mg) : FnR P w K mg base (L2.CX P w) 1 (He.ga K "_law_draw") (spDraw K) := by
  refine zfn T.d__law_draw sc__law_draw len2 (fun _ _ _ _ _ _ us hl => match us, hl with | [_, _], _ => rfl) (fun cdv A outer s H vs Q E hr h => ?_)
  obtain ⟨_, _, rfl, F, t, many, rfl, rfl, hs, ⟨ft, xs, ht, c, ns, i, b, r, rfl, hc, hi, hb, hr0, hr1⟩, hm0, hm1, k⟩ := h
  refine ⟨_, PSs.nox (pss_cons (ps_if (pt_cmpR op_gt (pe_ix ix_list (pv 0) pe_int (fun _ _ => rfl)) pe_int (nomark _))
    (pss_cons (ps_set (i := 2) sc__law_draw.nd rfl (by first | exact Or.inl rfl | exact Or.inr rfl) (pe_op op_mod (pe_ix ix_list (pv 0) pe_int (fun _ _ => rfl)) (pv 1)))
  (pss_cons (ps_asg (pe_op op_fdivW (pe_ix ix_list (pv 0) pe_int (fun _ _ => rfl)) (pv 1)) (pg_sub (pv 0) pe_int set_listZ))
  (pss_one (ps_ret (pv 2)))))
    pss_nil)
  (pss_cons (ps_set (i := 3) sc__law_draw.nd rfl (by first | exact Or.inl rfl | exact Or.inr rfl) pe_int)
  (zcut (ps_if (pt_cmpR op_lt (pe_ix ix_list (pv 0) pe_int (fun _ _ => rfl)) (pe_callB call_len_seq (by rfl) T.b_len (by decide +kernel) (pa_cons (pe_ix ix_list (pv 0) pe_int (fun _ _ => rfl)) pa_nil)) (nomark _))
    (pss_one (ps_set (i := 3) sc__law_draw.nd rfl (by first | exact Or.inl rfl | exact Or.inr rfl) (pe_ix ix_list (pe_ix ix_list (pv 0) pe_int (fun _ _ => rfl)) (pe_ix ix_list (pv 0) pe_int (fun _ _ => rfl)) (fun _ _ => rfl))))
    pss_nil)
  (pss_cons (ps_asg (pe_op op_add (pe_ix ix_list (pv 0) pe_int (fun _ _ => rfl)) pe_int) (pg_sub (pv 0) pe_int set_listZ))
  (pss_cons (ps_if (pt_cmpR op_ge (pv 3) (pe_op op_pow pe_int pe_int) (nomark _))
    (pss_cons (ps_asg (pe_op op_fdivW (pv 3) (pv 1)) (pg_sub (pv 0) pe_int set_listZ))
  (pss_one (ps_ret (pe_op op_mod (pv 3) (pv 1)))))
    pss_nil)
  (pss_cons (ps_set (i := 4) sc__law_draw.nd rfl (by first | exact Or.inl rfl | exact Or.inr rfl) (pe_op op_add (pe_op op_add (pe_op op_mod (pv 3) pe_int) (pe_op op_mul pe_int (pe_ix ix_list (pv 0) pe_int (fun _ _ => rfl)))) pe_int))
  (pss_cons (ps_asg (pe_op op_mod (pe_op op_add (pe_op op_mul (pe_ix ix_list (pv 0) pe_int (fun _ _ => rfl)) pe_int) (pv 4)) pe_int) (pg_sub (pv 0) pe_int set_listZ))
  (pss_one (ps_ret (pe_op op_mod (pe_op op_mod (pe_op op_pow (pe_ix ix_list (pv 0) pe_int (fun _ _ => rfl)) pe_int) pe_int) (pv 1))))))))))), ?_⟩
  have hT := SqL.of (K := K) ht
  walk_at "z"
  refine ite2 (fun hb0 => ?_) (fun hb0 => ?_)
  · walk_at "z"
    intro H1 e1
    obtain ⟨g1, q1⟩ := putM hs ft e1
    walk_at "z"
    have hb1 : (0 : Int) < b := of_decide_eq_true hb0
    exact k _ _ (Int.emod_nonneg _ (by omega)) (Int.emod_lt_of_pos _ hm0) g1 ⟨ft, _, q1, c, ns, i, b / many, r, rfl, hc, hi, Int.ediv_nonneg hb (by omega), hr0, hr1⟩
  · have hcH := sqL hs hc
    refine ⟨fun σ' H' => ∃ cell : Int, σ' = [some (.ref t), some (.int many), none, some (.int cell), none] ∧ H' = H, ?_, ?_⟩
    · walk_at "z"
      refine ite2 (fun hlt => ?_) (fun _ => ⟨0, rfl, rfl⟩)
      have hl : i < ((ns.map V.int).length : Int) := of_decide_eq_true hlt
      walk_at "z"
      obtain ⟨j, rfl⟩ := Int.eq_ofNat_of_zero_le hi
      have hj : j < ns.length := by simpa using hl
      refine ⟨_, _, _, _, rfl, rfl, hcH, atI_nat (by rw [List.getElem?_map, List.getElem?_eq_getElem hj]; rfl), _, rfl, rfl⟩
    · rintro σ' H' ⟨cell, rfl, rfl⟩
      walk_at "z"
      intro H1 e1
      obtain ⟨g1, q1⟩ := putM hs ft e1
      have hT1 : SqL K H1 t [V.ref c, V.int (i + 1), V.int b, V.int r] := SqL.of q1
      have hx1 : H1 t = some (.lst [V.ref c, V.int (i + 1), V.int b, V.int r]) := q1
      have hi1 : 0 ≤ i + 1 := by omega
      walk_at "z"
      refine ite2 (fun hge => ?_) (fun _ => ?_)
      · walk_at "z"
        intro H2 e2
        obtain ⟨g2, q2⟩ := putM g1.fh ft e2
        walk_at "z"
        have hc0 : (0 : Int) ≤ cell := by
          have := of_decide_eq_true hge
          have h3 : (10 : Int) ^ (Int.toNat 18) = 1000000000000000000 := by decide
          rw [h3] at this
          omega
        exact k _ _ (Int.emod_nonneg _ (by omega)) (Int.emod_lt_of_pos _ hm0) (g1.trans g2) ⟨ft, _, q2, c, ns, i + 1, cell / many, r, rfl, hc, hi1, Int.ediv_nonneg hc0 (by omega), hr0, hr1⟩
      · walk_at "z"
        intro H2 e2
        obtain ⟨g2, q2⟩ := putM g1.fh ft e2
        replace q2 : H2 t = some (.lst [V.ref c, V.int (i + 1), V.int b, V.int ((r * 48271 + (cell % 2147483647 + 7919 * (i + 1) + 11)) % 2147483647)]) := q2
        generalize hrr : (r * 48271 + (cell % 2147483647 + 7919 * (i + 1) + 11)) % 2147483647 = r2 at q2
        have hr2 : 0 ≤ r2 ∧ r2 < 2147483647 := by omega
        have hT2 : SqL K H2 t [V.ref c, V.int (i + 1), V.int b, V.int r2] := SqL.of q2
        walk_at "z"
        refine And.intro ⟨by decide, by decide, by have := hr2; omega⟩ ?_
        walk_at "z"
        exact k _ _ (Int.emod_nonneg _ (by omega)) (Int.emod_lt_of_pos _ hm0) (g1.trans g2) ⟨ft, _, q2, c, ns, i + 1, b, r2, rfl, hc, hi1, hb, hr2.1, hr2.2⟩
theorem ok__law_draw (T : Tx w K mg) : FnG P w K mg base (L2.CX P w) 1 (He.ga K "_law_draw") (spP K rDraw) := draw_of (ok0__law_draw T)
end
end K11
namespace K11
open PySem PySem.Spec PyProof.Rows L2 Z Y
section
variable {P : Program} {w : World} {K : Frg} {mg : Str → Option Value} {base : Heap}
theorem ok_is_integer (T : Tx w K mg) : FnG P w K mg base (L2.CX P w) 1 (He.ga K "is_integer") (spP K R_is_integer) := by
  refine y_fn T.d_is_integer sc_is_integer arl1 (fun _ _ _ _ _ _ us hl => match us, hl with | [_], _ => rfl) fun cdv A outer s H E B hB hr hx po => ⟨_, (s_one (s_ret (y_and (y_callB call_isi (isBL (cs := []) (T := "int") (by decide) all0) (by rfl) T.b_isinstance (by decide +kernel) (a_cons (y_var (pv 0)) (a_cons (y_ty (n := "int") rfl T.b_int (by decide +kernel)) a_nil))) (y_one (y_not (y_callB call_isi (isBL (cs := []) (T := "bool") (by decide) all0) (by rfl) T.b_isinstance (by decide +kernel) (a_cons (y_var (pv 0)) (a_cons (y_ty (n := "bool") rfl T.b_bool (by decide +kernel)) a_nil)))))))), fun ds Q h => ?_⟩
  obtain ⟨a0, e0, hh⟩ := ar1E h
  clear h
  subst e0
  have h := hh
  clear hh
  try dsimp only at h
  rw [show startE (List.length N_is_integer) [a0] = [.val a0] from rfl]
  obtain ⟨hk, h⟩ := h
  cases a0 with
  | int i => exact ⟨rfl, ifB_T rfl ⟨rfl, h⟩⟩
  | bl b => exact ⟨rfl, ifB_T rfl ⟨rfl, h⟩⟩
  | obj _ _ _ => exact hk.elim
  | ty _ => exact hk.elim
  | glob _ => exact hk.elim
  | tape => exact hk.elim
  | fn _ => exact hk.elim
  | dpl _ _ => exact hk.elim
  | _ => exact ⟨rfl, ifB_F rfl h⟩
end
end K11
namespace K11
open PySem PySem.Spec PyProof.Rows L2 Z Y
section
variable {P : Program} {w : World} {K : Frg} {mg : Str → Option Value} {base : Heap}
theorem ok_is_place (T : Tx w K mg) : FnG P w K mg base (L2.CX P w) 3 (He.ga K "is_place") (spP K R_is_place) := by
  refine y_fn T.d_is_place sc_is_place arl1 (fun _ _ _ _ _ _ us hl => match us, hl with | [_], _ => rfl) fun cdv A outer s H E B hB hr hx po => ⟨_, (s_one (s_ret (y_and (y_callB call_isi (isBL (cs := []) (T := "tuple") (by decide) all0) (by rfl) T.b_isinstance (by decide +kernel) (a_cons (y_var (pv 0)) (a_cons (y_ty (n := "tuple") rfl T.b_tuple (by decide +kernel)) a_nil))) (y_and (y_cmp (op_eqY hr.units) eqL (y_callB call_lenY lenL (by rfl) T.b_len (by decide +kernel) (a_cons (y_var (pv 0)) a_nil)) y_int (nomark _)) (y_one (y_callB (cr_all rfl) (allL (f := fun bs => bs.all id)) (by rfl) T.b_all (by decide +kernel) (a_cons (y_lc (own := [("number", 1)]) (t := .nm 1) rfl sc_is_place.nd (i_tup (y_var (pv 0))) (blkOk_by (own := [("number", 1)]) (N := N_is_place) (sc := defScope s_is_place) (by decide +kernel)) (fun _ _ _ _ _ => (g_nm (pg_name (i := 1) sc_is_place.nd rfl (by first | exact Or.inl rfl | exact Or.inr rfl)))) (fun _ _ _ _ _ => c_nil) (fun _ _ _ _ _ => (y_call (ok_is_integer T) (hr.mono (by decide)) rfl T.g_is_integer T.k_is_integer px_nox (a_cons (y_var (pv 1)) a_nil)))) a_nil))))))), fun ds Q h => ?_⟩
  obtain ⟨a0, e0, hh⟩ := ar1E h
  clear h
  subst e0
  have h := hh
  clear hh
  try dsimp only at h
  rw [show startE (List.length N_is_place) [a0] = [.val a0, .no] from rfl]
  obtain ⟨hk, h⟩ := h
  cases a0 with
  | tup ds =>
    match ds, hk, h with
    | [x, y], hk, h => exact ⟨rfl, ifB_T rfl (ifB_T rfl ⟨Nat.le_of_ble_eq_true rfl, mapI_of (ifB_T rfl ⟨hk.1, ifB_T rfl ⟨hk.2, by show Q (.bl ([isIntD x, isIntD y].all id)); simpa [isPl] using h⟩⟩)⟩)⟩
    | [], hk, h => exact ⟨rfl, ifB_T rfl (ifB_F rfl h)⟩
    | [_], hk, h => exact ⟨rfl, ifB_T rfl (ifB_F rfl h)⟩
    | a :: b :: c :: ds, hk, h => exact ⟨rfl, ifB_T rfl (ifB_F (decide_eq_false (by simp only [List.length_cons]; omega)) h)⟩
  | obj _ _ _ => exact hk.elim
  | ty _ => exact hk.elim
  | glob _ => exact hk.elim
  | tape => exact hk.elim
  | fn _ => exact hk.elim
  | dpl _ _ => exact hk.elim
  | _ => exact ⟨rfl, ifB_F rfl h⟩
end
end K11
namespace K11
open PySem PySem.Spec PyProof.Rows L2 Z Y
section
variable {P : Program} {w : World} {K : Frg} {mg : Str → Option Value} {base : Heap}
theorem ok_plus (T : Tx w K mg) : FnG P w K mg base (L2.CX P w) 1 (He.ga K "plus") (spP K R_plus) := by
  refine y_fn T.d_plus sc_plus arl2 (fun _ _ _ _ _ _ us hl => match us, hl with | [_, _], _ => rfl) fun cdv A outer s H E B hB hr hx po => ⟨_, (s_one (s_ret (y_tup (a_cons (y_op op_addY addL (y_ix (y_var (pv 0)) y_int (fun _ _ => rfl)) (y_ix (y_var (pv 1)) y_int (fun _ _ => rfl))) (a_cons (y_op op_addY addL (y_ix (y_var (pv 0)) y_int (fun _ _ => rfl)) (y_ix (y_var (pv 1)) y_int (fun _ _ => rfl))) a_nil))))), fun ds Q h => ?_⟩
  obtain ⟨a0, a1, e0, hh⟩ := ar2E h
  clear h
  subst e0
  have h := hh
  clear hh
  try dsimp only at h
  rw [show startE (List.length N_plus) [a0, a1] = [.val a0, .val a1] from rfl]
  obtain ⟨x, y, u, v, rfl, rfl, h⟩ := h
  exact ⟨leN rfl, h⟩
end
end K11
namespace K11
open PySem PySem.Spec PyProof.Rows L2 Z Y
section
variable {P : Program} {w : World} {K : Frg} {mg : Str → Option Value} {base : Heap}
theorem ok_minus (T : Tx w K mg) : FnG P w K mg base (L2.CX P w) 1 (He.ga K "minus") (spP K R_minus) := by
  refine y_fn T.d_minus sc_minus arl2 (fun _ _ _ _ _ _ us hl => match us, hl with | [_, _], _ => rfl) fun cdv A outer s H E B hB hr hx po => ⟨_, (s_one (s_ret (y_tup (a_cons (y_op op_sub subL (y_ix (y_var (pv 0)) y_int (fun _ _ => rfl)) (y_ix (y_var (pv 1)) y_int (fun _ _ => rfl))) (a_cons (y_op op_sub subL (y_ix (y_var (pv 0)) y_int (fun _ _ => rfl)) (y_ix (y_var (pv 1)) y_int (fun _ _ => rfl))) a_nil))))), fun ds Q h => ?_⟩
  obtain ⟨a0, a1, e0, hh⟩ := ar2E h
  clear h
  subst e0
  have h := hh
  clear hh
  try dsimp only at h
  rw [show startE (List.length N_minus) [a0, a1] = [.val a0, .val a1] from rfl]
  obtain ⟨x, y, u, v, rfl, rfl, h⟩ := h
  exact ⟨leN rfl, h⟩
end
end K11
namespace K11
open PySem PySem.Spec PyProof.Rows L2 Z Y
section
variable {P : Program} {w : World} {K : Frg} {mg : Str → Option Value} {base : Heap}
theorem ok_divisors (T : Tx w K mg) : FnG P w K mg base (L2.CX P w) 1 (He.ga K "divisors") (spP K R_divisors) := by
  refine y_fn T.d_divisors sc_divisors arl1 (fun _ _ _ _ _ _ us hl => match us, hl with | [_], _ => rfl) fun cdv A outer s H E B hB hr hx po => ⟨_, (s_one (s_ret (y_lc (own := [("divisor", 1)]) (t := .nm 1) rfl sc_divisors.nd (i_rng2 (by rfl) T.b_range (a_cons y_int (a_cons (y_op op_addY addL (y_var (pv 0)) y_int) a_nil))) (blkOk_by (own := [("divisor", 1)]) (N := N_divisors) (sc := defScope s_divisors) (by decide +kernel)) (fun _ _ _ _ _ => (g_nm (pg_name (i := 1) sc_divisors.nd rfl (by first | exact Or.inl rfl | exact Or.inr rfl)))) (fun _ _ _ _ _ => (c_one (z_cmp (op_eqY hr.units) eqL (y_op op_mod modL (y_var (pv 0)) (y_var (pv 1))) y_int (nomark _)))) (fun _ _ _ _ _ => (y_var (pv 1)))))), fun ds Q h => ?_⟩
  obtain ⟨a0, e0, hh⟩ := ar1E h
  clear h
  subst e0
  have h := hh
  clear hh
  try dsimp only at h
  rw [show startE (List.length N_divisors) [a0] = [.val a0, .no] from rfl]
  obtain ⟨n, rfl, ⟨n1, n2⟩, h⟩ := h
  have e : (n + 1 - 1).toNat = n.toNat := by omega
  refine ⟨⟨by decide, by decide, by omega, by omega⟩, ?_, ?_⟩
  · show (rngD 1 (n + 1 - 1).toNat).length ≤ 100000
    rw [e]
    simp [rngD]
    omega
  refine ⟨fun i acc => acc = (((MN.upL n.toNat).take i).filter fun d => decide (n % d = 0)).map D.int, rfl, fun i d acc hd hj => ?_, fun out hj => ?_⟩
  · have hd' : (rngD 1 (n + 1 - 1).toNat)[i]? = some d := hd
    rw [e] at hd'
    unfold rngD at hd'
    obtain ⟨j, hj1, rfl⟩ := map_get hd'
    have hi := lt_of_get hj1
    rw [List.length_range] at hi
    rw [List.getElem?_range hi] at hj1
    cases hj1
    have hu : (MN.upL n.toNat)[i]? = some ((i : Int) + 1) := by
      unfold MN.upL
      rw [List.getElem?_map, List.getElem?_range hi]
      rfl
    have hc : (1 : Int) + (i : Int) = (i : Int) + 1 := by omega
    refine ⟨by omega, ifB_d (fun h0 => ?_) (fun h0 => ?_)⟩
    · show acc ++ [D.int (1 + (i : Int))] = _
      rw [hj, List.take_succ, hu, List.filter_append, List.map_append, hc]
      rw [hc] at h0
      simp [h0]
    · show acc = _
      rw [hj, List.take_succ, hu, List.filter_append, List.map_append]
      rw [hc] at h0
      simp [h0]
  · rw [hj]
    have hl : (rngD 1 (n + 1 - 1).toNat).length = (MN.upL n.toNat).length := by rw [e]; simp [rngD, MN.upL]
    rw [hl, List.take_length]
    exact h
end
end K11
namespace K11
open PySem PySem.Spec PyProof.Rows L2 Z Y
section
variable {P : Program} {w : World} {K : Frg} {mg : Str → Option Value} {base : Heap}
theorem ok_are_numbers (T : Tx w K mg) : FnG P w K mg base (L2.CX P w) 3 (He.ga K "are_numbers") (spP K R_are_numbers) := by
  refine y_fn T.d_are_numbers sc_are_numbers arl1 (fun _ _ _ _ _ _ us hl => match us, hl with | [_], _ => rfl) fun cdv A outer s H E B hB hr hx po => ⟨_, (s_cons (s_if (z_not (z_val (y_callB (cr_all rfl) (allL (f := fun bs => bs.all id)) (by rfl) T.b_all (by decide +kernel) (a_cons (y_lc (own := [("number", 4)]) (t := .nm 4) rfl sc_are_numbers.nd (i_tup (y_var (pv 0))) (blkOk_by (own := [("number", 4)]) (N := N_are_numbers) (sc := defScope s_are_numbers) (by decide +kernel)) (fun _ _ _ _ _ => (g_nm (pg_name (i := 4) sc_are_numbers.nd rfl (by first | exact Or.inl rfl | exact Or.inr rfl)))) (fun _ _ _ _ _ => c_nil) (fun _ _ _ _ _ => (y_call (ok_is_integer T) (hr.mono (by decide)) rfl T.g_is_integer T.k_is_integer px_nox (a_cons (y_var (pv 4)) a_nil)))) a_nil))))
    (s_one (s_ret y_bl))
    s_nil)
  (s_cons (s_asg (t := .tp [1, 2, 3]) (y_var (pv 0)) (g_tp (is := [1, 2, 3]) rfl (pgs_cons (pg_name (i := 1) sc_are_numbers.nd rfl (by first | exact Or.inl rfl | exact Or.inr rfl)) (pgs_cons (pg_name (i := 2) sc_are_numbers.nd rfl (by first | exact Or.inl rfl | exact Or.inr rfl)) (pgs_cons (pg_name (i := 3) sc_are_numbers.nd rfl (by first | exact Or.inl rfl | exact Or.inr rfl)) pgs_nil)))))
  (s_one (s_ret (y_and (y_cmp op_ge cmpL (y_var (pv 3)) y_int (nomark _)) (y_one (y_chain op_le cmpL op_lt cmpL y_int (y_var (pv 2)) (y_var (pv 1))))))))), fun ds Q h => ?_⟩
  obtain ⟨a0, e0, hh⟩ := ar1E h
  clear h
  subst e0
  have h := hh
  clear hh
  try dsimp only at h
  rw [show startE (List.length N_are_numbers) [a0] = [.val a0, .no, .no, .no, .no] from rfl]
  split at h
  · rename_i a b c
    refine ⟨Nat.le_of_ble_eq_true rfl, mapI_of (ifB_T rfl ⟨trivial, ifB_T rfl ⟨trivial, ifB_T rfl ⟨trivial, ifB_F rfl (ifB_d (fun h1 => ifB_d (fun h2 => ?_) fun h2 => ?_) fun h1 => ?_)⟩⟩⟩)⟩
    · show Q (.bl (decide (b < a)))
      simpa [h1, h2] using h
    · show Q (.bl false)
      simpa [h1, h2] using h
    · show Q (.bl false)
      simpa [h1] using h
  · exact h.elim
end
end K11
namespace K11
open PySem PySem.Spec PyProof.Rows L2 Z Y
section
variable {P : Program} {w : World} {K : Frg} {mg : Str → Option Value} {base : Heap}
theorem ok_Net_UinitU (T : Tx w K mg) : FnG P w K mg base (L2.CX P w) 5 (He.ma K (He.ga K "Net") "__init__") (spI K "Net" R_Net_UinitU) := by
  refine y_init (C := "Net") T.d_Net_UinitU sc_Net_UinitU (fun ds Q E h => by rw [arl3 ds Q E h]; rfl) (fun _ _ _ _ _ _ us hl => match us, hl with | [_, _, _, _], _ => rfl) fun cdv A outer s H E B hB hr hx po => ⟨_, (s_cons (s_if (z_not (z_val (y_call (ok_are_numbers T) (hr.mono (by decide)) rfl T.g_are_numbers T.k_are_numbers hx (a_cons (y_tup (a_cons (y_var (pv 1)) (a_cons (y_var (pv 2)) (a_cons (y_var (pv 3)) a_nil)))) a_nil))))
    (s_one s_never)
    s_nil)
  (s_one (s_fld (C := "Net") (ns := []) (i := 0) T.cl_Net T.na_Net_own_numbers (pv 0) (y_tup (a_cons (y_var (pv 1)) (a_cons (y_var (pv 2)) (a_cons (y_var (pv 3)) a_nil))))))), fun self ds Q h => ?_⟩
  obtain ⟨a0, a1, a2, e0, hh⟩ := ar3E h
  clear h
  subst e0
  have h := hh
  clear hh
  try dsimp only at h
  rw [show startE (List.length N_Net_UinitU - 1) [a0, a1, a2] = [.val a0, .val a1, .val a2] from rfl]
  split at h
  · rename_i a b c
    obtain ⟨⟨h1, h2, h3⟩, h⟩ := h
    exact ⟨Nat.le_of_ble_eq_true rfl, ifB_F (by simp [h1, h2, h3]) ⟨Nat.le_of_ble_eq_true rfl, ⟨rfl, rfl⟩, ⟨rfl, rfl⟩, h⟩⟩
  · exact h.elim
end
end K11
namespace K11
open PySem PySem.Spec PyProof.Rows L2 Z Y
section
variable {P : Program} {w : World} {K : Frg} {mg : Str → Option Value} {base : Heap}
theorem ok_Net_numbers (T : Tx w K mg) : FnG P w K mg base (L2.CX P w) 1 (He5.wf K (He.ga K "Net") "property" "numbers") (spP K R_Net_numbers) := by
  refine y_fn T.d_Net_numbers sc_Net_numbers arl1 (fun _ _ _ _ _ _ us hl => match us, hl with | [_], _ => rfl) fun cdv A outer s H E B hB hr hx po => ⟨_, (s_one (s_ret (y_fld (cs := ["Net"]) (ns := ["own_numbers"]) (j := 0) (y_var (pv 0)) (all1 ⟨T.cl_Net, T.na_Net_own_numbers⟩)))), fun ds Q h => ?_⟩
  obtain ⟨a0, e0, hh⟩ := ar1E h
  clear h
  subst e0
  have h := hh
  clear hh
  try dsimp only at h
  rw [show startE (List.length N_Net_numbers) [a0] = [.val a0] from rfl]
  obtain ⟨a, b, c, rfl, h⟩ := h
  exact ⟨⟨.head _, rfl⟩, h⟩
end
end K11
namespace K11
open PySem PySem.Spec PyProof.Rows L2 Z Y
section
variable {P : Program} {w : World} {K : Frg} {mg : Str → Option Value} {base : Heap}
theorem ok_Net_size (T : Tx w K mg) : FnG P w K mg base (L2.CX P w) 1 (He5.wf K (He.ga K "Net") "property" "size") (spP K R_Net_size) := by
  refine y_fn T.d_Net_size sc_Net_size arl1 (fun _ _ _ _ _ _ us hl => match us, hl with | [_], _ => rfl) fun cdv A outer s H E B hB hr hx po => ⟨_, (s_one (s_ret (y_op op_mulY mulL (y_ix (y_fld (cs := ["Net"]) (ns := ["own_numbers"]) (j := 0) (y_var (pv 0)) (all1 ⟨T.cl_Net, T.na_Net_own_numbers⟩)) y_int (fun _ _ => rfl)) (y_ix (y_fld (cs := ["Net"]) (ns := ["own_numbers"]) (j := 0) (y_var (pv 0)) (all1 ⟨T.cl_Net, T.na_Net_own_numbers⟩)) y_int (fun _ _ => rfl))))), fun ds Q h => ?_⟩
  obtain ⟨a0, e0, hh⟩ := ar1E h
  clear h
  subst e0
  have h := hh
  clear hh
  try dsimp only at h
  rw [show startE (List.length N_Net_size) [a0] = [.val a0] from rfl]
  obtain ⟨a, b, c, rfl, ⟨ha, hc⟩, h⟩ := h
  exact ⟨⟨.head _, rfl⟩, ⟨.head _, rfl⟩, ⟨ha.mono (by decide), hc.mono (by decide)⟩, h⟩
end
end K11
namespace K11
open PySem PySem.Spec PyProof.Rows L2 Z Y
section
variable {P : Program} {w : World} {K : Frg} {mg : Str → Option Value} {base : Heap}
theorem ok_Net_whole (T : Tx w K mg) : FnG P w K mg base (L2.CX P w) 7 (He5.wf K (He.ga K "Net") "classmethod" "whole") (spP K R_Net_whole) := by
  refine y_fn T.d_Net_whole sc_Net_whole arl1 (fun _ _ _ _ _ _ us hl => match us, hl with | [_], _ => rfl) fun cdv A outer s H E B hB hr hx po => ⟨_, (s_one (s_ret (y_makeL (C := "Net") (i := 0) (pv 0) T.mk_Net (ok_Net_UinitU T) (hr.mono (by decide)) hx (a_cons y_int (a_cons y_int (a_cons y_int a_nil)))))), fun ds Q h => ?_⟩
  obtain ⟨a0, e0, hh⟩ := ar1E h
  clear h
  subst e0
  have h := hh
  clear hh
  try dsimp only at h
  rw [show startE (List.length N_Net_whole) [a0] = [.val a0] from rfl]
  obtain ⟨rfl, h⟩ := h
  exact ⟨rfl, ⟨by decide, by decide, by decide⟩, h⟩
end
end K11
namespace K11
open PySem PySem.Spec PyProof.Rows L2 Z Y
section
variable {P : Program} {w : World} {K : Frg} {mg : Str → Option Value} {base : Heap}
theorem ok_Net_UeqU (T : Tx w K mg) : FnG P w K mg base (L2.CX P w) 1 (He.ma K (He.ga K "Net") "__eq__") (spP K R_Net_UeqU) := by
  refine y_fn T.d_Net_UeqU sc_Net_UeqU arl2 (fun _ _ _ _ _ _ us hl => match us, hl with | [_, _], _ => rfl) fun cdv A outer s H E B hB hr hx po => ⟨_, (s_one (s_ret (y_and (y_callB call_isi (isOL (C := "Net") (cs := ["Net"]) (cs' := []) ⟨T.cl_Net, T.ow_Net⟩ (all1 ⟨⟨T.cl_Net, T.ow_Net⟩, T.ow_Net.ki⟩) all0) (by rfl) T.b_isinstance (by decide +kernel) (a_cons (y_var (pv 1)) (a_cons (y_glob rfl T.g_Net) a_nil))) (y_one (y_cmp (op_eqY hr.units) eqL (y_fld (cs := ["Net"]) (ns := ["own_numbers"]) (j := 0) (y_var (pv 0)) (all1 ⟨T.cl_Net, T.na_Net_own_numbers⟩)) (y_fld (cs := ["Net"]) (ns := ["own_numbers"]) (j := 0) (y_var (pv 1)) (all1 ⟨T.cl_Net, T.na_Net_own_numbers⟩)) (nomark _)))))), fun ds Q h => ?_⟩
  obtain ⟨a0, a1, e0, hh⟩ := ar2E h
  clear h
  subst e0
  have h := hh
  clear hh
  try dsimp only at h
  rw [show startE (List.length N_Net_UeqU) [a0, a1] = [.val a0, .val a1] from rfl]
  obtain ⟨a, b, c, rfl, h⟩ := h
  rcases h with ⟨a', b', c', rfl, h⟩ | ⟨hk, h⟩
  · refine ⟨rfl, .inl ⟨.head _, ifB_T rfl ⟨⟨.head _, rfl⟩, ⟨.head _, rfl⟩, ⟨rfl, rfl⟩, ?_⟩⟩⟩
    rw [eqN3]
    exact h
  · cases a1 with
    | obj _ _ _ => exact hk.elim
    | ty _ => exact hk.elim
    | glob _ => exact hk.elim
    | tape => exact hk.elim
    | fn _ => exact hk.elim
    | dpl _ _ => exact hk.elim
    | _ => exact ⟨rfl, ifB_F rfl h⟩
end
end K11
namespace K11
open PySem PySem.Spec PyProof.Rows L2 Z Y
section
variable {P : Program} {w : World} {K : Frg} {mg : Str → Option Value} {base : Heap}
theorem ok_Net_place_in_cell (T : Tx w K mg) : FnG P w K mg base (L2.CX P w) 1 (He.ma K (He.ga K "Net") "place_in_cell") (spP K R_Net_place_in_cell) := by
  refine y_fn T.d_Net_place_in_cell sc_Net_place_in_cell arl2 (fun _ _ _ _ _ _ us hl => match us, hl with | [_, _], _ => rfl) fun cdv A outer s H E B hB hr hx po => ⟨_, (s_cons (s_asg (t := .tp [2, 3, 4]) (y_fld (cs := ["Net"]) (ns := ["own_numbers"]) (j := 0) (y_var (pv 0)) (all1 ⟨T.cl_Net, T.na_Net_own_numbers⟩)) (g_tp (is := [2, 3, 4]) rfl (pgs_cons (pg_name (i := 2) sc_Net_place_in_cell.nd rfl (by first | exact Or.inl rfl | exact Or.inr rfl)) (pgs_cons (pg_name (i := 3) sc_Net_place_in_cell.nd rfl (by first | exact Or.inl rfl | exact Or.inr rfl)) (pgs_cons (pg_name (i := 4) sc_Net_place_in_cell.nd rfl (by first | exact Or.inl rfl | exact Or.inr rfl)) pgs_nil)))))
  (s_cons (s_set (i := 5) sc_Net_place_in_cell.nd rfl (by first | exact Or.inl rfl | exact Or.inr rfl) (y_op op_fdivW divL (y_ix (y_var (pv 1)) y_int (fun _ _ => rfl)) (y_var (pv 4))))
  (s_one (s_ret (y_tup (a_cons (y_op op_mod modL (y_op op_sub subL (y_ix (y_var (pv 1)) y_int (fun _ _ => rfl)) (y_op op_mulY mulL (y_var (pv 5)) (y_var (pv 3)))) (y_var (pv 2))) (a_cons (y_op op_sub subL (y_ix (y_var (pv 1)) y_int (fun _ _ => rfl)) (y_op op_mulY mulL (y_var (pv 5)) (y_var (pv 4)))) a_nil))))))), fun ds Q h => ?_⟩
  obtain ⟨a0, a1, e0, hh⟩ := ar2E h
  clear h
  subst e0
  have h := hh
  clear hh
  try dsimp only at h
  rw [show startE (List.length N_Net_place_in_cell) [a0, a1] = [.val a0, .val a1, .no, .no, .no, .no] from rfl]
  obtain ⟨a, b, c, x, y, rfl, rfl, ⟨⟨o1, o2, o3⟩, sa, sc, sy⟩, h⟩ := h
  have sb : Sz 5000 b := (sz_le o2 (Int.le_of_lt o3) sa).mono (by decide)
  have sr : Sz 5000 (y / c) := (sz_div c sy).mono (by decide)
  exact ⟨⟨.head _, rfl⟩, ⟨by omega, sc.mono (by decide)⟩, ⟨sr, sb⟩, by omega, ⟨sr, sc.mono (by decide)⟩, leN rfl, h⟩
end
end K11
namespace K11
open PySem PySem.Spec PyProof.Rows L2 Z Y
section
variable {P : Program} {w : World} {K : Frg} {mg : Str → Option Value} {base : Heap}
theorem ok_Net_spots (T : Tx w K mg) : FnG P w K mg base (L2.CX P w) 1 (He.ma K (He.ga K "Net") "spots") (spP K R_Net_spots) := by
  refine y_fn T.d_Net_spots sc_Net_spots arl1 (fun _ _ _ _ _ _ us hl => match us, hl with | [_], _ => rfl) fun cdv A outer s H E B hB hr hx po => ⟨_, (s_cons (s_asg (t := .tp [1, 2, 3]) (y_fld (cs := ["Net"]) (ns := ["own_numbers"]) (j := 0) (y_var (pv 0)) (all1 ⟨T.cl_Net, T.na_Net_own_numbers⟩)) (g_tp (is := [1, 2, 3]) rfl (pgs_cons (pg_name (i := 1) sc_Net_spots.nd rfl (by first | exact Or.inl rfl | exact Or.inr rfl)) (pgs_cons (pg_name (i := 2) sc_Net_spots.nd rfl (by first | exact Or.inl rfl | exact Or.inr rfl)) (pgs_cons (pg_name (i := 3) sc_Net_spots.nd rfl (by first | exact Or.inl rfl | exact Or.inr rfl)) pgs_nil)))))
  (s_one (s_ret (y_lc2 (own := [("y", 4), ("x", 5)]) (vs1 := [5]) (t := .nm 4) (t1 := .nm 5) rfl sc_Net_spots.nd (i_rng1 (by rfl) T.b_range (a_cons (y_var (pv 3)) a_nil)) (blkOk_by (own := [("y", 4), ("x", 5)]) (N := N_Net_spots) (sc := defScope s_Net_spots) (by decide +kernel)) (by decide) (fun _ _ _ _ _ => (g_nm (pg_name (i := 4) sc_Net_spots.nd rfl (by first | exact Or.inl rfl | exact Or.inr rfl)))) (fun _ _ _ _ _ => c_nil) (fun _ _ _ _ _ => (i_rng1 (by rfl) T.b_range (a_cons (y_var (pv 1)) a_nil))) (fun _ _ _ _ _ => (g_nm (pg_name (i := 5) sc_Net_spots.nd rfl (by first | exact Or.inl rfl | exact Or.inr rfl)))) (fun _ _ _ _ _ => c_nil) (fun _ _ _ _ _ => (y_tup (a_cons (y_var (pv 5)) (a_cons (y_var (pv 4)) a_nil)))))))), fun ds Q h => ?_⟩
  obtain ⟨a0, e0, hh⟩ := ar1E h
  clear h
  subst e0
  have h := hh
  clear hh
  try dsimp only at h
  rw [show startE (List.length N_Net_spots) [a0] = [.val a0, .no, .no, .no, .no, .no] from rfl]
  obtain ⟨a, b, c, rfl, ⟨o, hm⟩, h⟩ := h
  have ha : 0 < a := by have := o.2; omega
  have hc : 0 < c := by have := o.1; omega
  obtain ⟨A, rfl⟩ := Int.eq_ofNat_of_zero_le (Int.le_of_lt ha)
  obtain ⟨C, rfl⟩ := Int.eq_ofNat_of_zero_le (Int.le_of_lt hc)
  have hm' : A * C ≤ 20000 := by
    have : ((A * C : Nat) : Int) ≤ 20000 := by rw [Int.natCast_mul]; exact hm
    omega
  have hA : A ≤ 20000 := by
    have : A * 1 ≤ A * C := Nat.mul_le_mul_left A (by omega)
    omega
  have hC : C ≤ 20000 := by
    have : 1 * C ≤ A * C := Nat.mul_le_mul_right C (by omega)
    omega
  refine ⟨⟨.head _, rfl⟩, by omega, by omega, ?_⟩
  refine ⟨fun i acc => acc = (MN.spotsL A i).map plD, rfl, fun i d acc hd hj => ?_, fun out hj => ?_⟩
  · obtain ⟨hi, rfl⟩ := rngD_at hd
    rw [Int.toNat_natCast] at hi
    rw [Int.zero_add]
    refine ⟨rfl, ifB_T rfl ⟨by omega, by omega, fun j ac => ac = (MN.spotsL A i).map plD ++ ((MN.rowL A ((i : Nat) : Int)).take j).map plD, by rw [hj]; simp, fun j e ac he hl => ?_, fun ac hl => ?_⟩⟩
    · obtain ⟨hj2, rfl⟩ := rngD_at he
      rw [Int.toNat_natCast] at hj2
      rw [Int.zero_add]
      refine ifB_T rfl ⟨leN rfl, ?_, ?_⟩
      · rw [hl]
        simp only [List.length_append, List.length_map, List.length_take, MN.spotsL_len]
        have h1 : (i + 1) * A ≤ C * A := Nat.mul_le_mul_right A hi
        rw [Nat.add_mul, Nat.one_mul, Nat.mul_comm C A] at h1
        rw [Nat.mul_comm A i]
        omega
      · show ac ++ [D.tup [D.int ((j : Nat) : Int), D.int ((i : Nat) : Int)]] = (MN.spotsL A i).map plD ++ ((MN.rowL A ((i : Nat) : Int)).take (j + 1)).map plD
        rw [hl, List.take_succ]
        have hr : (MN.rowL A ((i : Nat) : Int))[j]? = some (((j : Nat) : Int), ((i : Nat) : Int)) := by
          unfold MN.rowL
          rw [List.getElem?_map, List.getElem?_range hj2]
          rfl
        rw [hr, List.map_append, List.append_assoc]
        rfl
    · rw [hl]
      have hlen : (rngD 0 ((A : Int)).toNat).length = (MN.rowL A ((i : Nat) : Int)).length := by simp [rngD, MN.rowL]
      rw [hlen, List.take_length, ← List.map_append]
      rfl
  · rw [hj]
    have hlen : (rngD 0 ((C : Int)).toNat).length = C := by simp [rngD]
    rw [hlen]
    simpa using h
end
end K11
namespace K11
open PySem PySem.Spec PyProof.Rows L2 Z Y
section
variable {P : Program} {w : World} {K : Frg} {mg : Str → Option Value} {base : Heap}
theorem ok_colour_at (T : Tx w K mg) : FnG P w K mg base (L2.CX P w) 3 (He.ga K "colour_at") (spP K R_colour_at) := by
  refine y_fn T.d_colour_at sc_colour_at arl3 (fun _ _ _ _ _ _ us hl => match us, hl with | [_, _, _], _ => rfl) fun cdv A outer s H E B hB hr hx po => ⟨_, (s_cons (s_asg (t := .tp [3, 4]) (y_meth (cs := ["Net"]) (ns := ["own_numbers"]) (y_var (pv 0)) (all1 ⟨T.cl_Net, T.m_Net_place_in_cell⟩) (ok_Net_place_in_cell T) (hr.mono (by decide)) hx (a_cons (y_var (pv 2)) a_nil)) (g_tp (is := [3, 4]) rfl (pgs_cons (pg_name (i := 3) sc_colour_at.nd rfl (by first | exact Or.inl rfl | exact Or.inr rfl)) (pgs_cons (pg_name (i := 4) sc_colour_at.nd rfl (by first | exact Or.inl rfl | exact Or.inr rfl)) pgs_nil))))
  (s_one (s_ret (y_ix (y_var (pv 1)) (y_op op_addY addL (y_op op_mulY mulL (y_var (pv 4)) (y_ix (y_prop (cs := ["Net"]) (ns := ["own_numbers"]) (y_var (pv 0)) (all1 ⟨T.cl_Net, _, T.p_Net_numbers⟩) (ok_Net_numbers T) (hr.mono (by decide)) px_nox) y_int (fun _ _ => rfl))) (y_var (pv 3))) (fun _ _ => rfl))))), fun ds Q h => ?_⟩
  obtain ⟨a0, a1, a2, e0, hh⟩ := ar3E h
  clear h
  subst e0
  have h := hh
  clear hh
  try dsimp only at h
  rw [show startE (List.length N_colour_at) [a0, a1, a2] = [.val a0, .val a1, .val a2, .no, .no] from rfl]
  obtain ⟨a, b, c, t, x, y, rfl, rfl, rfl, ⟨o, zy⟩, h⟩ := h
  have ha := o.a
  have hc := o.c
  obtain ⟨r1, r2, r3, r4⟩ := MN.low_rng (a := a) (b := b) (c := c) (x := x) (y := y) ha hc
  refine ⟨.head _, rfl, a, b, c, x, y, rfl, rfl, ⟨o.ok, o.sa.mono (by decide), o.sc.mono (by decide), zy⟩, .head _, rfl, a, b, c, rfl, ⟨(sz13 r3 (by have := o.cl; omega)).mono (by decide), o.sa.mono (by decide)⟩, ?_, ?_⟩
  · show t.cps.size ≤ 100000
    have := o.ln
    have := o.mx
    rw [Array.length_toList] at *
    omega
  · have i0 : 0 ≤ (MN.low a b c x y).2 * a + (MN.low a b c x y).1 := Int.add_nonneg (Int.mul_nonneg r3 (by omega)) r1
    have i1 : (MN.low a b c x y).2 * a + (MN.low a b c x y).1 < a * c := by
      have h1 : ((MN.low a b c x y).2 + 1) * a ≤ c * a := Int.mul_le_mul_of_nonneg_right (by omega) (by omega)
      rw [Int.add_mul, Int.one_mul, Int.mul_comm c a] at h1
      omega
    obtain ⟨k, hk⟩ := Int.eq_ofNat_of_zero_le i0
    have hl : k < t.cps.toList.length := by have := o.ln; omega
    rw [hk]
    have e : atI t.cps.toList ((k : Nat) : Int) = some t.cps.toList[k] := atI_nat (List.getElem?_eq_getElem hl)
    rw [e]
    have e2 : colF t a b c (x, y) = t.cps.toList[k] := by
      unfold colF MN.col
      dsimp only
      rw [hk, Int.toNat_natCast, List.getD_eq_getElem?_getD, List.getElem?_eq_getElem hl]
      rfl
    rw [e2] at h
    exact h
end
end K11
namespace K11
open PySem PySem.Spec PyProof.Rows L2 Z Y
section
variable {P : Program} {w : World} {K : Frg} {mg : Str → Option Value} {base : Heap}
theorem ok_is_kept (T : Tx w K mg) : FnG P w K mg base (L2.CX P w) 5 (He.ga K "is_kept") (spP K R_is_kept) := by
  refine y_fn T.d_is_kept sc_is_kept arl3 (fun _ _ _ _ _ _ us hl => match us, hl with | [_, _, _], _ => rfl) fun cdv A outer s H E B hB hr hx po => ⟨_, (s_cons (s_for (t := .nm 3) po rfl (i_lst (y_meth0 (cs := ["Net"]) (ns := ["own_numbers"]) (y_var (pv 0)) (all1 ⟨T.cl_Net, T.m_Net_spots⟩) (ok_Net_spots T) (hr.mono (by decide)) hx)) (g_nm (pg_name (i := 3) sc_is_kept.nd rfl (by first | exact Or.inl rfl | exact Or.inr rfl)))
    (s_one (s_if (z_cmp (op_neY hr.units) neL (y_call (ok_colour_at T) (hr.mono (by decide)) rfl T.g_colour_at T.k_colour_at hx (a_cons (y_var (pv 0)) (a_cons (y_var (pv 1)) (a_cons (y_var (pv 3)) a_nil)))) (y_call (ok_colour_at T) (hr.mono (by decide)) rfl T.g_colour_at T.k_colour_at hx (a_cons (y_var (pv 0)) (a_cons (y_var (pv 1)) (a_cons (y_call (ok_plus T) (hr.mono (by decide)) rfl T.g_plus T.k_plus hx (a_cons (y_var (pv 3)) (a_cons (y_var (pv 2)) a_nil))) a_nil)))) (nomark _))
    (s_one (s_ret y_bl))
    s_nil)))
  (s_one (s_ret y_bl))), fun ds Q h => ?_⟩
  obtain ⟨a0, a1, a2, e0, hh⟩ := ar3E h
  clear h
  subst e0
  have h := hh
  clear hh
  try dsimp only at h
  rw [show startE (List.length N_is_kept) [a0, a1, a2] = [.val a0, .val a1, .val a2, .no] from rfl]
  obtain ⟨a, b, c, t, u, v, rfl, rfl, rfl, ⟨o, zv⟩, h⟩ := h
  refine ⟨.head _, rfl, a, b, c, rfl, ⟨o.ok, by have := o.mx; omega⟩, fun i ρ => (∀ p ∈ (MN.spotsL a.toNat c.toNat).take i, colF t a b c p = colF t a b c (p.1 + u, p.2 + v)) ∧ ∃ o3, ρ = [.val (dNet a b c), .val (.str t), .val (dPl u v), o3], ⟨fun p hp => by simp at hp, _, rfl⟩, ?_, ?_⟩
  · rintro i d ρ hd ⟨hn, o3, rfl⟩
    obtain ⟨⟨x, y⟩, hq, rfl⟩ := map_get hd
    obtain ⟨m1, m2, m3, m4⟩ := MN.spotsL_mem.mp (List.mem_of_getElem? hq)
    have m4' : y < c := by have : y < ((c.toNat : Nat) : Int) := m4; have := o.c; omega
    have zy : Sz 13 y := sz13 m3 (by have := o.cl; omega)
    refine ⟨a, b, c, t, x, y, rfl, rfl, rfl, ⟨o, zy.mono (by decide)⟩, x, y, u, v, rfl, rfl, a, b, c, t, x + u, y + v, rfl, rfl, rfl, ⟨o, (sz_add (zy.mono (by decide)) zv).mono (by decide)⟩, ifB_2 (fun e => ?_) (fun e => ?_)⟩
    · have e1 : ¬ colF t a b c (x, y) = colF t a b c (x + u, y + v) := fun z => by rw [z] at e; simp at e
      have : keepB (colF t a b c) u v = false := keepB_false.mpr fun k => e1 (k (x, y)).symm
      rw [this] at h
      exact h
    · have e1 : colF t a b c (x, y) = colF t a b c (x + u, y + v) := by
        have : chr1 (colF t a b c (x, y)) = chr1 (colF t a b c (x + u, y + v)) := by simpa using e
        unfold chr1 at this
        simpa using this
      refine ⟨fun p hp => ?_, _, rfl⟩
      rw [List.take_succ, hq] at hp
      rcases List.mem_append.mp hp with z | z
      · exact hn p z
      · have : p = (x, y) := by simpa using z
        rw [this]
        exact e1
  · rintro ρ ⟨hn, o3, rfl⟩
    have hl : ((MN.spotsL a.toNat c.toNat).map plD).length = (MN.spotsL a.toNat c.toNat).length := List.length_map _
    rw [hl, List.take_length] at hn
    have k : keepB (colF t a b c) u v = true := keepB_iff.mpr (MN.keeps_cell o.ok hn)
    show Q (.bl true)
    rw [← k]
    exact h
end
end K11
namespace K11
open PySem PySem.Spec PyProof.Rows L2 Z Y
section
variable {P : Program} {w : World} {K : Frg} {mg : Str → Option Value} {base : Heap}
theorem ok_kept_net (T : Tx w K mg) : FnG P w K mg base (L2.CX P w) 7 (He.ga K "kept_net") (spP K R_kept_net) := by
  refine y_fn T.d_kept_net sc_kept_net arl2 (fun _ _ _ _ _ _ us hl => match us, hl with | [_, _], _ => rfl) fun cdv A outer s H E B hB hr hx po => ⟨_, (s_cons (s_asg (t := .tp [2, 3, 4]) (y_prop (cs := ["Net"]) (ns := ["own_numbers"]) (y_var (pv 0)) (all1 ⟨T.cl_Net, _, T.p_Net_numbers⟩) (ok_Net_numbers T) (hr.mono (by decide)) px_nox) (g_tp (is := [2, 3, 4]) rfl (pgs_cons (pg_name (i := 2) sc_kept_net.nd rfl (by first | exact Or.inl rfl | exact Or.inr rfl)) (pgs_cons (pg_name (i := 3) sc_kept_net.nd rfl (by first | exact Or.inl rfl | exact Or.inr rfl)) (pgs_cons (pg_name (i := 4) sc_kept_net.nd rfl (by first | exact Or.inl rfl | exact Or.inr rfl)) pgs_nil)))))
  (s_cut (s_set (i := 5) sc_kept_net.nd rfl (by first | exact Or.inl rfl | exact Or.inr rfl) (y_ix (y_lc (own := [("number", 8)]) (t := .nm 8) rfl sc_kept_net.nd (i_lst (y_call (ok_divisors T) (hr.mono (by decide)) rfl T.g_divisors T.k_divisors hx (a_cons (y_var (pv 2)) a_nil))) (blkOk_by (own := [("number", 8)]) (N := N_kept_net) (sc := defScope s_kept_net) (by decide +kernel)) (fun _ _ _ _ _ => (g_nm (pg_name (i := 8) sc_kept_net.nd rfl (by first | exact Or.inl rfl | exact Or.inr rfl)))) (fun _ _ _ _ _ => (c_one (z_val (y_call (ok_is_kept T) (hr.mono (by decide)) rfl T.g_is_kept T.k_is_kept px_nox (a_cons (y_var (pv 0)) (a_cons (y_var (pv 1)) (a_cons (y_tup (a_cons (y_var (pv 8)) (a_cons y_int a_nil))) a_nil))))))) (fun _ _ _ _ _ => (y_var (pv 8)))) y_int (fun _ _ => rfl)))
  (s_cons (s_for (t := .nm 6) po rfl (i_lst (y_call (ok_divisors T) (hr.mono (by decide)) rfl T.g_divisors T.k_divisors hx (a_cons (y_var (pv 4)) a_nil))) (g_nm (pg_name (i := 6) sc_kept_net.nd rfl (by first | exact Or.inl rfl | exact Or.inr rfl)))
    (s_one (s_for (t := .nm 7) po rfl (i_rng1 (by rfl) T.b_range (a_cons (y_var (pv 5)) a_nil)) (g_nm (pg_name (i := 7) sc_kept_net.nd rfl (by first | exact Or.inl rfl | exact Or.inr rfl)))
    (s_one (s_if (z_val (y_call (ok_is_kept T) (hr.mono (by decide)) rfl T.g_is_kept T.k_is_kept hx (a_cons (y_var (pv 0)) (a_cons (y_var (pv 1)) (a_cons (y_tup (a_cons (y_var (pv 7)) (a_cons (y_var (pv 6)) a_nil))) a_nil)))))
    (s_one (s_ret (y_make T.mk_Net (ok_Net_UinitU T) (hr.mono (by decide)) rfl T.g_Net hx (a_cons (y_var (pv 5)) (a_cons (y_var (pv 7)) (a_cons (y_var (pv 6)) a_nil))))))
    s_nil)))))
  (s_one (s_ret (y_var (pv 0))))))), fun ds Q h => ?_⟩
  obtain ⟨a0, a1, e0, hh⟩ := ar2E h
  clear h
  subst e0
  have h := hh
  clear hh
  try dsimp only at h
  rw [show startE (List.length N_kept_net) [a0, a1] = [.val a0, .val a1, .no, .no, .no, .no, .no, .no, .no] from rfl]
  obtain ⟨a, b, c, t, rfl, rfl, o, h⟩ := h
  have ha := o.a
  have hc := o.c
  have z0 : Sz 3000 (0 : Int) := szP (by decide) (by decide)
  have ka : MN.Keeps (colF t a b c) a 0 := MN.keeps_net o.ok ⟨1, 0, by omega, by omega⟩
  have kbc : MN.Keeps (colF t a b c) b c := MN.keeps_net o.ok ⟨0, 1, by omega, by omega⟩
  have dl : ∀ n : Int, 0 < n → n ≤ 5000 → ((MN.divL n).map D.int).length ≤ 100000 := fun n n0 n1 => by
    rw [List.length_map]
    have := List.length_filter_le (fun d => decide (n % d = 0)) (MN.upL n.toNat)
    have e : (MN.upL n.toNat).length = n.toNat := by simp [MN.upL]
    unfold MN.divL
    omega
  refine ⟨.head _, rfl, a, b, c, rfl, ?_⟩
  refine ⟨fun ρ => ∃ w, w ∈ MN.divL a ∧ MN.Keeps (colF t a b c) w 0 ∧ (∀ d ∈ MN.divL a, d < w → ¬ MN.Keeps (colF t a b c) d 0) ∧ ∃ o8, ρ = [.val (dNet a b c), .val (.str t), .val (.int a), .val (.int b), .val (.int c), .val (.int w), .no, .no, o8], ?_, ?_⟩
  · refine ⟨a, rfl, ⟨by omega, by have := o.al; omega⟩, dl a ha o.al, ?_⟩
    refine ⟨fun i acc => acc = (((MN.divL a).take i).filter fun d => keepB (colF t a b c) d 0).map D.int, rfl, fun i d acc hd hj => ?_, fun out hj => ?_⟩
    · obtain ⟨n, hq, rfl⟩ := map_get hd
      refine ⟨leN rfl, a, b, c, t, n, 0, rfl, rfl, rfl, ⟨o, z0⟩, ifB_2 (fun e => ?_) (fun e => ?_)⟩
      · show acc ++ [D.int n] = _
        rw [hj, List.take_succ, hq, List.filter_append, List.map_append]
        simp [e]
      · show acc = _
        rw [hj, List.take_succ, hq, List.filter_append, List.map_append]
        simp [e]
    · rw [List.length_map, List.take_length] at hj
      subst hj
      have am : a ∈ (MN.divL a).filter fun d => keepB (colF t a b c) d 0 := List.mem_filter.mpr ⟨(MN.divL_mem ha).mpr ⟨ha, Int.dvd_refl a⟩, keepB_iff.mpr ka⟩
      have hs : ((MN.divL a).filter fun d => keepB (colF t a b c) d 0).Pairwise (· < ·) := (MN.divL_sorted a).filter _
      cases hf : (MN.divL a).filter fun d => keepB (colF t a b c) d 0 with
      | nil => rw [hf] at am; cases am
      | cons w rest =>
        have wm : w ∈ (MN.divL a).filter fun d => keepB (colF t a b c) d 0 := by rw [hf]; exact List.mem_cons_self
        obtain ⟨w1, w2⟩ := List.mem_filter.mp wm
        rw [hf] at hs
        show dIx (.lst (D.int w :: rest.map D.int)) (.int 0) _
        refine dIx_l atI_0 ⟨w, w1, keepB_iff.mp w2, fun d hd hlt hk => ?_, _, rfl⟩
        have dm : d ∈ (MN.divL a).filter fun d => keepB (colF t a b c) d 0 := List.mem_filter.mpr ⟨hd, keepB_iff.mpr hk⟩
        rw [hf] at dm
        rcases List.mem_cons.mp dm with e | e
        · omega
        · have := (List.pairwise_cons.mp hs).1 d e
          omega
  rintro ρ ⟨w, wm, kw, wf, o8, rfl⟩
  obtain ⟨w0, wa⟩ := (MN.divL_mem ha).mp wm
  have wl := Int.le_of_dvd ha wa
  have wmin := MN.width_min ha ka wm kw wf
  refine ⟨c, rfl, ⟨by omega, by have := o.cl; omega⟩, fun i ρ => (∀ d ∈ (MN.divL c).take i, ∀ u, 0 ≤ u → u < w → ¬ MN.Keeps (colF t a b c) u d) ∧ ∃ o6 o7, ρ = [.val (dNet a b c), .val (.str t), .val (.int a), .val (.int b), .val (.int c), .val (.int w), o6, o7, o8], ⟨fun d hd => by simp at hd, _, _, rfl⟩, ?_, ?_⟩
  · rintro i d ρ hd ⟨hn, o6, o7, rfl⟩
    obtain ⟨r, hq, rfl⟩ := map_get hd
    have rm := List.mem_of_getElem? hq
    obtain ⟨r0, rc⟩ := (MN.divL_mem hc).mp rm
    have rl := Int.le_of_dvd hc rc
    have zr : Sz 13 r := sz13 (by omega) (by have := o.cl; omega)
    refine ⟨by have := o.al; omega, by have := o.al; omega, fun j ρ => (∀ u, 0 ≤ u → u < (j : Int) → ¬ MN.Keeps (colF t a b c) u r) ∧ ∃ o7, ρ = [.val (dNet a b c), .val (.str t), .val (.int a), .val (.int b), .val (.int c), .val (.int w), .val (.int r), o7, o8], ⟨fun u u0 u1 => absurd u0 (by omega), _, rfl⟩, ?_, ?_⟩
    · rintro j e ρ he ⟨hm, o7, rfl⟩
      obtain ⟨hj, rfl⟩ := rngD_at he
      rw [Int.zero_add]
      have hjw : (j : Int) < w := by omega
      refine ⟨leN rfl, a, b, c, t, (j : Int), r, rfl, rfl, rfl, ⟨o, zr.mono (by decide)⟩, ifB_2 (fun ek => ?_) (fun ek => ?_)⟩
      · have kk := keepB_iff.mp ek
        have rmin := MN.rows_min hc w0 kw rm kk fun d hd hlt => hn d (MN.ahead (MN.divL_sorted c) hq hd hlt)
        exact ⟨⟨by omega, by omega, hjw⟩, h w (j : Int) r (MN.exact_of w0 r0 (by omega) hjw kw wmin kk rmin) wl rl⟩
      · refine ⟨fun u u0 u1 => ?_, _, rfl⟩
        by_cases hu : u = (j : Int)
        · rw [hu]
          exact keepB_false.mp ek
        · exact hm u u0 (by omega)
    · rintro ρ ⟨hm, o7, rfl⟩
      have hl : (rngD 0 w.toNat).length = w.toNat := by simp [rngD]
      rw [hl] at hm
      refine ⟨fun d hd => ?_, _, _, rfl⟩
      rw [List.take_succ, hq] at hd
      rcases List.mem_append.mp hd with z | z
      · exact hn d z
      · have : d = r := by simpa using z
        rw [this]
        exact fun u u0 u1 => hm u u0 (by omega)
  · rintro ρ ⟨hn, o6, o7, rfl⟩
    rw [List.length_map, List.take_length] at hn
    exact absurd (MN.keeps_mod kw kbc) (hn c ((MN.divL_mem hc).mpr ⟨hc, Int.dvd_refl c⟩) _ (Int.emod_nonneg _ (by omega)) (Int.emod_lt_of_pos _ w0))
end
end K11
namespace K11
open PySem PySem.Spec PyProof.Rows L2 Z Y
section
variable {P : Program} {w : World} {K : Frg} {mg : Str → Option Value} {base : Heap}
theorem ok_least_cell (T : Tx w K mg) : FnG P w K mg base (L2.CX P w) 9 (He.ga K "least_cell") (spP K R_least_cell) := by
  refine y_fn T.d_least_cell sc_least_cell arl2 (fun _ _ _ _ _ _ us hl => match us, hl with | [_, _], _ => rfl) fun cdv A outer s H E B hB hr hx po => ⟨_, (s_cons (s_set (i := 2) sc_least_cell.nd rfl (by first | exact Or.inl rfl | exact Or.inr rfl) (y_call (ok_kept_net T) (hr.mono (by decide)) rfl T.g_kept_net T.k_kept_net hx (a_cons (y_var (pv 0)) (a_cons (y_var (pv 1)) a_nil))))
  (s_one (s_ret (y_tup (a_cons (y_var (pv 2)) (a_cons (y_join y_str (y_lc (own := [("place", 3)]) (t := .nm 3) rfl sc_least_cell.nd (i_lst (y_meth0 (cs := ["Net"]) (ns := ["own_numbers"]) (y_var (pv 2)) (all1 ⟨T.cl_Net, T.m_Net_spots⟩) (ok_Net_spots T) (hr.mono (by decide)) hx)) (blkOk_by (own := [("place", 3)]) (N := N_least_cell) (sc := defScope s_least_cell) (by decide +kernel)) (fun _ _ _ _ _ => (g_nm (pg_name (i := 3) sc_least_cell.nd rfl (by first | exact Or.inl rfl | exact Or.inr rfl)))) (fun _ _ _ _ _ => c_nil) (fun _ _ _ _ _ => (y_call (ok_colour_at T) (hr.mono (by decide)) rfl T.g_colour_at T.k_colour_at px_nox (a_cons (y_var (pv 0)) (a_cons (y_var (pv 1)) (a_cons (y_var (pv 3)) a_nil))))))) a_nil)))))), fun ds Q h => ?_⟩
  obtain ⟨a0, a1, e0, hh⟩ := ar2E h
  clear h
  subst e0
  have h := hh
  clear hh
  try dsimp only at h
  rw [show startE (List.length N_least_cell) [a0, a1] = [.val a0, .val a1, .no, .no] from rfl]
  obtain ⟨a, b, c, t, rfl, rfl, o, h⟩ := h
  refine ⟨a, b, c, t, rfl, rfl, o, fun w q r ex hw hr => ?_⟩
  have cp := carp_of o ex hw hr
  have w0 : 0 < w := by have := ex.1.2; omega
  have r0 : 0 < r := by have := ex.1.1; omega
  have hlen : (MN.spotsL w.toNat r.toNat).length ≤ 5000 := by
    rw [MN.spotsL_len]
    obtain ⟨w', rfl⟩ := Int.eq_ofNat_of_zero_le (Int.le_of_lt w0)
    obtain ⟨r', rfl⟩ := Int.eq_ofNat_of_zero_le (Int.le_of_lt r0)
    have := cp.mx
    rw [Int.toNat_natCast, Int.toNat_natCast]
    have e : ((w' * r' : Nat) : Int) ≤ 5000 := by rw [Int.natCast_mul]; exact this
    omega
  refine ⟨.head _, rfl, w, q, r, rfl, ⟨ex.1, by have := cp.mx; omega⟩, by rw [List.length_map]; omega, ?_⟩
  refine ⟨fun i acc => acc = (((MN.spotsL w.toNat r.toNat).take i).map fun p => D.str (chr1 (colF t a b c p))), rfl, fun i d acc hd hj => ?_, fun out hj => ?_⟩
  · obtain ⟨⟨x, y⟩, hq, rfl⟩ := map_get hd
    obtain ⟨m1, m2, m3, m4⟩ := MN.spotsL_mem.mp (List.mem_of_getElem? hq)
    have m4' : y < r := by have : y < ((r.toNat : Nat) : Int) := m4; omega
    have zy : Sz 13 y := sz13 m3 (by have := o.cl; omega)
    refine ifB_T rfl ⟨a, b, c, t, x, y, rfl, rfl, rfl, ⟨o, zy.mono (by decide)⟩, ?_⟩
    show acc ++ [_] = _
    rw [hj, List.take_succ, hq, List.map_append]
    rfl
  · rw [List.length_map, List.take_length] at hj
    subst hj
    have es : (MN.spotsL w.toNat r.toNat).map (fun p => D.str (chr1 (colF t a b c p))) = ((MN.cellT (colF t a b c) w r).map chr1).map D.str := by
      unfold MN.cellT
      rw [List.map_map, List.map_map]
      rfl
    show dJoin (.str "") (.lst _) _
    rw [es]
    unfold dJoin
    dsimp only
    rw [strsOf_str]
    refine ⟨?_, ?_⟩
    · have e1 := sum_chr1 (MN.cellT (colF t a b c) w r)
      have e2 : ("" : Str).length = 0 := by decide +kernel
      rw [e1, e2, Nat.mul_zero]
      unfold MN.cellT
      rw [List.length_map]
      omega
    · rw [join_chrs]
      exact ⟨leN rfl, h w q r ex hw hr⟩
end
end K11
namespace K11
open PySem PySem.Spec PyProof.Rows L2 Z Y
section
variable {P : Program} {w : World} {K : Frg} {mg : Str → Option Value} {base : Heap}
theorem ok_is_colour (T : Tx w K mg) : FnG P w K mg base (L2.CX P w) 1 (He.ga K "is_colour") (spP K R_is_colour) := by
  refine y_fn T.d_is_colour sc_is_colour arl1 (fun _ _ _ _ _ _ us hl => match us, hl with | [_], _ => rfl) fun cdv A outer s H E B hB hr hx po => ⟨_, (s_one (s_ret (y_and (y_callB call_isi (isBL (cs := []) (T := "str") (by decide) all0) (by rfl) T.b_isinstance (by decide +kernel) (a_cons (y_var (pv 0)) (a_cons (y_ty (n := "str") rfl T.b_str (by decide +kernel)) a_nil))) (y_and (y_cmp (op_eqY hr.units) eqL (y_callB call_lenY lenL (by rfl) T.b_len (by decide +kernel) (a_cons (y_var (pv 0)) a_nil)) y_int (nomark _)) (y_one (y_cmp (op_inY (hu65 hr)) inL (y_var (pv 0)) (y_globS rfl T.g_LETTERS) rfl)))))), fun ds Q h => ?_⟩
  obtain ⟨a0, e0, hh⟩ := ar1E h
  clear h
  subst e0
  have h := hh
  clear hh
  try dsimp only at h
  rw [show startE (List.length N_is_colour) [a0] = [.val a0] from rfl]
  obtain ⟨⟨kn, ln⟩, h⟩ := h
  cases a0 with
  | str s =>
    refine ⟨rfl, ifB_T rfl ⟨ln s rfl, ?_⟩⟩
    by_cases e : (s.length : Int) = 1
    · refine ifB_T (decide_eq_true e) ?_
      have e2 : isCol (.str s) = occ LETS s := by
        show (decide ((s.length : Int) = 1) && occ LETS s) = _
        rw [decide_eq_true e]
        rfl
      rw [e2] at h
      exact (by simpa using h : Q (.bl (false != occ LETS s)))
    · refine ifB_F (decide_eq_false e) ?_
      have e2 : isCol (.str s) = false := by
        show (decide ((s.length : Int) = 1) && occ LETS s) = _
        rw [decide_eq_false e]
        rfl
      rw [e2] at h
      exact h
  | obj => exact kn.elim
  | ty => exact kn.elim
  | glob => exact kn.elim
  | tape => exact kn.elim
  | fn => exact kn.elim
  | dpl => exact kn.elim
  | _ => exact ⟨rfl, ifB_F rfl h⟩
end
end K11
namespace K11
open PySem PySem.Spec PyProof.Rows L2 Z Y
section
variable {P : Program} {w : World} {K : Frg} {mg : Str → Option Value} {base : Heap}
theorem ok_check_colour (T : Tx w K mg) : FnG P w K mg base (L2.CX P w) 3 (He.ga K "check_colour") (spP K R_check_colour) := by
  refine y_fnX T.d_check_colour sc_check_colour arl1 (fun _ _ _ _ _ _ us hl => match us, hl with | [_], _ => rfl) fun cdv A outer s H E B hB hr hx po tk => ⟨_, (s_one (s_if (z_not (z_val (y_call (ok_is_colour T) (hr.mono (by decide)) rfl T.g_is_colour T.k_is_colour hx (a_cons (y_var (pv 0)) a_nil))))
    (s_one (s_raise rfl tk (T.xc_InvalidColour.t T.d_InvalidColour_UinitU ⟨_, _, rfl⟩ ⟨_, _, _, _, rfl⟩ rfl) (.inl rfl) hr (y_var (pv 0)) rfl T.g_InvalidColour))
    s_nil)), fun ds Q h => ?_⟩
  obtain ⟨a0, e0, hh⟩ := ar1E h
  clear h
  subst e0
  have h := hh
  clear hh
  try dsimp only at h
  rw [show startE (List.length N_check_colour) [a0] = [.val a0] from rfl]
  obtain ⟨hc, h⟩ := h
  refine ⟨hc, ?_⟩
  rcases h with ⟨e, h⟩ | ⟨e, h⟩
  · refine ifB_T (by rw [e]; rfl) h
  · refine ifB_F (by rw [e]; rfl) h
end
end K11
namespace K11
open PySem PySem.Spec PyProof.Rows L2 Z Y
section
variable {P : Program} {w : World} {K : Frg} {mg : Str → Option Value} {base : Heap}
theorem ok_is_row (T : Tx w K mg) : FnG P w K mg base (L2.CX P w) 1 (He.ga K "is_row") (spP K R_is_row11) := by
  refine y_fn T.d_is_row sc_is_row arl3 (fun _ _ _ _ _ _ us hl => match us, hl with | [_, _, _], _ => rfl) fun cdv A outer s H E B hB hr hx po => ⟨_, (s_one (s_ret (y_and (y_callB call_isi (isBL (cs := []) (T := "str") (by decide) all0) (by rfl) T.b_isinstance (by decide +kernel) (a_cons (y_var (pv 0)) (a_cons (y_ty (n := "str") rfl T.b_str (by decide +kernel)) a_nil))) (y_and (y_chain op_le cmpL op_le cmpL y_int (y_callB call_lenY lenL (by rfl) T.b_len (by decide +kernel) (a_cons (y_var (pv 0)) a_nil)) (y_var (pv 2))) (y_one (y_callB (cr_all rfl) (allL (f := fun bs => bs.all id)) (by rfl) T.b_all (by decide +kernel) (a_cons (y_lc (own := [("sign", 3)]) (t := .nm 3) rfl sc_is_row.nd (i_str (y_var (pv 0))) (blkOk_by (own := [("sign", 3)]) (N := N_is_row) (sc := defScope s_is_row) (by decide +kernel)) (fun _ _ _ _ _ => (g_nm (pg_name (i := 3) sc_is_row.nd rfl (by first | exact Or.inl rfl | exact Or.inr rfl)))) (fun _ _ _ _ _ => c_nil) (fun _ _ _ _ _ => (y_cmp (op_inY (hu65 hr)) inL (y_var (pv 3)) (y_var (pv 1)) rfl))) a_nil))))))), fun ds Q h => ?_⟩
  obtain ⟨a0, a1, a2, e0, hh⟩ := ar3E h
  clear h
  subst e0
  have h := hh
  clear hh
  try dsimp only at h
  rw [show startE (List.length N_is_row) [a0, a1, a2] = [.val a0, .val a1, .val a2, .no] from rfl]
  obtain ⟨n, rfl, rfl, ⟨kn, ln⟩, h⟩ := h
  cases a0 with
  | str t =>
    have l3 := ln t rfl
    refine ⟨rfl, ifB_T rfl ⟨l3, ?_⟩⟩
    by_cases e1 : (1 : Int) ≤ (t.length : Nat)
    · refine ifB_T (decide_eq_true e1) ?_
      by_cases e2 : ((t.length : Nat) : Int) ≤ n
      · refine ifB_T (decide_eq_true e2) ⟨by unfold chrs; rw [List.length_map, ← row_slen]; omega, ?_⟩
        refine mapI_fun (xs := t.cps.toList) (f := fun c => D.str ⟨#[c]⟩) (g := fun c => D.bl (occ LETS ⟨#[c]⟩)) (fun c hc K hk => ?_) ?_
        · dsimp only [tgD]
          refine v_ (d := .str ⟨#[c]⟩) rfl ?_
          refine v_ (d := .str LETS) rfl ?_
          exact (by simpa using hk : K (.bl (false != occ LETS ⟨#[c]⟩)))
        have key : ∀ l : List Nat, blsOf (l.map fun c => D.bl (occ LETS ⟨#[c]⟩)) = some (l.map fun c => occ LETS ⟨#[c]⟩) := by
          intro l
          induction l with
          | nil => rfl
          | cons c l ih =>
            show (blsOf (l.map _)).map (occ LETS ⟨#[c]⟩ :: ·) = _
            rw [ih]
            rfl
        show dAll _ [.lst (t.cps.toList.map fun c => D.bl (occ LETS ⟨#[c]⟩))] _
        unfold dAll
        dsimp only
        rw [key]
        have e : rowB n (.str t) = (t.cps.toList.map fun c => occ LETS ⟨#[c]⟩).all id := by
          show ((decide _ && decide _) && _) = _
          rw [decide_eq_true e1, decide_eq_true e2, List.all_map]
          rfl
        rw [e] at h
        exact h
      · refine ifB_F (decide_eq_false e2) ?_
        have e : rowB n (.str t) = false := by
          show ((decide _ && decide _) && _) = _
          rw [decide_eq_false e2, Bool.and_false]
          rfl
        rw [e] at h
        exact h
    · refine ifB_F (decide_eq_false e1) (ifB_F rfl ?_)
      have e : rowB n (.str t) = false := by
        show ((decide _ && decide _) && _) = _
        rw [decide_eq_false e1]
        rfl
      rw [e] at h
      exact h
  | obj => exact kn.elim
  | ty => exact kn.elim
  | glob => exact kn.elim
  | tape => exact kn.elim
  | fn => exact kn.elim
  | dpl => exact kn.elim
  | _ => exact ⟨rfl, ifB_F rfl h⟩
end
end K11
namespace K11
open PySem PySem.Spec PyProof.Rows L2 Z Y
section
variable {P : Program} {w : World} {K : Frg} {mg : Str → Option Value} {base : Heap}
theorem ok_check_rows (T : Tx w K mg) : FnG P w K mg base (L2.CX P w) 3 (He.ga K "check_rows") (spP K R_check_rows11) := by
  refine y_fnX T.d_check_rows sc_check_rows arl3 (fun _ _ _ _ _ _ us hl => match us, hl with | [_, _, _], _ => rfl) fun cdv A outer s H E B hB hr hx po tk => ⟨_, (s_cons (s_if (z_pt (z_or (z_not (z_val (y_isLT (y_var (pv 0)) (pe_bltn (v := .ty "list") (by rfl) T.b_list (by decide +kernel) rfl (by decide) (by decide)) (pe_bltn (v := .ty "tuple") (by rfl) T.b_tuple (by decide +kernel) rfl (by decide) (by decide)) (by rfl) T.b_isinstance))) (z_or1 (z_not (z_chain op_le cmpL op_le cmpL y_int (y_callB call_lenY lenL (by rfl) T.b_len (by decide +kernel) (a_cons (y_var (pv 0)) a_nil)) (y_var (pv 2)))))))
    (s_one (s_raise rfl tk (T.xc_InvalidRows.t T.d_InvalidRows_UinitU ⟨_, _, rfl⟩ ⟨_, _, _, _, rfl⟩ rfl) (.inr (.inl rfl)) hr y_non rfl T.g_InvalidRows))
    s_nil)
  (s_one (s_for (t := .tp [3, 4]) po rfl (i_enumZ (by rfl) T.b_enumerate (y_var (pv 0))) (g_tp (is := [3, 4]) rfl (pgs_cons (pg_name (i := 3) sc_check_rows.nd rfl (by first | exact Or.inl rfl | exact Or.inr rfl)) (pgs_cons (pg_name (i := 4) sc_check_rows.nd rfl (by first | exact Or.inl rfl | exact Or.inr rfl)) pgs_nil)))
    (s_one (s_if (z_pt (z_or (z_not (z_val (y_call (ok_is_row T) (hr.mono (by decide)) rfl T.g_is_row T.k_is_row hx (a_cons (y_var (pv 4)) (a_cons (y_var (pv 1)) (a_cons (y_var (pv 2)) a_nil)))))) (z_or1 (z_cmp (op_neY hr.units) neL (y_callB call_lenY lenL (by rfl) T.b_len (by decide +kernel) (a_cons (y_var (pv 4)) a_nil)) (y_callB call_lenY lenL (by rfl) T.b_len (by decide +kernel) (a_cons (y_ix (y_var (pv 0)) y_int (fun _ _ => rfl)) a_nil)) (nomark _)))))
    (s_one (s_raise rfl tk (T.xc_InvalidRows.t T.d_InvalidRows_UinitU ⟨_, _, rfl⟩ ⟨_, _, _, _, rfl⟩ rfl) (.inr (.inl rfl)) hr (y_var (pv 3)) rfl T.g_InvalidRows))
    s_nil))))), fun ds Q h => ?_⟩
  obtain ⟨a0, a1, a2, e0, hh⟩ := ar3E h
  clear h
  subst e0
  have h := hh
  clear hh
  try dsimp only at h
  rw [show startE (List.length N_check_rows) [a0, a1, a2] = [.val a0, .val a1, .val a2, .no, .no] from rfl]
  obtain ⟨rfl, rfl, h⟩ := h
  rcases h with h | ⟨rs, w, ⟨hs, hb⟩, h⟩
  · rcases h with ⟨⟨kn, n1, n2⟩, h⟩ | ⟨ds, hs, h⟩
    · cases a0 with
      | lst ds => exact absurd rfl (n1 ds)
      | tup ds => exact absurd rfl (n2 ds)
      | obj => exact kn.elim
      | ty => exact kn.elim
      | glob => exact kn.elim
      | tape => exact kn.elim
      | fn => exact kn.elim
      | dpl => exact kn.elim
      | _ => exact ⟨rfl, ifB_T rfl (ifB_T rfl h)⟩
    · rcases h with ⟨hl, hm, h⟩ | ⟨d0, ds', rfl, hn, hc, i, ⟨di, hdi, gi⟩, hj, h⟩
      · rcases hs with rfl | rfl
        all_goals
          refine ⟨rfl, ifB_F rfl ?_⟩
          by_cases e1 : (1 : Int) ≤ (ds.length : Nat)
          · refine ifB_T (decide_eq_true e1) (ifB_T ?_ h)
            show (!decide _) = true
            rw [decide_eq_false (by omega)]
            rfl
          · exact ifB_F (decide_eq_false e1) (ifB_T rfl h)
      · have i2 := lt_of_get hdi
        have cl : (d0 :: ds').length = ds'.length + 1 := rfl
        have first : ∀ j ≤ i, ∀ d, (d0 :: ds')[j]? = some d → rowB 100 d = true → ∃ t0, d0 = .str t0 ∧ t0.length ≤ 100000 := by
          intro j hji d hd rd
          have r0 : rowB 100 d0 = true := by
            cases j with
            | zero => cases hd; exact rd
            | succ j => exact (He.ba (hj 0 (by omega) d0 rfl)).1
          have k0 := (hc d0 List.mem_cons_self).2
          cases d0 with
          | str t0 => exact ⟨t0, rfl, k0 t0 rfl⟩
          | _ => cases r0
        rcases hs with rfl | rfl
        all_goals
          refine ⟨rfl, ifB_F rfl (ifB_T (decide_eq_true (by omega)) (ifB_F ?_ ?_))⟩
          · show (!decide _) = false
            rw [decide_eq_true (by omega)]
            rfl
          · refine ⟨fun j ρ => j ≤ i ∧ ∃ o3 o4, ρ = [.val _, .val (.str LETS), .val (.int 100), o3, o4], ⟨Nat.zero_le _, _, _, rfl⟩, ?_, ?_⟩
            · rintro j d ρ hd ⟨ji, o3, o4, rfl⟩
              unfold enumD at hd
              obtain ⟨j', hj', rfl⟩ := map_get hd
              have hj2 := lt_of_get hj'
              rw [List.length_range] at hj2
              rw [List.getElem?_range hj2] at hj'
              cases hj'
              obtain ⟨e, he⟩ : ∃ e, (d0 :: ds')[j]? = some e := ⟨_, List.getElem?_eq_getElem hj2⟩
              rw [he]
              dsimp only [Option.getD_some]
              have hm := List.mem_of_getElem? he
              have hce := hc e hm
              refine ⟨100, rfl, rfl, hce, ?_⟩
              cases rb : rowB 100 e with
              | false =>
                refine ifB_T rfl (ifB_T rfl ?_)
                rcases Nat.lt_or_ge j i with z | z
                · have := (He.ba (hj j z e he)).1
                  rw [rb] at this
                  cases this
                · obtain rfl : j = i := by omega
                  exact h
              | true =>
                refine ifB_F rfl ?_
                obtain ⟨t0, rfl, lt0⟩ := first j ji e he rb
                obtain ⟨t, rfl⟩ : ∃ t, e = .str t := by
                  cases e with
                  | str t => exact ⟨t, rfl⟩
                  | _ => cases rb
                refine ⟨hce.2 t rfl, ?_⟩
                first | refine dIx_l (atI_0 (x := D.str t0) (xs := ds')) ⟨lt0, ?_⟩ | refine dIx_t (atI_0 (x := D.str t0) (xs := ds')) ⟨lt0, ?_⟩
                rcases Nat.lt_or_ge j i with z | z
                · have g := of_decide_eq_true (He.ba (hj j z _ he)).2
                  have g' : t.length = t0.length := g
                  refine ifB_F ?_ ⟨z, _, _, rfl⟩
                  show (!decide _) = false
                  rw [decide_eq_true (by omega)]
                  rfl
                · obtain rfl : j = i := by omega
                  rw [he] at hdi
                  cases hdi
                  refine ifB_T ?_ h
                  unfold goodR at gi
                  rw [rb, Bool.true_and] at gi
                  have g' : ¬ t.length = t0.length := of_decide_eq_false gi
                  show (!decide _) = true
                  rw [decide_eq_false (by omega)]
                  rfl
            · rintro ρ ⟨le, o3, o4, rfl⟩
              have : (enumD (d0 :: ds')).length = (d0 :: ds').length := by unfold enumD; rw [List.length_map, List.length_range]
              omega
  obtain ⟨r0, rest, rfl⟩ : ∃ r0 rest, rs = r0 :: rest := by
    cases rs with
    | nil => have := hb.n1; simp at this
    | cons a b => exact ⟨a, b, rfl⟩
  have hr0 := hb.row r0 List.mem_cons_self
  have hlen : ((r0 :: rest).map D.str).length = (r0 :: rest).length := List.length_map _
  have n1 := hb.n1
  have n2 := hb.n2
  have w1 := hb.w1
  have w2 := hb.w2
  have sl := row_slen
  rcases hs with rfl | rfl
  all_goals
    refine ⟨rfl, ifB_F rfl (ifB_T (decide_eq_true (by rw [hlen]; omega)) (ifB_F ?_ ?_))⟩
    · show (!decide _) = false
      rw [decide_eq_true (by rw [hlen]; omega)]
      rfl
    · refine ⟨fun i ρ => ∃ o3 o4, ρ = [.val _, .val (.str LETS), .val (.int 100), o3, o4], ⟨_, _, rfl⟩, ?_, ?_⟩
      · rintro i d ρ hd ⟨o3, o4, rfl⟩
        unfold enumD at hd
        obtain ⟨j, hj, rfl⟩ := map_get hd
        have hj2 := lt_of_get hj
        rw [List.length_range] at hj2
        rw [List.getElem?_range hj2] at hj
        cases hj
        obtain ⟨t, ht⟩ : ∃ t, (r0 :: rest)[i]? = some t := ⟨_, List.getElem?_eq_getElem (by rw [hlen] at hj2; exact hj2)⟩
        have e : ((r0 :: rest).map D.str)[i]? = some (.str t) := by rw [List.getElem?_map, ht]; rfl
        rw [e]
        dsimp only [Option.getD_some]
        have hm := List.mem_of_getElem? ht
        have hw := hb.row t hm
        refine ⟨100, rfl, rfl, ⟨trivial, fun s e => by cases e; rw [sl]; omega⟩, ?_⟩
        rw [rowB_str (n := 100) (by omega) (by omega) (hb.oc t hm)]
        refine ifB_F rfl ⟨by rw [sl]; omega, ?_⟩
        first | refine dIx_l (atI_0 (x := D.str r0) (xs := rest.map D.str)) ⟨by rw [sl]; omega, ifB_F ?_ ⟨_, _, rfl⟩⟩ | refine dIx_t (atI_0 (x := D.str r0) (xs := rest.map D.str)) ⟨by rw [sl]; omega, ifB_F ?_ ⟨_, _, rfl⟩⟩
        show (!decide _) = false
        rw [decide_eq_true (by rw [sl, sl]; omega)]
        rfl
      · rintro ρ ⟨o3, o4, rfl⟩
        exact h
end
end K11
namespace K11
open PySem PySem.Spec PyProof.Rows L2 Z Y
section
variable {P : Program} {w : World} {K : Frg} {mg : Str → Option Value} {base : Heap}
theorem ok_checked_block (T : Tx w K mg) : FnG P w K mg base (L2.CX P w) 7 (He.ga K "checked_block") (spP K R_checked_block11) := by
  refine y_fnX T.d_checked_block sc_checked_block arl2 (fun _ _ _ _ _ _ us hl => match us, hl with | [_, _], _ => rfl) fun cdv A outer s H E B hB hr hx po tk => ⟨_, (s_cons (s_expr (y_call (ok_check_rows T) (hr.mono (by decide)) rfl T.g_check_rows T.k_check_rows hx (a_cons (y_var (pv 0)) (a_cons (y_globS rfl T.g_LETTERS) (a_cons (y_globI rfl T.g_MOST_ROWS) a_nil)))))
  (s_cons (s_if (z_cmp op_gt cmpL (y_op op_mulY mulL (y_callB call_lenY lenL (by rfl) T.b_len (by decide +kernel) (a_cons (y_var (pv 0)) a_nil)) (y_callB call_lenY lenL (by rfl) T.b_len (by decide +kernel) (a_cons (y_ix (y_var (pv 0)) y_int (fun _ _ => rfl)) a_nil))) (y_globI rfl T.g_MOST_LETTERS) (nomark _))
    (s_one (s_raise rfl tk (T.xc_LimitExceeded.t T.d_LimitExceeded_UinitU ⟨_, _, rfl⟩ ⟨_, _, _, _, rfl⟩ rfl) (.inr (.inr (.inl rfl))) hr (y_globI rfl T.g_MOST_LETTERS) rfl T.g_LimitExceeded))
    s_nil)
  (s_cons (s_if (z_not (z_val (y_call (ok_is_integer T) (hr.mono (by decide)) rfl T.g_is_integer T.k_is_integer hx (a_cons (y_var (pv 1)) a_nil))))
    (s_one (s_raise rfl tk (T.xc_InvalidNumber.t T.d_InvalidNumber_UinitU ⟨_, _, rfl⟩ ⟨_, _, _, _, rfl⟩ rfl) (.inl rfl) hr (y_var (pv 1)) rfl T.g_InvalidNumber))
    s_nil)
  (s_cons (s_set (i := 2) sc_checked_block.nd rfl (by first | exact Or.inl rfl | exact Or.inr rfl) (y_callB call_lenY lenL (by rfl) T.b_len (by decide +kernel) (a_cons (y_ix (y_var (pv 0)) y_int (fun _ _ => rfl)) a_nil)))
  (s_one (s_ret (y_tup (a_cons (y_make T.mk_Net (ok_Net_UinitU T) (hr.mono (by decide)) rfl T.g_Net hx (a_cons (y_var (pv 2)) (a_cons (y_op op_mod modL (y_var (pv 1)) (y_var (pv 2))) (a_cons (y_callB call_lenY lenL (by rfl) T.b_len (by decide +kernel) (a_cons (y_var (pv 0)) a_nil)) a_nil)))) (a_cons (y_joinZ y_str (y_var (pv 0))) a_nil))))))))), fun ds Q h => ?_⟩
  obtain ⟨a0, a1, e0, hh⟩ := ar2E h
  clear h
  subst e0
  have h := hh
  clear hh
  try dsimp only at h
  rw [show startE (List.length N_checked_block) [a0, a1] = [.val a0, .val a1, .no] from rfl]
  rcases h with h | ⟨rs, w, ⟨hs, hr⟩, h⟩
  · exact ⟨rfl, rfl, .inl h⟩
  refine ⟨rfl, rfl, .inr ⟨rs, w, ⟨hs, hr⟩, ?_⟩⟩
  obtain ⟨r0, rest, rfl⟩ : ∃ r0 rest, rs = r0 :: rest := by
    cases rs with
    | nil => have := hr.n1; simp at this
    | cons a b => exact ⟨a, b, rfl⟩
  have hr0 := hr.row r0 List.mem_cons_self
  have hlen : ((r0 :: rest).map D.str).length = (r0 :: rest).length := List.length_map _
  have n1 := hr.n1
  have n2 := hr.n2
  have w1 := hr.w1
  have w2 := hr.w2
  have sl := row_slen
  have e0 : r0.length = w := by rw [sl]; exact hr0
  have em : (((r0 :: rest).length : Nat) : Int) * (w : Int) = (((r0 :: rest).length * w : Nat) : Int) := by rw [Int.natCast_mul]
  rcases h with ⟨hm, h⟩ | h
  · rcases hs with rfl | rfl
    all_goals
      first | refine dIx_l (atI_0 (x := D.str r0) (xs := rest.map D.str)) ?_ | refine dIx_t (atI_0 (x := D.str r0) (xs := rest.map D.str)) ?_
      refine ⟨by omega, ⟨(sz13 (by omega) (by rw [hlen]; omega)).mono (by decide), (sz13 (by omega) (by omega)).mono (by decide)⟩, ?_⟩
      exact ifB_T (decide_eq_true (by rw [hlen, e0]; omega)) h
  rcases h with ⟨hm, kn, ni, h⟩ | ⟨sh, rfl, hb, h⟩
  · rcases hs with rfl | rfl
    all_goals
      first | refine dIx_l (atI_0 (x := D.str r0) (xs := rest.map D.str)) ?_ | refine dIx_t (atI_0 (x := D.str r0) (xs := rest.map D.str)) ?_
      refine ⟨by omega, ⟨(sz13 (by omega) (by rw [hlen]; omega)).mono (by decide), (sz13 (by omega) (by omega)).mono (by decide)⟩, ?_⟩
      refine ifB_F (decide_eq_false (by rw [hlen, e0]; omega)) ⟨kn, ?_⟩
      exact ifB_T (by rw [ni]; rfl) h
  have mx : (((r0 :: rest).length : Nat) : Int) * (w : Int) ≤ 1000 := by
    have := hb.mx
    omega
  have ok := (hb.okT sh).ok
  have sumL : ((r0 :: rest).map (·.length)).sum + (r0 :: rest).length * ("" : Str).length ≤ 100000 := by
    have e2 : ("" : Str).length = 0 := by decide +kernel
    rw [e2, Nat.mul_zero, Nat.add_zero]
    have key : ∀ l : List Str, (∀ r ∈ l, r.cps.toList.length = w) → (l.map (·.length)).sum = l.length * w := by
      intro l
      induction l with
      | nil => intro _; simp
      | cons x l ih =>
        intro hl
        rw [List.map_cons, List.sum_cons, ih (fun r hr => hl r (List.mem_cons_of_mem _ hr)), sl, hl x List.mem_cons_self, List.length_cons, Nat.add_mul]
        omega
    rw [key _ hb.row]
    have := hb.mx
    omega
  have fin : Q (.tup [dNet ((w : Nat) : Int) (sh % ((w : Nat) : Int)) ((((r0 :: rest).map D.str).length : Nat) : Int), .str (Txt.join ("" : Str) (r0 :: rest))]) := by
    rw [hlen, join_rows]
    exact h
  rcases hs with rfl | rfl
  all_goals
    first | refine dIx_l (atI_0 (x := D.str r0) (xs := rest.map D.str)) ?_ | refine dIx_t (atI_0 (x := D.str r0) (xs := rest.map D.str)) ?_
    refine ⟨by omega, ⟨(sz13 (by omega) (by rw [hlen]; omega)).mono (by decide), (sz13 (by omega) (by omega)).mono (by decide)⟩, ?_⟩
    refine ifB_F (decide_eq_false (by rw [hlen, e0]; omega)) ⟨trivial, ifB_F rfl ?_⟩
    first | refine dIx_l (atI_0 (x := D.str r0) (xs := rest.map D.str)) ?_ | refine dIx_t (atI_0 (x := D.str r0) (xs := rest.map D.str)) ?_
    refine ⟨by omega, ?_⟩
    rw [e0]
    refine ⟨by omega, ⟨by rw [hlen]; exact ok.1, ok.2.1, ok.2.2⟩, ?_⟩
    have key : ∀ k : List Str → Prop, k (r0 :: rest) → (match strsOf (List.map D.str (r0 :: rest)) with | some ys => k ys | none => False) := fun k hk => by rw [strsOf_str]; exact hk
    exact key _ ⟨sumL, leN rfl, fin⟩
end
end K11
namespace K11
open PySem PySem.Spec PyProof.Rows L2 Z Y
section
variable {P : Program} {w : World} {K : Frg} {mg : Str → Option Value} {base : Heap}
theorem ok_Carpet_UinitU (T : Tx w K mg) : FnG P w K mg base (L2.CX P w) 11 (He.ma K (He.ga K "Carpet") "__init__") (spI K "Carpet" (lastR R_Carpet_init11 (.int (0)))) ∧ FnK P w K mg base (L2.CX P w) 11 (He.ma K (He.ga K "Carpet") "__init__") "shift" (spI K "Carpet" R_Carpet_init11) := by
  refine y_initKX (C := "Carpet") (R := R_Carpet_init11) T.d_Carpet_UinitU sc_Carpet_UinitU (fun ds Q E h => by rw [arl2 ds Q E h]; rfl) (fun _ _ _ _ _ _ us _ hl => match us, hl with | [_, _], _ => ⟨_, _, _, _, _, _, rfl, rfl, rfl⟩) (fun _ _ _ _ _ _ us _ hl => match us, hl with | [_, _], _ => rfl) fun cdv A outer s H E B hB hr hx po tk => ⟨_, (s_cons (s_asg (t := .tp [3, 4]) (y_call (ok_checked_block T) (hr.mono (by decide)) rfl T.g_checked_block T.k_checked_block hx (a_cons (y_var (pv 1)) (a_cons (y_var (pv 2)) a_nil))) (g_tp (is := [3, 4]) rfl (pgs_cons (pg_name (i := 3) sc_Carpet_UinitU.nd rfl (by first | exact Or.inl rfl | exact Or.inr rfl)) (pgs_cons (pg_name (i := 4) sc_Carpet_UinitU.nd rfl (by first | exact Or.inl rfl | exact Or.inr rfl)) pgs_nil))))
  (s_one (s_fld2 (C := "Carpet") (ns := []) (i := 0) rfl T.cl_Carpet T.na_Carpet_own_net T.na_Carpet_own_text (pv 0) (pv 0) (y_call (ok_least_cell T) (hr.mono (by decide)) rfl T.g_least_cell T.k_least_cell hx (a_cons (y_var (pv 3)) (a_cons (y_var (pv 4)) a_nil)))))), fun self ds Q h => ?_⟩
  obtain ⟨a0, a1, e0, hh⟩ := ar2E h
  clear h
  subst e0
  have h := hh
  clear hh
  try dsimp only at h
  rw [show startE (List.length N_Carpet_UinitU - 1) [a0, a1] = [.val a0, .val a1, .no, .no] from rfl]
  rcases h with h | ⟨rs, w0, hg, h⟩
  · exact .inl h
  · refine .inr ⟨rs, w0, hg, ?_⟩
    rcases h with h | h | ⟨sh, e, hb, h⟩
    · exact .inl h
    · exact .inr (.inl h)
    · have o := hb.okT sh
      refine .inr (.inr ⟨sh, e, hb, _, _, _, _, rfl, rfl, o, fun w q r ex hw hr => ?_⟩)
      exact ⟨⟨rfl, rfl⟩, ⟨rfl, rfl⟩, ⟨rfl, rfl⟩, h w q r _ (carp_of o ex hw hr) hw hr⟩
end
end K11
namespace K11
open PySem PySem.Spec PyProof.Rows L2 Z Y
section
variable {P : Program} {w : World} {K : Frg} {mg : Str → Option Value} {base : Heap}
theorem ok_Woven_UinitU (T : Tx w K mg) : FnG P w K mg base (L2.CX P w) 11 (He.ma K (He.ga K "Woven") "__init__") (spI K "Woven" R_Woven_UinitU) := by
  refine y_init (C := "Woven") T.d_Woven_UinitU sc_Woven_UinitU (fun ds Q E h => by rw [arl2 ds Q E h]; rfl) (fun _ _ _ _ _ _ us hl => match us, hl with | [_, _, _], _ => rfl) fun cdv A outer s H E B hB hr hx po => ⟨_, (s_one (s_fld2 (C := "Woven") (ns := []) (i := 0) rfl T.cl_Woven T.na_Woven_own_net T.na_Woven_own_text (pv 0) (pv 0) (y_call (ok_least_cell T) (hr.mono (by decide)) rfl T.g_least_cell T.k_least_cell hx (a_cons (y_var (pv 1)) (a_cons (y_var (pv 2)) a_nil))))), fun self ds Q h => ?_⟩
  obtain ⟨a0, a1, e0, hh⟩ := ar2E h
  clear h
  subst e0
  have h := hh
  clear hh
  try dsimp only at h
  rw [show startE (List.length N_Woven_UinitU - 1) [a0, a1] = [.val a0, .val a1] from rfl]
  obtain ⟨a, b, c, t, rfl, rfl, o, h⟩ := h
  exact ⟨a, b, c, t, rfl, rfl, o, fun w q r ex hw hr => ⟨⟨rfl, rfl⟩, ⟨rfl, rfl⟩, ⟨rfl, rfl⟩, h w q r _ (carp_of o ex hw hr) hw hr⟩⟩
end
end K11
namespace K11
open PySem PySem.Spec PyProof.Rows L2 Z Y
section
variable {P : Program} {w : World} {K : Frg} {mg : Str → Option Value} {base : Heap}
theorem ok_Carpet_on (T : Tx w K mg) : FnG P w K mg base (L2.CX P w) 13 (He5.wf K (He.ga K "Carpet") "staticmethod" "on") (spP K R_Carpet_on11) := by
  refine y_fnX T.d_Carpet_on sc_Carpet_on arl2 (fun _ _ _ _ _ _ us hl => match us, hl with | [_, _], _ => rfl) fun cdv A outer s H E B hB hr hx po tk => ⟨_, (s_cons (s_if (z_cmp op_gt cmpL (y_prop (cs := ["Net"]) (ns := ["own_numbers"]) (y_var (pv 0)) (all1 ⟨T.cl_Net, _, T.p_Net_size⟩) (ok_Net_size T) (hr.mono (by decide)) px_nox) (y_globI rfl T.g_MOST_PLACES) (nomark _))
    (s_one (s_raise rfl tk (T.xc_LimitExceeded.t T.d_LimitExceeded_UinitU ⟨_, _, rfl⟩ ⟨_, _, _, _, rfl⟩ rfl) (.inr (.inr (.inl rfl))) hr (y_globI rfl T.g_MOST_PLACES) rfl T.g_LimitExceeded))
    s_nil)
  (s_cons (s_if (z_pt (z_or (z_not (z_val (y_call (ok_is_row T) (hr.mono (by decide)) rfl T.g_is_row T.k_is_row hx (a_cons (y_var (pv 1)) (a_cons (y_globS rfl T.g_LETTERS) (a_cons (y_globI rfl T.g_MOST_PLACES) a_nil)))))) (z_or1 (z_cmp (op_neY hr.units) neL (y_callB call_lenY lenL (by rfl) T.b_len (by decide +kernel) (a_cons (y_var (pv 1)) a_nil)) (y_prop (cs := ["Net"]) (ns := ["own_numbers"]) (y_var (pv 0)) (all1 ⟨T.cl_Net, _, T.p_Net_size⟩) (ok_Net_size T) (hr.mono (by decide)) px_nox) (nomark _)))))
    (s_one (s_raise rfl tk (T.xc_InvalidText.t T.d_InvalidText_UinitU ⟨_, _, rfl⟩ ⟨_, _, _, _, rfl⟩ rfl) (.inl rfl) hr (y_var (pv 1)) rfl T.g_InvalidText))
    s_nil)
  (s_one (s_ret (y_make T.mk_Woven (ok_Woven_UinitU T) (hr.mono (by decide)) rfl T.g_Woven hx (a_cons (y_var (pv 0)) (a_cons (y_var (pv 1)) a_nil))))))), fun ds Q h => ?_⟩
  obtain ⟨a0, a1, e0, hh⟩ := ar2E h
  clear h
  subst e0
  have h := hh
  clear hh
  try dsimp only at h
  rw [show startE (List.length N_Carpet_on) [a0, a1] = [.val a0, .val a1] from rfl]
  obtain ⟨a, b, c, rfl, ⟨ok, za, zc⟩, h⟩ := h
  have zz : Sz 4000 a ∧ Sz 4000 c := ⟨za, zc⟩
  refine ⟨.head _, rfl, a, b, c, rfl, zz, ?_⟩
  rcases h with ⟨big, h⟩ | ⟨mx, hc, hb, h⟩ | ⟨t, rfl, ⟨o, mx, lt⟩, h⟩
  · exact ifB_T (decide_eq_true (by omega)) h
  · refine ifB_F (decide_eq_false (by omega)) ⟨2000, rfl, rfl, hc, ?_⟩
    cases rb : rowB 2000 a1 with
    | false => exact ifB_T rfl (ifB_T rfl h)
    | true =>
      obtain ⟨t, rfl⟩ : ∃ t, a1 = .str t := by
        cases a1 with
        | str t => exact ⟨t, rfl⟩
        | _ => cases rb
      refine ifB_F rfl ⟨hc.2 t rfl, .head _, rfl, a, b, c, rfl, zz, ifB_T ?_ h⟩
      rcases hb with hb | hb
      · rw [rb] at hb
        cases hb
      · show (!decide _) = true
        have hb2 : ¬ ((t.length : Nat) : Int) = a * c := hb
        rw [decide_eq_false hb2]
        rfl
  · have ln := o.ln
    have a0 := o.a
    have c0 := o.c
    have hp : 0 < a * c := Int.mul_pos a0 c0
    refine ifB_F (decide_eq_false (by omega)) ⟨2000, rfl, rfl, ⟨trivial, fun s e => by cases e; rw [row_slen]; exact o.tl⟩, ?_⟩
    rw [rowB_str (n := 2000) (by omega) (by omega) fun c hc => occ_low (lt c hc)]
    refine ifB_F rfl ⟨by rw [row_slen]; exact o.tl, .head _, rfl, a, b, c, rfl, zz, ifB_F ?_ ⟨a, b, c, t, rfl, rfl, o, h⟩⟩
    have e : ((t.length : Nat) : Int) = a * c := by rw [row_slen]; exact o.ln
    simp [e]
end
end K11
namespace K11
open PySem PySem.Spec PyProof.Rows L2 Z Y
section
variable {P : Program} {w : World} {K : Frg} {mg : Str → Option Value} {base : Heap}
theorem ok_Carpet_plain (T : Tx w K mg) : FnG P w K mg base (L2.CX P w) 13 (He5.wf K (He.ga K "Carpet") "classmethod" "plain") (spP K R_Carpet_plain11) := by
  refine y_fnX T.d_Carpet_plain sc_Carpet_plain arl2 (fun _ _ _ _ _ _ us hl => match us, hl with | [_, _], _ => rfl) fun cdv A outer s H E B hB hr hx po tk => ⟨_, (s_cons (s_expr (y_call (ok_check_colour T) (hr.mono (by decide)) rfl T.g_check_colour T.k_check_colour hx (a_cons (y_var (pv 1)) a_nil)))
  (s_one (s_ret (y_make T.mk_Woven (ok_Woven_UinitU T) (hr.mono (by decide)) rfl T.g_Woven hx (a_cons (y_cmeth0 rfl T.g_Net T.rd_Net T.cm_Net_whole (ok_Net_whole T) (hr.mono (by decide)) hx) (a_cons (y_var (pv 1)) a_nil)))))), fun ds Q h => ?_⟩
  obtain ⟨a0, a1, e0, hh⟩ := ar2E h
  clear h
  subst e0
  have h := hh
  clear hh
  try dsimp only at h
  rw [show startE (List.length N_Carpet_plain) [a0, a1] = [.val a0, .val a1] from rfl]
  obtain ⟨⟨C, rfl⟩, h⟩ := h
  rcases h with ⟨hc, e, h⟩ | ⟨k, rfl, lk, h⟩
  · exact ⟨hc, .inl ⟨e, h⟩⟩
  · have o : okT (chr1 k) 1 0 1 := ⟨⟨by decide, by decide, by decide⟩, by decide, rfl⟩
    refine ⟨colD_chr, .inr ⟨isCol_chr lk, rfl, 1, 0, 1, chr1 k, rfl, rfl, o, fun w q r t cp hw hr => h w q r t ?_ hw hr⟩⟩
    have e : colF (chr1 k) 1 0 1 = fun _ => k := by
      funext p
      exact plain_col k p
    rw [e] at cp
    exact cp
theorem okk_Carpet_plain (T : Tx w K mg) : FnK P w K mg base (L2.CX P w) 13 (He5.wf K (He.ga K "Carpet") "classmethod" "plain") "colour" (spP K R_Carpet_plain11) := by
  refine y_fnKX T.d_Carpet_plain sc_Carpet_plain arl2 (fun _ _ _ _ _ _ us _ hl => match us, hl with | [_], _ => rfl) fun cdv A outer s H E B hB hr hx po tk => ⟨_, (s_cons (s_expr (y_call (ok_check_colour T) (hr.mono (by decide)) rfl T.g_check_colour T.k_check_colour hx (a_cons (y_var (pv 1)) a_nil)))
  (s_one (s_ret (y_make T.mk_Woven (ok_Woven_UinitU T) (hr.mono (by decide)) rfl T.g_Woven hx (a_cons (y_cmeth0 rfl T.g_Net T.rd_Net T.cm_Net_whole (ok_Net_whole T) (hr.mono (by decide)) hx) (a_cons (y_var (pv 1)) a_nil)))))), fun ds Q h => ?_⟩
  obtain ⟨a0, a1, e0, hh⟩ := ar2E h
  clear h
  subst e0
  have h := hh
  clear hh
  try dsimp only at h
  rw [show startE (List.length N_Carpet_plain) [a0, a1] = [.val a0, .val a1] from rfl]
  obtain ⟨⟨C, rfl⟩, h⟩ := h
  rcases h with ⟨hc, e, h⟩ | ⟨k, rfl, lk, h⟩
  · exact ⟨hc, .inl ⟨e, h⟩⟩
  · have o : okT (chr1 k) 1 0 1 := ⟨⟨by decide, by decide, by decide⟩, by decide, rfl⟩
    refine ⟨colD_chr, .inr ⟨isCol_chr lk, rfl, 1, 0, 1, chr1 k, rfl, rfl, o, fun w q r t cp hw hr => h w q r t ?_ hw hr⟩⟩
    have e : colF (chr1 k) 1 0 1 = fun _ => k := by
      funext p
      exact plain_col k p
    rw [e] at cp
    exact cp
end
end K11
namespace K11
open PySem PySem.Spec PyProof.Rows L2 Z Y
section
variable {P : Program} {w : World} {K : Frg} {mg : Str → Option Value} {base : Heap}
theorem ok_Carpet_net (T : Tx w K mg) : FnG P w K mg base (L2.CX P w) 1 (He5.wf K (He.ga K "Carpet") "property" "net") (spP K (R_Carpet_net carCs)) := by
  refine y_fn T.d_Carpet_net sc_Carpet_net arl1 (fun _ _ _ _ _ _ us hl => match us, hl with | [_], _ => rfl) fun cdv A outer s H E B hB hr hx po => ⟨_, (s_one (s_ret (y_fld (cs := ["Carpet", "Woven"]) (ns := ["own_net", "own_text"]) (j := 0) (y_var (pv 0)) (all2 ⟨T.cl_Carpet, T.na_Carpet_own_net⟩ ⟨T.cl_Woven, T.na_Woven_own_net⟩)))), fun ds Q h => ?_⟩
  obtain ⟨a0, e0, hh⟩ := ar1E h
  clear h
  subst e0
  have h := hh
  clear hh
  try dsimp only at h
  rw [show startE (List.length N_Carpet_net) [a0] = [.val a0] from rfl]
  obtain ⟨C, a, b, c, t, rfl, hC, h⟩ := h
  exact ⟨⟨hC, rfl⟩, h⟩
end
end K11
namespace K11
open PySem PySem.Spec PyProof.Rows L2 Z Y
section
variable {P : Program} {w : World} {K : Frg} {mg : Str → Option Value} {base : Heap}
theorem ok_Carpet_text (T : Tx w K mg) : FnG P w K mg base (L2.CX P w) 1 (He5.wf K (He.ga K "Carpet") "property" "text") (spP K (R_Carpet_text carCs)) := by
  refine y_fn T.d_Carpet_text sc_Carpet_text arl1 (fun _ _ _ _ _ _ us hl => match us, hl with | [_], _ => rfl) fun cdv A outer s H E B hB hr hx po => ⟨_, (s_one (s_ret (y_fld (cs := ["Carpet", "Woven"]) (ns := ["own_net", "own_text"]) (j := 1) (y_var (pv 0)) (all2 ⟨T.cl_Carpet, T.na_Carpet_own_text⟩ ⟨T.cl_Woven, T.na_Woven_own_text⟩)))), fun ds Q h => ?_⟩
  obtain ⟨a0, e0, hh⟩ := ar1E h
  clear h
  subst e0
  have h := hh
  clear hh
  try dsimp only at h
  rw [show startE (List.length N_Carpet_text) [a0] = [.val a0] from rfl]
  obtain ⟨C, a, b, c, t, rfl, hC, h⟩ := h
  exact ⟨⟨hC, rfl⟩, h⟩
end
end K11
namespace K11
open PySem PySem.Spec PyProof.Rows L2 Z Y
section
variable {P : Program} {w : World} {K : Frg} {mg : Str → Option Value} {base : Heap}
theorem ok_Carpet_seen (T : Tx w K mg) : FnG P w K mg base (L2.CX P w) 5 (He.ma K (He.ga K "Carpet") "seen") (spP K (R_Carpet_seen carCs)) := by
  refine y_fn T.d_Carpet_seen sc_Carpet_seen arl2 (fun _ _ _ _ _ _ us hl => match us, hl with | [_, _], _ => rfl) fun cdv A outer s H E B hB hr hx po => ⟨_, (s_one (s_ret (y_call (ok_colour_at T) (hr.mono (by decide)) rfl T.g_colour_at T.k_colour_at hx (a_cons (y_fld (cs := ["Carpet", "Woven"]) (ns := ["own_net", "own_text"]) (j := 0) (y_var (pv 0)) (all2 ⟨T.cl_Carpet, T.na_Carpet_own_net⟩ ⟨T.cl_Woven, T.na_Woven_own_net⟩)) (a_cons (y_fld (cs := ["Carpet", "Woven"]) (ns := ["own_net", "own_text"]) (j := 1) (y_var (pv 0)) (all2 ⟨T.cl_Carpet, T.na_Carpet_own_text⟩ ⟨T.cl_Woven, T.na_Woven_own_text⟩)) (a_cons (y_var (pv 1)) a_nil)))))), fun ds Q h => ?_⟩
  obtain ⟨a0, a1, e0, hh⟩ := ar2E h
  clear h
  subst e0
  have h := hh
  clear hh
  try dsimp only at h
  rw [show startE (List.length N_Carpet_seen) [a0, a1] = [.val a0, .val a1] from rfl]
  obtain ⟨C, a, b, c, t, x, y, rfl, hC, rfl, ⟨o, zy⟩, h⟩ := h
  exact ⟨⟨hC, rfl⟩, ⟨hC, rfl⟩, a, b, c, t, x, y, rfl, rfl, rfl, ⟨o, zy⟩, h⟩
end
end K11
namespace K11
open PySem PySem.Spec PyProof.Rows L2 Z Y
section
variable {P : Program} {w : World} {K : Frg} {mg : Str → Option Value} {base : Heap}
theorem ok_Carpet_UgetitemU (T : Tx w K mg) : FnG P w K mg base (L2.CX P w) 7 (He.ma K (He.ga K "Carpet") "__getitem__") (spP K R_Carpet_getitem11) := by
  refine y_fnX T.d_Carpet_UgetitemU sc_Carpet_UgetitemU arl2 (fun _ _ _ _ _ _ us hl => match us, hl with | [_, _], _ => rfl) fun cdv A outer s H E B hB hr hx po tk => ⟨_, (s_cons (s_if (z_not (z_val (y_call (ok_is_place T) (hr.mono (by decide)) rfl T.g_is_place T.k_is_place hx (a_cons (y_var (pv 1)) a_nil))))
    (s_one (s_raise rfl tk (T.xc_InvalidPlace.t T.d_InvalidPlace_UinitU ⟨_, _, rfl⟩ ⟨_, _, _, _, rfl⟩ rfl) (.inl rfl) hr (y_var (pv 1)) rfl T.g_InvalidPlace))
    s_nil)
  (s_one (s_ret (y_meth (cs := ["Carpet", "Woven"]) (ns := ["own_net", "own_text"]) (y_var (pv 0)) (all2 ⟨T.cl_Carpet, T.m_Carpet_seen⟩ ⟨T.cl_Woven, T.m_Woven_seen⟩) (ok_Carpet_seen T) (hr.mono (by decide)) hx (a_cons (y_var (pv 1)) a_nil))))), fun ds Q h => ?_⟩
  obtain ⟨a0, a1, e0, hh⟩ := ar2E h
  clear h
  subst e0
  have h := hh
  clear hh
  try dsimp only at h
  rw [show startE (List.length N_Carpet_UgetitemU) [a0, a1] = [.val a0, .val a1] from rfl]
  obtain ⟨kn, e, h⟩ := h
  exact ⟨kn, ifB_T (by rw [e]; rfl) h⟩
end
end K11
namespace K11
open PySem PySem.Spec PyProof.Rows L2 Z Y
section
variable {P : Program} {w : World} {K : Frg} {mg : Str → Option Value} {base : Heap}
theorem ok_Carpet_UlenU (T : Tx w K mg) : FnG P w K mg base (L2.CX P w) 1 (He.ma K (He.ga K "Carpet") "__len__") (spP K (R_Carpet_UlenU carCs)) := by
  refine y_fn T.d_Carpet_UlenU sc_Carpet_UlenU arl1 (fun _ _ _ _ _ _ us hl => match us, hl with | [_], _ => rfl) fun cdv A outer s H E B hB hr hx po => ⟨_, (s_one (s_ret (y_callB call_lenY lenL (by rfl) T.b_len (by decide +kernel) (a_cons (y_fld (cs := ["Carpet", "Woven"]) (ns := ["own_net", "own_text"]) (j := 1) (y_var (pv 0)) (all2 ⟨T.cl_Carpet, T.na_Carpet_own_text⟩ ⟨T.cl_Woven, T.na_Woven_own_text⟩)) a_nil)))), fun ds Q h => ?_⟩
  obtain ⟨a0, e0, hh⟩ := ar1E h
  clear h
  subst e0
  have h := hh
  clear hh
  try dsimp only at h
  rw [show startE (List.length N_Carpet_UlenU) [a0] = [.val a0] from rfl]
  obtain ⟨C, a, b, c, t, rfl, hC, o, h⟩ := h
  have e : t.length = t.cps.toList.length := by rw [Array.length_toList]; rfl
  have := o.ln
  have := o.mx
  refine ⟨⟨hC, rfl⟩, by omega, ?_⟩
  rw [e]
  rw [o.ln]
  exact h
end
end K11
namespace K11
open PySem PySem.Spec PyProof.Rows L2 Z Y
section
variable {P : Program} {w : World} {K : Frg} {mg : Str → Option Value} {base : Heap}
theorem ok_Carpet_UeqU (T : Tx w K mg) : FnG P w K mg base (L2.CX P w) 3 (He.ma K (He.ga K "Carpet") "__eq__") (spP K (R_Carpet_eq2 ["Net"])) := by
  refine y_fn T.d_Carpet_UeqU sc_Carpet_UeqU arl2 (fun _ _ _ _ _ _ us hl => match us, hl with | [_, _], _ => rfl) fun cdv A outer s H E B hB hr hx po => ⟨_, (s_one (s_ret (y_and (y_callB call_isi (isOL (C := "Carpet") (cs := ["Carpet", "Woven"]) (cs' := ["Net"]) ⟨T.cl_Carpet, T.ow_Carpet⟩ (all2 ⟨⟨T.cl_Carpet, T.ow_Carpet⟩, T.ow_Carpet.ki⟩ ⟨⟨T.cl_Woven, T.ow_Woven⟩, T.kt_Woven_Carpet⟩) (all1 ⟨⟨T.cl_Net, T.ow_Net⟩, T.kf_Net_Carpet⟩)) (by rfl) T.b_isinstance (by decide +kernel) (a_cons (y_var (pv 1)) (a_cons (y_glob rfl T.g_Carpet) a_nil))) (y_and (y_cmpI (gop_eq (C := He.ga K "Net") T.m_Net_UeqU.at_ T.m_Net_UeqU.fn ((ok_Net_UeqU T).at (hr.mono (by decide))) hr.units hx) (eqOL (C := "Net") (ns := ["own_numbers"]) (cs := ["Net"]) ⟨T.cl_Net, T.ow_Net⟩ (all1 ⟨⟨T.cl_Net, T.ow_Net⟩, nf_self⟩)) (y_fld (cs := ["Carpet", "Woven"]) (ns := ["own_net", "own_text"]) (j := 0) (y_var (pv 0)) (all2 ⟨T.cl_Carpet, T.na_Carpet_own_net⟩ ⟨T.cl_Woven, T.na_Woven_own_net⟩)) (y_fld (cs := ["Carpet", "Woven"]) (ns := ["own_net", "own_text"]) (j := 0) (y_var (pv 1)) (all2 ⟨T.cl_Carpet, T.na_Carpet_own_net⟩ ⟨T.cl_Woven, T.na_Woven_own_net⟩)) (nomark _)) (y_one (y_cmp (op_eqY hr.units) eqL (y_fld (cs := ["Carpet", "Woven"]) (ns := ["own_net", "own_text"]) (j := 1) (y_var (pv 0)) (all2 ⟨T.cl_Carpet, T.na_Carpet_own_text⟩ ⟨T.cl_Woven, T.na_Woven_own_text⟩)) (y_fld (cs := ["Carpet", "Woven"]) (ns := ["own_net", "own_text"]) (j := 1) (y_var (pv 1)) (all2 ⟨T.cl_Carpet, T.na_Carpet_own_text⟩ ⟨T.cl_Woven, T.na_Woven_own_text⟩)) (nomark _))))))), fun ds Q h => ?_⟩
  obtain ⟨a0, a1, e0, hh⟩ := ar2E h
  clear h
  subst e0
  have h := hh
  clear hh
  try dsimp only at h
  rw [show startE (List.length N_Carpet_UeqU) [a0, a1] = [.val a0, .val a1] from rfl]
  obtain ⟨C, a, b, c, t, rfl, hC, h⟩ := h
  rcases h with ⟨C', a', b', c', t', rfl, hC', h⟩ | ⟨hk, h⟩ | ⟨x, ns, ds, rfl, hx, _, h⟩
  · refine ⟨rfl, .inl ⟨hC', ifB_T rfl ⟨⟨hC, rfl⟩, ⟨hC', rfl⟩, .head _, rfl, .head _, a, b, c, rfl, .inl ⟨a', b', c', rfl, ?_⟩⟩⟩⟩
    refine ifB_2 (fun e => ?_) (fun e => ?_)
    · have e1 : a = a' ∧ b = b' ∧ c = c' := by simpa using e
      refine ⟨⟨hC, rfl⟩, ⟨hC', rfl⟩, ?_⟩
      show Q (.bl (decide (t = t')))
      have : decide ((a = a' ∧ b = b' ∧ c = c') ∧ t = t') = decide (t = t') := decide_eq_decide.mpr ⟨fun z => z.2, fun z => ⟨e1, z⟩⟩
      rw [this] at h
      exact h
    · have e1 : ¬ (a = a' ∧ b = b' ∧ c = c') := by simpa using e
      show Q (.bl false)
      rw [decide_eq_false (fun z => e1 z.1)] at h
      exact h
  · cases a1 with
    | non => exact ⟨rfl, ifB_F rfl h⟩
    | bl _ => exact ⟨rfl, ifB_F rfl h⟩
    | int _ => exact ⟨rfl, ifB_F rfl h⟩
    | str _ => exact ⟨rfl, ifB_F rfl h⟩
    | lst _ => exact ⟨rfl, ifB_F rfl h⟩
    | tup _ => exact ⟨rfl, ifB_F rfl h⟩
    | dic _ _ => exact ⟨rfl, ifB_F rfl h⟩
    | obj _ _ _ => exact hk.elim
    | ty _ => exact hk.elim
    | glob _ => exact hk.elim
    | tape => exact hk.elim
    | fn _ => exact hk.elim
    | dpl _ _ => exact hk.elim
  · exact ⟨rfl, .inr ⟨hx, ifB_F rfl h⟩⟩
end
end K11
namespace K11
open PySem PySem.Spec PyProof.Rows L2 Z Y
section
variable {P : Program} {w : World} {K : Frg} {mg : Str → Option Value} {base : Heap}
theorem ok_Carpet_UaddU (T : Tx w K mg) : FnG P w K mg base (L2.CX P w) 13 (He.ma K (He.ga K "Carpet") "__add__") (spP K R_Carpet_UaddU) := by
  refine y_fn T.d_Carpet_UaddU sc_Carpet_UaddU arl2 (fun _ _ _ _ _ _ us hl => match us, hl with | [_, _], _ => rfl) fun cdv A outer s H E B hB hr hx po => ⟨_, (s_one (s_ret (y_make T.mk_Woven (ok_Woven_UinitU T) (hr.mono (by decide)) rfl T.g_Woven hx (a_cons (y_fld (cs := ["Carpet", "Woven"]) (ns := ["own_net", "own_text"]) (j := 0) (y_var (pv 0)) (all2 ⟨T.cl_Carpet, T.na_Carpet_own_net⟩ ⟨T.cl_Woven, T.na_Woven_own_net⟩)) (a_cons (y_join y_str (y_lc (own := [("place", 2)]) (t := .nm 2) rfl sc_Carpet_UaddU.nd (i_lst (y_meth0 (cs := ["Net"]) (ns := ["own_numbers"]) (y_fld (cs := ["Carpet", "Woven"]) (ns := ["own_net", "own_text"]) (j := 0) (y_var (pv 0)) (all2 ⟨T.cl_Carpet, T.na_Carpet_own_net⟩ ⟨T.cl_Woven, T.na_Woven_own_net⟩)) (all1 ⟨T.cl_Net, T.m_Net_spots⟩) (ok_Net_spots T) (hr.mono (by decide)) hx)) (blkOk_by (own := [("place", 2)]) (N := N_Carpet_UaddU) (sc := defScope s_Carpet_UaddU) (by decide +kernel)) (fun _ _ _ _ _ => (g_nm (pg_name (i := 2) sc_Carpet_UaddU.nd rfl (by first | exact Or.inl rfl | exact Or.inr rfl)))) (fun _ _ _ _ _ => c_nil) (fun _ _ _ _ _ => (y_meth (cs := ["Carpet", "Woven"]) (ns := ["own_net", "own_text"]) (y_var (pv 0)) (all2 ⟨T.cl_Carpet, T.m_Carpet_seen⟩ ⟨T.cl_Woven, T.m_Woven_seen⟩) (ok_Carpet_seen T) (hr.mono (by decide)) px_nox (a_cons (y_call (ok_minus T) (hr.mono (by decide)) rfl T.g_minus T.k_minus px_nox (a_cons (y_var (pv 2)) (a_cons (y_var (pv 1)) a_nil))) a_nil))))) a_nil))))), fun ds Q h => ?_⟩
  obtain ⟨a0, a1, e0, hh⟩ := ar2E h
  clear h
  subst e0
  have h := hh
  clear hh
  try dsimp only at h
  rw [show startE (List.length N_Carpet_UaddU) [a0, a1] = [.val a0, .val a1, .no] from rfl]
  obtain ⟨C, w, q, r, t, x, y, rfl, rfl, ⟨hC, o, zy⟩, h⟩ := h
  refine ⟨⟨hC, rfl⟩, ⟨hC, rfl⟩, .head _, rfl, w, q, r, rfl, ⟨o.ok, by have := o.mx; omega⟩, by rw [List.length_map]; have := spots_le o; omega, ?_⟩
  refine mapI_fun (xs := MN.spotsL w.toNat r.toNat) (g := fun p => .str (chr1 (shF (colF t w q r) x y p))) ?_ ?_
  · intro p hp k hk
    obtain ⟨m1, m2, m3, m4⟩ := MN.spotsL_mem.mp hp
    have zp : Sz 3000 p.2 := (sz13 m3 (by have := o.cl; have := o.c; omega)).mono (by decide)
    exact ⟨hC, rfl, p.1, p.2, x, y, rfl, rfl, C, w, q, r, t, p.1 - x, p.2 - y, rfl, hC, rfl, ⟨o, (sz_sub zp zy).mono (by decide)⟩, hk⟩
  · refine join_cell o.ok o.mx ⟨w, q, r, _, rfl, rfl, okT_cell o.ok o.mx, fun w' q' r' t' cp hw hr => h w' q' r' t' ?_ hw hr⟩
    rw [col_cell o.ok fun x y z => keeps_sh (o.keep z)] at cp
    exact cp
end
end K11
namespace K11
open PySem PySem.Spec PyProof.Rows L2 Z Y
section
variable {P : Program} {w : World} {K : Frg} {mg : Str → Option Value} {base : Heap}
theorem ok__law_told (T : Tx w K mg) {fa : Addr} {ms : List Addr} {Fm : Hp} {Rc : RdF} (C : CloAt P w K mg base 40 fa ms Fm Rc) : FnG P w K mg base (L2.CX P w) 41 (He.ga K "_law_told") (spX K ms Fm (R_told11 fa Rc)) := by
  refine y_fnV T.d__law_told sc__law_told arl1 (fun _ _ _ _ _ _ us hl => match us, hl with | [_], _ => rfl) fun cdv A outer s H E B hms hFm hB hr hx po tk => ⟨_, (s_cons (s_tryEM hB rfl rfl sc__law_told.nd rfl tk (fun pn_ xe_ => (x_callV (y_var (pv 0)) C hms hFm (hr.mono (by decide))))
    (.cons (cs := ["InvalidRows"]) (i := 1) (by exact tmn_one ⟨rfl, by decide, .inl T.g_InvalidRows⟩) rfl rfl (fun a_ pn_ => (s_one (s_ret (y_lst (a_cons y_str (a_cons (y_xf (cs := ["InvalidRows"]) (i := 1) (pv 1) (all1 ⟨T.xc_InvalidRows.xf, T.xc_InvalidRows.noN⟩)) (a_cons (y_and (y_isx (K := K) (i := 1) (C := "CarpetError") (pv 1) rfl T.g_CarpetError (by rfl) T.b_isinstance) (y_one (y_isxB (K := K) (i := 1) (C := "ValueError") (T := "ValueError") (u := .type "ValueError") (pv 1) rfl T.b_ValueError (by rfl) rfl (by decide) (by rfl) T.b_isinstance))) a_nil))))))) (.cons (cs := ["InvalidNumber", "InvalidPlace", "InvalidColour", "InvalidText"]) (i := 1) (by exact tmn_four ⟨rfl, by decide, .inl T.g_InvalidNumber⟩ ⟨rfl, by decide, .inl T.g_InvalidPlace⟩ ⟨rfl, by decide, .inl T.g_InvalidColour⟩ ⟨rfl, by decide, .inl T.g_InvalidText⟩) rfl rfl (fun a_ pn_ => (s_cons (s_set (i := 2) sc__law_told.nd rfl (by first | exact Or.inl rfl | exact Or.inr rfl) (y_lst (a_cons (y_isx (K := K) (i := 1) (C := "InvalidNumber") (pv 1) rfl T.g_InvalidNumber (by rfl) T.b_isinstance) (a_cons (y_isx (K := K) (i := 1) (C := "InvalidPlace") (pv 1) rfl T.g_InvalidPlace (by rfl) T.b_isinstance) (a_cons (y_isx (K := K) (i := 1) (C := "InvalidColour") (pv 1) rfl T.g_InvalidColour (by rfl) T.b_isinstance) a_nil)))))
  (s_one (s_ret (y_lst (a_cons (y_ix (y_lst (a_cons y_str (a_cons y_str (a_cons y_str (a_cons y_str a_nil))))) (y_indexU (hu65 hr :) (y_op op_addY addL (y_var (pv 2)) (y_lst (a_cons y_bl a_nil))) y_bl) (fun _ _ => rfl)) (a_cons (y_callB (call_reprU hr.units hr.gd) reprL (by rfl) T.b_repr (by decide +kernel) (a_cons (y_xf (cs := ["InvalidNumber", "InvalidPlace", "InvalidColour", "InvalidText"]) (i := 1) (pv 1) (all4 ⟨T.xc_InvalidNumber.xf, T.xc_InvalidNumber.noN⟩ ⟨T.xc_InvalidPlace.xf, T.xc_InvalidPlace.noN⟩ ⟨T.xc_InvalidColour.xf, T.xc_InvalidColour.noN⟩ ⟨T.xc_InvalidText.xf, T.xc_InvalidText.noN⟩)) a_nil)) a_nil))))))) (.cons (cs := ["LimitExceeded"]) (i := 1) (by exact tmn_one ⟨rfl, by decide, .inl T.g_LimitExceeded⟩) rfl rfl (fun a_ pn_ => (s_one (s_ret (y_lst (a_cons y_str (a_cons (y_xf (cs := ["LimitExceeded"]) (i := 1) (pv 1) (all1 ⟨T.xc_LimitExceeded.xf, T.xc_LimitExceeded.noN⟩)) (a_cons (y_and (y_isxB (K := K) (i := 1) (C := "OverflowError") (T := "OverflowError") (u := .type "OverflowError") (pv 1) rfl T.b_OverflowError (by rfl) rfl (by decide) (by rfl) T.b_isinstance) (y_one (y_not (y_isx (K := K) (i := 1) (C := "CarpetError") (pv 1) rfl T.g_CarpetError (by rfl) T.b_isinstance)))) a_nil))))))) .nil))))
  (s_one (s_ret (y_lst (a_cons y_str a_nil))))), fun ds Q h => ?_⟩
  obtain ⟨a0, e0, hh⟩ := ar1E h
  clear h
  subst e0
  have h := hh
  clear hh
  try dsimp only at h
  rw [show startE (List.length N__law_told) [a0] = [.val a0, .no, .no] from rfl]
  obtain ⟨rfl, h⟩ := h
  refine ⟨rfl, _, _, h, fun d z => ⟨leN rfl, z⟩, ?_⟩
  rintro x (⟨i, rfl, hq⟩ | ⟨n, rfl, hq⟩ | ⟨d, hs, ⟨rfl, hq⟩ | ⟨rfl, hq⟩ | ⟨rfl, hq⟩ | ⟨rfl, hq⟩⟩)
  · refine ⟨true, ⟨_, rfl, any_one T.ext_InvalidRows_InvalidRows⟩, ifB_T rfl ?_⟩
    exact ⟨⟨_, .head _, rfl⟩, rfl, "InvalidRows", true, ⟨rfl, fun z => nomatch z⟩, T.ec_InvalidRows, T.kt_InvalidRows_CarpetError, ifB_T rfl ⟨"InvalidRows", true, ⟨rfl, fun z => nomatch z⟩, T.ec_InvalidRows, T.ktb_InvalidRows_ValueError, leN rfl, hq⟩⟩
  · refine ⟨false, ⟨_, rfl, any_one T.exf_LimitExceeded_InvalidRows⟩, ifB_F rfl ?_⟩
    refine ⟨false, ⟨_, rfl, any_cons T.exf_LimitExceeded_InvalidNumber (any_cons T.exf_LimitExceeded_InvalidPlace (any_cons T.exf_LimitExceeded_InvalidColour (any_one T.exf_LimitExceeded_InvalidText)))⟩, ifB_F rfl ?_⟩
    refine ⟨true, ⟨_, rfl, any_one T.ext_LimitExceeded_LimitExceeded⟩, ifB_T rfl ?_⟩
    exact ⟨⟨_, .head _, rfl⟩, rfl, "LimitExceeded", true, ⟨rfl, fun z => nomatch z⟩, T.ec_LimitExceeded, T.ktb_LimitExceeded_OverflowError, ifB_T rfl ⟨"LimitExceeded", false, ⟨rfl, fun z => nomatch z⟩, T.ec_LimitExceeded, T.kf_LimitExceeded_CarpetError, leN rfl, hq⟩⟩
  · refine ⟨false, ⟨_, rfl, any_one T.exf_InvalidNumber_InvalidRows⟩, ifB_F rfl ?_⟩
    refine ⟨true, ⟨_, rfl, any_cons T.ext_InvalidNumber_InvalidNumber (any_cons T.exf_InvalidNumber_InvalidPlace (any_cons T.exf_InvalidNumber_InvalidColour (any_one T.exf_InvalidNumber_InvalidText)))⟩, ifB_T rfl ?_⟩
    refine ⟨"InvalidNumber", true, ⟨rfl, fun z => nomatch z⟩, T.ec_InvalidNumber, T.kt_InvalidNumber_InvalidNumber, "InvalidNumber", false, ⟨rfl, fun z => nomatch z⟩, T.ec_InvalidNumber, T.kf_InvalidNumber_InvalidPlace, "InvalidNumber", false, ⟨rfl, fun z => nomatch z⟩, T.ec_InvalidNumber, T.kf_InvalidNumber_InvalidColour, leN rfl, ?_⟩
    refine ⟨leN rfl, ?_⟩
    refine v_ (d := .lst [.bl true, .bl false, .bl false]) rfl ?_
    refine ⟨leN rfl, leN rfl, 0, .bl true, ⟨rfl, rfl⟩, rfl, rfl, fun m z' hm hz => ?_, ?_⟩
    · omega
    refine dIx_l (d := .str "number") rfl ?_
    exact ⟨⟨_, .head _, rfl⟩, rfl, hs, leN rfl, hq⟩
  · refine ⟨false, ⟨_, rfl, any_one T.exf_InvalidPlace_InvalidRows⟩, ifB_F rfl ?_⟩
    refine ⟨true, ⟨_, rfl, any_cons T.exf_InvalidPlace_InvalidNumber (any_cons T.ext_InvalidPlace_InvalidPlace (any_cons T.exf_InvalidPlace_InvalidColour (any_one T.exf_InvalidPlace_InvalidText)))⟩, ifB_T rfl ?_⟩
    refine ⟨"InvalidPlace", false, ⟨rfl, fun z => nomatch z⟩, T.ec_InvalidPlace, T.kf_InvalidPlace_InvalidNumber, "InvalidPlace", true, ⟨rfl, fun z => nomatch z⟩, T.ec_InvalidPlace, T.kt_InvalidPlace_InvalidPlace, "InvalidPlace", false, ⟨rfl, fun z => nomatch z⟩, T.ec_InvalidPlace, T.kf_InvalidPlace_InvalidColour, leN rfl, ?_⟩
    refine ⟨leN rfl, ?_⟩
    refine v_ (d := .lst [.bl false, .bl true, .bl false]) rfl ?_
    refine ⟨leN rfl, leN rfl, 1, .bl true, ⟨rfl, rfl⟩, rfl, rfl, fun m z' hm hz => ?_, ?_⟩
    · match m, hm, hz with
      | 0, _, hz => cases hz; rfl
    refine dIx_l (d := .str "place") rfl ?_
    exact ⟨⟨_, .tail _ (.head _), rfl⟩, rfl, hs, leN rfl, hq⟩
  · refine ⟨false, ⟨_, rfl, any_one T.exf_InvalidColour_InvalidRows⟩, ifB_F rfl ?_⟩
    refine ⟨true, ⟨_, rfl, any_cons T.exf_InvalidColour_InvalidNumber (any_cons T.exf_InvalidColour_InvalidPlace (any_cons T.ext_InvalidColour_InvalidColour (any_one T.exf_InvalidColour_InvalidText)))⟩, ifB_T rfl ?_⟩
    refine ⟨"InvalidColour", false, ⟨rfl, fun z => nomatch z⟩, T.ec_InvalidColour, T.kf_InvalidColour_InvalidNumber, "InvalidColour", false, ⟨rfl, fun z => nomatch z⟩, T.ec_InvalidColour, T.kf_InvalidColour_InvalidPlace, "InvalidColour", true, ⟨rfl, fun z => nomatch z⟩, T.ec_InvalidColour, T.kt_InvalidColour_InvalidColour, leN rfl, ?_⟩
    refine ⟨leN rfl, ?_⟩
    refine v_ (d := .lst [.bl false, .bl false, .bl true]) rfl ?_
    refine ⟨leN rfl, leN rfl, 2, .bl true, ⟨rfl, rfl⟩, rfl, rfl, fun m z' hm hz => ?_, ?_⟩
    · match m, hm, hz with
      | 0, _, hz => cases hz; rfl
      | 1, _, hz => cases hz; rfl
    refine dIx_l (d := .str "colour") rfl ?_
    exact ⟨⟨_, .tail _ (.tail _ (.head _)), rfl⟩, rfl, hs, leN rfl, hq⟩
  · refine ⟨false, ⟨_, rfl, any_one T.exf_InvalidText_InvalidRows⟩, ifB_F rfl ?_⟩
    refine ⟨true, ⟨_, rfl, any_cons T.exf_InvalidText_InvalidNumber (any_cons T.exf_InvalidText_InvalidPlace (any_cons T.exf_InvalidText_InvalidColour (any_one T.ext_InvalidText_InvalidText)))⟩, ifB_T rfl ?_⟩
    refine ⟨"InvalidText", false, ⟨rfl, fun z => nomatch z⟩, T.ec_InvalidText, T.kf_InvalidText_InvalidNumber, "InvalidText", false, ⟨rfl, fun z => nomatch z⟩, T.ec_InvalidText, T.kf_InvalidText_InvalidPlace, "InvalidText", false, ⟨rfl, fun z => nomatch z⟩, T.ec_InvalidText, T.kf_InvalidText_InvalidColour, leN rfl, ?_⟩
    refine ⟨leN rfl, ?_⟩
    refine v_ (d := .lst [.bl false, .bl false, .bl false]) rfl ?_
    refine ⟨leN rfl, leN rfl, 3, .bl true, ⟨rfl, rfl⟩, rfl, rfl, fun m z' hm hz => ?_, ?_⟩
    · match m, hm, hz with
      | 0, _, hz => cases hz; rfl
      | 1, _, hz => cases hz; rfl
      | 2, _, hz => cases hz; rfl
    refine dIx_l (d := .str "text") rfl ?_
    exact ⟨⟨_, .tail _ (.tail _ (.tail _ (.head _))), rfl⟩, rfl, hs, leN rfl, hq⟩
end
end K11
namespace K11
open PySem PySem.Spec PyProof.Rows L2 Z Y
section
variable {P : Program} {w : World} {K : Frg} {mg : Str → Option Value} {base : Heap}
theorem ok__law_rows_right (T : Tx w K mg) : FnG P w K mg base (L2.CX P w) 43 (He.ga K "_law_rows_right") (spP K R__law_rows_right11) := by
  refine y_fnC T.d__law_rows_right sc__law_rows_right arl1 (fun _ _ _ _ _ _ us hl => match us, hl with | [_], _ => rfl) fun cdv ecd A outer s H E B hB hr hx po tk => ⟨_, (s_cons (s_set (i := 1) sc__law_rows_right.nd rfl (by first | exact Or.inl rfl | exact Or.inr rfl) (y_op op_addY addL y_int (y_call (ok__law_draw T) (hr.mono (by decide)) rfl T.g__law_draw T.k__law_draw hx (a_cons (y_var (pv 0)) (a_cons y_int a_nil)))))
  (s_cut (s_set (i := 2) sc__law_rows_right.nd rfl (by first | exact Or.inl rfl | exact Or.inr rfl) (y_lc (own := [("_law_k", 7)]) (t := .nm 7) rfl sc__law_rows_right.nd (i_rng1 (by rfl) T.b_range (a_cons (y_op op_addY addL y_int (y_call (ok__law_draw T) (hr.mono (by decide)) rfl T.g__law_draw T.k__law_draw hx (a_cons (y_var (pv 0)) (a_cons y_int a_nil)))) a_nil)) (blkOk_by (own := [("_law_k", 7)]) (N := N__law_rows_right) (sc := defScope s__law_rows_right) (by decide +kernel)) (fun _ _ _ _ _ => (g_nm (pg_name (i := 7) sc__law_rows_right.nd rfl (by first | exact Or.inl rfl | exact Or.inr rfl)))) (fun _ _ _ _ _ => c_nil) (fun _ _ _ _ _ => (y_sl y_str (o_some (y_op op_mod modL (y_var (pv 7)) y_int)) (o_some (y_op op_addY addL (y_op op_mod modL (y_var (pv 7)) y_int) (y_var (pv 1))))))))
  (s_cut (s_set (i := 3) sc__law_rows_right.nd rfl (by first | exact Or.inl rfl | exact Or.inr rfl) (y_call (ok__law_draw T) (hr.mono (by decide)) rfl T.g__law_draw T.k__law_draw hx (a_cons (y_var (pv 0)) (a_cons (y_op op_addY addL (y_callB call_lenY lenL (by rfl) T.b_len (by decide +kernel) (a_cons (y_var (pv 2)) a_nil)) y_int) a_nil))))
  (s_cons (s_set (i := 4) sc__law_rows_right.nd rfl (by first | exact Or.inl rfl | exact Or.inr rfl) (y_lst (a_cons y_non (a_cons y_str (a_cons (y_op Y.op_repT repTL y_str (y_var (pv 1))) (a_cons (y_op Y.op_repT repTL y_str (y_op op_addY addL (y_var (pv 1)) y_int)) (a_cons (y_op op_addY addL (y_op Y.op_repT repTL y_str (y_op op_sub subL (y_var (pv 1)) y_int)) y_str) (a_cons y_int (a_cons (y_lst (a_cons y_str a_nil)) (a_cons (y_op op_addY addL (y_op Y.op_repT repTL y_str (y_op op_sub subL (y_var (pv 1)) y_int)) y_str) a_nil))))))))))
  (s_cut (s_set (i := 5) sc__law_rows_right.nd rfl (by first | exact Or.inl rfl | exact Or.inr rfl) (y_ix (y_var (pv 4)) (y_call (ok__law_draw T) (hr.mono (by decide)) rfl T.g__law_draw T.k__law_draw hx (a_cons (y_var (pv 0)) (a_cons y_int a_nil))) (fun _ _ => rfl)))
  (s_cut (s_set (i := 6) sc__law_rows_right.nd rfl (by first | exact Or.inl rfl | exact Or.inr rfl) (y_lst (a_cons y_str (a_cons (y_var (pv 3)) (a_cons y_bl a_nil)))))
  (s_cut (s_if (z_pt (z_and (z_cmp (op_eqY hr.units) eqL (y_var (pv 3)) y_int (nomark _)) (z_and1 (z_cmp (op_eqY hr.units) eqL (y_var (pv 5)) (y_op Y.op_repT repTL y_str (y_op op_addY addL (y_var (pv 1)) y_int)) (nomark _)))))
    (s_one (s_set (i := 6) sc__law_rows_right.nd rfl (by first | exact Or.inl rfl | exact Or.inr rfl) (y_lst (a_cons y_str (a_cons y_int (a_cons y_bl a_nil))))))
    s_nil)
  (s_cons (s_if (z_cmp (op_neY hr.units) neL (y_lam0 (x := "_law_rows_right") (N := ["_law_good", "_law_bad", "_law_at"]) (ps := []) (fr := ["_law_good", "_law_bad", "_law_at"]) (js := [2, 5, 3]) (kc := 39) (fun _ _ _ _ C => ok__law_told T C) (hr.mono (by decide)) rfl T.g__law_told T.k__law_told hx T.lf__law_rows_right ecd (lamT_by (NX := N__law_rows_right) (sc := defScope s__law_rows_right) (by decide +kernel) rfl rfl (fun _ _ _ _ us hl => match us, hl with | [], _ => rfl) rfl (fun _ => rfl)) (fun b2_ cl_ c_ f_ A_ outer_ s_ H_ E_ B hr hx => (y_makeK T.mk_Carpet (ok_Carpet_UinitU T).2 (hr.mono (by decide)) rfl T.g_Carpet hx (y_op op_addY addL (y_op op_addY addL (y_sl (y_var (pv 0)) o_none (o_some (y_var (pv 2)))) (y_lst (a_cons (y_var (pv 1)) a_nil))) (y_sl (y_var (pv 0)) (o_some (y_var (pv 2))) o_none)) y_non))) (y_var (pv 6)) (nomark _))
    (s_one (s_ret y_bl))
    s_nil)
  (s_one (s_ret (y_cmp (op_eqY hr.units) eqL (y_lam0 (x := "_law_rows_right") (N := ["_law_bad", "_law_good", "_law_at"]) (ps := []) (fr := ["_law_bad", "_law_good", "_law_at"]) (js := [5, 2, 3]) (kc := 39) (fun _ _ _ _ C => ok__law_told T C) (hr.mono (by decide)) rfl T.g__law_told T.k__law_told hx T.lf__law_rows_right ecd (lamT_by (NX := N__law_rows_right) (sc := defScope s__law_rows_right) (by decide +kernel) rfl rfl (fun _ _ _ _ us hl => match us, hl with | [], _ => rfl) rfl (fun _ => rfl)) (fun b2_ cl_ c_ f_ A_ outer_ s_ H_ E_ B hr hx => (y_make T.mk_Carpet (ok_Carpet_UinitU T).1 (hr.mono (by decide)) rfl T.g_Carpet hx (a_cons (y_op op_catA catAL (y_op op_catA catAL (y_op op_catA catAL (y_callT call_tuple_of tupleL (by rfl) T.b_tuple (by decide +kernel) (a_cons (y_sl (y_var (pv 1)) o_none (o_some (y_var (pv 2)))) a_nil)) (y_tup (a_cons (y_var (pv 0)) a_nil))) (y_callT call_tuple_of tupleL (by rfl) T.b_tuple (by decide +kernel) (a_cons (y_sl (y_var (pv 1)) (o_some (y_var (pv 2))) o_none) a_nil))) (y_tup (a_cons y_non a_nil))) a_nil)))) (y_var (pv 6)) (nomark _)))))))))))), fun ds Q h => ?_⟩
  obtain ⟨a0, e0, hh⟩ := ar1E h
  clear h
  subst e0
  have h := hh
  clear hh
  try dsimp only at h
  rw [show startE (List.length N__law_rows_right) [a0] = [.val a0, .no, .no, .no, .no, .no, .no, .no] from rfl]
  obtain ⟨rfl, h⟩ := h
  dsimp only [aCons, aNil, rC]
  refine v_ (d := .tape) rfl ⟨⟨by decide, szP (by decide) (by decide)⟩, fun e1 z1 y1 => ?_⟩
  obtain ⟨W, hW⟩ := Int.eq_ofNat_of_zero_le (show 0 ≤ 1 + e1 by omega)
  refine add_i ?_
  rw [hW]
  have W1 : 1 ≤ W ∧ W ≤ 9 := by omega
  have rl : ∀ n : Nat, (repS "a" n).length = n := fun n => by rw [row_slen, rep_a, List.length_replicate]
  refine ⟨fun ρ => ∃ o3 o4 o5 o6 o7, ∃ rs : List Str, goodRs W rs ∧ ρ = [.val .tape, .val (.int (W : Nat)), .val (.lst (rs.map D.str)), o3, o4, o5, o6, o7], ?_, ?_⟩
  · refine v_ (d := .tape) rfl ⟨⟨by decide, szP (by decide) (by decide)⟩, fun e2 z2 y2 => add_i ?_⟩
    refine ⟨by omega, by omega, by simp [rngD]; omega, ?_⟩
    unfold rngD
    refine mapI_rel (f := fun i : Nat => D.int (0 + (i : Nat))) (g := D.str) (R := fun _ r => r.cps.toList.length = W ∧ lowS r) (fun i hi k hk => ?_) fun rs ln hr => ?_
    · dsimp only [tgD, rC]
      refine ⟨by decide, ?_⟩
      refine ⟨by decide, ?_⟩
      refine v_ (d := .int (W : Nat)) rfl ?_
      refine dSl_str (leN rfl) (hk _ (cut_good ⟨by omega, by omega⟩ W1))
    · rw [List.length_range] at ln
      refine ⟨_, _, _, _, _, rs, ⟨by omega, W1, fun r hm => ?_⟩, rfl⟩
      obtain ⟨j, hj⟩ := List.getElem?_of_mem hm
      have hj2 := lt_of_get hj
      exact hr j j r (List.getElem?_range (by omega)) hj
  rintro ρ ⟨o3, o4, o5, o6, o7, rs, g, rfl⟩
  have n9 := g.1
  refine ⟨fun ρ => ∃ o4 o5 o6 o7, ∃ at_ : Nat, at_ ≤ rs.length ∧ ρ = [.val .tape, .val (.int (W : Nat)), .val (.lst (rs.map D.str)), .val (.int (at_ : Nat)), o4, o5, o6, o7], ?_, ?_⟩
  · refine v_ (d := .tape) rfl (v_ (d := .lst (rs.map D.str)) rfl ?_)
    dsimp only [dLen]
    refine add_i ?_
    rw [List.length_map]
    refine ⟨⟨by omega, (show Sz 40 _ from by unfold Sz; omega).mono (by decide)⟩, fun e3 z3 y3 => ?_⟩
    obtain ⟨at_, rfl⟩ := Int.eq_ofNat_of_zero_le z3
    exact ⟨_, _, _, _, at_, by omega, rfl⟩
  rintro ρ ⟨o4, o5, o6, o7, at_, ha, rfl⟩
  refine v_ (d := .int (W : Nat)) rfl (mul_t rfl rfl (by omega) ?_)
  refine v_ (d := .int (W : Nat)) rfl (add_i (mul_t (n := W + 1) (by omega) rfl (by omega) ?_))
  refine v_ (d := .int (W : Nat)) rfl (sub_i (mul_t (n := W - 1) (by omega) rfl (by omega) (cat_s (by rw [rl]; exact Nat.le_trans (Nat.add_le_add_right (show W - 1 ≤ 9 by omega) _) (by decide)) ?_)))
  refine ⟨leN rfl, ?_⟩
  refine v_ (d := .int (W : Nat)) rfl (sub_i (mul_t (n := W - 1) (by omega) rfl (by omega) (cat_s (by rw [rl]; exact Nat.le_trans (Nat.add_le_add_right (show W - 1 ≤ 9 by omega) _) (by decide)) ?_)))
  refine ⟨leN rfl, ?_⟩
  refine ⟨fun ρ => ∃ o4 o6 o7, ∃ d, badD W d ∧ ρ = [.val .tape, .val (.int (W : Nat)), .val (.lst (rs.map D.str)), .val (.int (at_ : Nat)), o4, .val d, o6, o7], ?_, ?_⟩
  · refine v_ (d := .lst (oddL W)) rfl (v_ (d := .tape) rfl ⟨⟨by decide, szP (by decide) (by decide)⟩, fun e4 z4 y4 => ?_⟩)
    obtain ⟨d, ed, hm⟩ := atI_D (ds := oddL W) z4 (by show e4 < ((8 : Nat) : Int); omega)
    exact dIx_l ed ⟨_, _, _, _, odd_bad W1 _ hm, rfl⟩
  rintro ρ ⟨o4, o6, o7, d, hb, rfl⟩
  refine ⟨fun ρ => ∃ o4 o7, ρ = [.val .tape, .val (.int (W : Nat)), .val (.lst (rs.map D.str)), .val (.int (at_ : Nat)), o4, .val d, .val (.lst [.str "rows", .int (at_ : Nat), .bl true]), o7], ?_, ?_⟩
  · exact v_ (d := .int (at_ : Nat)) rfl ⟨leN rfl, _, _, rfl⟩
  rintro ρ ⟨o4, o7, rfl⟩
  refine ⟨fun ρ => ∃ o4 o7, ρ = [.val .tape, .val (.int (W : Nat)), .val (.lst (rs.map D.str)), .val (.int (at_ : Nat)), o4, .val d, .val (.lst [.str "rows", .int (dueI W at_ d : Nat), .bl true]), o7], ?_, ?_⟩
  · refine v_ (d := .int (at_ : Nat)) rfl ?_
    rw [due_long]
    by_cases z : at_ = 0
    · subst z
      refine ifB_T rfl ?_
      refine v_ (d := d) rfl (v_ (d := .int (W : Nat)) rfl (add_i (mul_t (n := W + 1) (by omega) rfl (by omega) (bad_eq ⟨W1.2, W1.1⟩ hb ?_))))
      cases e : isLong W d with
      | true =>
        rw [if_pos ⟨rfl, rfl⟩]
        exact ifB_T rfl ⟨leN rfl, _, _, rfl⟩
      | false =>
        rw [if_neg (fun q => by cases q.2)]
        exact ifB_F rfl ⟨_, _, rfl⟩
    · rw [if_neg (fun q => z q.1)]
      exact ifB_F (decide_eq_false (by omega)) (ifB_F rfl ⟨_, _, rfl⟩)
  rintro ρ ⟨o4, o7, rfl⟩
  have okd : okD 8 (.lst [.str "rows", .int (dueI W at_ d : Nat), .bl true]) = true := by
    show (PyData.strOk "rows" && (true && (true && true))) = true
    decide +kernel
  have eqd : eqD (.lst [.str "rows", .int (dueI W at_ d : Nat), .bl true]) (.lst [.str "rows", .int (dueI W at_ d : Nat), .bl true]) = true := by
    simp [eqD, eqDs]
  have at9 : at_ ≤ 1000000 := by omega
  intro fa
  refine ⟨rfl, rfl, fun F0 H0 => ?_⟩
  refine v_ (d := .lst (rs.map D.str)) rfl (v_ (d := .int (at_ : Nat)) rfl (dSl_take at9 ?_))
  have l1 : ((rs.map D.str).take at_).length ≤ 9 := by rw [List.length_take, List.length_map]; omega
  have l2 : ((rs.map D.str).drop at_).length ≤ 9 := by rw [List.length_drop, List.length_map]; omega
  refine v_ (d := d) rfl ?_
  refine ⟨leN rfl, ⟨by simp; omega, ?_⟩⟩
  refine v_ (d := .lst (rs.map D.str)) rfl (v_ (d := .int (at_ : Nat)) rfl (dSl_drop ⟨by simp; omega, ?_⟩))
  refine .inl (rows_refused g ha hb (tl := []) ⟨by decide, fun _ h => nomatch h⟩ (.inl (by rw [List.append_nil])) (.inl ⟨_, rfl, ?_⟩))
  refine v_ (d := .lst [.str "rows", .int (dueI W at_ d : Nat), .bl true]) rfl ⟨⟨okd, okd⟩, ?_⟩
  rw [eqd]
  refine ifB_F rfl ?_
  intro fa
  refine ⟨rfl, rfl, fun F0 H0 => ?_⟩
  refine v_ (d := .lst (rs.map D.str)) rfl (v_ (d := .int (at_ : Nat)) rfl (dSl_take at9 ?_))
  dsimp only [dTuple]
  refine v_ (d := d) rfl ?_
  refine ⟨leN rfl, ⟨by simp; omega, ?_⟩⟩
  refine v_ (d := .lst (rs.map D.str)) rfl (v_ (d := .int (at_ : Nat)) rfl (dSl_drop ?_))
  dsimp only [dTuple]
  refine ⟨by simp; omega, ?_⟩
  refine ⟨leN rfl, ⟨by simp; omega, ?_⟩⟩
  refine .inl (rows_refused g ha hb (tl := [.non]) ⟨by decide, fun x hx => ?_⟩ (.inr rfl) (.inl ⟨_, rfl, ?_⟩))
  · rcases List.mem_cons.mp hx with rfl | hx
    · exact ⟨trivial, fun s e => nomatch e⟩
    · cases hx
  refine v_ (d := .lst [.str "rows", .int (dueI W at_ d : Nat), .bl true]) rfl ⟨⟨okd, okd⟩, ?_⟩
  rw [eqd]
  exact h
end
end K11
namespace K11
open PySem PySem.Spec PyProof.Rows L2 Z Y
section
variable {P : Program} {w : World} {K : Frg} {mg : Str → Option Value} {base : Heap}
theorem ok__law_fixed_right (T : Tx w K mg) : FnG P w K mg base (L2.CX P w) 43 (He.ga K "_law_fixed_right") (spP K R__law_fixed11) := by
  refine y_fnC T.d__law_fixed_right sc__law_fixed_right arl0 (fun _ _ _ _ _ _ us hl => match us, hl with | [], _ => rfl) fun cdv ecd A outer s H E B hB hr hx po tk => ⟨_, (s_cons (s_for (t := .nm 0) po rfl (i_lst (y_lst (a_cons y_non (a_cons (y_lst a_nil) (a_cons (y_tup a_nil) (a_cons y_str (a_cons y_int (a_cons y_dic0 (a_cons (y_op op_mulY mulL (y_lst (a_cons y_str a_nil)) y_int) (a_cons (y_disp (pd_cons y_str y_str pd_nil)) a_nil)))))))))) (g_nm (pg_name (i := 0) sc__law_fixed_right.nd rfl (by first | exact Or.inl rfl | exact Or.inr rfl)))
    (s_one (s_if (z_cmp (op_neY hr.units) neL (y_lam0 (x := "_law_fixed_right") (N := ["_law_odd"]) (ps := []) (fr := ["_law_odd"]) (js := [0]) (kc := 39) (fun _ _ _ _ C => ok__law_told T C) (hr.mono (by decide)) rfl T.g__law_told T.k__law_told hx T.lf__law_fixed_right ecd (lamT_by (NX := N__law_fixed_right) (sc := defScope s__law_fixed_right) (by decide +kernel) rfl rfl (fun _ _ _ _ us hl => match us, hl with | [], _ => rfl) rfl (fun _ => rfl)) (fun b2_ cl_ c_ f_ A_ outer_ s_ H_ E_ B hr hx => (y_make T.mk_Carpet (ok_Carpet_UinitU T).1 (hr.mono (by decide)) rfl T.g_Carpet hx (a_cons (y_var (pv 0)) a_nil)))) (y_lst (a_cons y_str (a_cons y_non (a_cons y_bl a_nil)))) (nomark _))
    (s_one (s_ret y_bl))
    s_nil)))
  (s_cons (s_if (z_cmp (op_neY hr.units) neL (y_lam0 (x := "_law_fixed_right") (N := []) (ps := []) (fr := []) (js := []) (kc := 39) (fun _ _ _ _ C => ok__law_told T C) (hr.mono (by decide)) rfl T.g__law_told T.k__law_told hx T.lf__law_fixed_right ecd (lamT_by (NX := N__law_fixed_right) (sc := defScope s__law_fixed_right) (by decide +kernel) rfl rfl (fun _ _ _ _ us hl => match us, hl with | [], _ => rfl) rfl (fun _ => rfl)) (fun b2_ cl_ c_ f_ A_ outer_ s_ H_ E_ B hr hx => (y_make T.mk_Carpet (ok_Carpet_UinitU T).1 (hr.mono (by decide)) rfl T.g_Carpet hx (a_cons (y_lst (a_cons (y_op op_repS repSL y_str y_int) a_nil)) a_nil)))) (y_lst (a_cons y_str (a_cons y_int (a_cons y_bl a_nil)))) (nomark _))
    (s_one (s_ret y_bl))
    s_nil)
  (s_cons (s_if (z_cmp (op_neY hr.units) neL (y_lam0 (x := "_law_fixed_right") (N := []) (ps := []) (fr := []) (js := []) (kc := 39) (fun _ _ _ _ C => ok__law_told T C) (hr.mono (by decide)) rfl T.g__law_told T.k__law_told hx T.lf__law_fixed_right ecd (lamT_by (NX := N__law_fixed_right) (sc := defScope s__law_fixed_right) (by decide +kernel) rfl rfl (fun _ _ _ _ us hl => match us, hl with | [], _ => rfl) rfl (fun _ => rfl)) (fun b2_ cl_ c_ f_ A_ outer_ s_ H_ E_ B hr hx => (y_makeK T.mk_Carpet (ok_Carpet_UinitU T).2 (hr.mono (by decide)) rfl T.g_Carpet hx (y_op op_mulY mulL (y_lst (a_cons (y_op op_repS repSL y_str y_int) a_nil)) y_int) y_non))) (y_lst (a_cons y_str (a_cons y_int (a_cons y_bl a_nil)))) (nomark _))
    (s_one (s_ret y_bl))
    s_nil)
  (s_cons (s_if (z_pt (z_or (z_cmp (op_neY hr.units) neL (y_lenOs (cs := ["Carpet", "Woven"]) (ns := ["own_net", "own_text"]) (all2 T.m_Carpet_UlenU.at_ T.m_Woven_UlenU.at_) T.m_Carpet_UlenU.fn (hr.mono (by decide)) (ok_Carpet_UlenU T) hx (by rfl) T.b_len (y_make T.mk_Carpet (ok_Carpet_UinitU T).1 (hr.mono (by decide)) rfl T.g_Carpet hx (a_cons (y_op op_mulY mulL (y_lst (a_cons (y_op op_repS repSL y_str y_int) a_nil)) y_int) a_nil))) y_int (nomark _)) (z_or1 (z_cmp (op_neY hr.units) neL (y_lenOs (cs := ["Carpet", "Woven"]) (ns := ["own_net", "own_text"]) (all2 T.m_Carpet_UlenU.at_ T.m_Woven_UlenU.at_) T.m_Carpet_UlenU.fn (hr.mono (by decide)) (ok_Carpet_UlenU T) hx (by rfl) T.b_len (y_make T.mk_Carpet (ok_Carpet_UinitU T).1 (hr.mono (by decide)) rfl T.g_Carpet hx (a_cons (y_op op_mulY mulL (y_lst (a_cons y_str a_nil)) y_int) a_nil))) y_int (nomark _)))))
    (s_one (s_ret y_bl))
    s_nil)
  (s_cons (s_for (t := .nm 0) po rfl (i_lst (y_lst (a_cons y_non (a_cons y_bl (a_cons y_str (a_cons (y_tup (a_cons y_int a_nil)) (a_cons (y_lst (a_cons y_int a_nil)) a_nil))))))) (g_nm (pg_name (i := 0) sc__law_fixed_right.nd rfl (by first | exact Or.inl rfl | exact Or.inr rfl)))
    (s_one (s_if (z_cmp (op_neY hr.units) neL (y_lam0 (x := "_law_fixed_right") (N := ["_law_odd"]) (ps := []) (fr := ["_law_odd"]) (js := [0]) (kc := 39) (fun _ _ _ _ C => ok__law_told T C) (hr.mono (by decide)) rfl T.g__law_told T.k__law_told hx T.lf__law_fixed_right ecd (lamT_by (NX := N__law_fixed_right) (sc := defScope s__law_fixed_right) (by decide +kernel) rfl rfl (fun _ _ _ _ us hl => match us, hl with | [], _ => rfl) rfl (fun _ => rfl)) (fun b2_ cl_ c_ f_ A_ outer_ s_ H_ E_ B hr hx => (y_makeK T.mk_Carpet (ok_Carpet_UinitU T).2 (hr.mono (by decide)) rfl T.g_Carpet hx (y_lst (a_cons y_str a_nil)) (y_var (pv 0))))) (y_lst (a_cons y_str (a_cons (y_callB (call_reprD hr) reprL (by rfl) T.b_repr (by decide +kernel) (a_cons (y_var (pv 0)) a_nil)) a_nil))) (nomark _))
    (s_one (s_ret y_bl))
    s_nil)))
  (s_cons (s_set (i := 1) sc__law_fixed_right.nd rfl (by first | exact Or.inl rfl | exact Or.inr rfl) (y_make T.mk_Net (ok_Net_UinitU T) (hr.mono (by decide)) rfl T.g_Net hx (a_cons y_int (a_cons y_int (a_cons y_int a_nil)))))
  (s_cons (s_if (z_cmp (op_neY hr.units) neL (y_lam0 (x := "_law_fixed_right") (N := ["_law_large"]) (ps := []) (fr := ["_law_large"]) (js := [1]) (kc := 39) (fun _ _ _ _ C => ok__law_told T C) (hr.mono (by decide)) rfl T.g__law_told T.k__law_told hx T.lf__law_fixed_right ecd (lamT_by (NX := N__law_fixed_right) (sc := defScope s__law_fixed_right) (by decide +kernel) rfl rfl (fun _ _ _ _ us hl => match us, hl with | [], _ => rfl) rfl (fun _ => rfl)) (fun b2_ cl_ c_ f_ A_ outer_ s_ H_ E_ B hr hx => (y_smeth rfl T.g_Carpet T.sm_Carpet_on (ok_Carpet_on T) (hr.mono (by decide)) hx (a_cons (y_var (pv 0)) (a_cons y_non a_nil))))) (y_lst (a_cons y_str (a_cons y_int (a_cons y_bl a_nil)))) (nomark _))
    (s_one (s_ret y_bl))
    s_nil)
  (s_cons (s_if (z_cmp (op_neY hr.units) neL (y_lenOs (cs := ["Carpet", "Woven"]) (ns := ["own_net", "own_text"]) (all2 T.m_Carpet_UlenU.at_ T.m_Woven_UlenU.at_) T.m_Carpet_UlenU.fn (hr.mono (by decide)) (ok_Carpet_UlenU T) hx (by rfl) T.b_len (y_smeth rfl T.g_Carpet T.sm_Carpet_on (ok_Carpet_on T) (hr.mono (by decide)) hx (a_cons (y_make T.mk_Net (ok_Net_UinitU T) (hr.mono (by decide)) rfl T.g_Net hx (a_cons y_int (a_cons y_int (a_cons y_int a_nil)))) (a_cons (y_op op_repS repSL y_str y_int) a_nil)))) y_int (nomark _))
    (s_one (s_ret y_bl))
    s_nil)
  (s_cons (s_for (t := .nm 0) po rfl (i_lst (y_lst (a_cons y_non (a_cons y_str (a_cons y_str (a_cons y_str (a_cons y_str (a_cons y_str (a_cons y_str (a_cons (y_lst (a_cons y_str (a_cons y_str a_nil))) (a_cons y_int (a_cons y_str a_nil)))))))))))) (g_nm (pg_name (i := 0) sc__law_fixed_right.nd rfl (by first | exact Or.inl rfl | exact Or.inr rfl)))
    (s_one (s_if (z_cmp (op_neY hr.units) neL (y_lam0 (x := "_law_fixed_right") (N := ["_law_odd"]) (ps := []) (fr := ["_law_odd"]) (js := [0]) (kc := 39) (fun _ _ _ _ C => ok__law_told T C) (hr.mono (by decide)) rfl T.g__law_told T.k__law_told hx T.lf__law_fixed_right ecd (lamT_by (NX := N__law_fixed_right) (sc := defScope s__law_fixed_right) (by decide +kernel) rfl rfl (fun _ _ _ _ us hl => match us, hl with | [], _ => rfl) rfl (fun _ => rfl)) (fun b2_ cl_ c_ f_ A_ outer_ s_ H_ E_ B hr hx => (y_smeth rfl T.g_Carpet T.sm_Carpet_on (ok_Carpet_on T) (hr.mono (by decide)) hx (a_cons (y_make T.mk_Net (ok_Net_UinitU T) (hr.mono (by decide)) rfl T.g_Net hx (a_cons y_int (a_cons y_int (a_cons y_int a_nil)))) (a_cons (y_var (pv 0)) a_nil))))) (y_lst (a_cons y_str (a_cons (y_callB (call_reprD hr) reprL (by rfl) T.b_repr (by decide +kernel) (a_cons (y_var (pv 0)) a_nil)) a_nil))) (nomark _))
    (s_one (s_ret y_bl))
    s_nil)))
  (s_one (s_ret y_bl))))))))))), fun ds Q h => ?_⟩
  obtain ⟨e0, hh⟩ := ar0E h
  clear h
  subst e0
  have h := hh
  clear hh
  try dsimp only at h
  rw [show startE (List.length N__law_fixed_right) [] = [.no, .no] from rfl]
  have sR : okD 8 (.lst [.str "rows", .non, .bl true]) = true := by decide +kernel
  have eR : eqD (.lst [.str "rows", .non, .bl true]) (.lst [.str "rows", .non, .bl true]) = true := by decide +kernel
  have sR0 : okD 8 (.lst [.str "rows", .int 0, .bl true]) = true := by decide +kernel
  have eR0 : eqD (.lst [.str "rows", .int 0, .bl true]) (.lst [.str "rows", .int 0, .bl true]) = true := by decide +kernel
  have sL1 : okD 8 (.lst [.str "limit", .int 1000, .bl true]) = true := by decide +kernel
  have eL1 : eqD (.lst [.str "limit", .int 1000, .bl true]) (.lst [.str "limit", .int 1000, .bl true]) = true := by decide +kernel
  have sL2 : okD 8 (.lst [.str "limit", .int 2000, .bl true]) = true := by decide +kernel
  have eL2 : eqD (.lst [.str "limit", .int 2000, .bl true]) (.lst [.str "limit", .int 2000, .bl true]) = true := by decide +kernel
  have sN : PyData.strOk "number" = true := by decide +kernel
  have sT : PyData.strOk "text" = true := by decide +kernel
  dsimp only [aCons, aNil, rC]
  refine ⟨leN rfl, leN rfl, leN rfl, ⟨by decide, by decide, by decide⟩, ?_⟩
  refine ⟨[(.inr "ab", .str "ab")], rfl, ⟨by decide, by decide⟩, leN rfl, ?_⟩
  refine ⟨fun i ρ => ∃ o0 o1, ρ = [o0, o1], ⟨_, _, rfl⟩, ?_, ?_⟩
  · rintro i d ρ hd ⟨o0, o1, rfl⟩
    have h1 := all_at (l := odd11a) (p := noRows) odd11a_ok hd
    refine fun fa => ⟨rfl, rfl, fun F0 H0 => ?_⟩
    exact .inl (noRows_E h1 (.inl ⟨.non, rfl, leN rfl, ne_self sR eR (ifB_F rfl ⟨_, _, rfl⟩)⟩))
  rintro ρ ⟨o0, o1, rfl⟩
  refine fun fa => ⟨rfl, rfl, fun F0 H0 => ?_⟩
  refine ⟨⟨by decide, by decide, by decide, by decide⟩, leN rfl, .inl (long_E (.inl ⟨.int 0, rfl, leN rfl, ne_self sR0 eR0 (ifB_F rfl ?_)⟩))⟩
  refine fun fa => ⟨rfl, rfl, fun F0 H0 => ?_⟩
  refine ⟨⟨by decide, by decide, by decide, by decide⟩, leN rfl, ⟨by decide, by decide, by decide⟩, ?_⟩
  refine .inr ⟨abRows 11, 100, ⟨.inl rfl, ab_rows (by decide)⟩, .inl ⟨by decide, .inr (.inl ⟨1000, rfl, leN rfl, ne_self sL1 eL1 (ifB_F rfl ?_)⟩)⟩⟩
  refine ⟨⟨by decide, by decide, by decide, by decide⟩, leN rfl, ⟨by decide, by decide, by decide⟩, ?_⟩
  refine .inr ⟨abRows 10, 100, ⟨.inl rfl, ab_rows (by decide)⟩, .inr (.inr ⟨0, rfl, blk_of ab10_b, fun w q r t cp hw hr => ?_⟩)⟩
  obtain ⟨rfl, rfl, rfl⟩ := ab10_fix cp
  refine ⟨.head _, rfl, "Carpet", _, _, _, t, rfl, .head _, cp.okT, ⟨by decide, by decide⟩, ifB_F rfl ?_⟩
  refine ⟨leN rfl, ⟨by decide, by decide, by decide⟩, ?_⟩
  refine .inr ⟨List.replicate 100 ("a" : Str), 1, ⟨.inl rfl, (blk_of a100_b).ok2⟩, .inr (.inr ⟨0, rfl, blk_of a100_b, fun w q r t cp hw hr => ?_⟩)⟩
  obtain ⟨rfl, rfl, rfl⟩ := a100_fix cp
  refine ⟨.head _, rfl, "Carpet", _, _, _, t, rfl, .head _, cp.okT, ⟨by decide, by decide⟩, ifB_F rfl ?_⟩
  clear hw hr cp
  refine ⟨leN rfl, leN rfl, leN rfl, ?_⟩
  refine ⟨fun i ρ => ∃ o0 o1, ρ = [o0, o1], ⟨_, _, rfl⟩, ?_, ?_⟩
  · rintro i d ρ hd ⟨o0, o1, rfl⟩
    obtain ⟨h1, h2⟩ := He.ba (all_at (l := odd11n) (p := fun d => smD d && !isIntD d) odd11n_ok hd)
    have h3 : isIntD d = false := by simpa using h2
    have rk : RowsOk LETS 100 ["ab"] 2 := (blk_of (show blkB ["ab"] 2 = true by decide +kernel)).ok2
    refine fun fa => ⟨rfl, rfl, fun F0 H0 => ⟨leN rfl, ?_⟩⟩
    refine v_ (d := d) rfl ?_
    refine .inr ⟨["ab"], 2, ⟨.inl rfl, rk⟩, .inr (.inl ⟨by decide, knD_of (smD_kn h1), h3, .inr (.inr ⟨d, smD_sh h1, .inl ⟨rfl, ?_⟩⟩)⟩)⟩
    exact v_ (d := d) rfl ⟨smD_sh h1, leN rfl, ne_two sN (smD_ok h1) (ifB_F rfl ⟨_, _, rfl⟩)⟩
  rintro ρ ⟨o0, o1, rfl⟩
  refine ⟨⟨by decide, by decide, by decide⟩, ?_⟩
  refine fun fa => ⟨rfl, rfl, fun F0 H0 => ?_⟩
  refine v_ (d := dNet 1 0 2001) rfl ?_
  refine ⟨1, 0, 2001, rfl, ⟨⟨by decide, by decide, by decide⟩, szP (by decide) (by decide), szP (by decide) (by decide)⟩, .inl ⟨by decide, .inr (.inl ⟨2000, rfl, leN rfl, ne_self sL2 eL2 (ifB_F rfl ?_)⟩)⟩⟩
  refine ⟨⟨by decide, by decide, by decide⟩, ⟨by decide, by decide, by decide, by decide⟩, ?_⟩
  refine ⟨1, 0, 2000, rfl, ⟨⟨by decide, by decide, by decide⟩, szP (by decide) (by decide), szP (by decide) (by decide)⟩, .inr (.inr ⟨repS "a" 2000, rfl, ⟨a2000_ok, by decide, fun c hc => ?_⟩, fun w q r t cp _ _ => ?_⟩)⟩
  · rw [rep_a] at hc
    rw [(List.mem_replicate.mp hc).2]
    exact ⟨by decide, by decide⟩
  rw [a2000_col] at cp
  obtain ⟨rfl, rfl, rfl⟩ := const_fix cp
  refine ⟨.tail _ (.head _), rfl, "Woven", _, _, _, t, rfl, .tail _ (.head _), cp.okT, ⟨by decide, by decide⟩, ifB_F rfl ?_⟩
  clear cp
  refine ⟨leN rfl, leN rfl, ?_⟩
  refine ⟨fun i ρ => ∃ o0 o1, ρ = [o0, o1], ⟨_, _, rfl⟩, ?_, ?_⟩
  · rintro i d ρ hd ⟨o0, o1, rfl⟩
    obtain ⟨h1, h2⟩ := He.ba (all_at (l := odd11t) (p := fun d => smD d && (lenS9 d && (!rowB 2000 d || !decide (((lenD d : Nat) : Int) = 2)))) odd11t_ok hd)
    obtain ⟨h2, h3⟩ := He.ba h2
    refine fun fa => ⟨rfl, rfl, fun F0 H0 => ⟨⟨by decide, by decide, by decide⟩, ?_⟩⟩
    refine v_ (d := d) rfl ?_
    refine ⟨2, 0, 1, rfl, ⟨⟨by decide, by decide, by decide⟩, szP (by decide) (by decide), szP (by decide) (by decide)⟩, .inr (.inl ⟨by decide, colD_9 h1 h2, ?_, .inr (.inr ⟨d, smD_sh h1, .inr (.inr (.inr ⟨rfl, ?_⟩))⟩)⟩)⟩
    · rcases Bool.or_eq_true_iff.mp h3 with h3 | h3
      · exact .inl (by simpa using h3)
      · exact .inr (of_decide_eq_false (by simpa using h3))
    · exact v_ (d := d) rfl ⟨smD_sh h1, leN rfl, ne_two sT (smD_ok h1) (ifB_F rfl ⟨_, _, rfl⟩)⟩
  rintro ρ ⟨o0, o1, rfl⟩
  exact h
end
end K11
namespace K11
open PySem PySem.Spec PyProof.Rows L2 Z Y
section
variable {P : Program} {w : World} {K : Frg} {mg : Str → Option Value} {base : Heap}
theorem ok_law (T : Tx w K mg) : ∀ base : Heap, FnG P w K mg base (L2.CX P w) 45 (He.ga K "law") (spLawT K) := by
  refine y_law (i := 1) T.d_law sc_law (fun _ _ _ _ _ _ us hl => match us, hl with | [_], _ => rfl) rfl (fun base => ok__law_tape T) T.g__law_tape T.k__law_tape (by decide) rfl rfl (by decide) (fun _ _ => rfl) (by first | exact Or.inl rfl | exact Or.inr (Or.inl rfl)) (by first | exact Or.inl rfl | exact Or.inr rfl) (fun _ _ => rfl) (fun _ _ => rfl) (by decide) (by decide) fun base cdv ecd A outer s H E B hB hE hr hx po => ⟨_, (s_cons (s_if (z_not (z_val (y_call0 (ok__law_fixed_right T) (hr.mono (by decide)) rfl T.g__law_fixed_right T.k__law_fixed_right hx)))
    (s_one (s_ret y_bl))
    s_nil)
  (s_cons (s_set (i := 2) sc_law.nd rfl (by first | exact Or.inl rfl | exact Or.inr rfl) (y_makeK T.mk_Carpet (ok_Carpet_UinitU T).2 (hr.mono (by decide)) rfl T.g_Carpet hx (y_lst (a_cons y_str a_nil)) y_int))
  (s_cons (s_for (t := .nm 3) po rfl (i_lst (y_lst (a_cons y_non (a_cons y_int (a_cons (y_tup (a_cons y_int a_nil)) (a_cons (y_tup (a_cons y_int (a_cons y_int (a_cons y_int a_nil)))) (a_cons (y_tup (a_cons y_bl (a_cons y_int a_nil))) (a_cons (y_tup (a_cons y_int (a_cons y_str a_nil))) (a_cons y_str (a_cons (y_lst (a_cons y_int (a_cons y_int a_nil))) (a_cons (y_tup (a_cons (y_tup (a_cons y_int (a_cons y_int a_nil))) (a_cons y_int a_nil))) (a_cons (y_tup a_nil) a_nil)))))))))))) (g_nm (pg_name (i := 3) sc_law.nd rfl (by first | exact Or.inl rfl | exact Or.inr rfl)))
    (s_one (s_if (z_cmp (op_neY hr.units) neL (y_lam0 (x := "law") (N := ["_law_carpet", "_law_odd"]) (ps := []) (fr := ["_law_carpet", "_law_odd"]) (js := [2, 3]) (kc := 39) (fun _ _ _ _ C => ok__law_told T C) (hr.mono (by decide)) rfl T.g__law_told T.k__law_told hx T.lf_law ecd (lamT_by (NX := N_law) (sc := defScope s_law) (by decide +kernel) rfl rfl (fun _ _ _ _ us hl => match us, hl with | [], _ => rfl) rfl (fun _ => rfl)) (fun b2_ cl_ c_ f_ A_ outer_ s_ H_ E_ B hr hx => (y_ixOs (cs := ["Carpet", "Woven"]) (ns := ["own_net", "own_text"]) (all2 T.m_Carpet_UgetitemU.at_ T.m_Woven_UgetitemU.at_) T.m_Carpet_UgetitemU.fn T.fi_Carpet_UgetitemU (hr.mono (by decide)) (ok_Carpet_UgetitemU T) hx (y_var (pv 0)) (y_var (pv 1))))) (y_lst (a_cons y_str (a_cons (y_callB (call_reprD hr) reprL (by rfl) T.b_repr (by decide +kernel) (a_cons (y_var (pv 3)) a_nil)) a_nil))) (nomark _))
    (s_one (s_ret y_bl))
    s_nil)))
  (s_cons (s_for (t := .nm 3) po rfl (i_lst (y_lst (a_cons y_non (a_cons y_str (a_cons y_str (a_cons y_str (a_cons y_str (a_cons y_int (a_cons (y_lst (a_cons y_str a_nil)) (a_cons y_bl (a_cons y_str a_nil))))))))))) (g_nm (pg_name (i := 3) sc_law.nd rfl (by first | exact Or.inl rfl | exact Or.inr rfl)))
    (s_one (s_if (z_cmp (op_neY hr.units) neL (y_lam0 (x := "law") (N := ["_law_odd"]) (ps := []) (fr := ["_law_odd"]) (js := [3]) (kc := 39) (fun _ _ _ _ C => ok__law_told T C) (hr.mono (by decide)) rfl T.g__law_told T.k__law_told hx T.lf_law ecd (lamT_by (NX := N_law) (sc := defScope s_law) (by decide +kernel) rfl rfl (fun _ _ _ _ us hl => match us, hl with | [], _ => rfl) rfl (fun _ => rfl)) (fun b2_ cl_ c_ f_ A_ outer_ s_ H_ E_ B hr hx => (y_cmeth rfl T.g_Carpet T.rd_Carpet T.cm_Carpet_plain (ok_Carpet_plain T) (hr.mono (by decide)) hx (a_cons (y_var (pv 0)) a_nil)))) (y_lst (a_cons y_str (a_cons (y_callB (call_reprD hr) reprL (by rfl) T.b_repr (by decide +kernel) (a_cons (y_var (pv 3)) a_nil)) a_nil))) (nomark _))
    (s_one (s_ret y_bl))
    s_nil)))
  (s_cons (s_for (t := .nm 4) po rfl (i_rng1 (by rfl) T.b_range (a_cons y_int a_nil)) (g_nm (pg_name (i := 4) sc_law.nd rfl (by first | exact Or.inl rfl | exact Or.inr rfl)))
    (s_one (s_if (z_not (z_val (y_call (ok__law_rows_right T) (hr.mono (by decide)) rfl T.g__law_rows_right T.k__law_rows_right hx (a_cons (y_var (pv 1)) a_nil))))
    (s_one (s_ret y_bl))
    s_nil)))
  (s_cons (s_set (i := 5) sc_law.nd rfl (by first | exact Or.inl rfl | exact Or.inr rfl) (y_ix y_str (y_call (ok__law_draw T) (hr.mono (by decide)) rfl T.g__law_draw T.k__law_draw hx (a_cons (y_var (pv 1)) (a_cons y_int a_nil))) (fun _ _ => rfl)))
  (s_cons (s_set (i := 6) sc_law.nd rfl (by first | exact Or.inl rfl | exact Or.inr rfl) (y_cmethK0 rfl T.g_Carpet T.rd_Carpet T.cm_Carpet_plain (okk_Carpet_plain T) (hr.mono (by decide)) hx (y_var (pv 5))))
  (s_cons (s_if (z_pt (z_or (z_cmpI (gop_neT T.tw_Carpet_Woven ((ok_Carpet_UeqU T).at (RoomG.in1 (hr.mono (by decide)))) hr.units hx) (eqTL (C := "Carpet") (C' := "Woven") (ns := ["own_net", "own_text"]) (cs := ["Net"]) T.tw_Carpet_Woven ⟨T.cl_Carpet, T.ow_Carpet⟩ ⟨T.cl_Woven, T.ow_Woven⟩ (all1 ⟨⟨T.cl_Net, T.ow_Net⟩, T.nf_Carpet_Net, T.nf_Woven_Net⟩) R_Carpet_UeqU_sym) (y_imeth (cs := ["Carpet", "Woven"]) (ns := ["own_net", "own_text"]) (y_smeth rfl T.g_Carpet T.sm_Carpet_on (ok_Carpet_on T) (hr.mono (by decide)) hx (a_cons (y_make T.mk_Net (ok_Net_UinitU T) (hr.mono (by decide)) rfl T.g_Net hx (a_cons y_int (a_cons y_int (a_cons y_int a_nil)))) (a_cons y_str a_nil))) (all2 T.ci_Carpet_plain T.ci_Woven_plain) (ok_Carpet_plain T) (hr.mono (by decide)) hx (a_cons (y_var (pv 5)) a_nil)) (y_var (pv 6)) (nomark _)) (z_or1 (z_cmpI (gop_neT T.tw_Carpet_Woven ((ok_Carpet_UeqU T).at (RoomG.in1 (hr.mono (by decide)))) hr.units hx) (eqTL (C := "Carpet") (C' := "Woven") (ns := ["own_net", "own_text"]) (cs := ["Net"]) T.tw_Carpet_Woven ⟨T.cl_Carpet, T.ow_Carpet⟩ ⟨T.cl_Woven, T.ow_Woven⟩ (all1 ⟨⟨T.cl_Net, T.ow_Net⟩, T.nf_Carpet_Net, T.nf_Woven_Net⟩) R_Carpet_UeqU_sym) (y_imeth (cs := ["Carpet", "Woven"]) (ns := ["own_net", "own_text"]) (y_opI ((gop_binT T.bt_Carpet_tuple_add T.m_Carpet_UaddU.at_ T.m_Carpet_UaddU.fn ((ok_Carpet_UaddU T).at (hr.mono (by decide))) hx).or (gop_binT T.bt_Woven_tuple_add T.m_Woven_UaddU.at_ T.m_Woven_UaddU.fn ((ok_Carpet_UaddU T).at (hr.mono (by decide))) hx)) (binTsL (C := "Carpet") (D' := "Woven") (ns := ["own_net", "own_text"])) (y_var (pv 2)) (y_tup (a_cons y_int (a_cons y_int a_nil)))) (all2 T.ci_Carpet_plain T.ci_Woven_plain) (ok_Carpet_plain T) (hr.mono (by decide)) hx (a_cons (y_var (pv 5)) a_nil)) (y_var (pv 6)) (nomark _)))))
    (s_one (s_ret y_bl))
    s_nil)
  (s_one (s_ret (y_and (y_cmpI (gop_eqT T.tw_Carpet_Woven ((ok_Carpet_UeqU T).at (hr.mono (by decide))) hr.units hx) (eqTL (C := "Carpet") (C' := "Woven") (ns := ["own_net", "own_text"]) (cs := ["Net"]) T.tw_Carpet_Woven ⟨T.cl_Carpet, T.ow_Carpet⟩ ⟨T.cl_Woven, T.ow_Woven⟩ (all1 ⟨⟨T.cl_Net, T.ow_Net⟩, T.nf_Carpet_Net, T.nf_Woven_Net⟩) R_Carpet_UeqU_sym) (y_var (pv 6)) (y_make T.mk_Carpet (ok_Carpet_UinitU T).1 (hr.mono (by decide)) rfl T.g_Carpet hx (a_cons (y_lst (a_cons (y_var (pv 5)) a_nil)) a_nil)) (nomark _)) (y_and (y_cmpI (gop_eq (C := He.ga K "Net") T.m_Net_UeqU.at_ T.m_Net_UeqU.fn ((ok_Net_UeqU T).at (hr.mono (by decide))) hr.units hx) (eqOL (C := "Net") (ns := ["own_numbers"]) (cs := ["Net"]) ⟨T.cl_Net, T.ow_Net⟩ (all1 ⟨⟨T.cl_Net, T.ow_Net⟩, nf_self⟩)) (y_prop (cs := ["Carpet", "Woven"]) (ns := ["own_net", "own_text"]) (y_var (pv 6)) (all2 ⟨T.cl_Carpet, _, T.p_Carpet_net⟩ ⟨T.cl_Woven, _, T.p_Woven_net⟩) (ok_Carpet_net T) (hr.mono (by decide)) px_nox) (y_cmeth0 rfl T.g_Net T.rd_Net T.cm_Net_whole (ok_Net_whole T) (hr.mono (by decide)) hx) (nomark _)) (y_one (y_cmp (op_eqY hr.units) eqL (y_prop (cs := ["Carpet", "Woven"]) (ns := ["own_net", "own_text"]) (y_var (pv 6)) (all2 ⟨T.cl_Carpet, _, T.p_Carpet_text⟩ ⟨T.cl_Woven, _, T.p_Woven_text⟩) (ok_Carpet_text T) (hr.mono (by decide)) px_nox) (y_var (pv 5)) (nomark _))))))))))))))), ?_⟩
  rw [show (List.replicate (List.length N_law) Sl.no).set 1 (.val .tape) = [.no, .val .tape, .no, .no, .no, .no, .no] from rfl]
  have sP : PyData.strOk "place" = true := by decide +kernel
  have sC : PyData.strOk "colour" = true := by decide +kernel
  refine ifB_F rfl ?_
  refine ⟨leN rfl, ?_⟩
  have bA : Blk ["aab"] 3 := blk_of (by decide +kernel)
  refine .inr ⟨["aab"], 3, ⟨.inl rfl, bA.ok2⟩, .inr (.inr ⟨1, rfl, bA, fun w q r t cp hw hr => ?_⟩)⟩
  have o := cp.okT
  have la : lowS t := Carp.low bA cp
  have mx : w * r ≤ 3 * 1 := Int.mul_le_mul hw hr (by have := o.c; omega) (by decide)
  dsimp only [aCons, aNil, rC]
  refine ⟨leN rfl, leN rfl, leN rfl, leN rfl, leN rfl, leN rfl, leN rfl, leN rfl, leN rfl, ?_⟩
  refine ⟨fun i ρ => ∃ o3 o4 o5 o6, ρ = [.no, .val .tape, .val (dCar "Carpet" w q r t), o3, o4, o5, o6], ⟨_, _, _, _, rfl⟩, ?_, ?_⟩
  · rintro i d ρ hd ⟨o3, o4, o5, o6, rfl⟩
    obtain ⟨h1, h2⟩ := He.ba (all_at (l := odd11p) (p := fun d => smD d && (!isPl d && knPB' d)) odd11p_ok hd)
    obtain ⟨h2, h3⟩ := He.ba h2
    have np : isPl d = false := by simpa using h2
    refine fun fa => ⟨rfl, rfl, fun F0 H0 => ?_⟩
    refine v_ (d := dCar "Carpet" w q r t) rfl (v_ (d := d) rfl ?_)
    refine ⟨.head _, rfl, knPB'_P h3, np, .inr (.inr ⟨d, smD_sh h1, .inr (.inl ⟨rfl, ?_⟩)⟩)⟩
    exact v_ (d := d) rfl ⟨smD_sh h1, leN rfl, ne_two sP (smD_ok h1) (ifB_F rfl ⟨_, _, _, _, rfl⟩)⟩
  rintro ρ ⟨o3, o4, o5, o6, rfl⟩
  refine ⟨leN rfl, leN rfl, ?_⟩
  refine ⟨fun i ρ => ∃ o3 o4 o5 o6, ρ = [.no, .val .tape, .val (dCar "Carpet" w q r t), o3, o4, o5, o6], ⟨_, _, _, _, rfl⟩, ?_, ?_⟩
  · rintro i d ρ hd ⟨o3, o4, o5, o6, rfl⟩
    obtain ⟨h1, h2⟩ := He.ba (all_at (l := odd11c) (p := fun d => smD d && (lenS9 d && !isCol d)) odd11c_ok hd)
    obtain ⟨h2, h3⟩ := He.ba h2
    have nc : isCol d = false := by simpa using h3
    refine fun fa => ⟨rfl, rfl, fun F0 H0 => ?_⟩
    refine v_ (d := d) rfl ?_
    refine ⟨⟨_, rfl⟩, .inl ⟨colD_9 h1 h2, nc, .inr (.inr ⟨d, smD_sh h1, .inr (.inr (.inl ⟨rfl, ?_⟩))⟩)⟩⟩
    exact v_ (d := d) rfl ⟨smD_sh h1, leN rfl, ne_two sC (smD_ok h1) (ifB_F rfl ⟨_, _, _, _, rfl⟩)⟩
  rintro ρ ⟨o3, o4, o5, o6, rfl⟩
  refine ⟨by decide, by decide, ?_⟩
  refine ⟨fun i ρ => ∃ o3 o4 o5 o6, ρ = [.no, .val .tape, .val (dCar "Carpet" w q r t), o3, o4, o5, o6], ⟨_, _, _, _, rfl⟩, ?_, ?_⟩
  · rintro i d ρ hd ⟨o3, o4, o5, o6, rfl⟩
    exact ⟨rfl, ifB_F rfl ⟨_, _, _, _, rfl⟩⟩
  rintro ρ ⟨o3, o4, o5, o6, rfl⟩
  dsimp only [aCons, aNil, rC]
  refine v_ (d := .tape) rfl ⟨⟨by decide, szP (by decide) (by decide)⟩, fun e z y => ?_⟩
  obtain ⟨k, ek, lk⟩ := let_at z y
  refine dIx_s (t := LETS) (leN rfl) ek ?_
  refine v_ (d := .str (chr1 k)) rfl ?_
  refine ⟨⟨_, rfl⟩, .inr ⟨k, rfl, lk, fun w1 q1 r1 t1 cp1 _ _ => ?_⟩⟩
  obtain ⟨rfl, rfl, rfl⟩ := const_fix cp1
  have e1 := plain_tx cp1
  have mW : ("Woven" : Str) ∈ (["Carpet", "Woven", "Net"] : List Str) := .tail _ (.head _)
  refine ⟨⟨by decide, by decide, by decide⟩, ?_⟩
  have oab : okT "ab" 2 0 1 := ⟨⟨by decide, by decide, by decide⟩, by decide, by decide +kernel⟩
  refine ⟨2, 0, 1, rfl, ⟨oab.ok, szP (by decide) (by decide), szP (by decide) (by decide)⟩, .inr (.inr ⟨"ab", rfl, ⟨oab, by decide, ?_⟩, fun w2 q2 r2 t2 cp2 _ _ => ?_⟩)⟩
  · have : (("ab" : Str).cps.toList.all fun c => decide (97 ≤ c) && decide (c ≤ 122)) = true := by decide +kernel
    intro c hc
    obtain ⟨h3, h4⟩ := He.ba (List.all_eq_true.mp this c hc)
    exact ⟨of_decide_eq_true h3, of_decide_eq_true h4⟩
  refine ⟨.tail _ (.head _), rfl, ?_⟩
  refine v_ (d := .str (chr1 k)) rfl ?_
  refine ⟨⟨_, rfl⟩, .inr ⟨k, rfl, lk, fun w3 q3 r3 t3 cp3 _ _ => ?_⟩⟩
  obtain ⟨rfl, rfl, rfl, rfl⟩ := carp_uni cp1 cp3
  refine v_ (d := dCar "Woven" 1 0 1 t1) rfl ?_
  refine ⟨.tail _ (.head _), rfl, mW, "Woven", 1, 0, 1, t1, rfl, .tail _ (.head _), .inl ⟨"Woven", 1, 0, 1, t1, rfl, .tail _ (.head _), ?_⟩⟩
  refine ifB_F (by simp) ?_
  refine v_ (d := dCar "Carpet" w q r t) rfl ?_
  refine ⟨leN rfl, ?_⟩
  refine ⟨.head _, rfl, "Carpet", w, q, r, t, 1, 0, rfl, rfl, ⟨.head _, o, szP (by decide) (by decide)⟩, fun w4 q4 r4 t4 cp4 _ _ => ?_⟩
  refine ⟨.tail _ (.head _), rfl, ?_⟩
  refine v_ (d := .str (chr1 k)) rfl ?_
  refine ⟨⟨_, rfl⟩, .inr ⟨k, rfl, lk, fun w5 q5 r5 t5 cp5 _ _ => ?_⟩⟩
  obtain ⟨rfl, rfl, rfl, rfl⟩ := carp_uni cp1 cp5
  refine v_ (d := dCar "Woven" 1 0 1 t1) rfl ?_
  refine ⟨.tail _ (.head _), rfl, mW, "Woven", 1, 0, 1, t1, rfl, .tail _ (.head _), .inl ⟨"Woven", 1, 0, 1, t1, rfl, .tail _ (.head _), ?_⟩⟩
  refine ifB_F (by simp) ?_
  refine v_ (d := dCar "Woven" 1 0 1 t1) rfl ?_
  refine v_ (d := .str (chr1 k)) rfl ?_
  refine ⟨leN rfl, ?_⟩
  refine .inr ⟨[chr1 k], 1, ⟨.inl rfl, (one_blk lk).ok2⟩, .inr (.inr ⟨0, rfl, one_blk lk, fun w6 q6 r6 t6 cp6 _ _ => ?_⟩)⟩
  rw [one_col] at cp6
  obtain ⟨rfl, rfl, rfl, rfl⟩ := carp_uni cp1 cp6
  refine ⟨.tail _ (.head _), rfl, .head _, "Woven", 1, 0, 1, t1, rfl, .tail _ (.head _), .inl ⟨"Carpet", 1, 0, 1, t1, rfl, .head _, ?_⟩⟩
  refine ifB_T (by simp) ?_
  refine v_ (d := dCar "Woven" 1 0 1 t1) rfl ?_
  refine ⟨.tail _ (.head _), rfl, "Woven", 1, 0, 1, t1, rfl, .tail _ (.head _), ?_⟩
  refine ⟨rfl, .head _, rfl, .head _, 1, 0, 1, rfl, .inl ⟨1, 0, 1, rfl, ?_⟩⟩
  refine ifB_T (by simp) ?_
  refine v_ (d := dCar "Woven" 1 0 1 t1) rfl ?_
  refine ⟨.tail _ (.head _), rfl, "Woven", 1, 0, 1, t1, rfl, .tail _ (.head _), ?_⟩
  refine v_ (d := .str (chr1 k)) rfl ?_
  show D.bl (decide (t1 = chr1 k)) = D.bl true
  rw [e1]
  simp
end
end K11
namespace K11
open PySem PySem.Spec PyProof.Rows L2 Z
theorem facts {P : Program} {w : World} {K : Frg} {h : Heap} {mg : Str → Option Value} {f : Addr} (X : K.In h) (G : h.Ns mainGlobals mg) (hfa : mg ("law" : Str) = some (.ref f)) (c : Says ask w h K) : ∀ base : Heap, FnG P w K mg base (L2.CX P w) 45 f (Y.spLawT K) := by
  have T := tx_of X G c
  have e2 : f = He.ga K "law" := by
    have e3 := hfa.symm.trans T.g_law
    injection e3 with e4
    injection e4
  rw [e2]
  exact ok_law T
end K11
end
open PySem PySem.W PySem.Calls PyProof.Rows
theorem PySem.Challenge.cw_carpets_k11_carpets_that_are_refused_holds : PySem.Challenge.rw_carpets_k11_carpets_that_are_refused.Holds := by
  w_on; o_law
  refine HandSHeadRun.head_any (r := K11.R) (q := K11.qv) (H := K11.hk) (ob := K11.ob) (M := 12000) (loose := K11.loose) (d := HandSHeadRun.topDef K11.R.prog 49) (kwd := []) K11.ob_eq
    (by kernel_rfl) (fun s => by kernel_rfl) K11.run (by kernel_rfl) (by kernel_rfl) (by kernel_rfl) (by rfl) (by first | assumption | decide +kernel) (by decide +kernel) ⟨rfl, rfl, rfl, rfl, rfl, by decide +kernel⟩ ?hw ?hc
  case hw => w_witness2
  case hc =>
    refine Z.walk_G (l := PySem.Challenge.rw_carpets_k11_carpets_that_are_refused) (n := 63) (k := 45) (CX := fun w => L2.CX PySem.Challenge.rw_carpets_k11_carpets_that_are_refused.prog w) rfl (by decide) (by kernel_rfl) ⟨rfl, by decide, by decide⟩ ?F (Z.cx_no (P := fun _ => PySem.Challenge.rw_carpets_k11_carpets_that_are_refused.prog))
    intro w mg fa h Y G hmg0
    obtain ⟨K, KX, c⟩ := Y
    have hmg : mg ("law" : PySem.Str) = some (.ref fa) := by
      have e : (HandSHeadRun.topDef K11.R.prog 49).name = ("law" : PySem.Str) := by kernel_rfl
      rw [← e]
      exact hmg0
    have hF := K11.facts (P := PySem.Challenge.rw_carpets_k11_carpets_that_are_refused.prog) (w := w) KX G hmg c
    obtain ⟨t1, t2, t3⟩ := Y.cs_says KX c rfl
    exact ⟨K, KX, Y.csOf K, Y.spLawT K, t1, t2, t3, fun H a ns hl hT hS => ⟨_, rfl, a, ns, rfl, hl, hS, Y.cs_tabs hT, fun _ => rfl⟩, fun base _ _ _ => hF base⟩
