import PyProof.Rows.All
import Wide.All
import OpenK.AllK
import Wide.FinOn
import HandS.ForMost
import HandS.ForExc
import HandS.More
import HandS.ExcCtx
import HandS.Wide
import HandS.Property
import HandS.Star
import HandS.ClsMeth
import HandS.SlotsOwn
import HandS.IsInst
import HandS.Defaults
import HandS.RaiseMore
import HandS.EndBits
import HandS.Style
import HandS.Head0
import HandS.Head1
import HandS.Head2
import HandS.HeadEnd
import HandS.HeadHook1
import HandS.HeadHook2
import HandS.HeadHook3
import HandS.HeadHook4
import HandS.HeadNt
import HandS.HeadWalk
import HandS.Walk
import HandS.Evl
import HandS.TryOnly
import KE.KOpsOwn
import HandS.EndTab
import HandS.Deep
import HandS.WideMore
import KE.KAssignIn
import HandS.Text
import PyProof.ReprBulk
import PyProof.ReprRoads
import KE.KDictWalk
import HandS.Iter
import HandS.FStr
import PyProof.FString
import PyProof.FString4
import KE.GoesEnum
import HandS.MakeKwOnly
import PyProof.GenRules
import PyProof.GenQ
import HandS.GenOver
import PyProof.GenComp
import HandS.GenList
import HandS.ExcField
import HandS.ExcIs
import KE.KExcInit
import PyProof.Draws
import HandS.NestedK
import HandS.Conv
import HandS.SetFor
import PyProof.EqKinds
import KE.KDictDisplayH
import HandS.TupLen
import KE.SortData
import KE.KDictSum
import KE.KDictCopyH
import HandS.ExcValue
import HandS.TupLe
import HandS.DictComp
import HandS.Finally
import HandS.ListItems
import HandS.DictEq
import HandS.DeepEq
import HandS.DictTup
import HandS.TupAny
import PyProof.Rows.SortShellAny
import KE.KeyNested
import HandS.TupSets
import HandS.TupMul
import HandS.SetBool
import HandS.SetTxtIn
import PyProof.FString3
import PyProof.Rows.StrIntSpec
import KE.DataMinMax
import PyProof.P3Eq
import HandS.SetKeys
import HandS.Small
import HandS.ExcOwn
import PySem.Challenge.RW_carpets_k02_invalid_nets_and_numbers
import PyProof.NeKinds
set_option Elab.async false
set_option linter.all false
set_option maxRecDepth 100000
set_option maxHeartbeats 4000000
namespace Z
open PySem PySem.Spec PyProof.Rows L2
/-! ### heaps: a frozen part F of H; what goes on -/
structure Go (ms : List Addr) (F H F' H' : Hp) : Prop where
  ff : Same F F'
  fh : Same F' H'
  mu : ∀ a o, a ∉ ms → F a = none → H a = some o → F' a = none ∧ H' a = some o
section
variable {ms ms' : List Addr} {F H F1 H1 F2 H2 : Hp} {p a : Addr} {o : HO} {K : PySem.W.Frag} {xs : List V}
theorem Go.refl (h : Same F H) : Go ms F H F H := ⟨Same.refl _, h, fun _ _ _ h1 h2 => ⟨h1, h2⟩⟩
theorem Go.trans (x : Go ms F H F1 H1) (y : Go ms F1 H1 F2 H2) : Go ms F H F2 H2 :=
  ⟨x.ff.trans y.ff, y.fh, fun a o hm h1 h2 => let ⟨a1, a2⟩ := x.mu a o hm h1 h2; y.mu a o hm a1 a2⟩
theorem Go.sub (x : Go ms F H F1 H1) (h : ∀ a ∈ ms, a ∈ ms') : Go ms' F H F1 H1 := ⟨x.ff, x.fh, fun a o hm => x.mu a o fun z => hm (h a z)⟩
theorem Go.nil (x : Go [] F H F1 H1) : Go ms F H F1 H1 := x.sub fun _ h => nomatch h
/-- a new object, frozen -/
theorem Go.new (h : Same F H) (hp : H p = none) : Go ms F H (upd F p o) (upd H p o) := by
  refine ⟨fun a u e => ?_, fun a u e => ?_, fun a u _ h1 h2 => ?_⟩
  · rw [upd_ne (ne_of_none (h a u e) hp)]; exact e
  · by_cases ha : a = p
    · subst ha; rw [upd_same] at e ⊢; exact e
    · rw [upd_ne ha] at e ⊢; exact h a u e
  · have ha := ne_of_none h2 hp
    exact ⟨by rw [upd_ne ha]; exact h1, by rw [upd_ne ha]; exact h2⟩
/-- a new object that may change -/
theorem Go.newM (h : Same F H) (hp : H p = none) : Go ms F H F (upd H p o) := by
  refine ⟨Same.refl _, fun a u e => ?_, fun a u _ h1 h2 => ⟨h1, ?_⟩⟩
  · rw [upd_ne (ne_of_none (h a u e) hp)]; exact h a u e
  · rw [upd_ne (ne_of_none h2 hp)]; exact h2
/-- a store -/
theorem Go.put (h : Same F H) (hp : F p = none) : Go [p] F H F (upd H p o) := by
  refine ⟨Same.refl _, fun a u e => ?_, fun a u hm h1 h2 => ⟨h1, ?_⟩⟩
  · rw [upd_ne (ne_of_none e hp)]; exact h a u e
  · rw [upd_ne (fun z => hm (by rw [z]; exact List.mem_cons_self))]; exact h2
/-- an object that was changed is frozen from now on -/
theorem Go.freeze (h : Same F H) (hp : F p = none) (e : H p = some o) : Go [p] F H (upd F p o) H := by
  refine ⟨fun a u z => ?_, fun a u z => ?_, fun a u hm h1 h2 => ⟨?_, h2⟩⟩
  · rw [upd_ne (ne_of_none z hp)]; exact z
  · by_cases ha : a = p
    · subst ha; rw [upd_same] at z; rw [e]; exact z
    · rw [upd_ne ha] at z; exact h a u z
  · rw [upd_ne (fun z => hm (by rw [z]; exact List.mem_cons_self))]; exact h1
theorem same_none {F H : Hp} {p : Addr} (h : Same F H) (e : H p = none) : F p = none := h.free e
/-- drop from ms what was free at the start -/
theorem Go.drop (x : Go (p :: ms) F H F1 H1) (hp : H p = none) : Go ms F H F1 H1 :=
  ⟨x.ff, x.fh, fun a o hm h1 h2 => x.mu a o (fun z => by
    rcases List.mem_cons.mp z with e | e
    · rw [e, hp] at h2; cases h2
    · exact hm e) h1 h2⟩
theorem sqT (s : Same F H) (h : SqT K F a xs) : SqT K H a xs := by
  rcases h with (h | ⟨o, h⟩) | h
  · exact .inl (.inl (s _ _ h))
  · exact .inl (.inr ⟨o, s _ _ h⟩)
  · exact .inr h
theorem sqL (s : Same F H) (h : SqL K F a xs) : SqL K H a xs := s.seq h
mutual
theorem dp_mono {F H : Hp} (s : Same F H) : ∀ (d : PyData) (v : V), Dp K F v d → Dp K H v d
  | .none, _, h => by cases h; exact .non
  | .bool b, _, h => by cases h; exact .bl b
  | .int i, _, h => by cases h; exact .int i
  | .str x, _, h => by cases h; exact .str x
  | .list ds, _, h => by
    cases h with
    | lst h1 h2 => exact .lst (sqL s h1) (dpAll_mono s ds _ h2)
  | .tuple ds, _, h => by
    cases h with
    | tup h1 h2 => exact .tup (sqT s h1) (dpAll_mono s ds _ h2)
  | .dict _, _, h => by cases h
theorem dpAll_mono {F H : Hp} (s : Same F H) : ∀ (ds : List PyData) (vs : List V), DpAll K F vs ds → DpAll K H vs ds
  | [], _, h => by cases h; exact .nil
  | d :: ds, _, h => by
    cases h with
    | cons h1 h2 => exact .cons (dp_mono s d _ h1) (dpAll_mono s ds _ h2)
end
end
/-! ### calls by positional promises -/
section
variable {X : Cx} {CX : CXT} {k : Nat} {f C p g : Addr} {sp : Sp} {E : XK} {x m : Str} {p0 pos apos : Pos} {e o a b : Expr} {es : List Expr} {ta tb : TE} {t : TA}
def tFn (sp : Sp) (E : XK) (t : TA) : TE := fun σ H Q => t σ H fun vs H1 => sp vs H1 Q E
theorem zcall (F : FnR X.prog X.w X.K X.mg X.base CX k f sp) (hr : Room k X.A) (hg : Gl X x) (hm : X.mg x = some (.ref f)) (hk : PySem.W.keepIn X.K (.ref f) = true) (hx : Passes CX X E)
    (ha : PA X (e :: es) t) (hdb : (x == ("__debug__" : Str)) = false := by decide) (he : starEach (e :: es) X.env = (false, eval e X.env) :: starEach es X.env := by rfl) (hpl : (backTo pos (starEach es X.env)).any (·.1) = false := by rfl) :
    PE X (.Call (.Name x p0) (e :: es) [] pos) (tFn sp E t) := by
  refine ⟨fun pins s σ H Q I h => ?_⟩
  refine wpAny_Call_Name_kw (ld_glob I hg hm ?_ hdb)
  refine PySem.W.callWith_K (h₀ := X.base) I.ok.mod.kin hk (thn (ha.run pos pins s σ H _ I h) fun us s1 ⟨vs, H1, I1, r, q⟩ => ⟨I1.kIn, ?_⟩) he hpl
  exact wpAny_call (run_fnR F hr hx I1 r q)
/-- x in o, o of an own class -/
def rInO (neg : Bool) (C : Addr) (sp : Sp) (E : XK) : R2 := fun x y H Q => ∃ a dx fs, y = .ref a ∧ H a = some (.ins C dx fs) ∧ sp [.ref a, x] H (fun v H' => ∃ b, v = .bl b ∧ Q (.bl (if neg then !b else b)) H') E
end
/-! ### floor division of great numbers, any sign -/
def CDivZ (_ j : Int) : Prop := j ≠ 0 ∧ j.natAbs.log2 < 9000
theorem op_fdivZ {X : Cx} : OpR X (binaryOp .FloorDiv) (rI CDivZ fun i j => .int (i.fdiv j)) := opI fun i j _ _ _ _ _ hc q =>
  floordiv_int hc.1 q (.inl (PyProof.noPylong_of_log2 hc.2))
end Z
namespace Z
open PySem PySem.Spec PyProof.Rows L2
section
variable {X : Cx} {CX : CXT} {k : Nat} {f C p g : Addr} {sp : Sp} {E : XK} {x m : Str} {p0 pos apos : Pos} {e o a b : Expr} {es : List Expr} {ta tb : TE} {t : TA}
end
end Z
namespace Z
open PySem PySem.Spec PyProof.Rows L2
abbrev Frg := PySem.W.Frag
/-- what is asked of the written part: Bools, defs, tables with text keys, the defs whose tables of code objects are left out -/
structure Ask where
  fs : List (Frg → Bool)
  fn : List He5.DefA
  ts : List He.Tab
  tf : List (Frg → Addr)
def cdAt (K : Frg) (f : Addr) : Addr := match K.lookup f with
  | some ⟨_, _, .func fd, _⟩ => (match fd.code with
    | .ref c => c
    | _ => 0)
  | _ => 0
def tabsB (g : Addr → Option Obj) (tf : List (Frg → Addr)) (K : Frg) : Bool := tf.all fun p => PySem.W.codeHdIn K (cdAt K (p K)) (He.tabOf K (cdAt K (p K))) && (match g (He.tabOf K (cdAt K (p K))) with
  | some o => He.emptyTab o
  | none => false)
abbrev AlZ : Type := (Bool × List He.FnW) × (List (Option (List (Option (Str × Int)))) × Bool)
def obsZ (q : Ask) (K : Frg) (b : Bool) : AlZ := (((q.fs.all fun f => f K) && q.fn.all fun d => d.ok K, q.fn.map fun d => He5.fnA K (d.at_ K)), (q.ts.map fun t => He.dicW K (t.1 K), b))
def valZ (q : Ask) (w : World) : AlZ := ((true, q.fn.map He5.DefA.val), (q.ts.map fun t => some (He.keysIn w.params t.2), true))
structure Says (q : Ask) (w : World) (h : Heap) (K : Frg) : Prop where
  fact : ∀ f ∈ q.fs, f K = true
  dok : ∀ d ∈ q.fn, d.ok K = true
  dval : q.fn.map (fun d => He5.fnA K (d.at_ K)) = q.fn.map He5.DefA.val
  tval : q.ts.map (fun t => He.dicW K (t.1 K)) = q.ts.map fun t => some (He.keysIn w.params t.2)
  hd : ∀ p ∈ q.tf, PySem.W.codeHdIn K (cdAt K (p K)) (He.tabOf K (cdAt K (p K))) = true
  out : ∀ p ∈ q.tf, K.lookup (He.tabOf K (cdAt K (p K))) = none
  empty : ∀ p ∈ q.tf, h.get? (He.tabOf K (cdAt K (p K))) = some { cls := .none, data := .fields #[] }
def KZ (g : Addr → Option Obj) (n : Nat) : Frg := He.frT g (mainGlobals :: (List.range n ++ [cStatics]))
def obsG (n : Nat) (q : Ask) (g : Addr → Option Obj) : AlZ := obsZ q (KZ g n) (tabsB g q.tf (KZ g n))
theorem says_of {n : Nat} {q : Ask} {w : World} {h : Heap} (e : obsG n q h.get? = valZ q w) : Says q w h (KZ h.get? n) := by
  have e1 : ((q.fs.all fun f => f (KZ h.get? n)) && q.fn.all fun d => d.ok (KZ h.get? n)) = true := congrArg (fun z : AlZ => z.1.1) e
  have e2 : q.fn.map (fun d => He5.fnA (KZ h.get? n) (d.at_ (KZ h.get? n))) = q.fn.map He5.DefA.val := congrArg (fun z : AlZ => z.1.2) e
  have e3 : q.ts.map (fun t => He.dicW (KZ h.get? n) (t.1 (KZ h.get? n))) = q.ts.map fun t => some (He.keysIn w.params t.2) := congrArg (fun z : AlZ => z.2.1) e
  have e4 : tabsB h.get? q.tf (KZ h.get? n) = true := congrArg (fun z : AlZ => z.2.2) e
  obtain ⟨h1, h2⟩ := He.ba e1
  have key : ∀ p ∈ q.tf, PySem.W.codeHdIn (KZ h.get? n) (cdAt (KZ h.get? n) (p (KZ h.get? n))) (He.tabOf (KZ h.get? n) (cdAt (KZ h.get? n) (p (KZ h.get? n)))) = true ∧ ∃ o, h.get? (He.tabOf (KZ h.get? n) (cdAt (KZ h.get? n) (p (KZ h.get? n)))) = some o ∧ He.emptyTab o = true := fun p hp => by
    obtain ⟨h3, h4⟩ := He.ba (List.all_eq_true.mp e4 p hp)
    refine ⟨h3, ?_⟩
    cases z : h.get? (He.tabOf (KZ h.get? n) (cdAt (KZ h.get? n) (p (KZ h.get? n)))) with
    | none => rw [z] at h4; cases h4
    | some o => rw [z] at h4; exact ⟨o, rfl, h4⟩
  exact ⟨fun f hf => List.all_eq_true.mp h1 f hf, fun d hd => List.all_eq_true.mp h2 d hd, e2, e3, fun p hp => (key p hp).1, fun p hp => by
    obtain ⟨_, o, z, y⟩ := key p hp
    exact He.frT_none z y, fun p hp => by
    obtain ⟨_, o, z, y⟩ := key p hp
    rw [z, He.emptyTab_eq y]⟩
def hookZ (n : Nat) (q : Ask) : PySem.W.Hook where
  α := AlZ
  obs := fun s => obsG n q s.heap.get?
  val := fun w => valZ q w
  says := fun w h => ∃ K : Frg, K.In h ∧ Says q w h K
  of := fun _ _ e => ⟨_, He.frT_in, says_of e⟩
  keeps := fun _ _ _ ⟨K, hK, c⟩ k => ⟨K, PySem.W.Frag.In.keeps hK k, ⟨c.fact, c.dok, c.dval, c.tval, c.hd, c.out, fun p hp => k _ _ (c.empty p hp)⟩⟩
theorem obsG_eq {n : Nat} {q : Ask} {g : Addr → Option Obj} {s : Shared} (h : ∀ a, g a = s.heap.get? a) : obsG n q g = (hookZ n q).obs s := by
  have e : g = s.heap.get? := funext h
  rw [e] <;> rfl
section
variable {q : Ask} {w : World} {h : Heap} {K : Frg}
theorem Says.at (c : Says q w h K) (i : Nat) {f : Frg → Bool} (e : q.fs[i]? = some f := by rfl) : f K = true := c.fact f (List.mem_of_getElem? e)
theorem Says.df (c : Says q w h K) (i : Nat) {d : He5.DefA} (e : q.fn[i]? = some d := by rfl) : ∃ fd, L2.FunD K d.name d.qual d.params d.body d.scope (d.dvs K) (d.kws K) (d.at_ K) fd := by
  have e2 : (q.fn.map fun d => He5.fnA K (d.at_ K))[i]? = (q.fn.map He5.DefA.val)[i]? := by rw [c.dval]
  rw [List.getElem?_map, List.getElem?_map, e] at e2
  exact He5.DefA.funD (Option.some.inj e2) (c.dok d (List.mem_of_getElem? e))
theorem Says.tb (c : Says q w h K) (i : Nat) {t : He.Tab} (e : q.ts[i]? = some t := by rfl) : ∃ es n, KDict K w (t.1 K) es n := by
  have e2 : (q.ts.map fun t => He.dicW K (t.1 K))[i]? = (q.ts.map fun t => some (He.keysIn w.params t.2))[i]? := by rw [c.tval]
  rw [List.getElem?_map, List.getElem?_map, e] at e2
  exact He.dicW_ok (Option.some.inj e2)
end
/-! ### Bools and what they tell -/
def bGlo (x : Str) : Frg → Bool := fun K => (He.Fa.glo x).ok K
def bFree (x : Str) : Frg → Bool := fun K => (He.Fa.free x).ok K
def bInt (x : Str) (i : Int) : Frg → Bool := fun K => (He.Fa.int x i).ok K
def bCls (x : Str) : Frg → Bool := fun K => (He.Fa.cls x).ok K
def bNo (x f : Str) : Frg → Bool := fun K => (He.Fa.noat x f).ok K
def bMeth (x m : Str) : Frg → Bool := fun K => (He.Fa.meth x m).ok K
def bMk (x : Str) : Frg → Bool := fun K => (He.Fa.mkr x).ok K
def bKeep (x : Str) : Frg → Bool := fun K => (He.Fa.keep x).ok K
/-- what == and isinstance ask of an own class -/
structure Own (K : Frg) (C : Addr) : Prop where
  sf : PySem.W.selfFirst K C = true
  ne : PySem.W.findIn K (.ref C) "__ne__" = some (some (.builtin "object.__ne__"))
  ob : PySem.W.mroIn K C (.type "object") = some true
  ha : PySem.W.findIn K (.ref C) "__class__" = some (some (.builtin "object.__class__"))
  hn : PySem.W.specialIn K (.builtin "object.__class__") "__get__" = some (some (.builtin "getset_descriptor.__get__"))
  ht : PySem.W.takesIn K (.builtin "object.__class__") = some true
  ki : PySem.W.kitOne K (.ref C) (.ref C) = some true
  kb : ∀ t ∈ ["NoneType", "bool", "int", "str", "list", "tuple", "dict"], PySem.W.kitOne K (.type t) (.ref C) = some false
  kt : ∀ t ∈ ["bool", "int", "str", "list", "tuple", "dict"], PySem.W.kitOne K (.ref C) (.type t) = some false
  nf : ∀ t ∈ ["NoneType", "bool", "int", "str", "list", "tuple", "dict"], PySem.W.notFirst K C (.type t) = true
  cv : PySem.W.isClsIn K C = true
/-- a property -/
def bProp (x f : Str) : Frg → Bool := fun K => He.eqO (PySem.W.findIn K (.ref (He.ga K x)) f) (some (some (.ref (He.ma K (He.ga K x) f)))) && (He.eqO (PySem.W.specialIn K (.ref (He.ma K (He.ga K x) f)) "__get__") (some (some (.builtin "property.__get__"))) &&
  (decide (PySem.W.takesIn K (.ref (He.ma K (He.ga K x) f)) = some true) && (match PySem.W.recIn K (He.ma K (He.ga K x) f) "property" with
    | some (.ref _ :: _) => true
    | _ => false)))
theorem prop_of {K : Frg} {x f : Str} (h : bProp x f K = true) : PropOf K (He.ga K x) f (He.ma K (He.ga K x) f) (He5.wf K (He.ga K x) "property" f) := by
  obtain ⟨h1, h⟩ := He.ba h
  obtain ⟨h2, h⟩ := He.ba h
  obtain ⟨h3, h4⟩ := He.ba h
  refine ⟨He.eqO_ok h1, He.eqO_ok h2, of_decide_eq_true h3, ?_⟩
  unfold He5.wf
  split at h4
  · rename_i f r e
    exact ⟨r, by rw [e]⟩
  · cases h4
section
variable {K : Frg} {h : Heap} {mg : Str → Option Value}
theorem glo_of (X : K.In h) (G : h.Ns mainGlobals mg) {x : Str} (c : bGlo x K = true) : mg x = some (.ref (He.ga K x)) := He.glo_ok X G c
theorem free_of (X : K.In h) (G : h.Ns mainGlobals mg) {x : Str} (c : bFree x K = true) : mg x = none := He.free_ok X G c
theorem int_of (X : K.In h) (G : h.Ns mainGlobals mg) {x : Str} {i : Int} (c : bInt x i K = true) : ∃ t, mg x = some (.int i t) := He.int_ok X G c
theorem cls_of {x : Str} (c : bCls x K = true) : Cls K (He.ga K x) := He.cls_ok c
theorem no_of {x f : Str} (c : bNo x f K = true) : NoAttr K (He.ga K x) f := He.noat_ok c
theorem meth_of {x m : Str} (c : bMeth x m K = true) : Meth K (He.ga K x) m (He.ma K (He.ga K x) m) := He.meth_ok c
theorem mk_of {x : Str} (c : bMk x K = true) : Mk K (He.ga K x) (He.ma K (He.ga K x) "__init__") := He.mkr_ok c
theorem keep_of {x : Str} (c : bKeep x K = true) : PySem.W.keepIn K (.ref (He.ga K x)) = true := He.keep_ok c
end
/-! ### a def by its text -/
section
variable {P : Program} {w : World} {K : Frg} {mg : Str → Option Value} {base : Heap}
abbrev DefAt (K : Frg) (x qual : Str) (st : Stmt) (f : Addr) : Prop := ∃ fd, L2.FunD K x qual (defArgs st) (defBody st) (defScope st) [] [] f fd
theorem zfn {x qual : Str} {st : Stmt} {f : Addr} {N ps : List Str} {k : Nat} {sp : Sp} (F : DefAt K x qual st f) (S : FnScope N ps (defScope st)) (len : ∀ vs H Q E, sp vs H Q E → vs.length = ps.length)
    (hb : ∀ (kV doc pm : Value) (an : Option Addr) (cdv ct : Value) (us : List Value), us.length = ps.length → bindArgs (PySem.W.fnOf x qual (defArgs st) (defBody st) (defScope st) .none kV doc pm an cdv ct) ⟨us, []⟩ = pure (ps.zip us))
    (hbody : ∀ (cdv : Value) (A : Around) (outer : List Env) (s : Shared) (H : Hp) (vs : List V) (Q : VK) (E : XK), Room k (A.deeper (envOfC qual (defScope st) s.heap.objs.size f cdv)) → sp vs H Q E →
      ∃ t, PSs (cxOf (L2N.CX P w) P w K mg base N qual (defScope st) f cdv A outer s H E) (defBody st) t ∧ t { nx := fun _ H' => Q .non H', rt := Q } (start N vs) H) : FnR P w K mg base (L2N.CX P w) (k + 1) f sp := by
  obtain ⟨fd, F⟩ := F
  have B : Binds K fd ps [] := F.bindsN hb
  exact ((FunD.ok F S len hbody).raw B .nil).imp fun vs H Q E h => by rw [List.append_nil]; exact h
end
def Sp1 (P : V → Hp → VK → XK → Prop) : Sp := fun vs H Q E => ∃ a, vs = [a] ∧ P a H Q E
def Sp2 (P : V → V → Hp → VK → XK → Prop) : Sp := fun vs H Q E => ∃ a b, vs = [a, b] ∧ P a b H Q E
theorem len1 {P} : ∀ vs H Q E, Sp1 P vs H Q E → vs.length = 1 := fun _ _ _ _ ⟨_, e, _⟩ => by rw [e]; rfl
theorem len2 {P} : ∀ vs H Q E, Sp2 P vs H Q E → vs.length = 2 := fun _ _ _ _ ⟨_, _, e, _⟩ => by rw [e]; rfl
end Z
namespace Z
open PySem PySem.Spec PyProof.Rows L2
/-- a new object at p: what is behind -/
def New (H : Hp) (o : HO) (Q : Addr → Hp → Prop) : Prop := ∀ p H2, H p = none → H2 = upd H p o → Q p H2
theorem New.run {H : Hp} {o : HO} {Q : Addr → Hp → Prop} (h : New H o Q) : ∀ p, H p = none → Q p (upd H p o) := fun p hp => h p _ hp rfl
/-- a store -/
def Put (H : Hp) (p : Addr) (o : HO) (Q : Hp → Prop) : Prop := ∀ H2, H2 = upd H p o → Q H2
theorem Put.run {H : Hp} {p : Addr} {o : HO} {Q : Hp → Prop} (h : Put H p o Q) : Q (upd H p o) := h _ rfl
section
variable {ms : List Addr} {F H H2 : Hp} {p : Addr} {o : HO}
theorem newE (hs : Same F H) (hp : H p = none) (e : H2 = upd H p o) : ∃ F2, Go [] F H F2 H2 ∧ F2 p = some o ∧ H2 p = some o := ⟨upd F p o, by rw [e]; exact Go.new hs hp, upd_same, by rw [e]; exact upd_same⟩
theorem newM (hs : Same F H) (hp : H p = none) (e : H2 = upd H p o) : Go [] F H F H2 ∧ F p = none ∧ H2 p = some o := ⟨by rw [e]; exact Go.newM hs hp, same_none hs hp, by rw [e]; exact upd_same⟩
theorem putM (hs : Same F H) (hp : F p = none) (e : H2 = upd H p o) : Go [p] F H F H2 ∧ H2 p = some o := ⟨by rw [e]; exact Go.put hs hp, by rw [e]; exact upd_same⟩
end
section
variable {X : Cx} {e a b : Expr} {es : List Expr} {t t' te tb : TE} {ta : TA} {pos : Pos}
theorem pe_imp (h : PE X e t) (f : ∀ σ H Q, t' σ H Q → t σ H Q) : PE X e t' := ⟨fun pins s σ H Q I z => h.run pins s σ H Q I (f σ H Q z)⟩
def wkA (t : TA) : TA := fun σ H Q => ∃ Q0, t σ H Q0 ∧ ∀ xs H1, Q0 xs H1 → Q xs H1
theorem pa_wk (h : PA X es ta) : PA X es (wkA ta) := ⟨fun pos pins s σ H Q I ⟨Q0, z, f⟩ => thn (h.run pos pins s σ H Q0 I z) fun us s1 ⟨xs, H1, I1, r, q⟩ => ⟨xs, H1, I1, r, f xs H1 q⟩⟩
def tTupZ (t : TA) : TE := fun σ H Q => t σ H fun xs H1 => xs.length ≤ sizeLine ∧ New H1 (.tup xs) fun p H2 => Q (.ref p) H2
def tLstZ (t : TA) : TE := fun σ H Q => t σ H fun xs H1 => xs.length ≤ sizeLine ∧ New H1 (.lst xs) fun p H2 => Q (.ref p) H2
theorem pe_tupZ {x1} (h : PA X es ta) : PE X (.Tuple es x1 pos) (tTupZ ta) := pe_imp (pe_tup (pa_wk h)) fun _ _ _ z => ⟨_, z, fun _ _ q => ⟨q.1, q.2.run⟩⟩
theorem pe_lstZ (h : PA X es ta) : PE X (.List es pos) (tLstZ ta) := pe_imp (pe_lst (pa_wk h)) fun _ _ _ z => ⟨_, z, fun _ _ q => ⟨q.1, q.2.run⟩⟩
theorem op_imp {f : Value → Value → Sem Value} {r r' : R2} (h : OpR X f r) (g : ∀ x y H Q, r' x y H Q → r x y H Q) : OpR X f r' := fun pins s σ H x y v u Q I rx ry z => h pins s σ H x y v u Q I rx ry (g x y H Q z)
theorem call_imp {f : Value} {r r' : List V → Hp → VK → Prop} (h : CallR X f r) (g : ∀ xs H Q, r' xs H Q → r xs H Q) : CallR X f r' := fun pins s σ H xs us Q I rx z => h pins s σ H xs us Q I rx (g xs H Q z)
def rCatZ : R2 := fun x y H Q => ∃ l b xs zs, x = .ref l ∧ y = .ref b ∧ H l = some (.lst xs) ∧ H b = some (.lst zs) ∧ xs.length + zs.length ≤ sizeLine ∧ New H (.lst (xs ++ zs)) fun p H2 => Q (.ref p) H2
theorem op_catZ : OpR X (binaryOp .Add) rCatZ := op_imp op_cat fun _ _ _ _ ⟨l, b, xs, zs, e1, e2, h1, h2, hz, n⟩ => ⟨l, b, xs, zs, e1, e2, h1, h2, hz, n.run⟩
def rRepZ : R2 := fun x y H Q => ∃ l k xs, x = .ref l ∧ y = .int k ∧ H l = some (.lst xs) ∧ -(2 ^ 63) ≤ k ∧ k < 2 ^ 63 ∧ xs.length * k.toNat ≤ sizeLine ∧ New H (.lst (List.replicate k.toNat xs).flatten) fun p H2 => Q (.ref p) H2
def rListZ (K : Frg) : List V → Hp → VK → Prop := fun xs H Q => ∃ p ys, xs = [.ref p] ∧ (SqL K H p ys ∨ SqT K H p ys) ∧ New H (.lst ys) fun l H2 => Q (.ref l) H2
theorem call_listZ : CallR X (.type "list") (rListZ X.K) := call_imp call_list_of fun _ _ _ ⟨p, ys, e, h, n⟩ => ⟨p, ys, e, h, n.run⟩
def rSlLZ (K : Frg) : V → Option Int → Option Int → Hp → VK → Prop := fun x lo hi H Q => ∃ a xs, x = .ref a ∧ SqL K H a xs ∧ New H (.lst (cutV xs lo hi)) fun p H2 => Q (.ref p) H2
theorem sl_listZ : L2.SlR X (rSlLZ X.K) := fun pins s σ H x v vl vu lo hi sl Q I rx hs pl pu ⟨a, xs, e, h, n⟩ => sl_list pins s σ H x v vl vu lo hi sl Q I rx hs pl pu ⟨a, xs, e, h, n.run⟩
def rSetLZ : TSet := fun o i v H Q => ∃ p xs k j, o = .ref p ∧ i = .int k ∧ H p = some (.lst xs) ∧ ixN xs.length k = some j ∧ Put H p (.lst (xs.set j v)) Q
theorem set_listZ : PSet X rSetLZ := fun pins s σ H o i v ov iv vv Q I ro ri rv ⟨p, xs, k, j, e1, e2, h, hj, n⟩ => set_list pins s σ H o i v ov iv vv Q I ro ri rv ⟨p, xs, k, j, e1, e2, h, hj, n.run⟩
theorem pe_globI {x : Str} {i : Int} (hg : Gl X x) (h : ∃ t, X.mg x = some (.int i t)) (hd : (x == ("__debug__" : Str)) = false := by decide) : PE X (.Name x pos) (tC (.int i)) := let ⟨t, q⟩ := h; pe_glob hg q ⟨t, rfl⟩ hd
end
/-- a statement and what follows, with a word between them -/
def tCutZ (t u : TS) : TS := fun D σ H => ∃ Mid : L2.St → Hp → Prop, t { D with nx := Mid } σ H ∧ ∀ σ' H', Mid σ' H' → u D σ' H'
theorem zcut {X : Cx} {st : Stmt} {rest : List Stmt} {t u : TS} (h1 : PS X st t) (h2 : PSs X rest u) : PSs X (st :: rest) (tCutZ t u) := by
  have w : PS X st (fun D σ H => ∃ Mid : L2.St → Hp → Prop, t { D with nx := Mid } σ H ∧ ∀ σ' H', Mid σ' H' → D.nx σ' H') := ⟨fun pins s σ H D I ⟨Mid, z, f⟩ => thn (h1.run pins s σ H _ I z) fun fl s' q => by
    cases fl with
    | next => obtain ⟨σ', H', I', q'⟩ := q; exact ⟨σ', H', I', f _ _ q'⟩
    | brk => exact q
    | cont => exact q
    | ret v => exact q⟩
  exact ⟨fun pins s σ H D I ⟨Mid, z, f⟩ => (pss_cons w h2).run pins s σ H D I ⟨Mid, z, f⟩⟩
theorem lenOk {α : Type} {xs : List α} (h : Nat.ble xs.length 1000 = true) : xs.length ≤ sizeLine := Nat.le_trans (Nat.le_of_ble_eq_true h) (by decide)
end Z
namespace Z
open PySem PySem.Spec PyProof.Rows L2
theorem tyT {K : Frg} {H : Hp} {a : Addr} {xs : List V} (h : SqT K H a xs) : TyX K H (.ref a) (.type "tuple") := by
  rcases h with (h | ⟨o, h⟩) | ⟨o, its, n, h1, h2, _⟩
  · exact .base (.tup h)
  · exact .fTuple h
  · exact .kTuple h1 h2
theorem tyL {K : Frg} {H : Hp} {a : Addr} {xs : List V} (h : SqL K H a xs) : TyX K H (.ref a) (.type "list") := by
  rcases h with (h | ⟨o, h⟩) | ⟨o, its, n, h1, h2, _⟩
  · exact .base (.lst h)
  · exact .base (.frz h)
  · exact .kList h1 h2
theorem tyI {K : Frg} {H : Hp} (i : Int) : TyX K H (.int i) (.type "int") := .base (.int i)
theorem tyO {K : Frg} {H : Hp} {C a dx : Addr} {fs : List (Str × V)} (c : Cls K C) (o : Own K C) (h : H a = some (.ins C dx fs)) : TyX K H (.ref a) (.ref C) := .base (.ins h c o.ha o.hn o.ht o.ob)
/-- the reading of a comprehension behind its source -/
def LcR (J : It) (g : TG) (tt : TT) (te : TE) (vs : List Nat) (σ : L2.St) (H1 : Hp) (Q : VK) : Prop := ∀ D, H1 D = none → ∃ W : Nat → Nat → Hp → Prop, (∃ m, W 0 m (upd H1 D (.lst []))) ∧ ∀ i m H, W i m H →
  (J.stop i H ∧ Q (.ref D) H) ∨ (J.go i H ∧ ∃ Nx : Hp → Prop, (∀ H', Nx H' → ∃ m', m' < m ∧ W (i + 1) m' H') ∧ ∀ x H', J.yld i H x H' → g x (wipe σ vs) H' fun σ2 H2 => wipe σ2 vs = wipe σ vs ∧ tt σ2 H2 fun b H3 =>
    if b = true then te σ2 H3 fun y H4 => ∃ acc, H4 D = some (.lst acc) ∧ acc.length < sizeLine ∧ Nx (upd H4 D (.lst (acc ++ [y]))) else Nx H3)
def tLcZ (wi : TI) (g : TG) (tt : TT) (te : TE) (vs : List Nat) : TE := fun σ H Q => wi σ H fun J H1 => LcR J g tt te vs σ H1 Q
theorem pe_lcZ {X : Cx} {e : Expr} {wi : TI} {g : TG} {tt : TT} {te : TE} {vs : List Nat} (h : PE X e (tLc wi g tt te vs)) : PE X e (tLcZ wi g tt te vs) := h
/-- a comprehension, by what holds of the items made so far -/
theorem lc_go {J : It} {n : Nat} {G : Hp → Prop} {Y : Nat → Hp → V → Hp → Prop} (w : Walk J n G Y) {g : TG} {tt : TT} {te : TE} {vs : List Nat} {σ : L2.St} {F H : Hp} {ms : List Addr} {Q : VK} (hs : Same F H) (hm : ∀ a ∈ ms, H a ≠ none) (M : Hp → Hp → Prop) (m0 : M F H)
    (mst : ∀ D F1 H1 F2 H2, H D = none → M F1 H1 → Go [D] F1 H1 F2 H2 → M F2 H2) (hG : ∀ F1 H1, Go ms F H F1 H1 → M F1 H1 → G H1) (I : Nat → List V → Hp → Prop) (i0 : I 0 [] F) (im : ∀ i acc F1 F2, Same F1 F2 → I i acc F1 → I i acc F2) (hn : n ≤ 100000)
    (turn : ∀ i x acc F1 H1 H1', i < n → acc.length ≤ i → I i acc F1 → Go ms F H F1 H1 → M F1 H1 → Y i H1 x H1' → ∀ (Kp : V → Hp → Prop) (Sk : Hp → Prop), (∀ y F2 H2, Go ms F1 H1 F2 H2 → M F2 H2 → I (i + 1) (acc ++ [y]) F2 → Kp y H2) →
      (∀ F2 H2, Go ms F1 H1 F2 H2 → M F2 H2 → I (i + 1) acc F2 → Sk H2) → g x (wipe σ vs) H1' fun σ2 H2 => wipe σ2 vs = wipe σ vs ∧ tt σ2 H2 fun b H3 => if b = true then te σ2 H3 Kp else Sk H3)
    (fin : ∀ D ys F' H', Go ms F H F' H' → M F' H' → F' D = some (.lst ys) → ys.length ≤ n → I n ys F' → Q (.ref D) H') :
    LcR J g tt te vs σ H Q := by
  intro D hD
  have hsz : (100000 : Nat) < sizeLine := by decide
  have dm : D ∉ ms := fun z => hm D z hD
  have st : ∀ {F2 H2 : Hp} {acc : List V}, Go ms F H F2 H2 → M F2 H2 → F2 D = none → ∀ o, Go ms F H F2 (upd H2 D o) ∧ M F2 (upd H2 D o) := fun {F2 H2 acc} gg m fd o => by
    have p : Go [D] F2 H2 F2 (upd H2 D o) := Go.put gg.fh fd
    have p2 : Go (D :: ms) F2 H2 F2 (upd H2 D o) := p.sub fun a ha => by
      rcases List.mem_cons.mp ha with e | e
      · rw [e]; exact List.mem_cons_self
      · cases e
    have g2 : Go (D :: ms) F H F2 H2 := gg.sub fun a ha => List.mem_cons_of_mem _ ha
    exact ⟨(g2.trans p2).drop hD, mst D _ _ _ _ hD m p⟩
  refine lc_it w (fun i H' => ∃ F' acc, Go ms F H F' H' ∧ M F' H' ∧ F' D = none ∧ H' D = some (.lst acc) ∧ acc.length ≤ i ∧ I i acc F') ?_ (fun i H' _ ⟨F', acc, g1, m1, _⟩ => hG F' H' g1 m1) ?_ ?_
  · have fd := same_none hs hD
    obtain ⟨a, b⟩ := st (acc := []) (Go.refl hs) m0 fd (.lst [])
    exact ⟨F, [], a, b, fd, upd_same, Nat.le_refl _, i0⟩
  · rintro i x H1 H1' hi ⟨F1, acc, g1, m1, fd, hd, hl, hI⟩ hy
    refine turn i x acc F1 H1 H1' hi hl hI g1 m1 hy _ _ (fun y F2 H2 g2 m2 I2 => ?_) fun F2 H2 g2 m2 I2 => ?_
    · have key : F2 D = none ∧ H2 D = some (.lst acc) := g2.mu D _ dm fd hd
      obtain ⟨a, b⟩ := st (acc := acc) (g1.trans g2) m2 key.1 (.lst (acc ++ [y]))
      refine ⟨acc, key.2, by omega, F2, acc ++ [y], a, b, key.1, upd_same, ?_, I2⟩
      rw [List.length_append]
      show acc.length + 1 ≤ i + 1
      omega
    · have key : F2 D = none ∧ H2 D = some (.lst acc) := g2.mu D _ dm fd hd
      exact ⟨F2, acc, g1.trans g2, m2, key.1, key.2, by omega, I2⟩
  · rintro H' ⟨F', acc, g1, m1, fd, hd, hl, hI⟩
    have fz : Go [D] F' H' (upd F' D (.lst acc)) H' := Go.freeze g1.fh fd hd
    have g2 : Go (D :: ms) F H (upd F' D (.lst acc)) H' := (g1.sub fun a ha => List.mem_cons_of_mem _ ha).trans (fz.sub fun a ha => by
      rcases List.mem_cons.mp ha with e | e
      · rw [e]; exact List.mem_cons_self
      · cases e)
    exact fin D acc _ H' (g2.drop hD) (mst D _ _ _ _ hD m1 fz) upd_same hl (im _ _ _ _ fz.ff hI)
theorem cx_no {P : World → Program} (w : World) (H : Hp) (s : Shared) (e : Value) (s' : Shared) (h : L2N.CX (P w) w [] H s (fun _ _ _ => False) e s') : False := by
  obtain ⟨_, _, _, _, _, _, _, _, _, _, _, _, z⟩ := h
  exact z
end Z
namespace Z
open PySem PySem.Spec PyProof.Rows L2
/-! ### what is_integer, is_place tell -/
theorem gcd_emod (x y : Int) : Int.gcd y x = Int.gcd y (x % y) := by
  have h := Int.gcd_add_mul_right_right y (x % y) (x / y)
  rw [show x % y + x / y * y = x from by rw [Int.mul_comm]; exact Int.emod_add_mul_ediv x y] at h
  exact h
end Z
namespace MN
/-- the place of the cell -/
def low (a b c x y : Int) : Int × Int := ((x - y / c * b) % a, y - y / c * c)
/-- a shift of the net -/
def InN (a b c x y : Int) : Prop := ∃ m k : Int, x = m * a + k * b ∧ y = k * c
theorem inN_add {a b c x y x' y' : Int} (h : InN a b c x y) (h' : InN a b c x' y') : InN a b c (x + x') (y + y') := by
  obtain ⟨m, k, h1, h2⟩ := h
  obtain ⟨m', k', h3, h4⟩ := h'
  exact ⟨m + m', k + k', by grind, by grind⟩
theorem inN_neg {a b c x y : Int} (h : InN a b c x y) : InN a b c (-x) (-y) := by
  obtain ⟨m, k, h1, h2⟩ := h
  exact ⟨-m, -k, by grind, by grind⟩
theorem inN_sub {a b c x y x' y' : Int} (h : InN a b c x y) (h' : InN a b c x' y') : InN a b c (x - x') (y - y') := by
  obtain ⟨m, k, h1, h2⟩ := h
  obtain ⟨m', k', h3, h4⟩ := h'
  exact ⟨m - m', k - k', by grind, by grind⟩
theorem inN_zero {a b c : Int} : InN a b c 0 0 := ⟨0, 0, by grind, by grind⟩
theorem low_in (a b c x y : Int) : InN a b c (x - (low a b c x y).1) (y - (low a b c x y).2) := by
  refine ⟨(x - y / c * b) / a, y / c, ?_, ?_⟩
  · show x - (x - y / c * b) % a = _
    have := Int.emod_add_mul_ediv (x - y / c * b) a
    grind
  · show y - (y - y / c * c) = _
    grind
theorem low_rng {a b c x y : Int} (ha : 0 < a) (hc : 0 < c) : 0 ≤ (low a b c x y).1 ∧ (low a b c x y).1 < a ∧ 0 ≤ (low a b c x y).2 ∧ (low a b c x y).2 < c := by
  have h1 := Int.emod_nonneg (x - y / c * b) (show a ≠ 0 by omega)
  have h2 := Int.emod_lt_of_pos (x - y / c * b) ha
  have h3 := Int.emod_nonneg y (show c ≠ 0 by omega)
  have h4 := Int.emod_lt_of_pos y hc
  have h5 := Int.emod_add_mul_ediv y c
  have e : y - y / c * c = y % c := by grind
  refine ⟨h1, h2, ?_, ?_⟩
  · show 0 ≤ y - y / c * c
    omega
  · show y - y / c * c < c
    omega
/-- within the cell only (0, 0) belongs to the net -/
theorem in_cell {a b c x y : Int} (ha : 0 < a) (hc : 0 < c) (h : InN a b c x y) (hx : -a < x ∧ x < a) (hy : -c < y ∧ y < c) : x = 0 ∧ y = 0 := by
  obtain ⟨m, k, h1, h2⟩ := h
  have hk : k = 0 := by
    rcases Int.lt_trichotomy k 0 with z | z | z
    · have : k * c ≤ -1 * c := Int.mul_le_mul_of_nonneg_right (by omega) (by omega)
      omega
    · exact z
    · have : 1 * c ≤ k * c := Int.mul_le_mul_of_nonneg_right (by omega) (by omega)
      omega
  subst hk
  have hm : m = 0 := by
    rcases Int.lt_trichotomy m 0 with z | z | z
    · have : m * a ≤ -1 * a := Int.mul_le_mul_of_nonneg_right (by omega) (by omega)
      omega
    · exact z
    · have : 1 * a ≤ m * a := Int.mul_le_mul_of_nonneg_right (by omega) (by omega)
      omega
  subst hm
  exact ⟨by omega, by omega⟩
/-- two places have the same place of the cell exactly if they differ by a shift -/
theorem low_eq {a b c x y x' y' : Int} (ha : 0 < a) (hc : 0 < c) : low a b c x y = low a b c x' y' ↔ InN a b c (x - x') (y - y') := by
  have h1 := low_in a b c x y
  have h2 := low_in a b c x' y'
  have r1 := low_rng (b := b) (x := x) (y := y) ha hc
  have r2 := low_rng (b := b) (x := x') (y := y') ha hc
  constructor
  · intro e
    rw [e] at h1
    have := inN_sub h1 h2
    have e1 : x - (low a b c x' y').1 - (x' - (low a b c x' y').1) = x - x' := by omega
    have e2 : y - (low a b c x' y').2 - (y' - (low a b c x' y').2) = y - y' := by omega
    rw [e1, e2] at this
    exact this
  · intro h
    have h3 := inN_sub (inN_sub h h1) (inN_neg h2)
    have e1 : x - x' - (x - (low a b c x y).1) - -(x' - (low a b c x' y').1) = (low a b c x y).1 - (low a b c x' y').1 := by omega
    have e2 : y - y' - (y - (low a b c x y).2) - -(y' - (low a b c x' y').2) = (low a b c x y).2 - (low a b c x' y').2 := by omega
    rw [e1, e2] at h3
    obtain ⟨z1, z2⟩ := in_cell ha hc h3 (by omega) (by omega)
    exact Prod.ext (by omega) (by omega)
theorem low_self {a b c x y : Int} (hx : 0 ≤ x ∧ x < a) (hy : 0 ≤ y ∧ y < c) : low a b c x y = (x, y) := by
  have h : y / c = 0 := Int.ediv_eq_zero_of_lt hy.1 hy.2
  unfold low
  rw [h]
  have : (x - 0 * b) % a = x := by rw [show x - 0 * b = x by omega]; exact Int.emod_eq_of_lt hx.1 hx.2
  rw [this]
  simp
/-! ### the order of a shift -/
theorem inN_iff {a b c x y : Int} (hc : 0 < c) : InN a b c x y ↔ c ∣ y ∧ a ∣ x - y / c * b := by
  constructor
  · rintro ⟨m, k, h1, h2⟩
    have : y / c = k := by rw [h2]; exact Int.mul_ediv_cancel k (by omega)
    refine ⟨⟨k, by rw [h2, Int.mul_comm]⟩, m, ?_⟩
    rw [this]
    grind
  · rintro ⟨⟨k, h1⟩, m, h2⟩
    have : y / c = k := by rw [h1]; exact Int.mul_ediv_cancel_left k (by omega)
    rw [this] at h2
    exact ⟨m, k, by grind, by grind⟩
end MN
namespace Z
open PySem PySem.Spec PyProof.Rows L2
/-! ### sizes -/
def Sz (n : Nat) (x : Int) : Prop := x.natAbs < 2 ^ n
theorem Sz.mono {a b : Nat} {x : Int} (h : Sz a x) (hl : a ≤ b) : Sz b x := Nat.lt_of_lt_of_le h (Nat.pow_le_pow_right (by decide) hl)
theorem sz_mul {a b : Nat} {x y : Int} (h : Sz a x) (h' : Sz b y) : Sz (a + b) (x * y) := wide_lt h h'
theorem sz_neg {a : Nat} {x : Int} (h : Sz a x) : Sz a (-x) := by
  show (-x).natAbs < 2 ^ a
  rw [Int.natAbs_neg]
  exact h
theorem sz_div {a : Nat} {x : Int} (y : Int) (h : Sz a x) : Sz a (x / y) := Nat.lt_of_le_of_lt (Int.natAbs_ediv_le_natAbs x y) h
theorem sz_le {a : Nat} {x y : Int} (h0 : 0 ≤ x) (h1 : x ≤ y) (h : Sz a y) : Sz a x := Nat.lt_of_le_of_lt (by omega) h
theorem mulOk {x y : Int} (h : Sz 5000 x) (h' : Sz 5000 y) : CMulW x y := wide_mul h h' (by decide) (by decide) (by decide)
theorem divOk {x y : Int} (h : 0 < y) (h' : Sz 5000 y) : CDivW x y := wide_div h h' (by decide) (by decide)
theorem sz_of {x b : Int} {n : Nat} (h0 : -b < x) (h1 : x < b) (hb : Sz n b) : Sz n x := Nat.lt_of_le_of_lt (by omega) hb
/-! ### tuples of ints compared -/
section
variable {K : Frg} {H : Hp} {p q : Addr} {a b c d e f : Int} {Q : VK}
end
/-! ### nets -/
def netF (q : Addr) : List (Str × V) := [("own_numbers", .ref q)]
structure NetIs (C : Addr) (F : Hp) (x : Addr) (a b c : Int) : Prop where
  at_ : ∃ dx q, F x = some (.ins C dx (netF q)) ∧ F q = some (.tup [.int a, .int b, .int c])
  hc : 1 ≤ c
  hb : 0 ≤ b
  ba : b < a
  sa : Sz 1000 a
  sc : Sz 1000 c
theorem NetIs.mono {C : Addr} {F H : Hp} {x : Addr} {a b c : Int} (n : NetIs C F x a b c) (s : Same F H) : NetIs C H x a b c := by
  obtain ⟨⟨dx, q, h1, h2⟩, r1, r2, r3, r4, r5⟩ := n
  exact ⟨⟨dx, q, s _ _ h1, s _ _ h2⟩, r1, r2, r3, r4, r5⟩
theorem NetIs.sb {C : Addr} {F : Hp} {x : Addr} {a b c : Int} (n : NetIs C F x a b c) : Sz 1000 b := sz_le n.hb (Int.le_of_lt n.ba) n.sa
theorem NetIs.ha {C : Addr} {F : Hp} {x : Addr} {a b c : Int} (n : NetIs C F x a b c) : 0 < a := by have := n.hb; have := n.ba; omega
end Z
namespace Z
open PySem PySem.Spec PyProof.Rows L2
/-- the tape: a list that changes -/
def TapeV (K : Frg) (F : Hp) (xs : List V) : Prop := ∃ (c : Addr) (ns : List Int) (i b r : Int), xs = [.ref c, .int i, .int b, .int r] ∧ SqL K F c (ns.map V.int) ∧ 0 ≤ i ∧ 0 ≤ b ∧ 0 ≤ r ∧ r < 2147483647
structure Tape (K : Frg) (F H : Hp) (t : Addr) : Prop where
  fr : F t = none
  at_ : ∃ xs, H t = some (.lst xs) ∧ TapeV K F xs
theorem Tape.go {K : Frg} {F H F' H' : Hp} {t : Addr} {ms : List Addr} (x : Tape K F H t) (g : Go ms F H F' H') (hm : t ∉ ms) : Tape K F' H' t := by
  obtain ⟨h1, xs, h2, c, ns, i, b, r, e, h3, h4⟩ := x
  obtain ⟨a1, a2⟩ := g.mu t _ hm h1 h2
  exact ⟨a1, xs, a2, c, ns, i, b, r, e, sqL g.ff h3, h4⟩
theorem Tape.go0 {K : Frg} {F H F' H' : Hp} {t : Addr} (x : Tape K F H t) (g : Go [] F H F' H') : Tape K F' H' t := x.go g (by simp)
theorem Tape.ne {K : Frg} {F H : Hp} {t : Addr} (x : Tape K F H t) : H t ≠ none := by
  obtain ⟨_, xs, h, _⟩ := x
  rw [h]
  exact fun z => nomatch z
def spDraw (K : Frg) : Sp := Sp2 fun a b H Q _ => ∃ F t many, a = .ref t ∧ b = .int many ∧ Same F H ∧ Tape K F H t ∧ 0 < many ∧ many.natAbs.log2 < 9000 ∧
  ∀ d H', 0 ≤ d → d < many → Go [t] F H F H' → Tape K F H' t → Q (.int d) H'
def spTape (K : Frg) : Sp := Sp1 fun a H Q _ => ∃ (F : Hp) (s : Addr) (ns : List Int), a = .ref s ∧ Same F H ∧ SqL K F s (ns.map V.int) ∧ ∀ t F' H', Go [] F H F' H' → Tape K F' H' t → Q (.ref t) H'
theorem sz_lit {n : Nat} {x : Int} (h : Nat.blt x.natAbs (2 ^ n) = true) : Sz n x := Nat.le_of_ble_eq_true h
theorem szLog {x : Int} (h : Sz 8000 x) : x.natAbs.log2 < 9000 := Nat.lt_of_lt_of_le (PySem.Flt.log2_lt_of (by decide) h) (by decide)
theorem cut_ints (ns : List Int) (lo hi : Option Int) : ∃ ms : List Int, cutV (ns.map V.int) lo hi = ms.map V.int := by
  unfold cutV
  rw [← List.map_drop, ← List.map_take]
  exact ⟨_, rfl⟩
end Z
namespace Z
open PySem PySem.Spec PyProof.Rows L2
/-! ### room, with nothing being shown above -/
structure RoomG (k : Nat) (A : Around) : Prop where
  rm : Room k A
  gd : A.guards = some []
theorem RoomG.mono {j k : Nat} {A : Around} (r : RoomG k A) (h : j ≤ k) : RoomG j A := ⟨r.rm.mono h, r.gd⟩
theorem RoomG.deeper {k : Nat} {A : Around} (r : RoomG (k + 1) A) (env : Env) : RoomG k (A.deeper env) := ⟨r.rm.deeper env, r.gd⟩
theorem RoomG.in1 {k : Nat} {A : Around} (r : RoomG (k + 1) A) : RoomG k A.in1 := ⟨r.rm.in1, r.gd⟩
theorem guards_make {A : Around} {C : Addr} {us : List Value} : (A.under (.builtin "type.__call__" ⟨.ref C :: us, []⟩)).guards = A.guards := by
  show pushGuards (Code.guards (.builtin "type.__call__" ⟨.ref C :: us, []⟩)) A.guards = A.guards
  have e : Code.guards (.builtin "type.__call__" ⟨.ref C :: us, []⟩) = [] := by
    unfold Code.guards
    first | rfl | decide +kernel | simp
  rw [e]
  cases A.guards <;> rfl
theorem RoomG.make {k : Nat} {A : Around} (r : RoomG (k + 1) A) (C : Addr) (us : List Value) : RoomG k (A.under (.builtin "type.__call__" ⟨.ref C :: us, []⟩)) := ⟨r.rm.make C us [], by rw [guards_make]; exact r.gd⟩
theorem RoomG.units {k : Nat} {A : Around} (r : RoomG k A) : A.units + 64 < cLine := r.rm.units
/-- a def, called where nothing is being shown -/
def FnG (P : Program) (w : World) (K : Frg) (mg : Str → Option Value) (base : Heap) (CX : CXT) (k : Nat) (f : Addr) (sp : Sp) : Prop :=
  ∀ (A : Around) (outer : List Env) (s : Shared) (H : Hp) (us : List Value) (vs : List V) (Q : VK) (E : XK), RoomG k A → Env0 P w K mg base A outer s H → Vals vs us → sp vs H Q E → codeAny (model P w) A (.call (.ref f) ⟨us, []⟩) (CR CX outer P w H s Q E) s
/-- .. at one such place -/
def FnA (A : Around) (P : Program) (w : World) (K : Frg) (mg : Str → Option Value) (base : Heap) (CX : CXT) (f : Addr) (sp : Sp) : Prop :=
  ∀ (outer : List Env) (s : Shared) (H : Hp) (us : List Value) (vs : List V) (Q : VK) (E : XK), Env0 P w K mg base A outer s H → Vals vs us → sp vs H Q E → codeAny (model P w) A (.call (.ref f) ⟨us, []⟩) (CR CX outer P w H s Q E) s
section
variable {P : Program} {w : World} {K : Frg} {mg : Str → Option Value} {base : Heap} {CX : CXT} {k : Nat} {f : Addr} {sp sp' : Sp} {A : Around}
theorem FnG.at (F : FnG P w K mg base CX k f sp) (hr : RoomG k A) : FnA A P w K mg base CX f sp := fun outer s H us vs Q E => F A outer s H us vs Q E hr
theorem FnG.of (F : FnR P w K mg base CX k f sp) : FnG P w K mg base CX k f sp := fun A outer s H us vs Q E hr => F A outer s H us vs Q E hr.rm
theorem FnG.imp (F : FnG P w K mg base CX k f sp) (h : ∀ vs H Q E, sp' vs H Q E → sp vs H Q E) : FnG P w K mg base CX k f sp' := fun A outer s H us vs Q E hr e0 r hs => F A outer s H us vs Q E hr e0 r (h _ _ _ _ hs)
end
section
variable {X : Cx} {CX : CXT} {k : Nat} {f C p g : Addr} {sp : Sp} {E : XK} {x m : Str} {p0 pos apos : Pos} {e o a b : Expr} {es : List Expr} {ta tb : TE} {t : TA} {pins : List (Addr × Obj)} {σ : L2.St} {H : Hp} {s : Shared}
theorem run_A {A : Around} {Q : VK} {us : List Value} {vs : List V} (F : FnA A X.prog X.w X.K X.mg X.base CX f sp) (e0 : Env0 X.prog X.w X.K X.mg X.base A X.stack s H) (hx : Passes CX X E) (I : L2.Inv X pins σ H s) (r : Vals vs us) (h : sp vs H Q E) :
    codeAny (model X.prog X.w) A (.call (.ref f) ⟨us, []⟩) (fun r s' => match r with | .ok (.ret v) => EP X pins σ Q v s' | .ok _ => False | .error e => X.xe e s') s :=
  codeAny_mono (F X.stack s H us vs Q E e0 r h) fun q s' hq => match q, hq with
    | .error er, hq => hx pins σ H s er s' I hq
    | .ok (.ret _), hq => I.after hq
    | .ok .next, hq => False.elim hq
    | .ok .brk, hq => False.elim hq
    | .ok .cont, hq => False.elim hq
theorem run_fnA {Q : VK} {us : List Value} {vs : List V} (F : FnA X.A X.prog X.w X.K X.mg X.base CX f sp) (hx : Passes CX X E) (I : L2.Inv X pins σ H s) (r : Vals vs us) (h : sp vs H Q E) :
    codeAny (model X.prog X.w) X.A (.call (.ref f) ⟨us, []⟩) (fun r s' => match r with | .ok (.ret v) => EP X pins σ Q v s' | .ok _ => False | .error e => X.xe e s') s := run_A F I.env0 hx I r h
theorem gcall (F : FnA X.A X.prog X.w X.K X.mg X.base CX f sp) (hg : Gl X x) (hm : X.mg x = some (.ref f)) (hk : PySem.W.keepIn X.K (.ref f) = true) (hx : Passes CX X E)
    (ha : PA X (e :: es) t) (hdb : (x == ("__debug__" : Str)) = false := by decide) (he : starEach (e :: es) X.env = (false, eval e X.env) :: starEach es X.env := by rfl) (hpl : (backTo pos (starEach es X.env)).any (·.1) = false := by rfl) :
    PE X (.Call (.Name x p0) (e :: es) [] pos) (tFn sp E t) := by
  refine ⟨fun pins s σ H Q I h => ?_⟩
  refine wpAny_Call_Name_kw (ld_glob I hg hm ?_ hdb)
  refine PySem.W.callWith_K (h₀ := X.base) I.ok.mod.kin hk (thn (ha.run pos pins s σ H _ I h) fun us s1 ⟨vs, H1, I1, r, q⟩ => ⟨I1.kIn, ?_⟩) he hpl
  exact wpAny_call (run_fnA F hx I1 r q)
theorem gop_in (hs : PySem.W.findIn X.K (.ref C) "__contains__" = some (some (.ref g))) (hf : PySem.W.isFn X.K (.ref g) = true) (F : FnA X.A X.prog X.w X.K X.mg X.base CX g sp) (hx : Passes CX X E) : OpR X (compareOp .In) (rInO false C sp E) := by
  intro pins s σ H x y v u Q I rx ry h
  obtain ⟨a, dx, fs, rfl, ea, q⟩ := h
  cases (show u = Value.ref a from ry)
  obtain ⟨mA, O, _, _, _, _⟩ := ins_get I.hok ea
  obtain ⟨od, J, _⟩ := O.look
  obtain ⟨m, hF⟩ := I.fr
  refine PySem.W.in_K hF I.ok.mod.kin J hs hf ?_
  refine wpAny_mono (wpAny_call (run_fnA (us := [.ref a, v]) (vs := [.ref a, x]) F hx I (.cons rfl (.cons rx .nil)) q)) (fun w s' z => ?_) fun _ _ x => x
  obtain ⟨z', H', I', rz, b, rfl, qz⟩ := z
  cases (show w = Value.bool b from rz)
  exact wpAny_truthy_bool ⟨.bl b, H', I', rfl, qz⟩
/-- making an instance -/
theorem run_makeG {Q : VK} {us : List Value} {vs : List V} (M : Mk X.K C f) (F : FnG X.prog X.w X.K X.mg X.base CX k f sp) (hr : RoomG (k + 1) X.A) (hx : Passes CX X E) (I : L2.Inv X pins σ H s) (r : Vals vs us)
    (h : ∀ x dx, H x = none → H dx = none → dx ≠ x → sp (V.ref x :: vs) (upd (upd H dx (.own x)) x (.ins C dx [])) (fun v H2 => v = .non ∧ Q (.ref x) H2) E) :
    wpAny (model X.prog X.w) X.A (call (.ref C) us) (EP X pins σ Q) X.xe s := by
  have J := Inv.made (C := C) I
  have hq := h (s.heap.objs.size + 1) s.heap.objs.size (I.hok.fresh (Nat.le_succ _)) (I.hok.fresh (Nat.le_refl _)) (Nat.ne_of_lt (Nat.lt_succ_self _))
  have run := F _ X.stack _ _ (.ref (s.heap.objs.size + 1) :: us) (.ref (s.heap.objs.size + 1) :: vs) _ E (hr.make C us) (J.env0.make C us []) (.cons rfl r) hq
  exact wpAny_call (make_map (f := f) I.kIn M.makes M.init (beq_iff_eq.mp M.fn) (codeAny_mono run fun q s' z => match q, z with
    | .error er, z => hx pins σ _ _ er s' J z
    | .ok (.ret _), z => by
      obtain ⟨v, H', J3, rv, ev, q3⟩ := J.after z
      subst ev
      exact ⟨rv, V.ref (s.heap.objs.size + 1), H', J3, rfl, q3⟩
    | .ok .next, z => False.elim z
    | .ok .brk, z => False.elim z
    | .ok .cont, z => False.elim z))
theorem gmake {x : Str} {spI spM : Sp} (mk : ∀ vs H Q, spM vs H Q E → ∀ x dx, H x = none → H dx = none → dx ≠ x → spI (.ref x :: vs) (upd (upd H dx (.own x)) x (.ins C dx [])) (fun v H2 => v = .non ∧ Q (.ref x) H2) E)
    (M : Mk X.K C f) (F : FnG X.prog X.w X.K X.mg X.base CX k f spI) (hr : RoomG (k + 1) X.A) (hg : Gl X x) (hm : X.mg x = some (.ref C)) (hx : Passes CX X E) (ha : PA X (e :: es) t) (hdb : (x == ("__debug__" : Str)) = false := by decide)
    (he : starEach (e :: es) X.env = (false, eval e X.env) :: starEach es X.env := by rfl) (hpl : (backTo pos (starEach es X.env)).any (·.1) = false := by rfl) : PE X (.Call (.Name x p0) (e :: es) [] pos) (tFn spM E t) := by
  refine ⟨fun pins s σ H Q I h => ?_⟩
  refine wpAny_Call_Name_kw (ld_glob I hg hm ?_ hdb)
  refine PySem.W.callWith_K (h₀ := X.base) I.ok.mod.kin M.kp (thn (ha.run pos pins s σ H _ I h) fun us s1 ⟨vs, H1, I1, r, q⟩ => ⟨I1.kIn, ?_⟩) he hpl
  exact run_makeG M F hr hx I1 r (mk vs H1 Q q)
end
end Z
namespace Z
open PySem PySem.Spec PyProof.Rows L2
section
variable {P : Program} {w : World} {K : Frg} {mg : Str → Option Value} {base : Heap}
/-- a def by its text, where nothing is being shown -/
theorem zfnG {x qual : Str} {st : Stmt} {f : Addr} {N ps : List Str} {k : Nat} {sp : Sp} (F : DefAt K x qual st f) (S : FnScope N ps (defScope st)) (len : ∀ vs H Q E, sp vs H Q E → vs.length = ps.length)
    (hb : ∀ (kV doc pm : Value) (an : Option Addr) (cdv ct : Value) (us : List Value), us.length = ps.length → bindArgs (PySem.W.fnOf x qual (defArgs st) (defBody st) (defScope st) .none kV doc pm an cdv ct) ⟨us, []⟩ = pure (ps.zip us))
    (hbody : ∀ (cdv : Value) (A : Around) (outer : List Env) (s : Shared) (H : Hp) (vs : List V) (Q : VK) (E : XK), RoomG k (A.deeper (envOfC qual (defScope st) s.heap.objs.size f cdv)) → sp vs H Q E →
      ∃ t, PSs (cxOf (L2N.CX P w) P w K mg base N qual (defScope st) f cdv A outer s H E) (defBody st) t ∧ t { nx := fun _ H' => Q .non H', rt := Q } (start N vs) H) : FnG P w K mg base (L2N.CX P w) (k + 1) f sp := by
  obtain ⟨fd, F⟩ := F
  obtain ⟨oc, od, dV, kV, doc, pm, an, cdv, ct, osl, rfl, lk, hcd, hD, hK⟩ := F.ex
  have hD' : dV = .none := by
    rcases hD with ⟨_, z⟩ | ⟨z, _⟩
    · exact z
    · exact absurd rfl z
  subst hD'
  intro A outer s H us vs Q E hr e0 r hs
  have hl := len _ _ _ _ hs
  have hu : us.length = ps.length := r.length.symm.trans hl
  refine StX.run_bnd lk hcd S hr.rm e0 (G := fun xs H2 => xs = vs ∧ H2 = H) (fun A' Ex Q' h => ?_) fun s2 H2 xs g hr' => ?_
  · rw [hb kV doc pm an cdv ct us hu]
    exact wpAny_pure (h s H vs us e0 .refl rfl (fun _ _ z => z) r hl ⟨rfl, rfl⟩)
  · obtain ⟨rfl, rfl⟩ := g
    exact hbody cdv A outer s2 H2 xs Q E ⟨hr', hr.gd⟩ hs
/-- a def by its text, its code object told -/
theorem zfnGC {x qual : Str} {st : Stmt} {f : Addr} {N ps : List Str} {k : Nat} {sp : Sp} (F : DefAt K x qual st f) (S : FnScope N ps (defScope st)) (len : ∀ vs H Q E, sp vs H Q E → vs.length = ps.length)
    (hb : ∀ (kV doc pm : Value) (an : Option Addr) (cdv ct : Value) (us : List Value), us.length = ps.length → bindArgs (PySem.W.fnOf x qual (defArgs st) (defBody st) (defScope st) .none kV doc pm an cdv ct) ⟨us, []⟩ = pure (ps.zip us))
    (hbody : ∀ (cdv : Value), cdv = .ref (cdAt K f) → ∀ (A : Around) (outer : List Env) (s : Shared) (H : Hp) (vs : List V) (Q : VK) (E : XK), RoomG k (A.deeper (envOfC qual (defScope st) s.heap.objs.size f cdv)) → sp vs H Q E →
      ∃ t, PSs (cxOf (L2N.CX P w) P w K mg base N qual (defScope st) f cdv A outer s H E) (defBody st) t ∧ t { nx := fun _ H' => Q .non H', rt := Q } (L2.start N vs) H) : FnG P w K mg base (L2N.CX P w) (k + 1) f sp := by
  obtain ⟨fd, F⟩ := F
  obtain ⟨oc, od, dV, kV, doc, pm, an, cdv, ct, osl, rfl, lk, hcd, hD, hK⟩ := F.ex
  have hD' : dV = .none := by
    rcases hD with ⟨_, z⟩ | ⟨z, _⟩
    · exact z
    · exact absurd rfl z
  subst hD'
  have ecd : cdv = .ref (cdAt K f) := by
    have h := hcd
    unfold PySem.W.codeIn at h
    split at h
    · unfold cdAt
      rw [lk]
    · cases h
  intro A outer s H us vs Q E hr e0 r hs
  have hl := len _ _ _ _ hs
  have hu : us.length = ps.length := r.length.symm.trans hl
  refine StX.run_bnd lk hcd S hr.rm e0 (G := fun xs H2 => xs = vs ∧ H2 = H) (fun A' Ex Q' h => ?_) fun s2 H2 xs g hr' => ?_
  · rw [hb kV doc pm an cdv ct us hu]
    exact wpAny_pure (h s H vs us e0 .refl rfl (fun _ _ z => z) r hl ⟨rfl, rfl⟩)
  · obtain ⟨rfl, rfl⟩ := g
    exact hbody cdv ecd A outer s2 H2 xs Q E ⟨hr', hr.gd⟩ hs
/-- what a caller may say of an exception, seen from ahead of new objects -/
theorem cxUpN {P : Program} {w : World} : StX.CXUp (L2N.CX P w) := by
  intro outer s H s2 H2 E e s' un kp ho z
  obtain ⟨a, B, G, c, d, e1, fl, hk, u, n1, o1, g1, q⟩ := z
  have fr : ∀ b o, s.heap.get? b = some o → H b = none → H2 b = none := fun b o x n => un.free b o x n (by simp)
  have tb : ∀ b ps, H b = some (.tbl ps) → ∃ m, G b = some (.tbl (ps ++ m)) := fun b ps x => by
    obtain ⟨m1, y⟩ := un.tbls b ps x
    obtain ⟨m2, y'⟩ := u.tbls b _ y
    exact ⟨m1 ++ m2, by rw [y', Array.append_assoc]⟩
  have ub : UB (frs outer) H G s.heap B s'.heap :=
    ⟨fun b o x n h => u.keep b o (kp b o x) (fr b o x n) h, fun b o x h => u.slot b o (kp b o x) h, fun b o x n => u.free b o (kp b o x) (fr b o x n), fun b o x h => u.there b o (kp b o x) h, fun b xs x => u.tups b xs (un.tups b xs x), fun b o xs x => u.frzs b o xs (un.frzs b o xs x), tb⟩
  exact ⟨a, B, G, c, d, e1, fl, hk, ub, n1, o1.trans ho, g1, q⟩
/-- def f(*v) -/
theorem zfnSG {x qual pv : Str} {st : Stmt} {f : Addr} {N : List Str} {k : Nat} {sp : Sp} (F : DefAt K x qual st f) (S : FnScope N [pv] (defScope st))
    (hb : ∀ (kV doc pm : Value) (an : Option Addr) (cdv ct : Value) (rest : List Value), bindArgs (PySem.W.fnOf x qual (defArgs st) (defBody st) (defScope st) .none kV doc pm an cdv ct) ⟨rest, []⟩ = (newTuple rest >>= fun t => pure [(pv, t)]))
    (hbody : ∀ (cdv : Value) (A : Around) (outer : List Env) (s : Shared) (H : Hp) (vs : List V) (Q : VK) (E : XK), RoomG k (A.deeper (envOfC qual (defScope st) s.heap.objs.size f cdv)) → sp vs H Q E →
      ∃ t, PSs (cxOf (L2N.CX P w) P w K mg base N qual (defScope st) f cdv A outer s H E) (defBody st) t ∧ t { nx := fun _ H' => Q .non H', rt := Q } (start N vs) H) :
    FnG P w K mg base (L2N.CX P w) (k + 1) f (fun vs H Q E => vs.length ≤ sizeLine ∧ ∀ p, H p = none → sp [V.ref p] (upd H p (.tup vs)) Q E) := by
  obtain ⟨fd, F⟩ := F
  obtain ⟨oc, od, dV, kV, doc, pm, an, cdv, ct, osl, rfl, lk, hcd, hD, hK⟩ := F.ex
  have hD' : dV = .none := by
    rcases hD with ⟨_, z⟩ | ⟨z, _⟩
    · exact z
    · exact absurd rfl z
  subst hD'
  intro A outer s H us vs Q E hr e0 r ⟨hz, hs⟩
  have hn : H s.heap.objs.size = none := e0.hok.fresh (Nat.le_refl _)
  have hu : us.length ≤ sizeLine := by rw [← r.length]; exact hz
  refine StX.run_bnd lk hcd S hr.rm e0 (G := fun xs H2 => ∃ p, H p = none ∧ xs = [V.ref p] ∧ H2 = upd H p (.tup vs)) (fun A' Ex Q' h => ?_) fun s2 H2 xs g hr' => ?_
  · rw [hb kV doc pm an cdv ct us]
    refine wpAny_bind (wpAny_newTuple (wpAny_pure ?_) hu)
    have laid : ObjOk P w (upd H s.heap.objs.size (.tup vs)) (s.heap.push ({ cls := .type "tuple", data := .seq us.toArray } : Obj)) s.heap.objs.size (.tup vs) := ⟨hz, us, r, _, Heap.get?_push_size _ rfl, rfl, _, rfl⟩
    have un := StX.un_laid (fs := frs outer) (s := s) (o := ({ cls := .type "tuple", data := .seq us.toArray } : Obj)) (u := HO.tup vs) hn
    refine h _ _ [V.ref s.heap.objs.size] [Value.ref s.heap.objs.size] (StX.env0_laid e0 laid) un rfl (fun e s' => ?_) (.cons rfl .nil) rfl ⟨_, hn, rfl, rfl⟩
    exact cxUpN outer s H _ _ E e s' un (fun b o q => Heap.get?_push_of_some _ q) rfl
  · obtain ⟨p, hp, rfl, rfl⟩ := g
    exact hbody cdv A outer s2 _ _ Q E ⟨hr', hr.gd⟩ (hs p hp)
end
section
variable {P : Program} {w : World} {K : Frg} {mg : Str → Option Value} {base : Heap}
/-! ### the end -/
/-- what is tracked where the law begins: the tables ts and the script (if it is not the module's) -/
def atLaw (K : Frg) (ts : List Addr) (a : Addr) (o : Obj) (xs : List V) : Hp := fun b =>
  if b ∈ ts then some (.tbl #[]) else if b = a then (match K.lookup a with | none => some (.frz o (.lst xs)) | some _ => none) else none
theorem atLaw_inv {ts : List Addr} {a b : Addr} {o : Obj} {xs : List V} {u : HO} (h : atLaw K ts a o xs b = some u) : (b ∈ ts ∧ u = .tbl #[]) ∨ (b ∉ ts ∧ b = a ∧ K.lookup a = none ∧ u = .frz o (.lst xs)) := by
  unfold atLaw at h
  split at h
  · rename_i m
    cases h
    exact .inl ⟨m, rfl⟩
  · rename_i m
    split at h
    · rename_i e
      split at h
      · rename_i n
        cases h
        exact .inr ⟨m, e, n, rfl⟩
      · cases h
    · cases h
theorem atLaw_t {ts : List Addr} {a b : Addr} {o : Obj} {xs : List V} (h : b ∈ ts) : atLaw K ts a o xs b = some (.tbl #[]) := if_pos h
theorem law_run {mb : Str → Option Value} {CX : CXT} {k : Nat} {fa a : Addr} {cs : List (Addr × Addr)} {sp : Sp} {s₁ : Shared} {vs : List Value} {ns : List Int}
    (KX : K.In s₁.heap) (hns : s₁.heap.Ns mainGlobals mg) (hb : s₁.heap.Ns builtinsNs mb) (hbb : ∀ x : Str, x ≠ "__name__" → mb x = bootBuiltins x) (hlim : s₁.heap.NoLimit) (hg : s₁.gens = #[])
    (hT : ∀ p ∈ cs, s₁.heap.get? p.2 = some { cls := .none, data := .fields #[] }) (nT : ∀ p ∈ cs, K.lookup p.2 = none) (C : ∀ p ∈ cs, PySem.W.CodeHd s₁.heap p.1 p.2)
    (hbm : ∃ (bm : Addr) (ob : Obj), mg "__builtins__" = some (.ref bm) ∧ bm ≠ builtinsNs ∧ s₁.heap.get? bm = some ob ∧ ob.cls = .type "module" ∧ ob.dict = some builtinsNs ∧ ob.data = .plain)
    (ha : s₁.heap.get? a = some { cls := .type "list", data := .seq vs.toArray }) (hi : IntsAre vs ns) (hl : ns.length ≤ sizeLine) (hr : RoomG k callerA)
    (F : ∀ base : Heap, K.In base → base.Ns mainGlobals mg → (∀ p ∈ cs, LamX.TabB base mg p.1 p.2) → FnG P w K mg base CX k fa sp)
    (hsp : ∀ H : Hp, (∀ p ∈ cs, H p.2 = some (.tbl #[])) → SqL K H a (ns.map V.int) → sp [.ref a] H (fun v _ => v = .bl true) fun _ _ _ => False)
    (hCX : ∀ H e s', CX [] H s₁ (fun _ _ _ => False) e s' → False) :
    codeAny (model P w) callerA (.call (.ref fa) ⟨[.ref a], []⟩) (fun r s' => r = .ok (.ret (.bool true)) ∧ OldK s₁.heap s'.heap ∧ s'.os = s₁.os ∧ AllBare s'.gens) s₁ := by
  have rv := vals_ints hi
  let ts := cs.map (·.2)
  let o1 : Obj := { cls := .type "list", data := .seq vs.toArray }
  let H0 : Hp := atLaw K ts a o1 (ns.map V.int)
  have inT : ∀ p ∈ cs, p.2 ∈ ts := fun p hp => List.mem_map.mpr ⟨p, hp, rfl⟩
  have ofT : ∀ b ∈ ts, ∃ p ∈ cs, p.2 = b := fun b m => List.mem_map.mp m
  have getT : ∀ b ∈ ts, s₁.heap.get? b = some { cls := .none, data := .fields #[] } := fun b m => by
    obtain ⟨p, hp, rfl⟩ := ofT b m
    exact hT p hp
  have aT : a ∉ ts := fun m => by
    have q := (getT a m).symm.trans ha
    cases q
  -- an object that is neither a list nor an empty table is not tracked
  have un0 : ∀ {b : Addr} {o : Obj}, s₁.heap.get? b = some o → (∀ ws n, o.data ≠ .seq ws n) → o.data ≠ .fields #[] → H0 b = none := fun {b o} e n1 n2 => by
    match q : H0 b with
    | none => rfl
    | some u =>
      rcases atLaw_inv q with ⟨m, _⟩ | ⟨_, rfl, _⟩
      · have e' := (getT b m).symm.trans e
        cases e'
        exact absurd rfl n2
      · have e' := ha.symm.trans e
        cases e'
        exact absurd rfl (n1 _ _)
  have see : ∀ {b : Addr} {o : Obj}, s₁.heap.get? b = some o → H0 b = none → (hidT s₁.heap H0).get? b = some o := fun e n => hidT_get e n
  have seeN : ∀ {b : Addr} {m : Str → Option Value}, s₁.heap.Ns b m → (hidT s₁.heap H0).Ns b m := fun {b m} ⟨o, es, ep, e, hd, r⟩ => by
    refine ⟨o, es, ep, see e (un0 e (fun ws n z => ?_) fun z => ?_), hd, r⟩
    · exact nomatch hd.symm.trans z
    · exact nomatch hd.symm.trans z
  have KB : K.In (hidT s₁.heap H0) := fun b o e => by
    refine see (KX b o e) ?_
    match q : H0 b with
    | none => rfl
    | some u =>
      rcases atLaw_inv q with ⟨m, _⟩ | ⟨_, rfl, z, _⟩
      · obtain ⟨p, hp, rfl⟩ := ofT b m
        exact nomatch (nT p hp).symm.trans e
      · exact nomatch z.symm.trans e
  have M0 : L2.Mod K mg (hidT s₁.heap H0) := by
    obtain ⟨mc, l1, l2⟩ := hlim
    exact ⟨KB, seeN hns, ⟨mb, seeN hb, hbb⟩, mc, seeN l1, l2⟩
  have tabs : ∀ p ∈ cs, LamX.TabB (hidT s₁.heap H0) mg p.1 p.2 := fun p hp => by
    refine ⟨?_, ?_, fun z => ?_⟩
    · obtain ⟨o, us, file, tf, flags, tg, inF, text, tt, e1, r1, r2, r3, rr⟩ := C p hp
      refine ⟨o, us, file, tf, flags, tg, inF, text, tt, see e1 (un0 e1 (fun ws n z => nomatch r2.symm.trans z) fun z => ?_), r1, r2, r3, rr⟩
      have q := r2.symm.trans z
      cases q
      simp at r3
    · obtain ⟨bm, ob, b1, b2, b3, b4, b5, b6⟩ := hbm
      refine ⟨bm, ob, b1, b2, fun q => ?_, fun q => ?_, see b3 (un0 b3 (fun ws n z => nomatch b6.symm.trans z) fun z => nomatch b6.symm.trans z), b4, b5, b6⟩
      · obtain ⟨o, es, ep, e, hd, _⟩ := hns
        subst q
        have q := b3.symm.trans e
        cases q
        exact nomatch b6.symm.trans hd
      · subst q
        have q := b3.symm.trans (hT p hp)
        cases q
        cases b6
    · obtain ⟨o, es, ep, e, hd, _⟩ := hns
      rw [z] at e
      have q := (hT p hp).symm.trans e
      cases q
      cases hd
  have ok0 : HOk P w H0 s₁.heap := fun b u q => by
    rcases atLaw_inv q with ⟨m, rfl⟩ | ⟨_, rfl, _, rfl⟩
    · exact getT b m
    · exact ⟨ha, by rw [List.length_map]; exact hl, vs, _, rv, ha⟩
  have sq : SqL K H0 a (ns.map V.int) := by
    match hk : K.lookup a with
    | none =>
      refine .inl (.inr ⟨o1, ?_⟩)
      show atLaw K ts a o1 (ns.map V.int) a = _
      unfold atLaw
      rw [if_neg aT, if_pos rfl, hk]
    | some o =>
      have e := (KX a o hk).symm.trans ha
      cases e
      exact .inr ⟨_, vs.toArray, _, hk, rfl, rfl, rfl, by rw [List.size_toArray, hi.length]; exact hl, by simpa using rv⟩
  have e0 : Env0 P w K mg (hidT s₁.heap H0) callerA [] s₁ H0 :=
    { frames := rfl, mod := M0, bs := fun b o e => of_hidT e, bsz := Nat.le_of_eq (hidT_size _ _), funs := trivial, frf := fun b m => (List.not_mem_nil m).elim, hok := ok0, bare := .of_eq hg }
  refine codeAny_mono (F _ KB (seeN hns) tabs callerA [] s₁ H0 [.ref a] [.ref a] _ _ hr e0 (.cons rfl .nil) (hsp H0 (fun p hp => atLaw_t (inT p hp)) sq)) fun r s' h => ?_
  match r, h with
  | .error e, h => exact (hCX H0 e s' h).elim
  | .ok .next, h => exact False.elim h
  | .ok .brk, h => exact False.elim h
  | .ok .cont, h => exact False.elim h
  | .ok (.ret u), ⟨v, H2, os, bare, un, ok2, rr, q⟩ =>
    have ev : v = .bl true := q
    subst ev
    have eu : u = Value.bool true := rr
    subst eu
    have rest : ∀ b o, b ∉ ts → s₁.heap.get? b = some o → s'.heap.get? b = some o := fun b o nb e => by
      match z : H0 b with
      | none => exact un.keep b o e z (fun m => (List.not_mem_nil m).elim) (fun m => (List.not_mem_nil m).elim)
      | some u =>
        rcases atLaw_inv z with ⟨m, _⟩ | ⟨_, _, _, rfl⟩
        · exact absurd m nb
        · have e1 := (ok0 b _ z).1
          have e2 := (ok2 b _ (un.frzs b _ _ z)).1
          exact e2.trans (e1.symm.trans e)
    have grew : ∀ b ∈ ts, ∃ more : Array Value, s'.heap.get? b = some { cls := .none, data := .fields more } := fun b m => by
      obtain ⟨more, z⟩ := un.tbls b #[] (atLaw_t m)
      exact ⟨_, ok2 b _ z⟩
    refine ⟨rfl, ⟨fun b o e => ?_, fun b o e => ?_⟩, os, bare⟩
    · by_cases m : b ∈ ts
      · obtain ⟨p, hp, rfl⟩ := ofT b m
        obtain ⟨more, hm⟩ := grew _ m
        have q := (hT p hp).symm.trans e
        cases q
        exact .inr (.inl ⟨((C p hp).tab (hT p hp)).isCodeTable, rfl, #[], more, rfl, by rw [Array.empty_append]; exact hm⟩)
      · exact .inl (rest b o m e)
    · by_cases m : b ∈ ts
      · obtain ⟨more, hm⟩ := grew b m
        exact ⟨_, hm⟩
      · exact ⟨o, rest b o m e⟩
end
/-- what a law's def keeps -/
def LawG (l : PySem.W.OpenLaw) (w : World) (K : Frg) (CX : CXT) (k n : Nat) (mg : Str → Option Value) (fa : Addr) (h : Heap) : Prop :=
  ∃ (cs : List (Addr × Addr)) (sp : Sp), (∀ p ∈ cs, h.get? p.2 = some { cls := .none, data := .fields #[] }) ∧ (∀ p ∈ cs, K.lookup p.2 = none) ∧ (∀ p ∈ cs, PySem.W.CodeHd h p.1 p.2) ∧
    (∀ (H : Hp) (a : Addr) (ns : List Int), ns.length ≤ n → (∀ p ∈ cs, H p.2 = some (.tbl #[])) → SqL K H a (ns.map V.int) → sp [.ref a] H (fun v _ => v = .bl true) fun _ _ _ => False) ∧
    ∀ base : Heap, K.In base → base.Ns mainGlobals mg → (∀ p ∈ cs, LamX.TabB base mg p.1 p.2) → FnG l.prog w K mg base CX k fa sp
theorem walk_G {l : PySem.W.OpenLaw} {n k : Nat} {q : Program} {loose : List Str} {XP : (Str → Option Value) → Heap → Prop} {YP : World → Heap → Prop} {d : DefRec} {CX : World → CXT}
    (hn : l.most = some n) (hn2 : n ≤ sizeLine) (hdf : d.params.defaults = []) (hr : Room k callerA)
    (F : ∀ (w : World) (mg : Str → Option Value) (fa : Addr) (h : Heap), YP w h → h.Ns mainGlobals mg → mg d.name = some (.ref fa) → ∃ K : Frg, K.In h ∧ LawG l w K (CX w) k n mg fa h)
    (hCX : ∀ (w : World) (H : Hp) (s : Shared) (e : Value) (s' : Shared), CX w [] H s (fun _ _ _ => False) e s' → False) :
    PySem.W.WalkO q loose XP YP l.row.toRowW d [] (fun f vs => PySem.call f vs) :=
  Att.attach_callB hn hdf fun w s₀ s₁ mg mb fa o pm cd doc a vs ns G Y ho hd hcd hmg hobj hints hlen hbits hg => by
    obtain ⟨K, KX, cs, sp, t1, t2, t3, t4, t5⟩ := F w mg fa _ Y G.T.g hmg
    exact law_run KX G.T.g G.T.b G.T.builtins G.T.nolimit hg t1 t2 t3 G.T.bmain hobj hints (Nat.le_trans hlen hn2) ⟨hr, rfl⟩ t5 (fun H h1 h2 => t4 H a ns hlen h1 h2) fun H e s' => hCX w H s₁ e s'
end Z
namespace Z
open PySem PySem.Spec PyProof.Rows L2 HandSHeadRun PySem.W PySem.Calls
end Z
namespace Y
open PySem PySem.Spec PyProof.Rows L2 Z
/-! ### plain data, and the values that bear it in a frozen heap -/
inductive D where
  | non | bl (b : Bool) | int (i : Int) | str (s : Str) | lst (ds : List D) | tup (ds : List D) | obj (c : Str) (ns : List Str) (ds : List D) | ty (n : String) | glob (x : Str) | tape | fn (a : Addr) | dic (ks : List Key) (ds : List D) | dpl (ks : List (List Int)) (ds : List D)
/-! ### the tables of the code objects of defs that make lambdas -/
def lamNames : List Str := ["law", "overlay", "enlarged", "sampled", "layered", "masked", "uncovered", "_law_net_right", "_law_triples_right", "_law_shifts_right", "_law_rows_right", "_law_fixed_right", "_law_refusals_right", "_law_errors_right", "_law_far_right", "_law_round_right", "_law_apart", "_law_stepped", "_law_acted"]
def isFnB : Option Obj → Bool
  | some ⟨_, _, .func _, _⟩ => true
  | _ => false
def tabN (K : Frg) (x : Str) : Addr := He.tabOf K (cdAt K (He.ga K x))
def lamQ (x : Str) : Str := (x ++ ".<locals>.") ++ "<lambda>"
def tabsOf (K : Frg) : List (Addr × Str) := (lamNames.filter fun x => isFnB (K.lookup (He.ga K x))).map fun x => (tabN K x, lamQ x)
def tabA (K : Frg) : List Addr := (tabsOf K).map (·.1)
/-! ### dicts whose keys are tuples of ints -/
def tupI (k : List Int) : Int := reduceHash (Builtin.Tuple.tupleHashOf (k.map hashInt))
def entI (x : List Int × Addr × Value) : DictEntry := ⟨tupI x.1, .ref x.2.1, x.2.2⟩
def dxO (a : Addr) (es : Array DictEntry) (ep : Nat) : HO := .ext fun h => ∃ o, h.get? a = some o ∧ o.ExactDict ∧ o.data = .dict es ep
/-- the entries of such a dict -/
inductive DKs (K : Frg) (F : Hp) : List (List Int) → List (List Int × Addr × Value) → List V → Prop
  | nil : DKs K F [] [] []
  | cons {k : List Int} {b : Addr} {u : Value} {v : V} {ks : List (List Int)} {xs : List (List Int × Addr × Value)} {vs : List V} : SqT K F b (k.map V.int) → RelV v u → DKs K F ks xs vs → DKs K F (k :: ks) ((k, b, u) :: xs) (v :: vs)
theorem DKs.up {K : Frg} {F F' : Hp} {ks : List (List Int)} {xs : List (List Int × Addr × Value)} {vs : List V} (h : DKs K F ks xs vs) (s : Same F F') : DKs K F' ks xs vs := by
  induction h with
  | nil => exact .nil
  | cons h1 h2 _ ih => exact .cons (sqT s h1) h2 ih
mutual
inductive Rp (K : Frg) (ms : List Addr) (F : Hp) : V → D → Prop
  | non : Rp K ms F .non .non
  | bl (b : Bool) : Rp K ms F (.bl b) (.bl b)
  | int (i : Int) : Rp K ms F (.int i) (.int i)
  | str (s : Str) : Rp K ms F (.str s) (.str s)
  | ty (n : String) : Rp K ms F (.ty n) (.ty n)
  | glob (x : Str) : Rp K ms F (.ref (He.ga K x)) (.glob x)
  | tape {t : Addr} : t ∈ ms → t ∉ tabA K → Rp K ms F (.ref t) .tape
  | fn (a : Addr) : Rp K ms F (.ref a) (.fn a)
  | lst {a : Addr} {vs : List V} {ds : List D} : F a = some (.lst vs) → Rps K ms F vs ds → Rp K ms F (.ref a) (.lst ds)
  | tup {a : Addr} {vs : List V} {ds : List D} : SqT K F a vs → Rps K ms F vs ds → Rp K ms F (.ref a) (.tup ds)
  | obj {a dx : Addr} {c : Str} {ns : List Str} {vs : List V} {ds : List D} : F a = some (.ins (He.ga K c) dx (ns.zip vs)) → ns.length = vs.length → Rps K ms F vs ds → Rp K ms F (.ref a) (.obj c ns ds)
  | dic {a : Addr} {o : Obj} {ks : List Key} {vs : List V} {ds : List D} : F a = some (.frz o (.dK (ks.zip vs))) → ks.length = vs.length → Rps K ms F vs ds → Rp K ms F (.ref a) (.dic ks ds)
  | dpl {a : Addr} {es : Array DictEntry} {ep : Nat} {ks : List (List Int)} {xs : List (List Int × Addr × Value)} {vs : List V} {ds : List D} : F a = some (dxO a es ep) → (a == sysModules) = false → ks.length ≤ 100000 → es.toList = xs.map entI → (xs.map (·.1)).Nodup → DKs K F ks xs vs → Rps K ms F vs ds → Rp K ms F (.ref a) (.dpl ks ds)
inductive Rps (K : Frg) (ms : List Addr) (F : Hp) : List V → List D → Prop
  | nil : Rps K ms F [] []
  | cons {v : V} {d : D} {vs : List V} {ds : List D} : Rp K ms F v d → Rps K ms F vs ds → Rps K ms F (v :: vs) (d :: ds)
end
section
variable {K : Frg} {ms : List Addr} {F F' H : Hp}
mutual
theorem Rp.mono (s : Same F F') : ∀ (d : D) (v : V), Rp K ms F v d → Rp K ms F' v d
  | .non, _, h => by cases h; exact .non
  | .bl b, _, h => by cases h; exact .bl b
  | .int i, _, h => by cases h; exact .int i
  | .str x, _, h => by cases h; exact .str x
  | .ty x, _, h => by cases h; exact .ty x
  | .glob x, _, h => by cases h; exact .glob x
  | .tape, _, h => by cases h with | tape m n => exact .tape m n
  | .fn a, _, h => by cases h; exact .fn a
  | .lst ds, _, h => by cases h with | lst h1 h2 => exact .lst (s _ _ h1) (Rps.mono s ds _ h2)
  | .tup ds, _, h => by cases h with | tup h1 h2 => exact .tup (sqT s h1) (Rps.mono s ds _ h2)
  | .obj c ns ds, _, h => by cases h with | obj h1 h2 h3 => exact .obj (s _ _ h1) h2 (Rps.mono s ds _ h3)
  | .dic ks ds, _, h => by cases h with | dic h1 h2 h3 => exact .dic (s _ _ h1) h2 (Rps.mono s ds _ h3)
  | .dpl ks ds, _, h => by cases h with | dpl h1 h2 h3 h4 h5 h6 h7 => exact .dpl (s _ _ h1) h2 h3 h4 h5 (h6.up s) (Rps.mono s ds _ h7)
theorem Rps.mono (s : Same F F') : ∀ (ds : List D) (vs : List V), Rps K ms F vs ds → Rps K ms F' vs ds
  | [], _, h => by cases h; exact .nil
  | d :: ds, _, h => by cases h with | cons h1 h2 => exact .cons (Rp.mono s d _ h1) (Rps.mono s ds _ h2)
end
theorem Rp.up {v : V} {d : D} (h : Rp K ms F v d) (s : Same F F') : Rp K ms F' v d := Rp.mono s d v h
theorem Rps.up {v : List V} {d : List D} (h : Rps K ms F v d) (s : Same F F') : Rps K ms F' v d := Rps.mono s d v h
theorem Rps.len : ∀ {vs : List V} {ds : List D}, Rps K ms F vs ds → vs.length = ds.length
  | [], [], _ => rfl
  | _ :: _, _ :: _, h => by
    cases h with
    | cons _ h => simp only [List.length_cons]; rw [Rps.len h]
  | [], _ :: _, h => by cases h
  | _ :: _, [], h => by cases h
theorem Rps.app : ∀ {vs ws : List V} {ds es : List D}, Rps K ms F vs ds → Rps K ms F ws es → Rps K ms F (vs ++ ws) (ds ++ es)
  | [], _, [], _, _, h => h
  | _ :: _, _, _ :: _, _, h, h' => by
    cases h with
    | cons h1 h2 => exact .cons h1 (Rps.app h2 h')
  | [], _, _ :: _, _, h, _ => by cases h
  | _ :: _, _, [], _, h, _ => by cases h
theorem Rps.get : ∀ {vs : List V} {ds : List D} {i : Nat} {d : D}, Rps K ms F vs ds → ds[i]? = some d → ∃ v, vs[i]? = some v ∧ Rp K ms F v d
  | [], [], _, _, _, e => by simp at e
  | v :: _, _ :: _, 0, _, h, e => by
    cases h with
    | cons h1 _ => simp at e; subst e; exact ⟨v, rfl, h1⟩
  | _ :: vs, _ :: ds, i + 1, d, h, e => by
    cases h with
    | cons _ h2 =>
      obtain ⟨v, h3, h4⟩ := Rps.get (i := i) h2 (by simpa using e)
      exact ⟨v, by simpa using h3, h4⟩
  | [], _ :: _, _, _, h, _ => by cases h
  | _ :: _, [], _, _, h, _ => by cases h
theorem Rps.take : ∀ {vs : List V} {ds : List D} (n : Nat), Rps K ms F vs ds → Rps K ms F (vs.take n) (ds.take n)
  | _, _, 0, _ => .nil
  | [], [], _ + 1, _ => .nil
  | _ :: _, _ :: _, n + 1, h => by
    cases h with
    | cons h1 h2 => exact .cons h1 (Rps.take n h2)
  | [], _ :: _, _ + 1, h => by cases h
  | _ :: _, [], _ + 1, h => by cases h
theorem Rps.drop : ∀ {vs : List V} {ds : List D} (n : Nat), Rps K ms F vs ds → Rps K ms F (vs.drop n) (ds.drop n)
  | _, _, 0, h => h
  | [], [], _ + 1, _ => .nil
  | _ :: _, _ :: _, n + 1, h => by
    cases h with
    | cons h1 h2 => exact Rps.drop n h2
  | [], _ :: _, _ + 1, h => by cases h
  | _ :: _, [], _ + 1, h => by cases h
theorem Rps.flat {vs : List V} {ds : List D} (h : Rps K ms F vs ds) : ∀ n : Nat, Rps K ms F (List.replicate n vs).flatten (List.replicate n ds).flatten
  | 0 => .nil
  | n + 1 => by
    rw [List.replicate_succ, List.replicate_succ, List.flatten_cons, List.flatten_cons]
    exact h.app (Rps.flat h n)
theorem Rps.one {v : V} {d : D} (h : Rp K ms F v d) : Rps K ms F [v] [d] := .cons h .nil
theorem Rps.two {v w : V} {d e : D} (h : Rp K ms F v d) (h' : Rp K ms F w e) : Rps K ms F [v, w] [d, e] := .cons h (.cons h' .nil)
theorem Rps.ints : ∀ {vs : List V} {is : List Int}, Rps K ms F vs (is.map D.int) → vs = is.map V.int
  | [], [], _ => rfl
  | _ :: _, _ :: _, h => by
    cases h with
    | cons h1 h2 => cases h1; rw [Rps.ints h2]; rfl
  | [], _ :: _, h => by cases h
  | _ :: _, [], h => by cases h
theorem Rps.bls : ∀ {vs : List V} {is : List Bool}, Rps K ms F vs (is.map D.bl) → vs = is.map V.bl
  | [], [], _ => rfl
  | _ :: _, _ :: _, h => by
    cases h with
    | cons h1 h2 => cases h1; rw [Rps.bls h2]; rfl
  | [], _ :: _, h => by cases h
  | _ :: _, [], h => by cases h
end
/-! ### as data of the library -/
mutual
def pd : D → Option PyData
  | .non => some .none
  | .bl b => some (.bool b)
  | .int i => some (.int i)
  | .str s => some (.str s)
  | .lst ds => (pds ds).map PyData.list
  | .tup ds => (pds ds).map PyData.tuple
  | .obj _ _ _ => none
  | .ty _ => none
  | .glob _ => none
  | .tape => none
  | .fn _ => none
  | .dic _ _ => none
  | .dpl _ _ => none
def pds : List D → Option (List PyData)
  | [] => some []
  | d :: ds => match pd d, pds ds with
    | some a, some b => some (a :: b)
    | _, _ => none
end
mutual
/-- == of plain data -/
def eqD : D → D → Bool
  | .non, .non => true
  | .bl a, .bl b => a == b
  | .bl a, .int j => (if a then 1 else 0) == j
  | .int i, .bl b => i == (if b then 1 else 0)
  | .int i, .int j => i == j
  | .str x, .str y => x == y
  | .lst xs, .lst ys => eqDs xs ys
  | .tup xs, .tup ys => eqDs xs ys
  | _, _ => false
def eqDs : List D → List D → Bool
  | [], [] => true
  | x :: xs, y :: ys => eqD x y && eqDs xs ys
  | _, _ => false
end
/-- data of at most so many layers, with texts of real signs -/
def okD : Nat → D → Bool
  | _, .non | _, .bl _ | _, .int _ => true
  | _, .str s => PyData.strOk s
  | n + 1, .lst ds => ds.all (okD n)
  | n + 1, .tup ds => ds.all (okD n)
  | _, _ => false
theorem okD_pd : ∀ (n : Nat) (d : D), okD n d = true → ∃ e, pd d = some e ∧ e.canLay0 = true ∧ e.depth ≤ n := by
  have key : ∀ (n : Nat) (P : D → Prop), (∀ d, okD n d = true → ∃ e, pd d = some e ∧ e.canLay0 = true ∧ e.depth ≤ n) → ∀ ds : List D, ds.all (okD n) = true → ∃ es, pds ds = some es ∧ PyData.canLayAll0 es = true ∧ PyData.depthAll es ≤ n := by
    intro n P ih ds
    induction ds with
    | nil => intro _; exact ⟨[], rfl, rfl, Nat.zero_le _⟩
    | cons d ds ih2 =>
      intro h
      rw [List.all_cons, Bool.and_eq_true] at h
      obtain ⟨e, h1, h2, h3⟩ := ih d h.1
      obtain ⟨es, h4, h5, h6⟩ := ih2 h.2
      refine ⟨e :: es, by simp [pds, h1, h4], by simp [PyData.canLayAll0, h2, h5], ?_⟩
      simp only [PyData.depthAll]
      omega
  intro n
  induction n with
  | zero =>
    intro d h
    cases d with
    | non => exact ⟨_, rfl, rfl, Nat.le_refl _⟩
    | bl b => exact ⟨_, rfl, rfl, Nat.le_refl _⟩
    | int i => exact ⟨_, rfl, rfl, Nat.le_refl _⟩
    | str s => exact ⟨_, rfl, by simpa [okD, PyData.canLay0] using h, Nat.le_refl _⟩
    | _ => simp [okD] at h
  | succ n ih =>
    intro d h
    cases d with
    | non => exact ⟨_, rfl, rfl, by simp [PyData.depth]⟩
    | bl b => exact ⟨_, rfl, rfl, by simp [PyData.depth]⟩
    | int i => exact ⟨_, rfl, rfl, by simp [PyData.depth]⟩
    | str s => exact ⟨_, rfl, by simpa [okD, PyData.canLay0] using h, by simp [PyData.depth]⟩
    | lst ds =>
      simp only [okD] at h
      obtain ⟨es, h1, h2, h3⟩ := key n (fun _ => True) ih ds h
      exact ⟨.list es, by simp [pd, h1], by simpa [PyData.canLay0] using h2, by simp only [PyData.depth]; omega⟩
    | tup ds =>
      simp only [okD] at h
      obtain ⟨es, h1, h2, h3⟩ := key n (fun _ => True) ih ds h
      exact ⟨.tuple es, by simp [pd, h1], by simpa [PyData.canLay0] using h2, by simp only [PyData.depth]; omega⟩
    | _ => simp [okD] at h
theorem pds_cons {x : D} {xs : List D} {as : List PyData} (h : pds (x :: xs) = some as) : ∃ a r, pd x = some a ∧ pds xs = some r ∧ as = a :: r := by
  unfold pds at h
  split at h
  · rename_i a r h1 h2
    cases h
    exact ⟨a, r, h1, h2, rfl⟩
  · cases h
mutual
theorem eqD_pd : ∀ (x y : D) (a b : PyData), pd x = some a → pd y = some b → eqD x y = PyData.eqv a b
  | .non, y, a, b, h1, h2 => by
    cases h1
    cases y <;> simp [pd] at h2 <;> first | (subst h2; simp [eqD, PyData.eqv]) | (obtain ⟨_, _, rfl⟩ := h2; simp [eqD, PyData.eqv])
  | .bl c, y, a, b, h1, h2 => by
    cases h1
    cases y <;> simp [pd] at h2 <;> first | (subst h2; simp [eqD, PyData.eqv]) | (obtain ⟨_, _, rfl⟩ := h2; simp [eqD, PyData.eqv])
  | .int c, y, a, b, h1, h2 => by
    cases h1
    cases y <;> simp [pd] at h2 <;> first | (subst h2; simp [eqD, PyData.eqv]) | (obtain ⟨_, _, rfl⟩ := h2; simp [eqD, PyData.eqv])
  | .str c, y, a, b, h1, h2 => by
    cases h1
    cases y <;> simp [pd] at h2 <;> first | (subst h2; simp [eqD, PyData.eqv]) | (obtain ⟨_, _, rfl⟩ := h2; simp [eqD, PyData.eqv])
  | .lst xs, y, a, b, h1, h2 => by
    simp [pd] at h1
    obtain ⟨as, h1, rfl⟩ := h1
    cases y with
    | lst ys =>
      simp [pd] at h2
      obtain ⟨bs, h2, rfl⟩ := h2
      simp only [eqD, PyData.eqv]
      exact eqDs_pd xs ys as bs h1 h2
    | _ => simp [pd] at h2 <;> first | (subst h2; simp [eqD, PyData.eqv]) | (obtain ⟨_, _, rfl⟩ := h2; simp [eqD, PyData.eqv])
  | .tup xs, y, a, b, h1, h2 => by
    simp [pd] at h1
    obtain ⟨as, h1, rfl⟩ := h1
    cases y with
    | tup ys =>
      simp [pd] at h2
      obtain ⟨bs, h2, rfl⟩ := h2
      simp only [eqD, PyData.eqv]
      exact eqDs_pd xs ys as bs h1 h2
    | _ => simp [pd] at h2 <;> first | (subst h2; simp [eqD, PyData.eqv]) | (obtain ⟨_, _, rfl⟩ := h2; simp [eqD, PyData.eqv])
  | .obj _ _ _, _, _, _, h1, _ => by simp [pd] at h1
  | .ty _, _, _, _, h1, _ => by simp [pd] at h1
  | .glob _, _, _, _, h1, _ => by simp [pd] at h1
  | .tape, _, _, _, h1, _ => by simp [pd] at h1
  | .fn _, _, _, _, h1, _ => by simp [pd] at h1
  | .dic _ _, _, _, _, h1, _ => by simp [pd] at h1
  | .dpl _ _, _, _, _, h1, _ => by simp [pd] at h1
theorem eqDs_pd : ∀ (xs ys : List D) (as bs : List PyData), pds xs = some as → pds ys = some bs → eqDs xs ys = PyData.eqvAll as bs
  | [], [], _, _, h1, h2 => by cases h1; cases h2; simp [eqDs, PyData.eqvAll]
  | [], _ :: _, _, _, h1, h2 => by
    cases h1
    obtain ⟨_, _, _, _, rfl⟩ := pds_cons h2
    simp [eqDs, PyData.eqvAll]
  | _ :: _, [], _, _, h1, h2 => by
    cases h2
    obtain ⟨_, _, _, _, rfl⟩ := pds_cons h1
    simp [eqDs, PyData.eqvAll]
  | x :: xs, y :: ys, _, _, h1, h2 => by
    obtain ⟨a, r, p1, p2, rfl⟩ := pds_cons h1
    obtain ⟨b, t, q1, q2, rfl⟩ := pds_cons h2
    simp only [eqDs, PyData.eqvAll]
    rw [eqD_pd x y a b p1 q1, eqDs_pd xs ys r t p2 q2]
end
section
variable {K : Frg} {ms : List Addr} {F : Hp}
mutual
theorem dp_of : ∀ (d : D) (v : V) (e : PyData), pd d = some e → Rp K ms F v d → Dp K F v e
  | .non, _, _, h, r => by cases h; cases r; exact .non
  | .bl b, _, _, h, r => by cases h; cases r; exact .bl b
  | .int i, _, _, h, r => by cases h; cases r; exact .int i
  | .str x, _, _, h, r => by cases h; cases r; exact .str x
  | .lst ds, _, _, h, r => by
    simp [pd] at h
    obtain ⟨es, h, rfl⟩ := h
    cases r with
    | lst h1 h2 => exact .lst (SqL.of h1) (dps_of ds _ es h h2)
  | .tup ds, _, _, h, r => by
    simp [pd] at h
    obtain ⟨es, h, rfl⟩ := h
    cases r with
    | tup h1 h2 => exact .tup h1 (dps_of ds _ es h h2)
  | .obj _ _ _, _, _, h, _ => by simp [pd] at h
  | .ty _, _, _, h, _ => by simp [pd] at h
  | .glob _, _, _, h, _ => by simp [pd] at h
  | .tape, _, _, h, _ => by simp [pd] at h
  | .fn _, _, _, h, _ => by simp [pd] at h
  | .dic _ _, _, _, h, _ => by simp [pd] at h
  | .dpl _ _, _, _, h, _ => by simp [pd] at h
theorem dps_of : ∀ (ds : List D) (vs : List V) (es : List PyData), pds ds = some es → Rps K ms F vs ds → DpAll K F vs es
  | [], _, _, h, r => by cases h; cases r; exact .nil
  | d :: ds, _, _, h, r => by
    obtain ⟨a, t, h1, h2, rfl⟩ := pds_cons h
    cases r with
    | cons r1 r2 => exact .cons (dp_of d _ a h1 r1) (dps_of ds _ t h2 r2)
end
end
end Y
namespace Y
open PySem PySem.Spec PyProof.Rows L2 Z
/-- an error: its class (.glob or .ty), the names of its fields, their values -/
structure Ex where
  c : D
  ns : List Str
  ds : List D
def clsV (K : Frg) : D → Option Value
  | .glob x => some (.ref (He.ga K x))
  | .ty n => some (.type n)
  | _ => none
def XR (K : Frg) (ms : List Addr) (F : Hp) (cls : Value) (d : Option Addr) (x : Ex) : Prop :=
  clsV K x.c = some cls ∧ (x.ns ≠ [] ∨ d ≠ none → ∃ a vs, d = some a ∧ F a = some (.xd (x.ns.zip vs)) ∧ x.ns.length = vs.length ∧ Rps K ms F vs x.ds)
/-- a thing that only one slot holds: a list that grows, an instance that is being made -/
inductive Mo where
  | lst (ds : List D) | ins (x : Addr) (c : Str) (ns : List Str) (ds : List D) | dct (kvs : List (List Int × D)) | exc (x : Ex) | hot (x : Ex) (q : Addr) | dk (kds : List (Key × D)) | dt (w : World) (kds : List (List Key × D))
/-- a slot: not known, a plain value, a thing that only this slot holds -/
inductive Sl where
  | no | val (d : D) | mu (m : Mo)
inductive DRl (K : Frg) (ms : List Addr) (F : Hp) : List (List Int × D) → List (List Int × Addr × Value) → Prop
  | nil : DRl K ms F [] []
  | cons {k : List Int} {b : Addr} {u : Value} {v : V} {d : D} {kvs : List (List Int × D)} {xs : List (List Int × Addr × Value)} : SqT K F b (k.map V.int) → RelV v u → Rp K ms F v d → DRl K ms F kvs xs → DRl K ms F ((k, d) :: kvs) ((k, b, u) :: xs)
theorem DRl.up {K : Frg} {ms : List Addr} {F F' : Hp} {kvs : List (List Int × D)} {xs : List (List Int × Addr × Value)} (h : DRl K ms F kvs xs) (s : Same F F') : DRl K ms F' kvs xs := by
  induction h with
  | nil => exact .nil
  | cons h1 h2 h3 _ ih => exact .cons (sqT s h1) h2 (h3.up s) ih
/-- dicts whose keys are tuples of numbers and texts -/
inductive DRk (K : Frg) (ms : List Addr) (F : Hp) : List (List Key × D) → List (List Key × Addr × Value) → Prop
  | nil : DRk K ms F [] []
  | cons {k : List Key} {b : Addr} {u : Value} {v : V} {d : D} {kvs : List (List Key × D)} {xs : List (List Key × Addr × Value)} : SqT K F b (k.map kV) → RelV v u → Rp K ms F v d → DRk K ms F kvs xs → DRk K ms F ((k, d) :: kvs) ((k, b, u) :: xs)
theorem DRk.up {K : Frg} {ms : List Addr} {F F' : Hp} {kvs : List (List Key × D)} {xs : List (List Key × Addr × Value)} (h : DRk K ms F kvs xs) (s : Same F F') : DRk K ms F' kvs xs := by
  induction h with
  | nil => exact .nil
  | cons h1 h2 h3 _ ih => exact .cons (sqT s h1) h2 (h3.up s) ih
def entM (w : World) (x : List Key × Addr × Value) : DictEntry := ⟨reduceHash (Builtin.Tuple.tupleHashOf (x.1.map (keyH w))), .ref x.2.1, x.2.2⟩
/-- entries of a dict whose keys are numbers or texts -/
inductive Rkd (K : Frg) (ms : List Addr) (F : Hp) : List (Key × V) → List (Key × D) → Prop
  | nil : Rkd K ms F [] []
  | cons {k : Key} {v : V} {d : D} {kvs : List (Key × V)} {kds : List (Key × D)} : Rp K ms F v d → Rkd K ms F kvs kds → Rkd K ms F ((k, v) :: kvs) ((k, d) :: kds)
theorem Rkd.up {K : Frg} {ms : List Addr} {F F' : Hp} {kvs : List (Key × V)} {kds : List (Key × D)} (h : Rkd K ms F kvs kds) (s : Same F F') : Rkd K ms F' kvs kds := by
  induction h with
  | nil => exact .nil
  | cons h1 _ ih => exact .cons (h1.up s) ih
theorem XR.up {K : Frg} {ms : List Addr} {F F' : Hp} {cls : Value} {d : Option Addr} {x : Ex} (h : XR K ms F cls d x) (s : Same F F') : XR K ms F' cls d x :=
  ⟨h.1, fun n => let ⟨a, vs, h1, h2, h3, h4⟩ := h.2 n; ⟨a, vs, h1, s _ _ h2, h3, h4.up s⟩⟩
/-- a caught error at a -/
def XO (cls : Value) (d : Option Addr) (a : Addr) : HO := .ext fun h => ∃ (oe : Obj) (vs : Array Value), h.get? a = some oe ∧ L2N.Zn cls d oe ∧ oe.data = .fields vs
def MoR (K : Frg) (ms : List Addr) (F : Hp) (a : Addr) : Mo → HO → Prop
  | .exc x, o => ∃ cls d, o = XO cls d a ∧ XR K ms F cls d x
  | .hot x q, o => q = a ∧ ∃ cls d, o = XO cls d a ∧ XR K ms F cls d x
  | .dk kds, o => ∃ kvs, o = .dK kvs ∧ Rkd K ms F kvs kds
  | .dt w kds, o => ∃ es ep xs, o = dxO a es ep ∧ (a == sysModules) = false ∧ kds.length ≤ 100000 ∧ DRk K ms F kds xs ∧ es.toList = xs.map (entM w) ∧ (xs.map (·.1)).Nodup
  | .dct kvs, o => ∃ es ep xs, o = dxO a es ep ∧ (a == sysModules) = false ∧ kvs.length ≤ 100000 ∧ DRl K ms F kvs xs ∧ es.toList = xs.map entI ∧ (xs.map (·.1)).Nodup
  | .lst ds, o => ∃ vs, o = .lst vs ∧ Rps K ms F vs ds
  | .ins x c ns ds, o => x = a ∧ ∃ dx vs, o = .ins (He.ga K c) dx (ns.zip vs) ∧ ns.length = vs.length ∧ Rps K ms F vs ds
theorem MoR.up {K : Frg} {ms : List Addr} {F F' : Hp} {a : Addr} {m : Mo} {o : HO} (h : MoR K ms F a m o) (s : Same F F') : MoR K ms F' a m o := by
  cases m with
  | exc x => obtain ⟨c, d, e, r⟩ := h; exact ⟨c, d, e, r.up s⟩
  | hot x q => obtain ⟨e0, c, d, e, r⟩ := h; exact ⟨e0, c, d, e, r.up s⟩
  | dk kds => obtain ⟨kvs, e, r⟩ := h; exact ⟨kvs, e, r.up s⟩
  | dt w kds => obtain ⟨es, ep, xs, e, e1, e2, r, e3⟩ := h; exact ⟨es, ep, xs, e, e1, e2, r.up s, e3⟩
  | dct kvs => obtain ⟨es, ep, xs, e, e1, e2, r, e3⟩ := h; exact ⟨es, ep, xs, e, e1, e2, r.up s, e3⟩
  | lst ds => obtain ⟨vs, e, r⟩ := h; exact ⟨vs, e, r.up s⟩
  | ins x c ns ds => obtain ⟨ex, dx, vs, e, l, r⟩ := h; exact ⟨ex, dx, vs, e, l, r.up s⟩
abbrev Ev := List Sl
/-- the base of a def: the tapes, the heaps at its entry, what is wanted of an error -/
structure Bs where
  ms : List Addr
  F0 : Hp
  H0 : Hp
  Ed : Ex → Prop
/-- what a table of code objects tells: each of them is known, and bears the lambda's name -/
def TabF (F H : Hp) (P : Addr) (q : Str) : Prop := F P = none ∧ ∃ ps : Array Value, H P = some (.tbl ps) ∧ PySem.TriplesOk ps.toList ∧ ∀ (pos : Pos) (cv : Value), PySem.codeAmong pos ps.toList = some cv → ∃ c, cv = .ref c ∧ F c = some (LamX.CodeO c q)
theorem TabF.go {F H F' H' : Hp} {P : Addr} {q : Str} {ms : List Addr} (t : TabF F H P q) (g : Go ms F H F' H') (hm : P ∉ ms) : TabF F' H' P q := by
  obtain ⟨t0, ps, t1, t2, t3⟩ := t
  obtain ⟨g1, g2⟩ := g.mu P _ hm t0 t1
  exact ⟨g1, ps, g2, t2, fun pos cv hc => let ⟨c, e1, e2⟩ := t3 pos cv hc; ⟨c, e1, g.ff _ _ e2⟩⟩
structure Tp (K : Frg) (ms : List Addr) (F H : Hp) : Prop where
  sm : Same F H
  tape : ∀ t ∈ ms, t ∉ tabA K → Tape K F H t
  tabs : ∀ p ∈ tabsOf K, p.1 ∈ ms ∧ TabF F H p.1 p.2
theorem Tp.ne {K : Frg} {ms : List Addr} {F H : Hp} (h : Tp K ms F H) {a : Addr} (m : a ∈ ms) : H a ≠ none := by
  by_cases ha : a ∈ tabA K
  · obtain ⟨p, hp, rfl⟩ := List.mem_map.mp ha
    obtain ⟨_, _, ps, e, _⟩ := h.tabs p hp
    rw [e]
    exact fun z => nomatch z
  · exact (h.tape a m ha).ne
/-- a thing that is no tape and no table is written or frozen -/
theorem Tp.go1 {K : Frg} {ms ns : List Addr} {F H F' H' : Hp} (h : Tp K ms F H) (g : Go ns F H F' H') (hd : ∀ d ∈ ns, d ∉ ms) : Tp K ms F' H' :=
  ⟨g.fh, fun t m n => (h.tape t m n).go g fun z => hd t z m, fun p hp => ⟨(h.tabs p hp).1, (h.tabs p hp).2.go g fun z => hd _ z (h.tabs p hp).1⟩⟩
theorem Tp.go0 {K : Frg} {ms : List Addr} {F H F' H' : Hp} (h : Tp K ms F H) (g : Go [] F H F' H') : Tp K ms F' H' := h.go1 g fun _ z => nomatch z
theorem Tp.gox {K : Frg} {ms : List Addr} {F H F' H' : Hp} {d : Addr} (h : Tp K ms F H) (g : Go [d] F H F' H') (hd : d ∉ ms) : Tp K ms F' H' := h.go1 g fun x hx => by
  have : x = d := by simpa using hx
  rw [this]; exact hd
/-- what lies at an address of ms: no instance, no dict -/
theorem Tp.notIns {K : Frg} {ms : List Addr} {F H : Hp} (h : Tp K ms F H) {a C dx : Addr} {fs : List (Str × V)} (e : H a = some (.ins C dx fs)) : a ∉ ms := fun m => by
  by_cases ha : a ∈ tabA K
  · obtain ⟨p, hp, rfl⟩ := List.mem_map.mp ha
    obtain ⟨_, _, ps, e', _⟩ := h.tabs p hp
    rw [e] at e'
    cases e'
  · obtain ⟨_, xs, e', _⟩ := h.tape a m ha
    rw [e] at e'
    cases e'
structure Iv (K : Frg) (B : Bs) (F H : Hp) (σ : L2.St) (ρ : Ev) : Prop where
  go : Go B.ms B.F0 B.H0 F H
  tp : Tp K B.ms F H
  len : σ.length = ρ.length
  val : ∀ (i : Nat) (d : D), ρ[i]? = some (.val d) → ∃ v, σ[i]? = some (some v) ∧ Rp K B.ms F v d
  own : ∀ (i : Nat) (m : Mo), ρ[i]? = some (.mu m) → ∃ a o, σ[i]? = some (some (.ref a)) ∧ F a = none ∧ a ∉ B.ms ∧ B.H0 a = none ∧ H a = some o ∧ MoR K B.ms F a m o
  sep : ∀ (i j : Nat) (m n : Mo) (a : Addr), i ≠ j → ρ[i]? = some (.mu m) → ρ[j]? = some (.mu n) → σ[i]? = some (some (.ref a)) → σ[j]? ≠ some (some (.ref a))
section
variable {K : Frg} {B : Bs} {F H F' H' : Hp} {σ : L2.St} {ρ : Ev}
theorem Iv.same (I : Iv K B F H σ ρ) : Same F H := I.tp.1
theorem Iv.step (I : Iv K B F H σ ρ) (g : Go B.ms F H F' H') (t : Tp K B.ms F' H') : Iv K B F' H' σ ρ where
  go := I.go.trans g
  tp := t
  len := I.len
  val := fun i d e => let ⟨v, h1, h2⟩ := I.val i d e; ⟨v, h1, h2.up g.ff⟩
  own := fun i ds e => by
    obtain ⟨a, vs, h1, h2, h3, h4, h5, h6⟩ := I.own i ds e
    obtain ⟨p1, p2⟩ := g.mu a _ h3 h2 h5
    exact ⟨a, vs, h1, p1, h3, h4, p2, h6.up g.ff⟩
  sep := I.sep
theorem Iv.step0 (I : Iv K B F H σ ρ) (g : Go [] F H F' H') : Iv K B F' H' σ ρ := I.step g.nil (I.tp.go0 g)
/-- store a plain value -/
theorem Iv.set (I : Iv K B F H σ ρ) {v : V} {d : D} (i : Nat) (r : Rp K B.ms F v d) : Iv K B F H (σ.set i (some v)) (ρ.set i (.val d)) where
  go := I.go
  tp := I.tp
  len := by rw [List.length_set, List.length_set]; exact I.len
  val := fun j e h => by
    have hj := I.len
    by_cases hij : i = j
    · subst hij
      rcases Nat.lt_or_ge i ρ.length with z | z
      · rw [List.getElem?_set_self z] at h
        cases h
        exact ⟨v, List.getElem?_set_self (by omega), r⟩
      · rw [List.getElem?_eq_none (by rw [List.length_set]; exact z)] at h; cases h
    · rw [List.getElem?_set_ne hij] at h
      rw [List.getElem?_set_ne hij]
      exact I.val j e h
  own := fun j ds h => by
    have hj := I.len
    by_cases hij : i = j
    · subst hij
      rcases Nat.lt_or_ge i ρ.length with z | z
      · rw [List.getElem?_set_self z] at h; cases h
      · rw [List.getElem?_eq_none (by rw [List.length_set]; exact z)] at h; cases h
    · rw [List.getElem?_set_ne hij] at h
      rw [List.getElem?_set_ne hij]
      exact I.own j ds h
  sep := fun j k ds es a hjk h1 h2 h3 => by
    have key : ∀ (m : Nat) (ds : Mo), (ρ.set i (.val d))[m]? = some (.mu ds) → i ≠ m := fun m ds h e => by
      subst e
      rcases Nat.lt_or_ge i ρ.length with z | z
      · rw [List.getElem?_set_self z] at h; cases h
      · rw [List.getElem?_eq_none (by rw [List.length_set]; exact z)] at h; cases h
    have e1 := key j _ h1
    have e2 := key k _ h2
    rw [List.getElem?_set_ne e1] at h1 h3
    rw [List.getElem?_set_ne e2] at h2 ⊢
    exact I.sep j k ds es a hjk h1 h2 h3
/-- forget a slot -/
theorem Iv.wipe (I : Iv K B F H σ ρ) (i : Nat) : Iv K B F H (σ.set i none) (ρ.set i .no) where
  go := I.go
  tp := I.tp
  len := by rw [List.length_set, List.length_set]; exact I.len
  val := fun j e h => by
    have hj := I.len
    by_cases hij : i = j
    · subst hij
      rcases Nat.lt_or_ge i ρ.length with z | z
      · rw [List.getElem?_set_self z] at h; cases h
      · rw [List.getElem?_eq_none (by rw [List.length_set]; exact z)] at h; cases h
    · rw [List.getElem?_set_ne hij] at h
      rw [List.getElem?_set_ne hij]
      exact I.val j e h
  own := fun j ds h => by
    have hj := I.len
    by_cases hij : i = j
    · subst hij
      rcases Nat.lt_or_ge i ρ.length with z | z
      · rw [List.getElem?_set_self z] at h; cases h
      · rw [List.getElem?_eq_none (by rw [List.length_set]; exact z)] at h; cases h
    · rw [List.getElem?_set_ne hij] at h
      rw [List.getElem?_set_ne hij]
      exact I.own j ds h
  sep := fun j k ds es a hjk h1 h2 h3 => by
    have hj := I.len
    have key : ∀ (m : Nat) (ds : Mo), (ρ.set i .no)[m]? = some (.mu ds) → i ≠ m := fun m ds h e => by
      subst e
      rcases Nat.lt_or_ge i ρ.length with z | z
      · rw [List.getElem?_set_self z] at h; cases h
      · rw [List.getElem?_eq_none (by rw [List.length_set]; exact z)] at h; cases h
    have e1 := key j _ h1
    have e2 := key k _ h2
    rw [List.getElem?_set_ne e1] at h1 h3
    rw [List.getElem?_set_ne e2] at h2 ⊢
    exact I.sep j k ds es a hjk h1 h2 h3
end
def wipeR (ρ : Ev) : List Nat → Ev
  | [] => ρ
  | v :: vs => (wipeR ρ vs).set v .no
theorem Iv.wipes {K : Frg} {B : Bs} {F H : Hp} {σ : L2.St} {ρ : Ev} (I : Iv K B F H σ ρ) : ∀ vs : List Nat, Iv K B F H (L2.wipe σ vs) (wipeR ρ vs)
  | [] => I
  | v :: vs => (Iv.wipes I vs).wipe v
/-! ### a choice that nothing opens by itself -/
@[irreducible] def ifB (b : Bool) (p q : Prop) : Prop := if b = true then p else q
theorem ifB_eq (b : Bool) (p q : Prop) : ifB b p q = if b = true then p else q := by unfold ifB; rfl
theorem ifB_t {p q : Prop} (h : ifB true p q) : p := by rw [ifB_eq] at h; exact h
theorem ifB_f {p q : Prop} (h : ifB false p q) : q := by rw [ifB_eq] at h; exact h
theorem ifB_T {b : Bool} {p q : Prop} (e : b = true) (h : p) : ifB b p q := by rw [ifB_eq, if_pos e]; exact h
theorem ifB_F {b : Bool} {p q : Prop} (e : b = false) (h : q) : ifB b p q := by rw [ifB_eq, e]; exact h
theorem ifB_2 {b : Bool} {p q : Prop} (h : b = true → p) (h' : b = false → q) : ifB b p q := by
  cases b with
  | true => exact ifB_T rfl (h rfl)
  | false => exact ifB_F rfl (h' rfl)
theorem ifB_d {c : Prop} [Decidable c] {p q : Prop} (h : c → p) (h' : ¬ c → q) : ifB (decide c) p q := ifB_2 (fun e => h (of_decide_eq_true e)) (fun e => h' (of_decide_eq_false e))
theorem ifB_nd {c : Prop} [Decidable c] {p q : Prop} (h : ¬ c → p) (h' : c → q) : ifB (!decide c) p q := ifB_2 (fun e => h (by simpa using e)) (fun e => h' (by simpa using e))
/-! ### readings -/
abbrev Rd := Ev → (D → Prop) → Prop
abbrev RdT := Ev → (Bool → Prop) → Prop
abbrev RdA := Ev → (List D → Prop) → Prop
structure En where
  nx : Ev → Prop
  rt : D → Prop
  bk : Ev → Prop := fun _ => False
  ct : Ev → Prop := fun _ => False
abbrev RdS := Ev → En → Prop
def tE (K : Frg) (B : Bs) (r : Rd) : TE := fun σ H Q => ∃ F ρ Qd, Iv K B F H σ ρ ∧ r ρ Qd ∧ ∀ v F' H' d, Go B.ms F H F' H' → Tp K B.ms F' H' → Rp K B.ms F' v d → Qd d → Q v H'
def tT (K : Frg) (B : Bs) (r : RdT) : TT := fun σ H Q => ∃ F ρ Qd, Iv K B F H σ ρ ∧ r ρ Qd ∧ ∀ b F' H', Go B.ms F H F' H' → Tp K B.ms F' H' → Qd b → Q b H'
def tA (K : Frg) (B : Bs) (r : RdA) : TA := fun σ H Q => ∃ F ρ Qd, Iv K B F H σ ρ ∧ r ρ Qd ∧ ∀ vs F' H' ds, Go B.ms F H F' H' → Tp K B.ms F' H' → Rps K B.ms F' vs ds → Qd ds → Q vs H'
def tS (K : Frg) (B : Bs) (r : RdS) : TS := fun Dd σ H => ∃ F ρ En, Iv K B F H σ ρ ∧ r ρ En ∧ (∀ σ' ρ' F' H', Same F F' → Iv K B F' H' σ' ρ' → En.nx ρ' → Dd.nx σ' H') ∧
  (∀ v d F' H', Go B.ms B.F0 B.H0 F' H' → Tp K B.ms F' H' → Rp K B.ms F' v d → En.rt d → Dd.rt v H') ∧
  (∀ σ' ρ' F' H', Same F F' → Iv K B F' H' σ' ρ' → En.bk ρ' → Dd.bk σ' H') ∧ (∀ σ' ρ' F' H', Same F F' → Iv K B F' H' σ' ρ' → En.ct ρ' → Dd.ct σ' H')
def PEp (X : Cx) (B : Bs) (e : Expr) (r : Rd) : Prop := PE X e (tE X.K B r)
def PTp (X : Cx) (B : Bs) (e : Expr) (r : RdT) : Prop := PT X e (tT X.K B r)
def PWp (X : Cx) (B : Bs) (e : Expr) (r : RdT) : Prop := PW X e (tT X.K B r)
def PAp (X : Cx) (B : Bs) (es : List Expr) (r : RdA) : Prop := PA X es (tA X.K B r)
def PSp (X : Cx) (B : Bs) (st : Stmt) (r : RdS) : Prop := PS X st (tS X.K B r)
def PSsp (X : Cx) (B : Bs) (st : List Stmt) (r : RdS) : Prop := PSs X st (tS X.K B r)
theorem pt_imp {X : Cx} {e : Expr} {t t' : TT} (h : PT X e t) (f : ∀ σ H Q, t' σ H Q → t σ H Q) : PT X e t' := ⟨fun pins s σ H Q I z => h.run pins s σ H Q I (f σ H Q z)⟩
theorem pw_imp {X : Cx} {e : Expr} {t t' : TT} (h : PW X e t) (f : ∀ σ H Q, t' σ H Q → t σ H Q) : PW X e t' := ⟨fun w pins s σ H Q I z => h.run w pins s σ H Q I (f σ H Q z)⟩
theorem pa_imp {X : Cx} {e : List Expr} {t t' : TA} (h : PA X e t) (f : ∀ σ H Q, t' σ H Q → t σ H Q) : PA X e t' := ⟨fun p pins s σ H Q I z => h.run p pins s σ H Q I (f σ H Q z)⟩
theorem ps_imp {X : Cx} {e : Stmt} {t t' : TS} (h : PS X e t) (f : ∀ σ H Q, t' Q σ H → t Q σ H) : PS X e t' := ⟨fun pins s σ H Q I z => h.run pins s σ H Q I (f σ H Q z)⟩
theorem pss_imp {X : Cx} {e : List Stmt} {t t' : TS} (h : PSs X e t) (f : ∀ σ H Q, t' Q σ H → t Q σ H) : PSs X e t' := ⟨fun pins s σ H Q I z => h.run pins s σ H Q I (f σ H Q z)⟩
section
variable {X : Cx} {B : Bs} {a b c e : Expr} {es : List Expr} {ra rb rc r : Rd} {rt ru : RdT} {rl : RdA} {pos : Pos}
/-! ### names, constants -/
def rVar (i : Nat) : Rd := fun ρ Q => match ρ[i]? with
  | some (.val d) => Q d
  | _ => False
def rC (d : D) : Rd := fun _ Q => Q d
theorem y_var {i : Nat} {x : Str} (h : PE X (.Name x pos) (tVar i)) : PEp X B (.Name x pos) (rVar i) := pe_imp h fun σ H Q ⟨F, ρ, Qd, I, z, k⟩ => by
  unfold rVar at z
  split at z
  · rename_i d e
    obtain ⟨v, h1, h2⟩ := I.val i d e
    exact ⟨v, h1, k v F H d (Go.refl I.same) I.tp h2 z⟩
  · exact z.elim
theorem y_c {v : V} {d : D} (h : PE X e (tC v)) (hr : ∀ K ms F, Rp K ms F v d) : PEp X B e (rC d) := pe_imp h fun σ H Q ⟨F, ρ, Qd, I, z, k⟩ => k v F H d (Go.refl I.same) I.tp (hr _ _ _) z
theorem y_int {i j} : PEp X B (.Constant (.int i) j pos) (rC (.int i)) := y_c pe_int fun _ _ _ => .int i
theorem y_bl {b j} : PEp X B (.Constant (.bool b) j pos) (rC (.bl b)) := y_c pe_bl fun _ _ _ => .bl b
theorem y_non {j} : PEp X B (.Constant .none j pos) (rC .non) := y_c pe_non fun _ _ _ => .non
theorem y_str {x j} : PEp X B (.Constant (.str x) j pos) (rC (.str x)) := y_c pe_str fun _ _ _ => .str x
theorem y_globI {x : Str} {i : Int} (hg : Gl X x) (h : ∃ t, X.mg x = some (.int i t)) (hd : (x == ("__debug__" : Str)) = false := by decide) : PEp X B (.Name x pos) (rC (.int i)) := y_c (pe_globI hg h hd) fun _ _ _ => .int i
theorem y_ty {x : Str} {n : String} (hg : Gl X x) (hm : X.mg x = none) (hv : bootBuiltins x = some (.type n)) (hn : x ≠ "__name__" := by decide) (hd : (x == ("__debug__" : Str)) = false := by decide) : PEp X B (.Name x pos) (rC (.ty n)) := y_c (pe_bltn (v := .ty n) hg hm hv rfl hn hd) fun _ _ _ => .ty n
/-! ### two-place operations -/
def OpL (K : Frg) (ms : List Addr) (r : R2) (g : D → D → (D → Prop) → Prop) : Prop := ∀ (F H : Hp) (x y : V) (dx dy : D) (Qd : D → Prop) (Q : VK), Same F H → Rp K ms F x dx → Rp K ms F y dy → g dx dy Qd → (∀ v F' H' d, Go [] F H F' H' → Rp K ms F' v d → Qd d → Q v H') → r x y H Q
theorem tOp_of {g : D → D → (D → Prop) → Prop} {o : R2} (hl : OpL X.K B.ms o g) (σ : L2.St) (H : Hp) (Q : VK) (h : tE X.K B (fun ρ Q => ra ρ fun x => rb ρ fun y => g x y Q) σ H Q) : tOp o (tE X.K B ra) (tE X.K B rb) σ H Q := by
  obtain ⟨F, ρ, Qd, I, z, k⟩ := h
  refine ⟨F, ρ, _, I, z, fun v F1 H1 d g1 t1 r1 z1 => ⟨F1, ρ, _, I.step g1 t1, z1, fun u F2 H2 e g2 t2 r2 z2 => ?_⟩⟩
  exact hl F2 H2 v u d e Qd Q t2.1 (r1.up g2.ff) r2 z2 fun w F3 H3 d3 g3 r3 q3 => k w F3 H3 d3 ((g1.trans g2).trans g3.nil) (t2.go0 g3) r3 q3
theorem y_op {op : Operator} {g : D → D → (D → Prop) → Prop} {o : R2} (ho : OpR X (binaryOp op) o) (hl : OpL X.K B.ms o g) (ha : PEp X B a ra) (hb : PEp X B b rb) : PEp X B (.BinOp a op b pos) (fun ρ Q => ra ρ fun x => rb ρ fun y => g x y Q) :=
  pe_imp (pe_op ho ha hb) (tOp_of hl)
theorem y_cmp {op : CmpOp} {g : D → D → (D → Prop) → Prop} {o : R2} (ho : OpR X (compareOp op) o) (hl : OpL X.K B.ms o g) (ha : PEp X B a ra) (hb : PEp X B b rb) (hm : behindInMarks op b = false) : PEp X B (.Compare a [op] [b] pos) (fun ρ Q => ra ρ fun x => rb ρ fun y => g x y Q) :=
  pe_imp (pe_cmpR ho ha hb hm) (tOp_of hl)
def tst (d : D) (Q : Bool → Prop) : Prop := match d with
  | .bl b => Q b
  | _ => False
theorem tTest_of {t : TE} (h0 : ∀ σ H Q, tE X.K B r σ H Q → t σ H Q) (σ : L2.St) (H : Hp) (Q : Bool → Hp → Prop) (h : tT X.K B (fun ρ Q => r ρ fun d => tst d Q) σ H Q) : tTest t σ H Q := by
  obtain ⟨F, ρ, Qd, I, z, k⟩ := h
  refine h0 _ _ _ ⟨F, ρ, _, I, z, fun v F1 H1 d g1 t1 r1 z1 => ?_⟩
  unfold tst at z1
  split at z1
  · rename_i b
    cases r1
    exact ⟨b, rfl, k b F1 H1 g1 t1 z1⟩
  · exact z1.elim
theorem z_cmp {op : CmpOp} {g : D → D → (D → Prop) → Prop} {o : R2} (ho : OpR X (compareOp op) o) (hl : OpL X.K B.ms o g) (ha : PEp X B a ra) (hb : PEp X B b rb) (hm : behindInMarks op b = false) : PTp X B (.Compare a [op] [b] pos) (fun ρ Q => ra ρ fun x => rb ρ fun y => g x y fun d => tst d Q) :=
  pt_imp (pt_cmpR ho ha hb hm) (tTest_of (tOp_of hl))
theorem z_val (h : PEp X B e r) (he : ∀ whole, isTrue e X.env whole = (do let v ← whole; standAt e.pos; holding [v] (truthy v)) := by intro _; rfl) : PTp X B e (fun ρ Q => r ρ fun d => tst d Q) :=
  pt_imp (pt_val h he) (tTest_of fun _ _ _ z => z)
/-- a op b op' c -/
def chn (g g' : D → D → (D → Prop) → Prop) (ra rb rc : Rd) : Rd := fun ρ Q => ra ρ fun x => rb ρ fun y => g x y fun z => tst z fun k => ifB k (rc ρ fun w => g' y w Q) (Q (.bl false))
theorem tChain_of {g g' : D → D → (D → Prop) → Prop} {o o' : R2} (hl : OpL X.K B.ms o g) (hl' : OpL X.K B.ms o' g') (σ : L2.St) (H : Hp) (Q : VK) (h : tE X.K B (chn g g' ra rb rc) σ H Q) : tChain o o' (tE X.K B ra) (tE X.K B rb) (tE X.K B rc) σ H Q := by
  obtain ⟨F, ρ, Qd, I, z, k⟩ := h
  refine ⟨F, ρ, _, I, z, fun v F1 H1 d g1 t1 r1 z1 => ⟨F1, ρ, _, I.step g1 t1, z1, fun u F2 H2 e g2 t2 r2 z2 => ?_⟩⟩
  refine hl F2 H2 v u d e _ _ t2.1 (r1.up g2.ff) r2 z2 fun w F3 H3 d3 g3 r3 q3 => ?_
  have t3 := t2.go0 g3
  unfold tst at q3
  split at q3
  · rename_i b
    cases r3
    refine ⟨b, rfl, ?_⟩
    cases b with
    | false => exact k _ F3 H3 _ ((g1.trans g2).trans g3.nil) t3 (.bl false) (ifB_f q3)
    | true => exact ⟨F3, ρ, _, ((I.step g1 t1).step g2 t2).step g3.nil t3, ifB_t q3, fun w4 F4 H4 d4 g4 t4 r4 z4 => hl' F4 H4 u w4 e d4 Qd Q t4.1 ((r2.up g3.ff).up g4.ff) r4 z4 fun w5 F5 H5 d5 g5 r5 q5 => k w5 F5 H5 d5 (((g1.trans g2).trans g3.nil).trans (g4.trans g5.nil)) (t4.go0 g5) r5 q5⟩
  · exact q3.elim
theorem y_chain {op op' : CmpOp} {g g' : D → D → (D → Prop) → Prop} {o o' : R2} (ho : OpR X (compareOp op) o) (hl : OpL X.K B.ms o g) (ho' : OpR X (compareOp op') o') (hl' : OpL X.K B.ms o' g') (ha : PEp X B a ra) (hb : PEp X B b rb) (hc : PEp X B c rc)
    (hm : lastMarks [op, op'] [b, c] = false := by with_unfolding_all rfl) : PEp X B (.Compare a [op, op'] [b, c] pos) (chn g g' ra rb rc) := pe_imp (pe_chain ho ho' ha hb hc hm) (tChain_of hl hl')
/-! ### and, or, not, if -/
theorem z_and1 (ha : PTp X B a rt) : PWp X B (.BoolOp .And [a] pos) rt := pw_and1 ha
theorem z_or1 (ha : PTp X B a rt) : PWp X B (.BoolOp .Or [a] pos) rt := pw_or1 ha
theorem z_and {rest : List Expr} (ha : PTp X B a rt) (hb : PWp X B (.BoolOp .And (b :: rest) pos) ru) : PWp X B (.BoolOp .And (a :: b :: rest) pos) (fun ρ Q => rt ρ fun c => ifB c (ru ρ Q) (Q false)) :=
  pw_imp (pw_and ha hb) fun σ H Q ⟨F, ρ, Qd, I, z, k⟩ => ⟨F, ρ, _, I, z, fun b F1 H1 g1 t1 z1 => by
    cases b with
    | false => exact k false F1 H1 g1 t1 (ifB_f z1)
    | true => exact ⟨F1, ρ, _, I.step g1 t1, ifB_t z1, fun b F2 H2 g2 t2 z2 => k b F2 H2 (g1.trans g2) t2 z2⟩⟩
theorem z_or {rest : List Expr} (ha : PTp X B a rt) (hb : PWp X B (.BoolOp .Or (b :: rest) pos) ru) : PWp X B (.BoolOp .Or (a :: b :: rest) pos) (fun ρ Q => rt ρ fun c => ifB c (Q true) (ru ρ Q)) :=
  pw_imp (pw_or ha hb) fun σ H Q ⟨F, ρ, Qd, I, z, k⟩ => ⟨F, ρ, _, I, z, fun b F1 H1 g1 t1 z1 => by
    cases b with
    | true => exact k true F1 H1 g1 t1 (ifB_t z1)
    | false => exact ⟨F1, ρ, _, I.step g1 t1, ifB_f z1, fun b F2 H2 g2 t2 z2 => k b F2 H2 (g1.trans g2) t2 z2⟩⟩
theorem z_pt (h : PWp X B a rt) : PTp X B a rt := PW.pt h
theorem z_not (ha : PTp X B a rt) : PTp X B (.UnaryOp .Not a pos) (fun ρ Q => rt ρ fun c => Q (!c)) :=
  pt_imp (pt_not ha) fun σ H Q ⟨F, ρ, Qd, I, z, k⟩ => ⟨F, ρ, _, I, z, fun b F1 H1 g1 t1 z1 => k (!b) F1 H1 g1 t1 z1⟩
theorem y_one {op} (h : PEp X B a ra) : PEp X B (.BoolOp op [a] pos) ra := pe_one h
theorem y_and {rest : List Expr} (ha : PEp X B a ra) (hb : PEp X B (.BoolOp .And (b :: rest) pos) rb) : PEp X B (.BoolOp .And (a :: b :: rest) pos) (fun ρ Q => ra ρ fun d => tst d fun c => ifB c (rb ρ Q) (Q (.bl false))) :=
  pe_imp (pe_and ha hb) fun σ H Q ⟨F, ρ, Qd, I, z, k⟩ => ⟨F, ρ, _, I, z, fun v F1 H1 d g1 t1 r1 z1 => by
    unfold tst at z1
    split at z1
    · rename_i b
      cases r1
      refine ⟨b, rfl, ?_⟩
      cases b with
      | false => exact k _ F1 H1 _ g1 t1 (.bl false) (ifB_f z1)
      | true => exact ⟨F1, ρ, _, I.step g1 t1, ifB_t z1, fun w F2 H2 d g2 t2 r2 z2 => k w F2 H2 d (g1.trans g2) t2 r2 z2⟩
    · exact z1.elim⟩
theorem y_not (ha : PEp X B a ra) : PEp X B (.UnaryOp .Not a pos) (fun ρ Q => ra ρ fun d => tst d fun c => Q (.bl (!c))) :=
  pe_imp (pe_not ha) fun σ H Q ⟨F, ρ, Qd, I, z, k⟩ => ⟨F, ρ, _, I, z, fun v F1 H1 d g1 t1 r1 z1 => by
    unfold tst at z1
    split at z1
    · rename_i b
      cases r1
      exact ⟨b, rfl, k _ F1 H1 _ g1 t1 (.bl (!b)) z1⟩
    · exact z1.elim⟩
theorem y_if (hc : PTp X B c rt) (ha : PEp X B a ra) (hb : PEp X B b rb) : PEp X B (.IfExp c a b pos) (fun ρ Q => rt ρ fun c => ifB c (ra ρ Q) (rb ρ Q)) :=
  pe_imp (pe_ifExp hc ha hb) fun σ H Q ⟨F, ρ, Qd, I, z, k⟩ => ⟨F, ρ, _, I, z, fun c F1 H1 g1 t1 z1 => by
    cases c with
    | true => exact ⟨F1, ρ, _, I.step g1 t1, ifB_t z1, fun w F2 H2 d g2 t2 r2 z2 => k w F2 H2 d (g1.trans g2) t2 r2 z2⟩
    | false => exact ⟨F1, ρ, _, I.step g1 t1, ifB_f z1, fun w F2 H2 d g2 t2 r2 z2 => k w F2 H2 d (g1.trans g2) t2 r2 z2⟩⟩
/-- a one-place operation -/
def UnL (K : Frg) (ms : List Addr) (r : V → Hp → VK → Prop) (g : D → (D → Prop) → Prop) : Prop := ∀ (F H : Hp) (x : V) (dx : D) (Qd : D → Prop) (Q : VK), Same F H → Rp K ms F x dx → g dx Qd → (∀ v F' H' d, Go [] F H F' H' → Rp K ms F' v d → Qd d → Q v H') → r x H Q
theorem y_un {op : UnaryOp} {g : D → (D → Prop) → Prop} {o : V → Hp → VK → Prop} (ho : UnR X (unaryOp op) o) (hl : UnL X.K B.ms o g) (ha : PEp X B a ra) : PEp X B (.UnaryOp op a pos) (fun ρ Q => ra ρ fun x => g x Q) :=
  pe_imp (pe_un ho ha) fun σ H Q ⟨F, ρ, Qd, I, z, k⟩ => ⟨F, ρ, _, I, z, fun v F1 H1 d g1 t1 r1 z1 => hl F1 H1 v d Qd Q t1.1 r1 z1 fun w F2 H2 e g2 r2 z2 => k w F2 H2 e (g1.trans g2.nil) (t1.go0 g2) r2 z2⟩
/-! ### arguments, displays -/
def aNil : RdA := fun _ Q => Q []
def aCons (ra : Rd) (rl : RdA) : RdA := fun ρ Q => ra ρ fun x => rl ρ fun xs => Q (x :: xs)
theorem a_nil : PAp X B [] aNil := pa_imp pa_nil fun σ H Q ⟨F, ρ, Qd, I, z, k⟩ => k [] F H [] (Go.refl I.same) I.tp .nil z
theorem a_cons (ha : PEp X B e ra) (hr : PAp X B es rl) (hs : starEach (e :: es) X.env = (false, eval e X.env) :: starEach es X.env := by rfl) : PAp X B (e :: es) (aCons ra rl) :=
  pa_imp (pa_cons ha hr hs) fun σ H Q ⟨F, ρ, Qd, I, z, k⟩ => ⟨F, ρ, _, I, z, fun v F1 H1 d g1 t1 r1 z1 => ⟨F1, ρ, _, I.step g1 t1, z1, fun vs F2 H2 ds g2 t2 r2 z2 => k (v :: vs) F2 H2 (d :: ds) (g1.trans g2) t2 (.cons (r1.up g2.ff) r2) z2⟩⟩
theorem y_tup {x1} (h : PAp X B es rl) : PEp X B (.Tuple es x1 pos) (fun ρ Q => rl ρ fun ds => ds.length ≤ 100000 ∧ Q (.tup ds)) :=
  pe_imp (pe_tupZ h) fun σ H Q ⟨F, ρ, Qd, I, z, k⟩ => ⟨F, ρ, _, I, z, fun vs F1 H1 ds g1 t1 r1 z1 => ⟨Nat.le_trans (by rw [r1.len]; exact z1.1) (by decide), fun p H2 hp e2 => by
    obtain ⟨F2, g2, q2, _⟩ := newE g1.fh hp e2
    exact k _ F2 H2 _ (g1.trans g2.nil) (t1.go0 g2) (.tup (SqT.of q2) (r1.up g2.ff)) z1.2⟩⟩
theorem y_lst (h : PAp X B es rl) : PEp X B (.List es pos) (fun ρ Q => rl ρ fun ds => ds.length ≤ 100000 ∧ Q (.lst ds)) :=
  pe_imp (pe_lstZ h) fun σ H Q ⟨F, ρ, Qd, I, z, k⟩ => ⟨F, ρ, _, I, z, fun vs F1 H1 ds g1 t1 r1 z1 => ⟨Nat.le_trans (by rw [r1.len]; exact z1.1) (by decide), fun p H2 hp e2 => by
    obtain ⟨F2, g2, q2, _⟩ := newE g1.fh hp e2
    exact k _ F2 H2 _ (g1.trans g2.nil) (t1.go0 g2) (.lst q2 (r1.up g2.ff)) z1.2⟩⟩
end
end Y
namespace Y
open PySem PySem.Spec PyProof.Rows L2 Z
/-! ### statements -/
section
variable {X : Cx} {B : Bs} {a b c e : Expr} {es : List Expr} {ra rb rc r : Rd} {rt ru : RdT} {rl : RdA} {pos : Pos} {st : Stmt} {rest : List Stmt} {s1 s2 : RdS}
theorem s_nil : PSsp X B [] (fun ρ E => E.nx ρ) := pss_imp pss_nil fun σ H Dd ⟨F, ρ, E, I, z, kn, _⟩ => kn σ ρ F H (Same.refl _) I z
theorem s_cons (h1 : PSp X B st s1) (h2 : PSsp X B rest s2) : PSsp X B (st :: rest) (fun ρ E => s1 ρ { E with nx := fun ρ' => s2 ρ' E }) :=
  pss_imp (pss_cons h1 h2) fun σ H Dd ⟨F, ρ, E, I, z, kn, kr, kb, kc⟩ => ⟨F, ρ, _, I, z, fun σ' ρ' F' H' s I' z' => ⟨F', ρ', E, I', z', fun σ2 ρ2 F2 H2 s' I2 z2 => kn σ2 ρ2 F2 H2 (s.trans s') I2 z2, kr, fun σ2 ρ2 F2 H2 s' I2 z2 => kb σ2 ρ2 F2 H2 (s.trans s') I2 z2, fun σ2 ρ2 F2 H2 s' I2 z2 => kc σ2 ρ2 F2 H2 (s.trans s') I2 z2⟩, kr, kb, kc⟩
theorem s_one (h1 : PSp X B st s1) : PSsp X B [st] s1 := pss_one h1
theorem s_ret (he : PEp X B e r) : PSp X B (.Return (some e) pos) (fun ρ E => r ρ E.rt) :=
  ps_imp (ps_ret he) fun σ H Dd ⟨F, ρ, E, I, z, kn, kr, kb, kc⟩ => ⟨F, ρ, _, I, z, fun v F' H' d g t r q => kr v d F' H' (I.go.trans g) t r q⟩
theorem s_expr (he : PEp X B e r) (hs : swapsWith e none pos.line X.env = pure false := by rfl) : PSp X B (.Expr e pos) (fun ρ E => r ρ fun _ => E.nx ρ) :=
  ps_imp (ps_expr he hs) fun σ H Dd ⟨F, ρ, E, I, z, kn, kr, kb, kc⟩ => ⟨F, ρ, _, I, z, fun v F' H' d g t r q => kn σ ρ F' H' g.ff (I.step g t) q⟩
theorem s_if {bs cs : List Stmt} (hc : PTp X B c rt) (ha : PSsp X B bs s1) (hb : PSsp X B cs s2) : PSp X B (.If c bs cs pos) (fun ρ E => rt ρ fun k => ifB k (s1 ρ E) (s2 ρ E)) :=
  ps_imp (ps_if hc ha hb) fun σ H Dd ⟨F, ρ, E, I, z, kn, kr, kb, kc⟩ => ⟨F, ρ, _, I, z, fun k F1 H1 g1 t1 z1 => by
    have J := I.step g1 t1
    cases k with
    | true => exact ⟨F1, ρ, E, J, ifB_t z1, fun σ2 ρ2 F2 H2 s' I2 z2 => kn σ2 ρ2 F2 H2 (g1.ff.trans s') I2 z2, kr, fun σ2 ρ2 F2 H2 s' I2 z2 => kb σ2 ρ2 F2 H2 (g1.ff.trans s') I2 z2, fun σ2 ρ2 F2 H2 s' I2 z2 => kc σ2 ρ2 F2 H2 (g1.ff.trans s') I2 z2⟩
    | false => exact ⟨F1, ρ, E, J, ifB_f z1, fun σ2 ρ2 F2 H2 s' I2 z2 => kn σ2 ρ2 F2 H2 (g1.ff.trans s') I2 z2, kr, fun σ2 ρ2 F2 H2 s' I2 z2 => kb σ2 ρ2 F2 H2 (g1.ff.trans s') I2 z2, fun σ2 ρ2 F2 H2 s' I2 z2 => kc σ2 ρ2 F2 H2 (g1.ff.trans s') I2 z2⟩⟩
/-! ### targets -/
inductive Tg where
  | nm (i : Nat) | tp (is : List Nat)
def stN : List Nat → List D → Ev → (Ev → Prop) → Prop
  | [], [], ρ, Q => Q ρ
  | i :: is, d :: ds, ρ, Q => stN is ds (ρ.set i (.val d)) Q
  | _, _, _, _ => False
def tgD : Tg → D → Ev → (Ev → Prop) → Prop
  | .nm i, d, ρ, Q => Q (ρ.set i (.val d))
  | .tp is, .tup ds, ρ, Q => stN is ds ρ Q
  | .tp is, .lst ds, ρ, Q => stN is ds ρ Q
  | _, _, _, _ => False
def gNs : List Nat → TGs
  | [] => gNil
  | i :: is => gCons (gName i) (gNs is)
def tgV (K : Frg) : Tg → TG
  | .nm i => gName i
  | .tp is => fun v σ H Q => gTup K is.length (gNs is) v σ H Q ∨ gLst K is.length (gNs is) v σ H Q
theorem g_nm {i : Nat} {x : Str} (h : PG X (.Name x pos) (gName i)) : PG X (.Name x pos) (tgV X.K (.nm i)) := h
theorem g_tp {is : List Nat} {k : Nat} (hc : X.calm = true) (h : PGs X es (gNs is)) (hl : is.length = (assignEach es X.env).length := by rfl) (hst : (assignEach es X.env).findIdx? (·.1) = none := by rfl) : PG X (.Tuple es k pos) (tgV X.K (.tp is)) := by
  have h1 := pg_tup (pos := pos) (k := k) hc h hl.symm hst
  have h2 := pg_lst (pos := pos) (k := k) hc h hl.symm hst
  exact ⟨fun pins s σ H v u Q I r z => z.elim (h1.run pins s σ H v u Q I r) (h2.run pins s σ H v u Q I r)⟩
theorem stN_run {K : Frg} : ∀ {is : List Nat} {vs : List V} {ds : List D} {F H : Hp} {σ : L2.St} {ρ : Ev} {Qd : Ev → Prop} {Q : L2.St → Hp → Prop}, Iv K B F H σ ρ → Rps K B.ms F vs ds → stN is ds ρ Qd → (∀ σ' ρ', Iv K B F H σ' ρ' → Qd ρ' → Q σ' H) → gNs is vs σ H Q
  | [], [], [], F, H, σ, ρ, Qd, Q, I, _, z, k => ⟨rfl, k σ ρ I z⟩
  | i :: is, v :: vs, d :: ds, F, H, σ, ρ, Qd, Q, I, r, z, k => by
    cases r with
    | cons r1 r2 => exact ⟨v, vs, rfl, stN_run (I.set i r1) r2 z k⟩
  | [], _ :: _, [], _, _, _, _, _, _, _, r, _, _ => by cases r
  | [], _, _ :: _, _, _, _, _, _, _, _, _, z, _ => z.elim
  | _ :: _, _, [], _, _, _, _, _, _, _, _, z, _ => z.elim
  | _ :: _, [], _ :: _, _, _, _, _, _, _, _, r, _, _ => by cases r
theorem stN_len : ∀ {is : List Nat} {ds : List D} {ρ : Ev} {Qd : Ev → Prop}, stN is ds ρ Qd → ds.length = is.length
  | [], [], _, _, _ => rfl
  | _ :: is, _ :: ds, _, _, z => by simp only [List.length_cons]; rw [stN_len (is := is) (ds := ds) z]
  | [], _ :: _, _, _, z => z.elim
  | _ :: _, [], _, _, z => z.elim
theorem tg_run {K : Frg} {tg : Tg} {v : V} {d : D} {F H : Hp} {σ : L2.St} {ρ : Ev} {Qd : Ev → Prop} {Q : L2.St → Hp → Prop} (I : Iv K B F H σ ρ) (r : Rp K B.ms F v d) (z : tgD tg d ρ Qd) (k : ∀ σ' ρ', Iv K B F H σ' ρ' → Qd ρ' → Q σ' H) : tgV K tg v σ H Q := by
  cases tg with
  | nm i => exact k _ _ (I.set i r) z
  | tp is =>
    cases d with
    | tup ds =>
      cases r with
      | tup h1 h2 => exact .inl ⟨_, _, rfl, sqT I.same h1, by rw [h2.len]; exact stN_len z, stN_run I h2 z k⟩
    | lst ds =>
      cases r with
      | lst h1 h2 => exact .inr ⟨_, _, rfl, SqL.of (I.same _ _ h1), by rw [h2.len]; exact stN_len z, stN_run I h2 z k⟩
    | _ => exact z.elim
/-- a target touches its own slots alone -/
def Tg.slots : Tg → List Nat
  | .nm i => [i]
  | .tp is => is
theorem wipe_get (σ : L2.St) : ∀ (vs : List Nat) (j : Nat), (L2.wipe σ vs)[j]? = if j ∈ vs then (if j < σ.length then some none else none) else σ[j]?
  | [], j => by simp [L2.wipe]
  | v :: vs, j => by
    unfold L2.wipe
    rw [List.getElem?_set, L2.wipe_length, wipe_get σ vs j]
    by_cases hv : v = j
    · subst hv; simp
    · rw [if_neg hv]
      have : (j ∈ v :: vs) = (j ∈ vs) := by simp [Ne.symm hv]
      simp only [this]
theorem wipe_set (σ : L2.St) {i : Nat} {x : Option V} {vs : List Nat} (h : i ∈ vs) : L2.wipe (σ.set i x) vs = L2.wipe σ vs := by
  apply List.ext_getElem?
  intro j
  rw [wipe_get, wipe_get, List.length_set]
  by_cases hj : j ∈ vs
  · rw [if_pos hj, if_pos hj]
  · rw [if_neg hj, if_neg hj, List.getElem?_set_ne (fun (e : i = j) => hj (e ▸ h))]
theorem gNs_wipe {vs0 : List Nat} {H : Hp} {Q : L2.St → Hp → Prop} : ∀ {is : List Nat} {vs : List V} {σ : L2.St}, (∀ i ∈ is, i ∈ vs0) → gNs is vs σ H Q → gNs is vs σ H fun σ2 H2 => L2.wipe σ2 vs0 = L2.wipe σ vs0 ∧ Q σ2 H2
  | [], _, _, _, h => ⟨h.1, rfl, h.2⟩
  | i :: is, vs, σ, hm, ⟨v, r, e, h⟩ => by
    refine ⟨v, r, e, ?_⟩
    have := gNs_wipe (is := is) (fun j hj => hm j (List.mem_cons_of_mem _ hj)) h
    rw [wipe_set σ (hm i List.mem_cons_self)] at this
    exact this
theorem tg_wipe {K : Frg} {tg : Tg} {vs0 : List Nat} {v : V} {σ : L2.St} {H : Hp} {Q : L2.St → Hp → Prop} (hm : ∀ i ∈ tg.slots, i ∈ vs0) (h : tgV K tg v σ H Q) : tgV K tg v σ H fun σ2 H2 => L2.wipe σ2 vs0 = L2.wipe σ vs0 ∧ Q σ2 H2 := by
  cases tg with
  | nm i => exact ⟨wipe_set σ (hm i List.mem_cons_self), h⟩
  | tp is =>
    rcases h with ⟨a, xs, e, h1, h2, h3⟩ | ⟨a, xs, e, h1, h2, h3⟩
    · exact .inl ⟨a, xs, e, h1, h2, gNs_wipe hm h3⟩
    · exact .inr ⟨a, xs, e, h1, h2, gNs_wipe hm h3⟩
/-! ### assignments -/
theorem asg_of {te : TE} {tg : Tg} (h0 : ∀ σ H Q, tE X.K B r σ H Q → te σ H Q) (σ : L2.St) (H : Hp) (Dd : Ends) (h : tS X.K B (fun ρ E => r ρ fun d => tgD tg d ρ E.nx) Dd σ H) : tAsg te (tgV X.K tg) Dd σ H := by
  obtain ⟨F, ρ, E, I, z, kn, kr, kb, kc⟩ := h
  exact h0 _ _ _ ⟨F, ρ, _, I, z, fun v F' H' d g t r q => tg_run (I.step g t) r q fun σ' ρ' I' z' => kn σ' ρ' F' H' g.ff I' z'⟩
theorem s_set {i : Nat} {x : Str} {pos' : Pos} (hN : X.N.Nodup) (hi : X.N[i]? = some x) (hx : Loc X.env.scope x) (he : PEp X B e r) (hs : swapsWith e (some (.Name x pos')) pos.line X.env = pure false := by rfl) (hf : X.fn x = true ∨ X.env.scope.names.lookup x = some .local := by first | exact .inl rfl | exact .inr rfl | assumption) :
    PSp X B (.Assign [.Name x pos'] e pos) (fun ρ E => r ρ fun d => E.nx (ρ.set i (.val d))) := ps_imp (ps_set hN hi hx he hs hf) (asg_of (tg := .nm i) fun _ _ _ z => z)
theorem s_asg {tg : Expr} {t : Tg} (he : PEp X B e r) (hg : PG X tg (tgV X.K t)) (hs : swapsWithSole [tg] e pos.line X.env = pure false := by rfl) (hw : swappedStores [tg] e X.env = pure none := by rfl)
    (h1 : (assignEach [tg] X.env).map (·.2) = [assign tg X.env] := by rfl) : PSp X B (.Assign [tg] e pos) (fun ρ E => r ρ fun d => tgD t d ρ E.nx) := ps_imp (ps_asg he hg hs hw h1) (asg_of (tg := t) fun _ _ _ z => z)
theorem s_par {i j : Nat} {x y : Str} {px py pt : Pos} {kt k2 pt2} (hc : X.calm = true) (hN : X.N.Nodup) (hi : X.N[i]? = some x) (hj : X.N[j]? = some y) (hij : i ≠ j)
    (hx : X.env.scope.names.lookup x = some .local) (hy : X.env.scope.names.lookup y = some .local) (ha : PAp X B [a, b] rl)
    (hw : swappedStores [.Tuple [.Name x px, .Name y py] kt pt] (.Tuple [a, b] k2 pt2) X.env = pure (some [x, y]))
    (hs : swapsWithSole [.Tuple [.Name x px, .Name y py] kt pt] (.Tuple [a, b] k2 pt2) pos.line X.env = pure false := by rfl) :
    PSp X B (.Assign [.Tuple [.Name x px, .Name y py] kt pt] (.Tuple [a, b] k2 pt2) pos) (fun ρ E => rl ρ fun ds => stN [i, j] ds ρ E.nx) :=
  ps_imp (ps_par hc hN hi hj hij hx hy ha hw hs) fun σ H Dd ⟨F, ρ, E, I, z, kn, kr, kb, kc⟩ => ⟨F, ρ, _, I, z, fun vs F' H' ds g t r q => by
    match vs, ds, r, q with
    | [v, w], [d, d'], r, q =>
      cases r with
      | cons r1 r2 =>
        cases r2 with
        | cons r2 r3 => exact ⟨v, w, rfl, kn _ _ F' H' g.ff (((I.step g t).set i r1).set j r2) q⟩
    | [], [], _, q => exact q.elim
    | [_], [_], _, q => exact q.elim
    | _ :: _ :: _ :: _, _ :: _ :: _ :: _, _, q => exact q.elim
    | [], _ :: _, r, _ => exact (nomatch r)
    | _ :: _, [], r, _ => exact (nomatch r)
    | [_], _ :: _ :: _, r, _ => cases r with | cons _ r => exact (nomatch r)
    | _ :: _ :: _, [_], r, _ => cases r with | cons _ r => exact (nomatch r)
    | [_, _], _ :: _ :: _ :: _, r, _ => cases r with | cons _ r => cases r with | cons _ r => exact (nomatch r)
    | _ :: _ :: _ :: _, [_, _], r, _ => cases r with | cons _ r => cases r with | cons _ r => exact (nomatch r)⟩
/-! ### loops -/
theorem s_while {body : List Stmt} (hp : PassesOwn (model X.prog X.w) X.A X.env X.xe) (hc : PTp X B c rt) (hb : PSsp X B body s1) : PSp X B (.While c body [] pos) (fun ρ E => ∃ Iw : Nat → Ev → Prop, (∃ m, Iw m ρ) ∧ ∀ m ρ, Iw m ρ →
    rt ρ fun k => ifB k (s1 ρ { E with nx := fun ρ' => ∃ m', m' < m ∧ Iw m' ρ', ct := fun ρ' => ∃ m', m' < m ∧ Iw m' ρ', bk := E.nx }) (E.nx ρ)) :=
  ps_imp (ps_while hp hc hb) fun σ H Dd ⟨F, ρ, E, I, ⟨Iw, ⟨m0, i0⟩, turn⟩, kn, kr, kb, kc⟩ => by
    refine ⟨fun m σ' H' => ∃ F' ρ', Same F F' ∧ Iv X.K B F' H' σ' ρ' ∧ Iw m ρ', ⟨m0, F, ρ, Same.refl _, I, i0⟩, ?_⟩
    rintro m σ' H' ⟨F', ρ', s', I', z'⟩
    refine ⟨F', ρ', _, I', turn m ρ' z', fun k F1 H1 g1 t1 z1 => ?_⟩
    have J := I'.step g1 t1
    have sF := s'.trans g1.ff
    cases k with
    | false => exact kn σ' ρ' F1 H1 sF J (ifB_f z1)
    | true =>
      refine ⟨fun σ2 H2 => ∃ m', m' < m ∧ ∃ F2 ρ2, Same F F2 ∧ Iv X.K B F2 H2 σ2 ρ2 ∧ Iw m' ρ2, fun σ2 H2 ⟨m', hm, F2, ρ2, s2, I2, z2⟩ => ⟨m', hm, F2, ρ2, s2, I2, z2⟩, F1, ρ', _, J, ifB_t z1, ?_, kr, ?_, ?_⟩
      · rintro σ2 ρ2 F2 H2 s2 I2 ⟨m', hm, z2⟩
        exact ⟨m', hm, F2, ρ2, sF.trans s2, I2, z2⟩
      · intro σ2 ρ2 F2 H2 s2 I2 z2
        exact kn σ2 ρ2 F2 H2 (sF.trans s2) I2 z2
      · rintro σ2 ρ2 F2 H2 s2 I2 ⟨m', hm, z2⟩
        exact ⟨m', hm, F2, ρ2, sF.trans s2, I2, z2⟩
end
/-- an iterator that hands out the data ds -/
def Sqs (K : Frg) (ms : List Addr) (F : Hp) (J : It) (ds : List D) : Prop := ∃ (G : Hp → Prop) (Yd : Nat → Hp → V → Hp → Prop), Walk J ds.length G Yd ∧ (∀ F1 H1, Same F F1 → Same F1 H1 → G H1) ∧
  ∀ (i : Nat) (F1 H1 : Hp) (x : V) (H1' : Hp) (d : D), Same F F1 → Same F1 H1 → Yd i H1 x H1' → ds[i]? = some d → ∃ F2, Go [] F1 H1 F2 H1' ∧ Rp K ms F2 x d
def tI (K : Frg) (B : Bs) (r : RdA) : L2.TI := fun σ H R => ∃ F ρ Qd, Iv K B F H σ ρ ∧ r ρ Qd ∧ ∀ J F' H' ds, Go B.ms F H F' H' → Tp K B.ms F' H' → Sqs K B.ms F' J ds → Qd ds → R J H'
def PIp (X : Cx) (B : Bs) (tg iter : Expr) (r : RdA) : Prop := PI X tg iter (tI X.K B r)
theorem pi_imp {X : Cx} {tg it : Expr} {t t' : L2.TI} (h : PI X tg it t) (f : ∀ σ H R, t' σ H R → t σ H R) : PI X tg it t' := ⟨fun pins s σ H R I z => h.run pins s σ H R I (f σ H R z)⟩
/-- a for, turn by turn -/
def forP (tg : Tg) (sb : RdS) (E : En) : List D → Ev → Prop
  | [], ρ => E.nx ρ
  | d :: ds, ρ => tgD tg d ρ fun ρ1 => sb ρ1 { E with nx := forP tg sb E ds, ct := forP tg sb E ds, bk := E.nx }
/-- a for, by what holds behind each turn -/
def forI (tg : Tg) (sb : RdS) (E : En) (ds : List D) (ρ : Ev) : Prop := ∃ I : Nat → Ev → Prop, I 0 ρ ∧ (∀ (i : Nat) (d : D) (ρ' : Ev), ds[i]? = some d → I i ρ' → tgD tg d ρ' fun ρ1 => sb ρ1 { E with nx := I (i + 1), ct := I (i + 1), bk := E.nx }) ∧ ∀ ρ', I ds.length ρ' → E.nx ρ'
theorem lt_of_get {α : Type} {ds : List α} {i : Nat} {d : α} (h : ds[i]? = some d) : i < ds.length := by
  rcases Nat.lt_or_ge i ds.length with z | z
  · exact z
  · rw [List.getElem?_eq_none z] at h; cases h
theorem drop_of_get {α : Type} {ds : List α} {i : Nat} {d : α} (h : ds[i]? = some d) : ds.drop i = d :: ds.drop (i + 1) := by
  have hi := lt_of_get h
  rw [List.getElem?_eq_getElem hi] at h
  cases h
  exact List.drop_eq_getElem_cons hi
/-- a comprehension, item by item -/
def mapP (tg : Tg) (rt : RdT) (re : Rd) (ρ : Ev) : List D → (List D → Prop) → Prop
  | [], Q => Q []
  | d :: ds, Q => tgD tg d ρ fun ρ2 => rt ρ2 fun k => ifB k (re ρ2 fun y => mapP tg rt re ρ ds fun ys => Q (y :: ys)) (mapP tg rt re ρ ds Q)
/-- a comprehension, by what holds of the items made so far -/
def mapI (tg : Tg) (rt : RdT) (re : Rd) (ρ : Ev) (ds : List D) (Q : List D → Prop) : Prop := ∃ J : Nat → List D → Prop, J 0 [] ∧ (∀ (i : Nat) (d : D) (acc : List D), ds[i]? = some d → J i acc → tgD tg d ρ fun ρ2 => rt ρ2 fun k => ifB k (re ρ2 fun y => J (i + 1) (acc ++ [y])) (J (i + 1) acc)) ∧ ∀ out, J ds.length out → Q out
theorem mapI_of {tg : Tg} {rt : RdT} {re : Rd} {ρ : Ev} {ds : List D} {Q : List D → Prop} (h : mapP tg rt re ρ ds Q) : mapI tg rt re ρ ds Q := by
  refine ⟨fun i acc => mapP tg rt re ρ (ds.drop i) fun zs => Q (acc ++ zs), h, fun i d acc hd z => ?_, fun out z => ?_⟩
  · dsimp only at z
    rw [drop_of_get hd] at z
    simp only [List.append_assoc, List.singleton_append]
    exact z
  · dsimp only at z
    rw [List.drop_length] at z
    have z2 : Q (out ++ []) := z
    rw [List.append_nil] at z2
    exact z2
section
variable {X : Cx} {B : Bs} {a b c e : Expr} {es : List Expr} {ra rb rc r : Rd} {rt ru : RdT} {rl : RdA} {pos : Pos} {st : Stmt} {rest : List Stmt} {s1 s2 : RdS}
theorem s_for {iter tg : Expr} {t : Tg} {body : List Stmt} (hp : PassesOwn (model X.prog X.w) X.A X.env X.xe) (hc : X.calm = true) (hi : PIp X B tg iter rl) (hg : PG X tg (tgV X.K t)) (hb : PSsp X B body s1) (hs : ∀ x, foldedSetIterable iter X.env x = pure x := by intro _; rfl) :
    PSp X B (.For tg iter body [] pos) (fun ρ E => rl ρ fun ds => forI t s1 E ds ρ) :=
  ps_imp (ps_for hp hc hi hg hb hs) fun σ H Dd ⟨F, ρ, E, I, z, kn, kr, kb, kc⟩ => ⟨F, ρ, _, I, z, fun J F1 H1 ds g1 t1 ⟨G, Yd, w, hG, hY⟩ ⟨Iw, z1, zs, zf⟩ => by
    refine for_it w (fun i σ' H' => ∃ F' ρ', Same F1 F' ∧ Iv X.K B F' H' σ' ρ' ∧ Iw i ρ') ⟨F1, ρ, Same.refl _, I.step g1 t1, z1⟩ (fun i σ' H' _ ⟨F', ρ', s', I', _⟩ => hG F' H' s' I'.same) ?_ ?_
    · rintro i x σ' H' H'' hi ⟨F', ρ', s', I', z'⟩ hy
      have z' := zs i ds[i] ρ' (List.getElem?_eq_getElem hi) z'
      obtain ⟨F2, g2, r2⟩ := hY i F' H' x H'' ds[i] s' I'.same hy (List.getElem?_eq_getElem hi)
      have J2 := I'.step0 g2
      refine tg_run J2 r2 z' fun σ3 ρ3 I3 z3 => ⟨F2, ρ3, _, I3, z3, ?_, kr, ?_, ?_⟩
      · exact fun σ4 ρ4 F4 H4 s4 I4 z4 => ⟨F4, ρ4, (s'.trans g2.ff).trans s4, I4, z4⟩
      · exact fun σ4 ρ4 F4 H4 s4 I4 z4 => kn σ4 ρ4 F4 H4 (((g1.ff.trans s').trans g2.ff).trans s4) I4 z4
      · exact fun σ4 ρ4 F4 H4 s4 I4 z4 => ⟨F4, ρ4, (s'.trans g2.ff).trans s4, I4, z4⟩
    · rintro σ' H' ⟨F', ρ', s', I', z'⟩
      exact kn σ' ρ' F' H' (g1.ff.trans s') I' (zf ρ' z')⟩
/-! ### iterables -/
theorem i_lst {tg l : Expr} (hl : PE X l (tE X.K B r)) : PI X tg l (tI X.K B (fun ρ Q => r ρ fun d => match d with | .lst ds => Q ds | _ => False)) :=
  pi_imp (pi_list hl) fun σ H R ⟨F, ρ, Qd, I, z, k⟩ => ⟨F, ρ, _, I, z, fun v F1 H1 d g1 t1 r1 z1 => by
    split at z1
    · rename_i ds
      cases r1 with
      | @lst a vs _ h1 h2 =>
        refine ⟨a, rfl, ⟨vs, SqL.of (t1.1 _ _ h1)⟩, k _ F1 H1 ds g1 t1 ⟨_, _, by rw [← h2.len]; exact walk_list (K := X.K) (a := a) (xs := vs), fun F2 H2 s s' => SqL.of (s' _ _ (s _ _ h1)), ?_⟩ z1⟩
        rintro i F2 H2 x H2' d s s' ⟨rfl, hx⟩ hd
        obtain ⟨v, hv, hr⟩ := h2.get hd
        rw [hx] at hv
        cases hv
        exact ⟨F2, Go.refl s', hr.up s⟩
    · exact z1.elim⟩
theorem i_tup {tg l : Expr} (hl : PE X l (tE X.K B r)) : PI X tg l (tI X.K B (fun ρ Q => r ρ fun d => match d with | .tup ds => Q ds | _ => False)) :=
  pi_imp (pi_tup hl) fun σ H R ⟨F, ρ, Qd, I, z, k⟩ => ⟨F, ρ, _, I, z, fun v F1 H1 d g1 t1 r1 z1 => by
    split at z1
    · rename_i ds
      cases r1 with
      | @tup a vs _ h1 h2 =>
        refine ⟨a, rfl, ⟨vs, sqT t1.1 h1⟩, k _ F1 H1 ds g1 t1 ⟨_, _, by rw [← h2.len]; exact walk_tup (K := X.K) (a := a) (xs := vs), fun F2 H2 s s' => sqT s' (sqT s h1), ?_⟩ z1⟩
        rintro i F2 H2 x H2' d s s' ⟨rfl, hx⟩ hd
        obtain ⟨v, hv, hr⟩ := h2.get hd
        rw [hx] at hv
        cases hv
        exact ⟨F2, Go.refl s', hr.up s⟩
    · exact z1.elim⟩
/-- lo, lo + 1, .. -/
def rngD (lo : Int) (n : Nat) : List D := (List.range n).map fun i => .int (lo + (i : Nat))
theorem rng_sqs {K : Frg} {ms : List Addr} {F : Hp} {lo : Int} {n : Nat} : Sqs K ms F (Itr lo n) (rngD lo n) := by
  refine ⟨_, _, by rw [show (rngD lo n).length = n by simp [rngD]]; exact walk_range, fun _ _ _ _ => trivial, ?_⟩
  rintro i F2 H2 x H2' d s s' ⟨rfl, rfl⟩ hd
  have hi : i < n := by
    rcases Nat.lt_or_ge i n with z | z
    · exact z
    · rw [List.getElem?_eq_none (by simp [rngD]; exact z)] at hd; cases hd
  simp [rngD, hi] at hd
  subst hd
  exact ⟨F2, Go.refl s', .int _⟩
def rng1 (ds : List D) (Q : List D → Prop) : Prop := match ds with
  | [.int j] => -(2 ^ 62) ≤ j ∧ j < 2 ^ 62 ∧ Q (rngD 0 j.toNat)
  | _ => False
def rng2 (ds : List D) (Q : List D → Prop) : Prop := match ds with
  | [.int i, .int j] => (-(2 ^ 62) ≤ i ∧ i < 2 ^ 62 ∧ -(2 ^ 62) ≤ j ∧ j < 2 ^ 62) ∧ Q (rngD i (j - i).toNat)
  | _ => False
theorem i_rng1 {tg a : Expr} {p : Pos} (hg : Gl X "range") (hm : X.mg "range" = none) (ha : PAp X B [a] rl) (hs : starEach [a] X.env = [(false, eval a X.env)] := by rfl) : PIp X B tg (.Call (.Name "range" p) [a] [] pos) (fun ρ Q => rl ρ fun ds => rng1 ds Q) :=
  pi_imp (pi_range1 hg hm ha hs) fun σ H R ⟨F, ρ, Qd, I, z, k⟩ => ⟨F, ρ, _, I, z, fun vs F1 H1 ds g1 t1 r1 z1 => by
    unfold rng1 at z1
    split at z1
    · cases r1 with
      | cons r1 r2 =>
        cases r1
        cases r2
        exact ⟨_, rfl, z1.1, z1.2.1, k _ F1 H1 _ g1 t1 rng_sqs z1.2.2⟩
    · exact z1.elim⟩
theorem i_rng2 {tg a b : Expr} {p : Pos} (hg : Gl X "range") (hm : X.mg "range" = none) (ha : PAp X B [a, b] rl) (hs : starEach [a, b] X.env = [(false, eval a X.env), (false, eval b X.env)] := by rfl) (hs2 : starEach [b] X.env = [(false, eval b X.env)] := by rfl) :
    PIp X B tg (.Call (.Name "range" p) [a, b] [] pos) (fun ρ Q => rl ρ fun ds => rng2 ds Q) :=
  pi_imp (pi_range2 hg hm ha hs hs2) fun σ H R ⟨F, ρ, Qd, I, z, k⟩ => ⟨F, ρ, _, I, z, fun vs F1 H1 ds g1 t1 r1 z1 => by
    unfold rng2 at z1
    split at z1
    · cases r1 with
      | cons r1 r2 =>
        cases r1
        cases r2 with
        | cons r2 r3 =>
          cases r2
          cases r3
          exact ⟨_, _, rfl, z1.1, k _ F1 H1 _ g1 t1 rng_sqs z1.2⟩
    · exact z1.elim⟩
end
end Y
namespace Y
open PySem PySem.Spec PyProof.Rows L2 Z
/-! ### comprehensions -/
def Bs.nox (B : Bs) : Bs := { B with Ed := fun _ => False }
theorem Iv.nox {K : Frg} {B : Bs} {F H : Hp} {σ : L2.St} {ρ : Ev} (I : Iv K B F H σ ρ) : Iv K B.nox F H σ ρ := ⟨I.go, I.tp, I.len, I.val, I.own, I.sep⟩
theorem Tp.put {K : Frg} {ms : List Addr} {F H F1 H1 F2 H2 : Hp} {d : Addr} (h0 : Tp K ms F H) (hd : H d = none) (h : Tp K ms F1 H1) (g : Go [d] F1 H1 F2 H2) : Tp K ms F2 H2 := h.gox g fun m => h0.ne m hd
section
variable {X : Cx} {B : Bs} {a b c e : Expr} {es : List Expr} {ra rb rc r : Rd} {rt ru : RdT} {rl : RdA} {pos : Pos} {st : Stmt} {rest : List Stmt} {s1 s2 : RdS}
def rYes : RdT := fun _ Q => Q true
theorem c_nil : PTs X [] (tT X.K B rYes) := ⟨fun pins s σ H Q I ⟨F, ρ, Qd, J, z, k⟩ => (pts_nil (X := X)).run pins s σ H Q I (k true F H (Go.refl J.same) J.tp z)⟩
theorem c_one (h : PTp X B c rt) : PTs X [c] (tT X.K B rt) := pts_one h
theorem lc_of {K : Frg} {t : Tg} {wi : L2.TI} {vs : List Nat} {re : Rd} (hw : ∀ i ∈ t.slots, i ∈ vs) (h0 : ∀ σ H R, tI K B rl σ H R → wi σ H R) (σ : L2.St) (H : Hp) (Q : VK) (h : tE K B (fun ρ Q => rl ρ fun ds => ds.length ≤ 100000 ∧ mapI t rt re (wipeR ρ vs) ds fun ys => Q (.lst ys)) σ H Q) :
    tLcZ wi (tgV K t) (tT K B.nox rt) (tE K B.nox re) vs σ H Q := by
  obtain ⟨F, ρ, Qd, I, z, k⟩ := h
  refine h0 _ _ _ ⟨F, ρ, _, I, z, fun J F1 H1 ds g1 t1 ⟨G, Yd, w, hG, hY⟩ ⟨hn, Jw, z1, zs, zf⟩ => ?_⟩
  have I1 := (I.step g1 t1).nox.wipes vs
  refine lc_go w t1.1 (ms := B.ms) (fun t m => t1.ne m) (fun F H => Tp K B.ms F H) t1 (fun D F1 H1 F2 H2 hD h g => t1.put hD h g) (fun F2 H2 g _ => hG F2 H2 g.ff g.fh)
    (fun i acc F2 => ∃ ys, Rps K B.ms F2 acc ys ∧ Jw i ys) ⟨[], .nil, z1⟩ (fun i acc F2 F3 s ⟨ys, h1, h2⟩ => ⟨ys, h1.up s, h2⟩) hn ?_ ?_
  · rintro i x acc F2 H2 H2' hi hl ⟨ys, hys, zz⟩ g2 t2 hy Kp Sk kp sk
    have zz := zs i ds[i] ys (List.getElem?_eq_getElem hi) zz
    obtain ⟨F3, g3, r3⟩ := hY i F2 H2 x H2' ds[i] g2.ff g2.fh hy (List.getElem?_eq_getElem hi)
    have I2 := (I1.step g2 t2).step0 g3
    have t3 := t2.go0 g3
    have e : L2.wipe (L2.wipe σ vs) vs = L2.wipe σ vs := by
      apply List.ext_getElem?
      intro j
      rw [wipe_get, L2.wipe_length, wipe_get]
      by_cases hj : j ∈ vs
      · rw [if_pos hj, if_pos hj]
      · rw [if_neg hj]
    have q := tg_wipe (K := K) (v := x) (σ := L2.wipe σ vs) (H := H2') (Q := fun σ2 H2 => tT K B.nox rt σ2 H2 fun b H3 => if b = true then tE K B.nox re σ2 H3 Kp else Sk H3) hw (tg_run I2 r3 zz fun σ4 ρ4 I4 z4 => by
      refine ⟨F3, ρ4, _, I4, z4, fun b F5 H5 g5 t5 z5 => ?_⟩
      cases b with
      | false => exact sk F5 H5 (g3.nil.trans g5) t5 ⟨ys, (hys.up g3.ff).up g5.ff, ifB_f z5⟩
      | true => exact ⟨F5, ρ4, _, I4.step g5 t5, ifB_t z5, fun v F6 H6 d g6 t6 r6 z6 => kp v F6 H6 (g3.nil.trans (g5.trans g6)) t6 ⟨ys ++ [d], (((hys.up g3.ff).up g5.ff).up g6.ff).app (.one r6), z6⟩⟩)
    rw [e] at q
    exact q
  · rintro D ys F2 H2 g2 t2 hD _ ⟨zs', hz, zz⟩
    exact k _ F2 H2 _ (g1.trans g2) t2 (.lst hD hz) (zf _ zz)
theorem y_lc {elt tg iter : Expr} {ifs : List Expr} {scope : Scope} {own : List (Str × Nat)} {t : Tg} {re : Rd} (hc : X.calm = true) (hN : X.N.Nodup) (hi : PIp X B tg iter rl) (ok : BlkOk X.N X.env.scope scope own)
    (hg : ∀ (s : Shared) (H : Hp) (C : Addr) (cl : List (Str × Addr)) (fp : List Addr), PG (X.blk s H scope (compEnvC scope cl C X.env) fp) tg (tgV X.K t)) (ht : ∀ (s : Shared) (H : Hp) (C : Addr) (cl : List (Str × Addr)) (fp : List Addr), PTs (X.blk s H scope (compEnvC scope cl C X.env) fp) ifs (tT X.K B.nox rt))
    (he : ∀ (s : Shared) (H : Hp) (C : Addr) (cl : List (Str × Addr)) (fp : List Addr), PEp (X.blk s H scope (compEnvC scope cl C X.env) fp) B.nox elt re) (hw : ∀ i ∈ t.slots, i ∈ own.map (·.2) := by decide) (hs : ∀ x, foldedSetIterable iter X.env x = pure x := by intro _; rfl) :
    PEp X B (.ListComp elt [⟨tg, iter, ifs, 0⟩] scope pos) (fun ρ Q => rl ρ fun ds => ds.length ≤ 100000 ∧ mapI t rt re (wipeR ρ (own.map (·.2))) ds fun ys => Q (.lst ys)) :=
  pe_imp (pe_lcZ (pe_lc (te := tE X.K B.nox re) hc hN hi ok hg ht he hs)) (lc_of hw fun _ _ _ z => z)
end
/-! ### defs -/
abbrev RdF := List D → (D → Prop) → (Ex → Prop) → Prop
def spP (K : Frg) (R : RdF) : Sp := fun vs H Q E => ∃ ms F ds Qd Ed, Tp K ms F H ∧ Rps K ms F vs ds ∧ R ds Qd Ed ∧ (∀ v F' H' d, Go ms F H F' H' → Tp K ms F' H' → Rp K ms F' v d → Qd d → Q v H') ∧
  (∀ cls d F' H' x, Go ms F H F' H' → Tp K ms F' H' → XR K ms F' cls d x → Ed x → E cls d H')
def EE (K : Frg) (B : Bs) : XK := fun cls d H' => ∃ F' x, Go B.ms B.F0 B.H0 F' H' ∧ Tp K B.ms F' H' ∧ XR K B.ms F' cls d x ∧ B.Ed x
abbrev Px (X : Cx) (B : Bs) : Prop := Passes (L2N.CX X.prog X.w) X (EE X.K B)
theorem px_nox {X : Cx} {B : Bs} : Px X B.nox := fun pins σ H s e s' I ⟨_, _, _, _, _, _, _, _, _, _, _, _, F', x, _, _, _, z⟩ => z.elim
def ar0 (P : (D → Prop) → (Ex → Prop) → Prop) : RdF := fun ds Q E => match ds with | [] => P Q E | _ => False
def ar1 (P : D → (D → Prop) → (Ex → Prop) → Prop) : RdF := fun ds Q E => match ds with | [a] => P a Q E | _ => False
def ar2 (P : D → D → (D → Prop) → (Ex → Prop) → Prop) : RdF := fun ds Q E => match ds with | [a, b] => P a b Q E | _ => False
def ar3 (P : D → D → D → (D → Prop) → (Ex → Prop) → Prop) : RdF := fun ds Q E => match ds with | [a, b, c] => P a b c Q E | _ => False
def ar4 (P : D → D → D → D → (D → Prop) → (Ex → Prop) → Prop) : RdF := fun ds Q E => match ds with | [a, b, c, d] => P a b c d Q E | _ => False
def ar5 (P : D → D → D → D → D → (D → Prop) → (Ex → Prop) → Prop) : RdF := fun ds Q E => match ds with | [a, b, c, d, e] => P a b c d e Q E | _ => False
theorem arl1 {P} : ∀ ds Q E, ar1 P ds Q E → ds.length = 1 := fun ds Q E h => by unfold ar1 at h; split at h; rfl; exact h.elim
theorem arl2 {P} : ∀ ds Q E, ar2 P ds Q E → ds.length = 2 := fun ds Q E h => by unfold ar2 at h; split at h; rfl; exact h.elim
theorem arl3 {P} : ∀ ds Q E, ar3 P ds Q E → ds.length = 3 := fun ds Q E h => by unfold ar3 at h; split at h; rfl; exact h.elim
section
variable {P : Program} {w : World} {K : Frg} {mg : Str → Option Value} {base : Heap}
def startE (n : Nat) (ds : List D) : Ev := ds.map Sl.val ++ List.replicate (n - ds.length) .no
theorem iv_start {B : Bs} {N : List Str} {vs : List V} {ds : List D} (t : Tp K B.ms B.F0 B.H0) (r : Rps K B.ms B.F0 vs ds) : Iv K B B.F0 B.H0 (L2.start N vs) (startE N.length ds) where
  go := Go.refl t.1
  tp := t
  len := by simp [L2.start, startE, r.len]
  val := fun i d h => by
    unfold startE at h
    have hi : i < ds.length := by
      rcases Nat.lt_or_ge i ds.length with z | z
      · exact z
      · rw [List.getElem?_append_right (by simpa using z), List.getElem?_replicate] at h
        split at h <;> cases h
    rw [List.getElem?_append_left (by simpa using hi), List.getElem?_map] at h
    have hd : ds[i]? = some d := by
      rw [List.getElem?_eq_getElem hi] at h ⊢
      simpa using h
    obtain ⟨v, h1, h2⟩ := r.get hd
    refine ⟨v, ?_, h2⟩
    unfold L2.start
    rw [List.getElem?_append_left (by simp [r.len]; exact hi), List.getElem?_map, h1]
    rfl
  own := fun i m h => by
    unfold startE at h
    rcases Nat.lt_or_ge i ds.length with z | z
    · rw [List.getElem?_append_left (by simpa using z), List.getElem?_map, List.getElem?_eq_getElem z] at h
      cases h
    · rw [List.getElem?_append_right (by simpa using z), List.getElem?_replicate] at h
      split at h <;> cases h
  sep := fun i j m n a _ h _ _ => by
    exfalso
    unfold startE at h
    rcases Nat.lt_or_ge i ds.length with z | z
    · rw [List.getElem?_append_left (by simpa using z), List.getElem?_map, List.getElem?_eq_getElem z] at h
      cases h
    · rw [List.getElem?_append_right (by simpa using z), List.getElem?_replicate] at h
      split at h <;> cases h
theorem px_of {N : List Str} {qual : Str} {scope : Scope} {f : Addr} {cdv : Value} {A : Around} {outer : List Env} {s : Shared} {H : Hp} {E : XK} {B : Bs} (h : ∀ cls d H', EE K B cls d H' → E cls d H') : Px (cxOf (L2N.CX P w) P w K mg base N qual scope f cdv A outer s H E) B := by
  have tk : L2N.Takes (cxOf (L2N.CX P w) P w K mg base N qual scope f cdv A outer s H E) (fun cls d _ H => E cls d H) := L2N.takes_of rfl rfl rfl rfl
  exact L2N.passes_call tk fun cls d σ H z => h cls d H z
theorem po_of {N : List Str} {qual : Str} {scope : Scope} {f : Addr} {cdv : Value} {A : Around} {outer : List Env} {s : Shared} {H : Hp} {E : XK} :
    PassesOwn (model P w) (cxOf (L2N.CX P w) P w K mg base N qual scope f cdv A outer s H E).A (cxOf (L2N.CX P w) P w K mg base N qual scope f cdv A outer s H E).env (cxOf (L2N.CX P w) P w K mg base N qual scope f cdv A outer s H E).xe := passes_of rfl
/-- a def by its body -/
theorem y_fn {x qual : Str} {st : Stmt} {f : Addr} {N ps : List Str} {k : Nat} {R : RdF} (F : DefAt K x qual st f) (S : FnScope N ps (defScope st)) (len : ∀ ds Q E, R ds Q E → ds.length = ps.length)
    (hb : ∀ (kV doc pm : Value) (an : Option Addr) (cdv ct : Value) (us : List Value), us.length = ps.length → bindArgs (PySem.W.fnOf x qual (defArgs st) (defBody st) (defScope st) .none kV doc pm an cdv ct) ⟨us, []⟩ = pure (ps.zip us))
    (hbody : ∀ (cdv : Value) (A : Around) (outer : List Env) (s : Shared) (H : Hp) (E : XK) (B : Bs), Same B.F0 B.H0 → RoomG k (A.deeper (envOfC qual (defScope st) s.heap.objs.size f cdv)) → Px (cxOf (L2N.CX P w) P w K mg base N qual (defScope st) f cdv A outer s H E) B →
      PassesOwn (model P w) (cxOf (L2N.CX P w) P w K mg base N qual (defScope st) f cdv A outer s H E).A (cxOf (L2N.CX P w) P w K mg base N qual (defScope st) f cdv A outer s H E).env (cxOf (L2N.CX P w) P w K mg base N qual (defScope st) f cdv A outer s H E).xe →
      ∃ r, PSsp (cxOf (L2N.CX P w) P w K mg base N qual (defScope st) f cdv A outer s H E) B (defBody st) r ∧ ∀ ds Q, R ds Q B.Ed → r (startE N.length ds) { nx := fun _ => Q .non, rt := Q }) : FnG P w K mg base (L2N.CX P w) (k + 1) f (spP K R) := by
  refine zfnG F S (fun vs H Q E ⟨ms, F, ds, Qd, Ed, _, r, h, _⟩ => by rw [r.len]; exact len _ _ _ h) hb fun cdv A outer s H vs Q E hr h => ?_
  obtain ⟨ms, F, ds, Qd, Ed, t, r, h, kq, ke⟩ := h
  obtain ⟨rr, h1, h2⟩ := hbody cdv A outer s H E ⟨ms, F, H, Ed⟩ t.1 hr (px_of fun cls d H' ⟨F', x, g, t', xr, z⟩ => ke cls d F' H' x g t' xr z) po_of
  refine ⟨_, h1, F, _, _, iv_start (B := ⟨ms, F, H, Ed⟩) t r, h2 ds Qd h, ?_, ?_, ?_, ?_⟩
  · intro σ' ρ' F' H' _ I' z
    exact kq .non F' H' .non I'.go I'.tp .non z
  · intro v d F' H' g t' r' z
    exact kq v F' H' d g t' r' z
  · intro _ _ _ _ _ _ z; exact z
  · intro _ _ _ _ _ _ z; exact z
end
/-! ### calls -/
section
variable {X : Cx} {B : Bs} {a b c e o : Expr} {es : List Expr} {ra rb rc r ro : Rd} {rt ru : RdT} {rl : RdA} {pos p0 apos : Pos} {R : RdF} {k : Nat} {f C g p : Addr} {x m : Str}
theorem sp_call {K : Frg} {F H F1 H1 : Hp} {σ : L2.St} {ρ : Ev} {vs : List V} {ds : List D} {Qd : D → Prop} {Q : VK} (I : Iv K B F H σ ρ) (kk : ∀ v F' H' d, Go B.ms F H F' H' → Tp K B.ms F' H' → Rp K B.ms F' v d → Qd d → Q v H') (g1 : Go B.ms F H F1 H1) (t1 : Tp K B.ms F1 H1) (r1 : Rps K B.ms F1 vs ds) (h : R ds Qd B.Ed) : spP K R vs H1 Q (EE K B) :=
  ⟨B.ms, F1, ds, Qd, B.Ed, t1, r1, h, fun v F2 H2 d g2 t2 r2 q2 => kk v F2 H2 d (g1.trans g2) t2 r2 q2, fun cls d F2 H2 x g2 t2 xr q => ⟨F2, x, (I.go.trans g1).trans g2, t2, xr, q⟩⟩
theorem y_call (F : FnG X.prog X.w X.K X.mg X.base (L2N.CX X.prog X.w) k f (spP X.K R)) (hr : RoomG k X.A) (hg : Gl X x) (hm : X.mg x = some (.ref f)) (hk : PySem.W.keepIn X.K (.ref f) = true) (hx : Px X B)
    (ha : PAp X B (e :: es) rl) (hdb : (x == ("__debug__" : Str)) = false := by decide) (he : starEach (e :: es) X.env = (false, eval e X.env) :: starEach es X.env := by rfl) (hpl : (backTo pos (starEach es X.env)).any (·.1) = false := by rfl) :
    PEp X B (.Call (.Name x p0) (e :: es) [] pos) (fun ρ Q => rl ρ fun ds => R ds Q B.Ed) :=
  pe_imp (gcall (F.at hr) hg hm hk hx ha hdb he hpl) fun σ H Q ⟨F, ρ, Qd, I, z, k⟩ => ⟨F, ρ, _, I, z, fun vs F1 H1 ds g1 t1 r1 z1 => sp_call I k g1 t1 r1 z1⟩
/-- an object of the classes cs with the fields ns -/
def asO (cs : List Str) (ns : List Str) (o : D) (k : Prop) : Prop := match o with
  | .obj c n _ => c ∈ cs ∧ n = ns ∧ k
  | _ => False
theorem look_none : ∀ {ns : List Str} {vs : List V} {m : Str}, (ns.all fun y => !(m == y)) = true → (ns.zip vs).lookup m = none
  | [], _, _, _ => rfl
  | _ :: _, [], _, _ => rfl
  | n :: ns, v :: vs, m, h => by
    rw [List.all_cons, Bool.and_eq_true] at h
    have h1 : (m == n) = false := by simpa using h.1
    rw [List.zip_cons_cons, List.lookup_cons, h1]
    exact look_none h.2
theorem y_meth {cs ns : List Str} {pl : Sem Bool} (ho : PEp X B o ro) (hc : ∀ c ∈ cs, Cls X.K (He.ga X.K c) ∧ Meth X.K (He.ga X.K c) m f) (F : FnG X.prog X.w X.K X.mg X.base (L2N.CX X.prog X.w) k f (spP X.K R)) (hr : RoomG k X.A) (hx : Px X B) (ha : PAp X B (e :: es) rl)
    (hn : (ns.all fun y => !(m == y)) = true := by decide +kernel)
    (hst : starEach (e :: es) X.env = (false, eval e X.env) :: starEach es X.env := by rfl) (hpl : (backTo pos (starEach es X.env)).any (·.1) = false := by rfl)
    (ht : eval (.Call (.Attribute o m apos) (e :: es) [] pos) X.env = (do
      let ov ← eval o X.env
      standAt apos.atName
      let (f, first) ← holding [ov] (getMethod ov m pl)
      callWith pos f first (backTo pos (starEach (e :: es) X.env)) (backToKw pos (keywordEach [] X.env))) := by rfl) :
    PEp X B (.Call (.Attribute o m apos) (e :: es) [] pos) (fun ρ Q => ro ρ fun d => asO cs ns d (rl ρ fun ds => R (d :: ds) Q B.Ed)) := by
  refine ⟨fun pins s σ H Q I h => ?_⟩
  obtain ⟨F0, ρ, Qd, J, z, kk⟩ := h
  refine PySem.W.methodCall_KW (pl := pl) (thn (ho.run pins s σ H (fun v H1 => ∃ F1 d, Go B.ms F0 H F1 H1 ∧ Tp X.K B.ms F1 H1 ∧ Rp X.K B.ms F1 v d ∧ asO cs ns d (rl ρ fun ds => R (d :: ds) Qd B.Ed)) I ⟨F0, ρ, _, J, z, fun v F1 H1 d g1 t1 r1 z1 => ⟨F1, d, g1, t1, r1, z1⟩⟩) fun u s1 ⟨v, H1, I1, rx, F1, d, g1, t1, r1, z1⟩ => ?_) ht
  unfold asO at z1
  split at z1
  · obtain ⟨hcs, rfl, z2⟩ := z1
    cases r1 with
    | @obj a dx _ _ vs ds h1 h2 h3 =>
      obtain rfl : u = Value.ref a := rx
      obtain ⟨c1, m1⟩ := hc _ hcs
      refine getmeth_ok I1 (t1.1 _ _ h1) c1 m1 (look_none hn) ?_
      refine PySem.W.callWith_K (first := [.ref a]) (h₀ := X.base) I.ok.mod.kin m1.kp (thn (ha.run pos pins s1 σ H1 (fun vs H2 => ∃ F2 ds', Go B.ms F1 H1 F2 H2 ∧ Tp X.K B.ms F2 H2 ∧ Rps X.K B.ms F2 vs ds' ∧ R (_ :: ds') Qd B.Ed) I1 ⟨F1, ρ, _, J.step g1 t1, z2, fun vs F2 H2 ds g2 t2 r2 z3 => ⟨F2, ds, g2, t2, r2, z3⟩⟩) fun us s2 ⟨vs', H2, I2, rv, F2, ds', g2, t2, r2, z3⟩ => ⟨I2.kIn, ?_⟩) hst hpl
      exact wpAny_call (run_fnA (us := .ref a :: us) (vs := .ref a :: vs') (F.at hr) hx I2 (.cons rfl rv) (sp_call (vs := .ref a :: vs') J kk (g1.trans g2) t2 (.cons (.obj (g2.ff _ _ h1) h2 (h3.up g2.ff)) r2) z3))
  · exact z1.elim
theorem y_meth0 {cs ns : List Str} {pl : Sem Bool} (ho : PEp X B o ro) (hc : ∀ c ∈ cs, Cls X.K (He.ga X.K c) ∧ Meth X.K (He.ga X.K c) m f) (F : FnG X.prog X.w X.K X.mg X.base (L2N.CX X.prog X.w) k f (spP X.K R)) (hr : RoomG k X.A) (hx : Px X B)
    (hn : (ns.all fun y => !(m == y)) = true := by decide +kernel)
    (ht : eval (.Call (.Attribute o m apos) [] [] pos) X.env = (do
      let ov ← eval o X.env
      standAt apos.atName
      let (f, first) ← holding [ov] (getMethod ov m pl)
      callWith pos f first (backTo pos (starEach [] X.env)) (backToKw pos (keywordEach [] X.env))) := by rfl) :
    PEp X B (.Call (.Attribute o m apos) [] [] pos) (fun ρ Q => ro ρ fun d => asO cs ns d (R [d] Q B.Ed)) := by
  refine ⟨fun pins s σ H Q I h => ?_⟩
  obtain ⟨F0, ρ, Qd, J, z, kk⟩ := h
  refine PySem.W.methodCall_KW (pl := pl) (thn (ho.run pins s σ H (fun v H1 => ∃ F1 d, Go B.ms F0 H F1 H1 ∧ Tp X.K B.ms F1 H1 ∧ Rp X.K B.ms F1 v d ∧ asO cs ns d (R [d] Qd B.Ed)) I ⟨F0, ρ, _, J, z, fun v F1 H1 d g1 t1 r1 z1 => ⟨F1, d, g1, t1, r1, z1⟩⟩) fun u s1 ⟨v, H1, I1, rx, F1, d, g1, t1, r1, z1⟩ => ?_) ht
  unfold asO at z1
  split at z1
  · obtain ⟨hcs, rfl, z2⟩ := z1
    cases r1 with
    | @obj a dx _ _ vs ds h1 h2 h3 =>
      obtain rfl : u = Value.ref a := rx
      obtain ⟨c1, m1⟩ := hc _ hcs
      refine getmeth_ok I1 (t1.1 _ _ h1) c1 m1 (look_none hn) ?_
      exact PySem.W.callWith_K0 (first := [.ref a]) I1.kIn m1.kp (wpAny_call (run_fnA (us := [.ref a]) (vs := [.ref a]) (F.at hr) hx I1 (.cons rfl .nil) (sp_call (vs := [.ref a]) J kk g1 t1 (.cons (.obj h1 h2 h3) .nil) z2)))
  · exact z1.elim
end
end Y
namespace Y
open PySem PySem.Spec PyProof.Rows L2 Z
section
variable {X : Cx} {B : Bs} {K : Frg} {ms : List Addr}
theorem line_ge : 100000 ≤ sizeLine := by decide
/-! ### + - * // % ** -/
def dAdd (x y : D) (Q : D → Prop) : Prop := match x, y with
  | .int i, .int j => Q (.int (i + j))
  | .str s, .str t => s.length + t.length ≤ 100000 ∧ Q (.str (s ++ t))
  | .lst xs, .lst ys => xs.length + ys.length ≤ 100000 ∧ Q (.lst (xs ++ ys))
  | .tup xs, .tup ys => xs ≠ [] ∧ ys ≠ [] ∧ xs.length + ys.length ≤ 100000 ∧ Q (.tup (xs ++ ys))
  | _, _ => False
theorem op_addY : OpR X (binaryOp .Add) (fun x y H Q => rI0 (fun i j => .int (i + j)) x y H Q ∨ (∃ i j, x = .str i ∧ y = .str j ∧ i.length + j.length ≤ sizeLine ∧ Q (.str (i ++ j)) H) ∨ rCatZ x y H Q ∨ rCatT X.K x y H Q) := op_add.or (op_add_str.or (op_catZ.or op_catT))
theorem addL : OpL K ms (fun x y H Q => rI0 (fun i j => .int (i + j)) x y H Q ∨ (∃ i j, x = .str i ∧ y = .str j ∧ i.length + j.length ≤ sizeLine ∧ Q (.str (i ++ j)) H) ∨ rCatZ x y H Q ∨ rCatT K x y H Q) dAdd := by
  intro F H x y dx dy Qd Q hs rx ry h k
  unfold dAdd at h
  split at h
  · cases rx; cases ry
    exact .inl ⟨_, _, rfl, rfl, k _ F H _ (Go.refl hs) (.int _) h⟩
  · cases rx; cases ry
    exact .inr (.inl ⟨_, _, rfl, rfl, Nat.le_trans h.1 line_ge, k _ F H _ (Go.refl hs) (.str _) h.2⟩)
  · cases rx with
    | lst h1 h2 =>
      cases ry with
      | lst h3 h4 =>
        refine .inr (.inr (.inl ⟨_, _, _, _, rfl, rfl, hs _ _ h1, hs _ _ h3, by rw [h2.len, h4.len]; exact Nat.le_trans h.1 line_ge, fun p H2 hp e2 => ?_⟩))
        obtain ⟨F2, g2, q2, _⟩ := newE hs hp e2
        exact k _ F2 H2 _ g2 (.lst q2 ((h2.app h4).up g2.ff)) h.2
  · cases rx with
    | tup h1 h2 =>
      cases ry with
      | tup h3 h4 =>
        obtain ⟨n1, n2, n3, h⟩ := h
        have m1 := h2.len
        have m2 := h4.len
        refine .inr (.inr (.inr ⟨_, _, _, _, rfl, rfl, sqT hs h1, sqT hs h3, fun e => n1 ?_, by rw [m1, m2]; exact Nat.le_trans n3 line_ge, fun e => (n2 ?_).elim, fun _ p hp => ?_⟩))
        · rw [e] at m1; exact List.length_eq_zero_iff.mp m1.symm
        · rw [e] at m2; exact List.length_eq_zero_iff.mp m2.symm
        · obtain ⟨F2, g2, q2, _⟩ := newE hs hp rfl
          exact k _ F2 _ _ g2 (.tup (SqT.of q2) ((h2.app h4).up g2.ff)) h
  · exact h.elim
def dSub (x y : D) (Q : D → Prop) : Prop := match x, y with
  | .int i, .int j => Q (.int (i - j))
  | _, _ => False
theorem subL : OpL K ms (rI0 fun i j => .int (i - j)) dSub := by
  intro F H x y dx dy Qd Q hs rx ry h k
  unfold dSub at h
  split at h
  · cases rx; cases ry
    exact ⟨_, _, rfl, rfl, k _ F H _ (Go.refl hs) (.int _) h⟩
  · exact h.elim
def dMul (x y : D) (Q : D → Prop) : Prop := match x, y with
  | .int i, .int j => (Sz 5000 i ∧ Sz 5000 j) ∧ Q (.int (i * j))
  | .lst xs, .int n => (-(2 ^ 62) ≤ n ∧ n < 2 ^ 62 ∧ xs.length * n.toNat ≤ 100000) ∧ Q (.lst (List.replicate n.toNat xs).flatten)
  | _, _ => False
theorem op_repZ : OpR X (binaryOp .Mult) rRepZ := op_imp op_rep fun _ _ _ _ ⟨l, k, xs, e1, e2, h, h1, h2, hz, n⟩ => ⟨l, k, xs, e1, e2, h, h1, h2, hz, n.run⟩
theorem mulL : OpL K ms (fun x y H Q => rI CMulW (fun i j => .int (i * j)) x y H Q ∨ rRepZ x y H Q) dMul := by
  intro F H x y dx dy Qd Q hs rx ry h k
  unfold dMul at h
  split at h
  · cases rx; cases ry
    exact .inl ⟨_, _, rfl, rfl, mulOk h.1.1 h.1.2, k _ F H _ (Go.refl hs) (.int _) h.2⟩
  · cases rx with
    | lst h1 h2 =>
      cases ry
      obtain ⟨⟨a1, a2, a3⟩, h⟩ := h
      refine .inr ⟨_, _, _, rfl, rfl, hs _ _ h1, by omega, by omega, by rw [h2.len]; exact Nat.le_trans a3 line_ge, fun p H2 hp e2 => ?_⟩
      obtain ⟨F2, g2, q2, _⟩ := newE hs hp e2
      exact k _ F2 H2 _ g2 (.lst q2 ((h2.flat _).up g2.ff)) h
  · exact h.elim
/-- // and % by what is above 0 -/
def dDiv (x y : D) (Q : D → Prop) : Prop := match x, y with
  | .int i, .int j => (0 < j ∧ Sz 5000 j) ∧ Q (.int (i / j))
  | _, _ => False
theorem divL : OpL K ms (rI CDivW fun i j => .int (i / j)) dDiv := by
  intro F H x y dx dy Qd Q hs rx ry h k
  unfold dDiv at h
  split at h
  · cases rx; cases ry
    exact ⟨_, _, rfl, rfl, divOk h.1.1 h.1.2, k _ F H _ (Go.refl hs) (.int _) h.2⟩
  · exact h.elim
def dMod (x y : D) (Q : D → Prop) : Prop := match x, y with
  | .int i, .int j => 0 < j ∧ Q (.int (i % j))
  | _, _ => False
theorem modL : OpL K ms (rI (fun _ j => 0 < j) fun i j => .int (i % j)) dMod := by
  intro F H x y dx dy Qd Q hs rx ry h k
  unfold dMod at h
  split at h
  · cases rx; cases ry
    exact ⟨_, _, rfl, rfl, h.1, k _ F H _ (Go.refl hs) (.int _) h.2⟩
  · exact h.elim
/-- // by what is not 0 -/
def dDivZ (x y : D) (Q : D → Prop) : Prop := match x, y with
  | .int i, .int j => (j ≠ 0 ∧ Sz 8000 j) ∧ Q (.int (i.fdiv j))
  | _, _ => False
theorem divZL : OpL K ms (rI CDivZ fun i j => .int (i.fdiv j)) dDivZ := by
  intro F H x y dx dy Qd Q hs rx ry h k
  unfold dDivZ at h
  split at h
  · cases rx; cases ry
    exact ⟨_, _, rfl, rfl, ⟨h.1.1, szLog h.1.2⟩, k _ F H _ (Go.refl hs) (.int _) h.2⟩
  · exact h.elim
def dPow (x y : D) (Q : D → Prop) : Prop := match x, y with
  | .int i, .int j => (0 ≤ j ∧ j ≤ 1000 ∧ i.natAbs < 18446744073709551616) ∧ Q (.int (i ^ j.toNat))
  | _, _ => False
theorem powL : OpL K ms (rI CPow fun i j => .int (i ^ j.toNat)) dPow := by
  intro F H x y dx dy Qd Q hs rx ry h k
  unfold dPow at h
  split at h
  · cases rx; cases ry
    exact ⟨_, _, rfl, rfl, ⟨h.1.1, by omega, by have := h.1.2.2; omega⟩, k _ F H _ (Go.refl hs) (.int _) h.2⟩
  · exact h.elim
def dNeg (x : D) (Q : D → Prop) : Prop := match x with
  | .int i => Q (.int (-i))
  | _ => False
theorem negL : UnL K ms (rU fun i => .int (-i)) dNeg := by
  intro F H x dx Qd Q hs rx h k
  unfold dNeg at h
  split at h
  · cases rx
    exact ⟨_, rfl, k _ F H _ (Go.refl hs) (.int _) h⟩
  · exact h.elim
/-! ### < <= > >= == != is in -/
def dCmp (f : Int → Int → Bool) (x y : D) (Q : D → Prop) : Prop := match x, y with
  | .int i, .int j => Q (.bl (f i j))
  | _, _ => False
theorem cmpL {f : Int → Int → Bool} : OpL K ms (rI0 fun i j => .bl (f i j)) (dCmp f) := by
  intro F H x y dx dy Qd Q hs rx ry h k
  unfold dCmp at h
  split at h
  · cases rx; cases ry
    exact ⟨_, _, rfl, rfl, k _ F H _ (Go.refl hs) (.bl _) h⟩
  · exact h.elim
def dEq (x y : D) (Q : D → Prop) : Prop := match x, y with
  | .int i, .int j => Q (.bl (decide (i = j)))
  | .str i, .str j => Q (.bl (decide (i = j)))
  | .bl i, .bl j => Q (.bl (decide (i = j)))
  | _, _ => (okD 8 x = true ∧ okD 8 y = true) ∧ Q (.bl (eqD x y))
def dNe (x y : D) (Q : D → Prop) : Prop := match x, y with
  | .int i, .int j => Q (.bl (!decide (i = j)))
  | .str i, .str j => Q (.bl (!decide (i = j)))
  | .bl i, .bl j => Q (.bl (!decide (i = j)))
  | _, _ => (okD 8 x = true ∧ okD 8 y = true) ∧ Q (.bl (!eqD x y))
theorem shaped_of {n : Nat} {e : PyData} (h1 : e.canLay0 = true) (h2 : e.depth ≤ n) (hn : n ≤ 64) : SeqAt.shaped e = true := by
  unfold SeqAt.shaped
  rw [h1, Bool.true_and]
  exact decide_eq_true (by omega)
theorem eqL : OpL K ms (fun x y H Q => rEq x y H Q ∨ rEqD K x y H Q) dEq := by
  intro F H x y dx dy Qd Q hs rx ry h k
  unfold dEq at h
  split at h
  · cases rx; cases ry
    refine .inl ⟨rfl, k _ F H _ (Go.refl hs) (.bl _) ?_⟩
    simpa using h
  · cases rx; cases ry
    refine .inl ⟨rfl, k _ F H _ (Go.refl hs) (.bl _) ?_⟩
    simpa using h
  · cases rx; cases ry
    refine .inl ⟨rfl, k _ F H _ (Go.refl hs) (.bl _) ?_⟩
    simpa using h
  · obtain ⟨⟨h1, h2⟩, h⟩ := h
    obtain ⟨e1, a1, a2, a3⟩ := okD_pd 8 _ h1
    obtain ⟨e2, b1, b2, b3⟩ := okD_pd 8 _ h2
    refine .inr ⟨e1, e2, dp_mono hs _ _ (dp_of _ _ _ a1 rx), dp_mono hs _ _ (dp_of _ _ _ b1 ry), shaped_of a2 a3 (by decide), shaped_of b2 b3 (by decide), k _ F H _ (Go.refl hs) (.bl _) ?_⟩
    rw [← eqD_pd _ _ _ _ a1 b1]
    exact h
theorem neL : OpL K ms (fun x y H Q => rNe x y H Q ∨ rNeD K x y H Q) dNe := by
  intro F H x y dx dy Qd Q hs rx ry h k
  unfold dNe at h
  split at h
  · cases rx; cases ry
    refine .inl ⟨rfl, k _ F H _ (Go.refl hs) (.bl _) ?_⟩
    simpa using h
  · cases rx; cases ry
    refine .inl ⟨rfl, k _ F H _ (Go.refl hs) (.bl _) ?_⟩
    simpa using h
  · cases rx; cases ry
    refine .inl ⟨rfl, k _ F H _ (Go.refl hs) (.bl _) ?_⟩
    simpa using h
  · obtain ⟨⟨h1, h2⟩, h⟩ := h
    obtain ⟨e1, a1, a2, a3⟩ := okD_pd 8 _ h1
    obtain ⟨e2, b1, b2, b3⟩ := okD_pd 8 _ h2
    refine .inr ⟨e1, e2, dp_mono hs _ _ (dp_of _ _ _ a1 rx), dp_mono hs _ _ (dp_of _ _ _ b1 ry), shaped_of a2 a3 (by decide), shaped_of b2 b3 (by decide), k _ F H _ (Go.refl hs) (.bl _) ?_⟩
    rw [← eqD_pd _ _ _ _ a1 b1]
    exact h
def isNon : D → Bool
  | .non => true
  | _ => false
theorem non_of {F : Hp} {x : V} {d : D} (r : Rp K ms F x d) : decide (x = V.non) = isNon d := by
  cases r <;> simp [isNon]
def dIsN (x y : D) (Q : D → Prop) : Prop := match y with
  | .non => Q (.bl (isNon x))
  | _ => False
def dNotN (x y : D) (Q : D → Prop) : Prop := match y with
  | .non => Q (.bl (!isNon x))
  | _ => False
theorem isNL : OpL K ms (fun x y H Q => y = .non ∧ Q (.bl (decide (x = .non))) H) dIsN := by
  intro F H x y dx dy Qd Q hs rx ry h k
  unfold dIsN at h
  split at h
  · cases ry
    exact ⟨rfl, by rw [non_of rx]; exact k _ F H _ (Go.refl hs) (.bl _) h⟩
  · exact h.elim
theorem notNL : OpL K ms (fun x y H Q => y = .non ∧ Q (.bl (!decide (x = .non))) H) dNotN := by
  intro F H x y dx dy Qd Q hs rx ry h k
  unfold dNotN at h
  split at h
  · cases ry
    exact ⟨rfl, by rw [non_of rx]; exact k _ F H _ (Go.refl hs) (.bl _) h⟩
  · exact h.elim
/-- x in a list of data, in a tuple of flat data, in a text -/
def flatD : D → Bool
  | .non | .bl _ | .int _ | .str _ => true
  | _ => false
def anyD (x : D) (ds : List D) : Bool := ds.any fun z => eqD z x
def dIn (neg : Bool) (x y : D) (Q : D → Prop) : Prop := match x, y with
  | .str s, .str t => Q (.bl (neg != !(Builtin.Str.occurrences t s 0 t.length 1).isEmpty))
  | x, .lst ds => (okD 8 x = true ∧ okD 8 (.lst ds) = true) ∧ Q (.bl (neg != anyD x ds))
  | x, .tup ds => (flatD x = true ∧ ds.all flatD = true) ∧ Q (.bl (neg != anyD x ds))
  | _, _ => False
theorem op_eqY (hu : X.A.units + 64 < cLine) : OpR X (compareOp .Eq) (fun x y H Q => rEq x y H Q ∨ rEqD X.K x y H Q) := op_eq.or (op_eqD hu)
theorem op_neY (hu : X.A.units + 64 < cLine) : OpR X (compareOp .NotEq) (fun x y H Q => rNe x y H Q ∨ rNeD X.K x y H Q) := op_ne.or (op_neD hu)
theorem op_mulY : OpR X (binaryOp .Mult) (fun x y H Q => rI CMulW (fun i j => .int (i * j)) x y H Q ∨ rRepZ x y H Q) := op_mulW.or op_repZ
end
end Y
namespace Y
open PySem PySem.Spec PyProof.Rows L2 Z
section
variable {X : Cx} {B : Bs} {K : Frg} {ms : List Addr} {a b c e o : Expr} {es : List Expr} {ra rb rc r ro : Rd} {rt ru : RdT} {rl : RdA} {pos p0 apos : Pos} {R : RdF} {k : Nat} {f C g p : Addr} {x m : Str} {s1 s2 : RdS}
/-! ### xs[i], xs[i:j] -/
def dIx (x y : D) (Q : D → Prop) : Prop := match x, y with
  | .lst ds, .int i => (match atI ds i with | some d => Q d | none => False)
  | .tup ds, .int i => (match atI ds i with | some d => Q d | none => False)
  | .str s, .int i => s.length ≤ 100000 ∧ (match atI s.cps.toList i with | some c => Q (.str ⟨#[c]⟩) | none => False)
  | _, _ => False
theorem atI_rps {F : Hp} {vs : List V} {ds : List D} {i : Int} {d : D} (r : Rps K ms F vs ds) (h : atI ds i = some d) : ∃ v, atI vs i = some v ∧ Rp K ms F v d := by
  unfold atI at h ⊢
  rw [r.len]
  cases e : ixN ds.length i with
  | none => rw [e] at h; cases h
  | some j =>
    rw [e] at h
    obtain ⟨v, h1, h2⟩ := r.get (i := j) (d := d) h
    exact ⟨v, h1, h2⟩
theorem ixL' : OpL K ms (rIx K) dIx := by
  intro F H x y dx dy Qd Q hs rx ry h k
  unfold dIx at h
  split at h
  · split at h
    · rename_i d e
      cases rx with
      | lst h1 h2 =>
        cases ry
        obtain ⟨v, e1, e2⟩ := atI_rps h2 e
        exact .inl ⟨_, _, _, v, rfl, rfl, SqL.of (hs _ _ h1), e1, k v F H d (Go.refl hs) e2 h⟩
    · exact h.elim
  · split at h
    · rename_i d e
      cases rx with
      | tup h1 h2 =>
        cases ry
        obtain ⟨v, e1, e2⟩ := atI_rps h2 e
        exact .inr (.inl ⟨_, _, _, v, rfl, rfl, sqT hs h1, e1, k v F H d (Go.refl hs) e2 h⟩)
    · exact h.elim
  · obtain ⟨hz, h⟩ := h
    split at h
    · rename_i d e
      cases rx
      cases ry
      exact .inr (.inr ⟨_, _, _, rfl, rfl, Nat.le_trans hz line_ge, e, k _ F H _ (Go.refl hs) (.str _) h⟩)
    · exact h.elim
  · exact h.elim
theorem y_ix (ha : PEp X B a ra) (hb : PEp X B b rb) (hs : PlainIx b) : PEp X B (.Subscript a b pos) (fun ρ Q => ra ρ fun x => rb ρ fun y => dIx x y Q) := pe_imp (pe_ix ix_seq ha hb hs) (tOp_of ixL')
def cutD {α : Type} (xs : List α) (lo hi : Option Int) : List α := (xs.drop (HT.sIx xs.length 0 lo)).take (HT.sIx xs.length xs.length hi - HT.sIx xs.length 0 lo)
@[irreducible] def dSl (x : D) (lo hi : Option Int) (Q : D → Prop) : Prop := match x with
  | .lst ds => Q (.lst (cutD ds lo hi))
  | .str s => s.length ≤ 100000 ∧ Q (.str (cutS s lo hi))
  | .tup ds => ¬ (HT.sIx ds.length 0 lo = 0 ∧ HT.sIx ds.length ds.length hi = ds.length) ∧ Q (.tup (cutD ds lo hi))
  | _ => False
def asI (d : D) (Q : Int → Prop) : Prop := match d with
  | .int i => Q i
  | _ => False
/-! ### fields, properties -/
def ixOf : List Str → Str → Option Nat
  | [], _ => none
  | n :: ns, f => if (f == n) = true then some 0 else (ixOf ns f).map (· + 1)
theorem look_ix : ∀ {ns : List Str} {vs : List V} {f : Str} {j : Nat}, ns.length = vs.length → ixOf ns f = some j → (ns.zip vs).lookup f = vs[j]?
  | [], _, _, _, _, h => by simp [ixOf] at h
  | _ :: _, [], _, _, h, _ => by simp at h
  | n :: ns, v :: vs, f, j, hl, h => by
    unfold ixOf at h
    rw [List.zip_cons_cons, List.lookup_cons]
    by_cases e : (f == n) = true
    · rw [if_pos e] at h
      cases h
      rw [e]
      rfl
    · rw [if_neg e] at h
      obtain ⟨i, h1, rfl⟩ := Option.map_eq_some_iff.mp h
      have e2 : (f == n) = false := by simpa using e
      rw [e2, List.getElem?_cons_succ]
      exact look_ix (by simpa using hl) h1
def fldD (cs ns : List Str) (j : Nat) (o : D) (Q : D → Prop) : Prop := match o with
  | .obj c n ds => (c ∈ cs ∧ n = ns) ∧ (match ds[j]? with | some d => Q d | none => False)
  | _ => False
theorem y_fld {cs ns : List Str} {fl : Str} {j : Nat} (he : PEp X B e r) (hc : ∀ c ∈ cs, Cls X.K (He.ga X.K c) ∧ NoAttr X.K (He.ga X.K c) fl) (hj : ixOf ns fl = some j := by decide +kernel) (hb : attributeBase e fl X.env (eval e X.env) = eval e X.env := by rfl) :
    PEp X B (.Attribute e fl pos) (fun ρ Q => r ρ fun o => fldD cs ns j o Q) :=
  pe_imp (pe_fld he hb) fun σ H Q ⟨F, ρ, Qd, I, z, k⟩ => ⟨F, ρ, _, I, z, fun v F1 H1 d g1 t1 r1 z1 => by
    unfold fldD at z1
    split at z1
    · obtain ⟨⟨h1, rfl⟩, z1⟩ := z1
      split at z1
      · rename_i dd e
        cases r1 with
        | @obj a dx _ _ vs _ h2 h3 h4 =>
          obtain ⟨v, e1, e2⟩ := h4.get e
          exact ⟨_, _, dx, _, v, rfl, t1.1 _ _ h2, (hc _ h1).1, (hc _ h1).2, by rw [look_ix h3 hj, e1], k v F1 H1 dd g1 t1 e2 z1⟩
      · exact z1.elim
    · exact z1.elim⟩
theorem cls_some {C : Addr} (c1 : Cls K C) : (PySem.W.clsIn K C).isSome = true := by
  obtain ⟨cd, hc, _⟩ := PySem.W.any_some c1.hd
  rw [hc]
  rfl
theorem y_prop {cs ns : List Str} (he : PEp X B e r) (hc : ∀ c ∈ cs, Cls X.K (He.ga X.K c) ∧ ∃ p, PropOf X.K (He.ga X.K c) m p g) (F : FnG X.prog X.w X.K X.mg X.base (L2N.CX X.prog X.w) k g (spP X.K R)) (hr : RoomG (k + 1) X.A) (hx : Passes (L2N.CX X.prog X.w) X.nox (EE X.K B.nox))
    (hab : attributeBase e m X.env (eval e X.env) = eval e X.env := by rfl) : PEp X B (.Attribute e m pos) (fun ρ Q => r ρ fun o => asO cs ns o (R [o] Q fun _ => False)) := by
  refine ⟨fun pins s σ H Q I h => ?_⟩
  obtain ⟨F0, ρ, Qd, J, z, kk⟩ := h
  refine attr_of hab (thn (he.run pins s σ H (fun v H1 => ∃ F1 d, Go B.ms F0 H F1 H1 ∧ Tp X.K B.ms F1 H1 ∧ Rp X.K B.ms F1 v d ∧ asO cs ns d (R [d] Qd fun _ => False)) I ⟨F0, ρ, _, J, z, fun v F1 H1 d g1 t1 r1 z1 => ⟨F1, d, g1, t1, r1, z1⟩⟩) fun u s1 ⟨v, H1, I1, rx, F1, d, g1, t1, r1, z1⟩ => ?_)
  unfold asO at z1
  split at z1
  · obtain ⟨hcs, rfl, z2⟩ := z1
    cases r1 with
    | @obj a dx _ _ vs ds h1 h2 h3 =>
      obtain rfl : u = Value.ref a := rx
      obtain ⟨c1, p, hp⟩ := hc _ hcs
      have ea := t1.1 _ _ h1
      obtain ⟨mA, O, _, _, _, _⟩ := ins_get I1.hok ea
      obtain ⟨od, J1, _⟩ := O.look
      obtain ⟨rest, hrec⟩ := hp.rec_
      have I2 := I1.tok (s1.toks + 1)
      have hcl := cls_some c1
      refine PySem.W.get_bind I1.kIn J1 (PySem.W.plainGet_of (c1.get m)).1 (PySem.W.findObj_data hcl hp.at_ hp.get hp.tak) (PySem.W.plainGet_of (c1.get m)).2 (wpAny_call (PySem.W.prop_get (s := { s1 with toks := s1.toks + 1 }) I1.kIn hrec ?_))
      have q : spP X.K R [.ref a] H1 Q (EE X.K B.nox) := sp_call (B := B.nox) (vs := [.ref a]) J.nox kk g1 t1 (.cons (.obj h1 h2 h3) .nil) z2
      refine codeAny_mono (F X.A.in1 X.stack { s1 with toks := s1.toks + 1 } H1 [.ref a] [.ref a] Q _ hr.in1 I2.env0.in1 (.cons rfl .nil) q) fun r s' hq => ?_
      cases r with
      | error er => exact False.elim (hx pins σ H1 { s1 with toks := s1.toks + 1 } er s' (I2.wish _) hq)
      | ok fl =>
        cases fl with
        | ret u =>
          obtain ⟨v, H', I3, rv, q3⟩ := I2.after hq
          show wpAny _ _ (handedOut u) _ _ _
          rw [PySem.W.handedOut_of (handed_of rv)]
          exact wpAny_pure ⟨v, H', I3, rv, q3⟩
        | next => exact False.elim hq
        | brk => exact False.elim hq
        | cont => exact False.elim hq
  · exact z1.elim
/-! ### builtins -/
def CalL (K : Frg) (ms : List Addr) (r : List V → Hp → VK → Prop) (g : List D → (D → Prop) → Prop) : Prop := ∀ (F H : Hp) (xs : List V) (ds : List D) (Qd : D → Prop) (Q : VK), Same F H → Rps K ms F xs ds → g ds Qd → (∀ v F' H' d, Go [] F H F' H' → Rp K ms F' v d → Qd d → Q v H') → r xs H Q
theorem tCB_of {q : List V → Hp → VK → Prop} {g : List D → (D → Prop) → Prop} (hl : CalL X.K B.ms q g) (σ : L2.St) (H : Hp) (Q : VK) (h : tE X.K B (fun ρ Q => rl ρ fun ds => g ds Q) σ H Q) : tCB q (tA X.K B rl) σ H Q := by
  obtain ⟨F, ρ, Qd, I, z, k⟩ := h
  exact ⟨F, ρ, _, I, z, fun vs F1 H1 ds g1 t1 r1 z1 => hl F1 H1 vs ds Qd Q t1.1 r1 z1 fun w F2 H2 e g2 r2 z2 => k w F2 H2 e (g1.trans g2.nil) (t1.go0 g2) r2 z2⟩
theorem y_callB {id : String} {q : List V → Hp → VK → Prop} {g : List D → (D → Prop) → Prop} (hc : CallR X (.builtin id) q) (hl : CalL X.K B.ms q g) (hg : Gl X x) (hm : X.mg x = none) (hv : bootBuiltins x = some (.builtin id)) (ha : PAp X B (e :: es) rl) (hn : x ≠ "__name__" := by decide) (hdb : (x == ("__debug__" : Str)) = false := by decide)
    (he : starEach (e :: es) X.env = (false, eval e X.env) :: starEach es X.env := by rfl) (hpl : (backTo pos (starEach es X.env)).any (·.1) = false := by rfl) : PEp X B (.Call (.Name x p0) (e :: es) [] pos) (fun ρ Q => rl ρ fun ds => g ds Q) := pe_imp (pe_callB hc hg hm hv ha hn hdb he hpl) (tCB_of hl)
theorem rps1 {F : Hp} {xs : List V} {d : D} (r : Rps K ms F xs [d]) : ∃ x, xs = [x] ∧ Rp K ms F x d := by
  cases r with
  | cons r1 r2 => cases r2; exact ⟨_, rfl, r1⟩
theorem rps2 {F : Hp} {xs : List V} {d e : D} (r : Rps K ms F xs [d, e]) : ∃ x y, xs = [x, y] ∧ Rp K ms F x d ∧ Rp K ms F y e := by
  cases r with
  | cons r1 r2 =>
    obtain ⟨y, rfl, r3⟩ := rps1 r2
    exact ⟨_, _, rfl, r1, r3⟩
def dLen (ds : List D) (Q : D → Prop) : Prop := match ds with
  | [.lst xs] => Q (.int (xs.length : Int))
  | [.tup xs] => Q (.int (xs.length : Int))
  | [.str s] => s.length ≤ 100000 ∧ Q (.int (s.length : Int))
  | _ => False
theorem call_lenY : CallR X (.builtin "len") (fun xs H Q => (∃ p ys, xs = [.ref p] ∧ (SqL X.K H p ys ∨ SqT X.K H p ys) ∧ Q (.int ys.length) H) ∨ (∃ z, xs = [.str z] ∧ z.length ≤ sizeLine ∧ Q (.int z.length) H)) := call_len_seq.or call_len_str
theorem lenL : CalL K ms (fun xs H Q => (∃ p ys, xs = [.ref p] ∧ (SqL K H p ys ∨ SqT K H p ys) ∧ Q (.int ys.length) H) ∨ (∃ z, xs = [.str z] ∧ z.length ≤ sizeLine ∧ Q (.int z.length) H)) dLen := by
  intro F H xs ds Qd Q hs r h k
  unfold dLen at h
  split at h
  · obtain ⟨x, rfl, r1⟩ := rps1 r
    cases r1 with
    | lst h1 h2 => exact .inl ⟨_, _, rfl, .inl (SqL.of (hs _ _ h1)), by rw [h2.len]; exact k _ F H _ (Go.refl hs) (.int _) h⟩
  · obtain ⟨x, rfl, r1⟩ := rps1 r
    cases r1 with
    | tup h1 h2 => exact .inl ⟨_, _, rfl, .inr (sqT hs h1), by rw [h2.len]; exact k _ F H _ (Go.refl hs) (.int _) h⟩
  · obtain ⟨x, rfl, r1⟩ := rps1 r
    cases r1
    exact .inr ⟨_, rfl, Nat.le_trans h.1 line_ge, k _ F H _ (Go.refl hs) (.int _) h.2⟩
  · exact h.elim
def dAbs (ds : List D) (Q : D → Prop) : Prop := match ds with
  | [.int i] => Q (.int (if i < 0 then -i else i))
  | _ => False
theorem absL : CalL K ms (fun xs H Q => ∃ i, xs = [.int i] ∧ Q (.int (if i < 0 then -i else i)) H) dAbs := by
  intro F H xs ds Qd Q hs r h k
  unfold dAbs at h
  split at h
  · obtain ⟨x, rfl, r1⟩ := rps1 r
    cases r1
    exact ⟨_, rfl, k _ F H _ (Go.refl hs) (.int _) h⟩
  · exact h.elim
def blsOf : List D → Option (List Bool)
  | [] => some []
  | .bl b :: ds => (blsOf ds).map (b :: ·)
  | _ => none
theorem blsOf_map : ∀ {ds : List D} {bs : List Bool}, blsOf ds = some bs → ds = bs.map D.bl
  | [], _, h => by cases h; rfl
  | .bl b :: ds, _, h => by
    unfold blsOf at h
    obtain ⟨r, h1, rfl⟩ := Option.map_eq_some_iff.mp h
    rw [blsOf_map h1]
    rfl
  | .non :: _, _, h => by simp [blsOf] at h
  | .int _ :: _, _, h => by simp [blsOf] at h
  | .str _ :: _, _, h => by simp [blsOf] at h
  | .lst _ :: _, _, h => by simp [blsOf] at h
  | .tup _ :: _, _, h => by simp [blsOf] at h
  | .obj _ _ _ :: _, _, h => by simp [blsOf] at h
  | .ty _ :: _, _, h => by simp [blsOf] at h
  | .glob _ :: _, _, h => by simp [blsOf] at h
  | .tape :: _, _, h => by simp [blsOf] at h
  | .fn _ :: _, _, h => by simp [blsOf] at h
  | .dic _ _ :: _, _, h => by simp [blsOf] at h
  | .dpl _ _ :: _, _, h => by simp [blsOf] at h
def dAll (f : List Bool → Bool) (ds : List D) (Q : D → Prop) : Prop := match ds with
  | [.lst xs] => (match blsOf xs with | some bs => Q (.bl (f bs)) | none => False)
  | _ => False
theorem allL {f : List Bool → Bool} : CalL K ms (fun vs H Q => ∃ (a : Addr) (bs : List Bool), vs = [V.ref a] ∧ SqL K H a (bs.map V.bl) ∧ Q (.bl (f bs)) H) (dAll f) := by
  intro F H xs ds Qd Q hs r h k
  unfold dAll at h
  split at h
  · obtain ⟨x, rfl, r1⟩ := rps1 r
    split at h
    · rename_i ds bs e
      obtain rfl := blsOf_map e
      cases r1 with
      | lst h1 h2 =>
        rw [h2.bls] at h1
        exact ⟨_, bs, rfl, SqL.of (hs _ _ h1), k _ F H _ (Go.refl hs) (.bl _) h⟩
    · exact h.elim
  · exact h.elim
def dList (ds : List D) (Q : D → Prop) : Prop := match ds with
  | [.lst xs] => Q (.lst xs)
  | [.tup xs] => Q (.lst xs)
  | _ => False
def dTuple (ds : List D) (Q : D → Prop) : Prop := match ds with
  | [.lst xs] => Q (.tup xs)
  | [.tup xs] => Q (.tup xs)
  | _ => False
/-! ### isinstance -/
def OwnC (K : Frg) (c : Str) : Prop := Cls K (He.ga K c) ∧ Own K (He.ga K c)
def tyD (K : Frg) : D → Option Value
  | .non => some (.type "NoneType")
  | .bl _ => some (.type "bool")
  | .int _ => some (.type "int")
  | .str _ => some (.type "str")
  | .lst _ => some (.type "list")
  | .tup _ => some (.type "tuple")
  | .dic _ _ => some (.type "dict")
  | .obj c _ _ => some (.ref (He.ga K c))
  | _ => none
theorem tyX_of {F H : Hp} {v : V} {d : D} {t : Value} (r : Rp K ms F v d) (hs : Same F H) (h : tyD K d = some t) (ho : ∀ c ns ds, d = .obj c ns ds → OwnC K c) : TyX K H v t := by
  cases r with
  | non => cases h; exact .base .non
  | bl b => cases h; exact .base (.bl b)
  | int i => cases h; exact tyI i
  | str s => cases h; exact .base (.str s)
  | ty n => cases h
  | glob x => cases h
  | fn a => cases h
  | tape m => cases h
  | lst h1 h2 => cases h; exact tyL (SqL.of (K := K) (hs _ _ h1))
  | tup h1 h2 => cases h; exact tyT (sqT hs h1)
  | obj h1 h2 h3 => cases h; exact tyO (ho _ _ _ rfl).1 (ho _ _ _ rfl).2 (hs _ _ h1)
  | dic h1 h2 h3 => cases h; exact .fDict (hs _ _ h1)
  | dpl _ _ _ _ _ _ _ => cases h
def dIsB (cs : List Str) (T : String) (d : D) (Q : D → Prop) : Prop := match d with
  | .non => Q (.bl false)
  | .bl _ => Q (.bl (T == "bool" || T == "int"))
  | .int _ => Q (.bl (T == "int"))
  | .str _ => Q (.bl (T == "str"))
  | .lst _ => Q (.bl (T == "list"))
  | .tup _ => Q (.bl (T == "tuple"))
  | .dic _ _ => Q (.bl (T == "dict"))
  | .obj c _ _ => c ∈ cs ∧ Q (.bl false)
  | _ => False
def dIs2 (g : D → (D → Prop) → Prop) (c : D) (ds : List D) (Q : D → Prop) : Prop := match ds with
  | [x, y] => y = c ∧ g x Q
  | _ => False
theorem isBL {cs : List Str} {T : String} (hT : T ∈ ["bool", "int", "str", "list", "tuple", "dict"]) (hc : ∀ c ∈ cs, OwnC K c) : CalL K ms (rIsi K) (dIs2 (dIsB cs T) (.ty T)) := by
  intro F H xs ds Qd Q hs r h k
  unfold dIs2 at h
  split at h
  · obtain ⟨x, y, rfl, r1, r2⟩ := rps2 r
    obtain ⟨rfl, h⟩ := h
    cases r2
    have fin : ∀ (t : Value) (b : Bool), TyX K H x t → PySem.W.kitOne K t (.type T) = some b → Qd (.bl b) → rIsi K [x, V.ty T] H Q := fun t b ty e q => ⟨_, _, t, _, b, rfl, .ty T, ty, e, k _ F H _ (Go.refl hs) (.bl _) q⟩
    have kb : ∀ (a : String) (b : Bool), (∀ T ∈ ["bool", "int", "str", "list", "tuple", "dict"], kitB a T = some (if a = "bool" then (T == "bool" || T == "int") else (T == a))) → b = (if a = "bool" then (T == "bool" || T == "int") else (T == a)) → PySem.W.kitOne K (.type a) (.type T) = some b := fun a b h e => by
      rw [e]
      exact kit_ty (h T hT)
    unfold dIsB at h
    split at h
    · refine fin _ false (tyX_of r1 hs rfl (fun _ _ _ z => nomatch z)) (kb "NoneType" _ (by decide +kernel) ?_) h
      simp at hT; rcases hT with rfl | rfl | rfl | rfl | rfl | rfl <;> decide
    · exact fin _ _ (tyX_of r1 hs rfl (fun _ _ _ z => nomatch z)) (kb "bool" _ (by decide +kernel) rfl) h
    · exact fin _ _ (tyX_of r1 hs rfl (fun _ _ _ z => nomatch z)) (kb "int" _ (by decide +kernel) rfl) h
    · exact fin _ _ (tyX_of r1 hs rfl (fun _ _ _ z => nomatch z)) (kb "str" _ (by decide +kernel) rfl) h
    · exact fin _ _ (tyX_of r1 hs rfl (fun _ _ _ z => nomatch z)) (kb "list" _ (by decide +kernel) rfl) h
    · exact fin _ _ (tyX_of r1 hs rfl (fun _ _ _ z => nomatch z)) (kb "tuple" _ (by decide +kernel) rfl) h
    · exact fin _ _ (tyX_of r1 hs rfl (fun _ _ _ z => nomatch z)) (kb "dict" _ (by decide +kernel) rfl) h
    · exact fin _ false (tyX_of r1 hs rfl (fun c _ _ z => by cases z; exact hc _ h.1)) ((hc _ h.1).2.kt T hT) h.2
    · exact h.elim
  · exact h.elim
def dIsO (cs cs' : List Str) (d : D) (Q : D → Prop) : Prop := match d with
  | .obj c _ _ => (c ∈ cs ∧ Q (.bl true)) ∨ (c ∈ cs' ∧ Q (.bl false))
  | .non | .bl _ | .int _ | .str _ | .lst _ | .tup _ | .dic _ _ => Q (.bl false)
  | _ => False
end
end Y
namespace Y
open PySem PySem.Spec PyProof.Rows L2 Z
/-! ### things that one slot holds -/
section
variable {K : Frg} {B : Bs} {F H F' H' : Hp} {σ : L2.St} {ρ : Ev}
theorem Tp.nms {ms : List Addr} {p : Addr} (t : Tp K ms F H) (hp : H p = none) : p ∉ ms := fun m => t.ne m hp
theorem go_none {ms : List Addr} {F0 H0 F H : Hp} {p : Addr} (g : Go ms F0 H0 F H) (hf : Same F0 H0) (hp : H p = none) (hm : p ∉ ms) : H0 p = none := by
  cases e : H0 p with
  | none => rfl
  | some o =>
    cases e2 : F0 p with
    | some o' => have := g.fh p o' (g.ff p o' e2); rw [hp] at this; cases this
    | none => have := (g.mu p o hm e2 e).2; rw [hp] at this; cases this
/-- a new thing comes into a slot -/
theorem Iv.newM (I : Iv K B F H σ ρ) (h0 : Same B.F0 B.H0) {p : Addr} {o : HO} {m : Mo} {H2 : Hp} (i : Nat) (hp : H p = none) (e : H2 = upd H p o) (r : MoR K B.ms F p m o) : Iv K B F H2 (σ.set i (some (.ref p))) (ρ.set i (.mu m)) := by
  have nm := I.tp.nms hp
  have g : Go [] F H F H2 := by rw [e]; exact Go.newM I.same hp
  have I2 := I.step0 g
  have hn : ∀ (j : Nat) (n : Mo), ρ[j]? = some (.mu n) → σ[j]? ≠ some (some (.ref p)) := fun j n h z => by
    obtain ⟨a, o', h1, h2, h3, h4, h5, h6⟩ := I.own j n h
    rw [z] at h1
    cases h1
    rw [hp] at h5
    cases h5
  have hl := I.len
  refine ⟨I2.go, I2.tp, by rw [List.length_set, List.length_set]; exact I.len, fun j d h => ?_, fun j n h => ?_, fun j k n n' a hjk h1 h2 h3 => ?_⟩
  · by_cases hij : i = j
    · subst hij
      rcases Nat.lt_or_ge i ρ.length with z | z
      · rw [List.getElem?_set_self z] at h; cases h
      · rw [List.getElem?_eq_none (by rw [List.length_set]; exact z)] at h; cases h
    · rw [List.getElem?_set_ne hij] at h ⊢
      exact I2.val j d h
  · by_cases hij : i = j
    · subst hij
      rcases Nat.lt_or_ge i ρ.length with z | z
      · rw [List.getElem?_set_self z] at h
        cases h
        exact ⟨p, o, List.getElem?_set_self (by omega), same_none I.same hp, nm, go_none I.go h0 hp nm, by rw [e]; exact upd_same, r⟩
      · rw [List.getElem?_eq_none (by rw [List.length_set]; exact z)] at h; cases h
    · rw [List.getElem?_set_ne hij] at h ⊢
      exact I2.own j n h
  · by_cases hij : i = j
    · subst hij
      have hik : i ≠ k := hjk
      rw [List.getElem?_set_ne hik] at h2 ⊢
      rcases Nat.lt_or_ge i σ.length with z | z
      · rw [List.getElem?_set_self z] at h3
        cases h3
        exact hn k n' h2
      · rw [List.getElem?_eq_none (by rw [List.length_set]; exact z)] at h3; cases h3
    · rw [List.getElem?_set_ne hij] at h1 h3
      by_cases hik : i = k
      · subst hik
        rcases Nat.lt_or_ge i σ.length with z | z
        · rw [List.getElem?_set_self z]
          intro q
          cases q
          exact hn j n h1 h3
        · rw [List.getElem?_eq_none (by rw [List.length_set]; exact z)]
          intro q; cases q
      · rw [List.getElem?_set_ne hik] at h2 ⊢
        exact I.sep j k n n' a hjk h1 h2 h3
/-- a thing changes in its place -/
theorem Iv.put (I : Iv K B F H σ ρ) {a : Addr} {o : HO} {m m' : Mo} {H2 : Hp} (i : Nat) (hi : ρ[i]? = some (.mu m)) (ha : σ[i]? = some (some (.ref a))) (e : H2 = upd H a o) (r : MoR K B.ms F a m' o) : Iv K B F H2 σ (ρ.set i (.mu m')) := by
  obtain ⟨a', o', h1, fa, nm, h0, h5, _⟩ := I.own i m hi
  rw [ha] at h1
  cases h1
  have gp : Go [a] F H F H2 := by rw [e]; exact Go.put I.same fa
  have go : Go B.ms B.F0 B.H0 F H2 := ((I.go.sub (ms' := a :: B.ms) fun x hx => List.mem_cons_of_mem _ hx).trans (gp.sub fun x hx => by
    have : x = a := by simpa using hx
    rw [this]; exact List.mem_cons_self)).drop h0
  have ho : ∀ b, b ≠ a → H2 b = H b := fun b hb => by rw [e]; exact upd_ne hb
  refine ⟨go, I.tp.gox gp nm, by rw [List.length_set]; exact I.len, fun j d h => ?_, fun j n h => ?_, fun j k n n' b hjk h1 h2 h3 => ?_⟩
  · by_cases hij : i = j
    · subst hij
      rcases Nat.lt_or_ge i ρ.length with z | z
      · rw [List.getElem?_set_self z] at h; cases h
      · rw [List.getElem?_eq_none (by rw [List.length_set]; exact z)] at h; cases h
    · rw [List.getElem?_set_ne hij] at h
      exact I.val j d h
  · by_cases hij : i = j
    · subst hij
      rcases Nat.lt_or_ge i ρ.length with z | z
      · rw [List.getElem?_set_self z] at h
        cases h
        exact ⟨a, o, ha, fa, nm, h0, by rw [e]; exact upd_same, r⟩
      · rw [List.getElem?_eq_none (by rw [List.length_set]; exact z)] at h; cases h
    · rw [List.getElem?_set_ne hij] at h
      obtain ⟨b, u, b1, b2, b3, b4, b5, b6⟩ := I.own j n h
      have hb : b ≠ a := fun q => by
        subst q
        exact I.sep i j m n b hij hi h ha b1
      exact ⟨b, u, b1, b2, b3, b4, by rw [ho b hb]; exact b5, b6⟩
  · have w : ∀ (q : Nat) (n : Mo), (ρ.set i (.mu m'))[q]? = some (.mu n) → ∃ n' : Mo, ρ[q]? = some (.mu n') := fun q n h => by
      by_cases hq : i = q
      · subst hq; exact ⟨m, hi⟩
      · rw [List.getElem?_set_ne hq] at h; exact ⟨n, h⟩
    obtain ⟨n1, w1⟩ := w j n h1
    obtain ⟨n2, w2⟩ := w k n' h2
    exact I.sep j k n1 n2 b hjk w1 w2 h3
/-- a list that grew is plain data from now on -/
theorem Iv.freeze (I : Iv K B F H σ ρ) {ds : List D} (i : Nat) (hi : ρ[i]? = some (.mu (.lst ds))) : ∃ F2, Same F F2 ∧ Iv K B F2 H σ (ρ.set i (.val (.lst ds))) := by
  obtain ⟨a, o, ha, fa, nm, h0, h5, vs, rfl, hr⟩ := I.own i _ hi
  have gp : Go [a] F H (upd F a (.lst vs)) H := Go.freeze I.same fa h5
  have go : Go B.ms B.F0 B.H0 (upd F a (.lst vs)) H := ((I.go.sub (ms' := a :: B.ms) fun x hx => List.mem_cons_of_mem _ hx).trans (gp.sub fun x hx => by
    have : x = a := by simpa using hx
    rw [this]; exact List.mem_cons_self)).drop h0
  refine ⟨upd F a (.lst vs), gp.ff, go, I.tp.gox gp nm, by rw [List.length_set]; exact I.len, fun j d h => ?_, fun j n h => ?_, fun j k n n' b hjk h1 h2 h3 => ?_⟩
  · by_cases hij : i = j
    · subst hij
      rcases Nat.lt_or_ge i ρ.length with z | z
      · rw [List.getElem?_set_self z] at h
        cases h
        exact ⟨.ref a, ha, .lst upd_same (hr.up gp.ff)⟩
      · rw [List.getElem?_eq_none (by rw [List.length_set]; exact z)] at h; cases h
    · rw [List.getElem?_set_ne hij] at h
      obtain ⟨v, h1, h2⟩ := I.val j d h
      exact ⟨v, h1, h2.up gp.ff⟩
  · by_cases hij : i = j
    · subst hij
      rcases Nat.lt_or_ge i ρ.length with z | z
      · rw [List.getElem?_set_self z] at h; cases h
      · rw [List.getElem?_eq_none (by rw [List.length_set]; exact z)] at h; cases h
    · rw [List.getElem?_set_ne hij] at h
      obtain ⟨b, u, b1, b2, b3, b4, b5, b6⟩ := I.own j n h
      have hb : b ≠ a := fun q => by
        subst q
        exact I.sep i j _ n b hij hi h ha b1
      exact ⟨b, u, b1, by rw [upd_ne hb]; exact b2, b3, b4, b5, b6.up gp.ff⟩
  · have w : ∀ (q : Nat) (n : Mo), (ρ.set i (.val (.lst ds)))[q]? = some (.mu n) → ρ[q]? = some (.mu n) := fun q n h => by
      by_cases hq : i = q
      · subst hq
        rcases Nat.lt_or_ge i ρ.length with z | z
        · rw [List.getElem?_set_self z] at h; cases h
        · rw [List.getElem?_eq_none (by rw [List.length_set]; exact z)] at h; cases h
      · rw [List.getElem?_set_ne hq] at h; exact h
    exact I.sep j k n n' b hjk (w _ _ h1) (w _ _ h2) h3
end
section
variable {X : Cx} {B : Bs} {K : Frg} {ms : List Addr} {a b c e o : Expr} {es : List Expr} {ra rb rc r ro : Rd} {rt ru : RdT} {rl : RdA} {pos p0 apos : Pos} {R : RdF} {k : Nat} {f C g p : Addr} {x m : Str} {s1 s2 : RdS}
def appM (i : Nat) (ρ : Ev) (d : D) (Q : Ev → Prop) : Prop := match ρ[i]? with
  | some (.mu (.lst ds)) => ds.length < 100000 ∧ Q (ρ.set i (.mu (.lst (ds ++ [d]))))
  | _ => False
def frzM (i : Nat) (ρ : Ev) (Q : Ev → Prop) : Prop := match ρ[i]? with
  | some (.mu (.lst ds)) => Q (ρ.set i (.val (.lst ds)))
  | _ => False
/-! ### operators of own classes -/
theorem sp_callG {K : Frg} {F1 H1 : Hp} {vs : List V} {ds : List D} {Qd : D → Prop} {Q : VK} (g0 : Go B.ms B.F0 B.H0 F1 H1) (t1 : Tp K B.ms F1 H1) (r1 : Rps K B.ms F1 vs ds) (kk : ∀ v F' H' d, Go B.ms F1 H1 F' H' → Tp K B.ms F' H' → Rp K B.ms F' v d → Qd d → Q v H') (h : R ds Qd B.Ed) : spP K R vs H1 Q (EE K B) :=
  ⟨B.ms, F1, ds, Qd, B.Ed, t1, r1, h, fun v F2 H2 d g2 t2 r2 q2 => kk v F2 H2 d g2 t2 r2 q2, fun cls d F2 H2 x g2 t2 xr q => ⟨F2, x, g0.trans g2, t2, xr, q⟩⟩
def OpI (K : Frg) (B : Bs) (r : R2) (g : D → D → (D → Prop) → Prop) : Prop := ∀ (F H : Hp) (x y : V) (dx dy : D) (Qd : D → Prop) (Q : VK), Go B.ms B.F0 B.H0 F H → Tp K B.ms F H → Rp K B.ms F x dx → Rp K B.ms F y dy → g dx dy Qd → (∀ v F' H' d, Go B.ms F H F' H' → Tp K B.ms F' H' → Rp K B.ms F' v d → Qd d → Q v H') → r x y H Q
theorem tOpI_of {g : D → D → (D → Prop) → Prop} {o : R2} (hl : OpI X.K B o g) (σ : L2.St) (H : Hp) (Q : VK) (h : tE X.K B (fun ρ Q => ra ρ fun x => rb ρ fun y => g x y Q) σ H Q) : tOp o (tE X.K B ra) (tE X.K B rb) σ H Q := by
  obtain ⟨F, ρ, Qd, I, z, k⟩ := h
  refine ⟨F, ρ, _, I, z, fun v F1 H1 d g1 t1 r1 z1 => ⟨F1, ρ, _, I.step g1 t1, z1, fun u F2 H2 e g2 t2 r2 z2 => ?_⟩⟩
  exact hl F2 H2 v u d e Qd Q ((I.go.trans g1).trans g2) t2 (r1.up g2.ff) r2 z2 fun w F3 H3 d3 g3 t3 r3 q3 => k w F3 H3 d3 ((g1.trans g2).trans g3) t3 r3 q3
theorem y_cmpI {op : CmpOp} {g : D → D → (D → Prop) → Prop} {o : R2} (ho : OpR X (compareOp op) o) (hl : OpI X.K B o g) (ha : PEp X B a ra) (hb : PEp X B b rb) (hm : behindInMarks op b = false) : PEp X B (.Compare a [op] [b] pos) (fun ρ Q => ra ρ fun x => rb ρ fun y => g x y Q) := pe_imp (pe_cmpR ho ha hb hm) (tOpI_of hl)
/-- both of the own class C -/
def dBinO (B : Bs) (R : RdF) (C : Str) (ns : List Str) (x y : D) (Q : D → Prop) : Prop := asO [C] ns x (asO [C] ns y (R [x, y] Q B.Ed))
theorem asO_of {K : Frg} {ms : List Addr} {F : Hp} {cs ns : List Str} {v : V} {d : D} {k : Prop} (r : Rp K ms F v d) (h : asO cs ns d k) : ∃ a dx fs c, v = .ref a ∧ c ∈ cs ∧ F a = some (.ins (He.ga K c) dx fs) ∧ k := by
  unfold asO at h
  split at h
  · obtain ⟨h1, rfl, h2⟩ := h
    cases r with
    | obj h3 h4 h5 => exact ⟨_, _, _, _, rfl, h1, h3, h2⟩
  · exact h.elim
/-- == and != of an own class: the right one any value with a type that is known -/
def dEqO (B : Bs) (R : RdF) (neg : Bool) (C : Str) (ns cs : List Str) (x y : D) (Q : D → Prop) : Prop := asO [C] ns x ((match y with | .obj c _ _ => c ∈ cs | .ty _ | .glob _ | .tape | .fn _ | .dpl _ _ => False | _ => True) ∧ R [x, y] (fun d => tst d fun b => Q (.bl (neg != b))) B.Ed)
/-- x in o -/
def dInO (B : Bs) (R : RdF) (neg : Bool) (C : Str) (ns : List Str) (x y : D) (Q : D → Prop) : Prop := asO [C] ns y (R [y, x] (fun d => tst d fun b => Q (.bl (neg != b))) B.Ed)
theorem inOL {C : Str} {ns : List Str} {neg : Bool} : OpI K B (rInO neg (He.ga K C) (spP K R) (EE K B)) (dInO B R neg C ns) := by
  intro F H x y dx dy Qd Q g0 t0 rx ry h k
  obtain ⟨a, d1, f1, c1, rfl, hc1, h1, hh⟩ := asO_of ry h
  obtain rfl : c1 = C := by simpa using hc1
  refine ⟨a, d1, f1, rfl, t0.1 _ _ h1, sp_callG g0 t0 (.cons ry (.cons rx .nil)) (fun v F' H' d g t r q => ?_) hh⟩
  unfold tst at q
  split at q
  · cases r
    refine ⟨_, rfl, k _ F' H' _ g t (.bl _) ?_⟩
    cases neg <;> simpa using q
  · exact q.elim
end
end Y
namespace Y
open PySem PySem.Spec PyProof.Rows L2 Z
/-! ### making instances -/
def spI (K : Frg) (C : Str) (R : RdF) : Sp := fun vs H Q E => ∃ ms F Hb x args ds Qd Ed, vs = .ref x :: args ∧ Go ms F Hb F H ∧ Same F Hb ∧ Hb x = none ∧ Tp K ms F H ∧ (∃ dx, H x = some (.ins (He.ga K C) dx [])) ∧ Rps K ms F args ds ∧ R ds Qd Ed ∧
  (∀ F' H' o ns fs, Go ms F Hb F' H' → Tp K ms F' H' → F' x = none → H' x = some o → MoR K ms F' x (.ins x C ns fs) o → Qd (.obj C ns fs) → Q .non H') ∧ (∀ cls d F' H' y, Go ms F Hb F' H' → Tp K ms F' H' → XR K ms F' cls d y → Ed y → E cls d H')
theorem spI_of {K : Frg} {C : Str} {R : RdF} {E : XK} (vs : List V) (H : Hp) (Q : VK) (h : spP K R vs H Q E) : ∀ x dx, H x = none → H dx = none → dx ≠ x → spI K C R (.ref x :: vs) (upd (upd H dx (.own x)) x (.ins (He.ga K C) dx [])) (fun v H2 => v = .non ∧ Q (.ref x) H2) E := by
  obtain ⟨ms, F, ds, Qd, Ed, t, r, h, kq, ke⟩ := h
  intro x dx nx nd ne
  have g1 : Go [] F H F (upd H dx (.own x)) := Go.newM t.1 nd
  have nx1 : (upd H dx (.own x)) x = none := by rw [upd_ne (Ne.symm ne)]; exact nx
  have g2 : Go [] F (upd H dx (.own x)) F (upd (upd H dx (.own x)) x (.ins (He.ga K C) dx [])) := Go.newM g1.fh nx1
  have g12 := g1.trans g2
  have nm := t.nms nx
  refine ⟨ms, F, H, x, vs, ds, Qd, Ed, rfl, g12.nil, t.1, nx, t.go0 g12, ⟨dx, upd_same⟩, r, h, fun F' H' o ns fs g3 t3 fx hx mo q => ⟨rfl, ?_⟩, fun cls d F' H' y g3 t3 xr q => ke cls d F' H' y g3 t3 xr q⟩
  obtain ⟨_, dx', ws, rfl, hl, hr⟩ := mo
  have g4 : Go [x] F' H' (upd F' x (.ins (He.ga K C) dx' (ns.zip ws))) H' := Go.freeze t3.1 fx hx
  have g5 : Go ms F H (upd F' x (.ins (He.ga K C) dx' (ns.zip ws))) H' := ((g3.sub (ms' := x :: ms) fun y hy => List.mem_cons_of_mem _ hy).trans (g4.sub fun y hy => by
    have : y = x := by simpa using hy
    rw [this]; exact List.mem_cons_self)).drop nx
  exact kq _ _ H' _ g5 (t3.gox g4 nm) (.obj upd_same hl (hr.up g4.ff)) q
def finI (x : Addr) (C : Str) (Q : D → Prop) (ρ : Ev) : Prop := match ρ[0]? with
  | some (Sl.mu (Mo.ins y c ns fs)) => (y = x ∧ c = C) ∧ Q (.obj c ns fs)
  | _ => False
section
variable {P : Program} {w : World} {K : Frg} {mg : Str → Option Value} {base : Heap}
/-! ### a def with one default -/
end
end Y
namespace Y
open PySem PySem.Spec PyProof.Rows L2 Z
section
variable {X : Cx} {B : Bs} {K : Frg} {ms : List Addr} {a b c e o : Expr} {es : List Expr} {ra rb rc r ro : Rd} {rt ru : RdT} {rl : RdA} {pos p0 apos : Pos} {R : RdF} {k : Nat} {f g p : Addr} {x m : Str} {s1 s2 : RdS}
theorem y_make {C : Str} (M : Mk X.K (He.ga X.K C) f) (F : FnG X.prog X.w X.K X.mg X.base (L2N.CX X.prog X.w) k f (spI X.K C R)) (hr : RoomG (k + 1) X.A) (hg : Gl X C) (hm : X.mg C = some (.ref (He.ga X.K C))) (hx : Px X B) (ha : PAp X B (e :: es) rl) (hdb : (C == ("__debug__" : Str)) = false := by decide)
    (he : starEach (e :: es) X.env = (false, eval e X.env) :: starEach es X.env := by rfl) (hpl : (backTo pos (starEach es X.env)).any (·.1) = false := by rfl) : PEp X B (.Call (.Name C p0) (e :: es) [] pos) (fun ρ Q => rl ρ fun ds => R ds Q B.Ed) :=
  pe_imp (gmake (spM := spP X.K R) (fun vs H Q h x dx h1 h2 h3 => spI_of vs H Q h x dx h1 h2 h3) M F hr hg hm hx ha hdb he hpl) fun σ H Q ⟨F, ρ, Qd, I, z, k⟩ => ⟨F, ρ, _, I, z, fun vs F1 H1 ds g1 t1 r1 z1 => sp_call I k g1 t1 r1 z1⟩
def putM (C : Str) (ns : List Str) (fl : Str) (i : Nat) (ρ : Ev) (d : D) (Q : Ev → Prop) : Prop := match ρ[i]? with
  | some (Sl.mu (Mo.ins y c n ds)) => (c = C ∧ n = ns) ∧ Q (ρ.set i (.mu (.ins y C (ns ++ [fl]) (ds ++ [d]))))
  | _ => False
theorem putF_new {f : Str} {v : V} : ∀ {ns : List Str} {vs : List V}, ns.length = vs.length → (ns.all fun y => !(f == y)) = true → putF f v (ns.zip vs) = (ns ++ [f]).zip (vs ++ [v])
  | [], [], _, _ => rfl
  | n :: ns, u :: vs, hl, h => by
    rw [List.all_cons, Bool.and_eq_true] at h
    have h1 : ¬ n = f := fun e => by
      have := h.1
      rw [e] at this
      simp at this
    show putF f v ((n, u) :: ns.zip vs) = (n, u) :: (ns ++ [f]).zip (vs ++ [v])
    unfold putF
    rw [if_neg h1, putF_new (by simpa using hl) h.2]
  | [], _ :: _, hl, _ => by simp at hl
  | _ :: _, [], hl, _ => by simp at hl
/-- self.f = v in the making -/
def gFld (K : Frg) (ta : TE) (f : Str) : TG := fun v σ H Q => ta σ H fun x H2 => ∃ a C dx fs, x = .ref a ∧ H2 a = some (.ins C dx fs) ∧ Cls K C ∧ NoAttr K C f ∧ fs.length < 1000 ∧ Q σ (upd H2 a (.ins C dx (putF f v fs)))
theorem fld_run {C fl : Str} {ns : List Str} {i : Nat} {F H : Hp} {σ : L2.St} {ρ : Ev} {v : V} {d : D} {Qd : Ev → Prop} {Q : L2.St → Hp → Prop} (hc : Cls K (He.ga K C)) (hn : NoAttr K (He.ga K C) fl) (hf : (ns.all fun y => !(fl == y)) = true) (hl : ns.length < 1000) (I : Iv K B F H σ ρ) (r : Rp K B.ms F v d) (z : putM C ns fl i ρ d Qd)
    (kk : ∀ ρ' H', Iv K B F H' σ ρ' → Qd ρ' → Q σ H') : gFld K (tVar i) fl v σ H Q := by
  unfold putM at z
  split at z
  · rename_i y c n ds e
    obtain ⟨⟨rfl, rfl⟩, z⟩ := z
    obtain ⟨a, oo, h1, fa, nm, h0, h5, ey, dx, vs, rfl, h6, h7⟩ := I.own i _ e
    subst ey
    refine ⟨.ref y, h1, y, _, dx, _, rfl, h5, hc, hn, ?_, kk _ _ (I.put (m' := .ins y c (n ++ [fl]) (ds ++ [d])) i e h1 rfl ⟨rfl, dx, vs ++ [v], by rw [putF_new h6 hf], by simp [h6], h7.app (.one r)⟩) z⟩
    rw [List.length_zip]
    omega
  · exact z.elim
theorem s_fld {C fl : Str} {ns : List Str} {i : Nat} {ox : Str} {op pos' : Pos} (hc : Cls X.K (He.ga X.K C)) (hn : NoAttr X.K (He.ga X.K C) fl) (hv : PE X (.Name ox op) (tVar i)) (he : PEp X B e r) (hs : swapsWith e (some (.Attribute (.Name ox op) fl pos')) pos.line X.env = pure false := by rfl)
    (hf : (ns.all fun y => !(fl == y)) = true := by decide +kernel) (hl : ns.length < 1000 := by decide) : PSp X B (.Assign [.Attribute (.Name ox op) fl pos'] e pos) (fun ρ E => r ρ fun d => putM C ns fl i ρ d E.nx) :=
  ps_imp (ps_fld hv he hs) fun σ H Dd ⟨F, ρ, E, I, z, kn, kr, kb, kc⟩ => ⟨F, ρ, _, I, z, fun v F1 H1 d g1 t1 r1 z1 => by
    exact fld_run hc hn hf hl (I.step g1 t1) r1 z1 fun ρ' H' I' z' => kn σ ρ' F1 H' g1.ff I' z'⟩
/-! ### static methods, class methods -/
structure SMet (K : Frg) (C : Addr) (m : Str) (p g : Addr) : Prop where
  rd : ClX.CRead K C (.type "type")
  at_ : PySem.W.findCls K (.ref C) (.type "type") m = some (.get (.builtin "staticmethod.__get__") (.ref p) .none (.ref C))
  rc : ∃ rest, PySem.W.recIn K p "staticmethod" = some (.ref g :: rest)
  kp : PySem.W.keepIn K (.ref g) = true
theorem getsm {C : Addr} {pins : List (Addr × Obj)} {σ : L2.St} {H : Hp} {s : Shared} {A : Around} {E : Value → Shared → Prop} {pl : Sem Bool} {Q : Value × List Value → Shared → Prop} (I : L2.Inv X pins σ H s) (k : SMet X.K C m p g) (h : ∀ s', L2.Inv X pins σ H s' → Q (.ref g, []) s') : wpAny (model X.prog X.w) A (getMethod (.ref C) m pl) Q E s := by
  obtain ⟨rest, hp⟩ := k.rc
  refine PySem.W.method_cls I.kIn k.rd.ga (PySem.W.cls_bind I.kIn k.rd.rd k.at_ ?_)
  refine wpAny_call (PySem.W.sm_get (s := { s with toks := s.toks + 1 }) I.kIn hp (PySem.W.handed_on rfl ?_))
  exact h _ (I.tok _)
theorem y_smeth {C : Str} {pl : Sem Bool} {cp : Pos} (hg : Gl X C) (hm : X.mg C = some (.ref (He.ga X.K C))) (k0 : SMet X.K (He.ga X.K C) m p g) (F : FnG X.prog X.w X.K X.mg X.base (L2N.CX X.prog X.w) k g (spP X.K R)) (hr : RoomG k X.A) (hx : Px X B) (ha : PAp X B (e :: es) rl) (hdb : (C == ("__debug__" : Str)) = false := by decide)
    (hst : starEach (e :: es) X.env = (false, eval e X.env) :: starEach es X.env := by rfl) (hpl : (backTo pos (starEach es X.env)).any (·.1) = false := by rfl)
    (ht : eval (.Call (.Attribute (.Name C cp) m apos) (e :: es) [] pos) X.env = (do
      let ov ← eval (.Name C cp) X.env
      standAt apos.atName
      let (f, first) ← holding [ov] (getMethod ov m pl)
      callWith pos f first (backTo pos (starEach (e :: es) X.env)) (backToKw pos (keywordEach [] X.env))) := by rfl) :
    PEp X B (.Call (.Attribute (.Name C cp) m apos) (e :: es) [] pos) (fun ρ Q => rl ρ fun ds => R ds Q B.Ed) := by
  refine ⟨fun pins s σ H Q I h => ?_⟩
  obtain ⟨F0, ρ, Qd, J, z, kk⟩ := h
  refine PySem.W.methodCall_KW (pl := pl) (ld_glob I hg hm ?_ hdb) ht
  refine getsm I k0 fun s1 I1 => ?_
  refine PySem.W.callWith_K (first := []) (h₀ := X.base) I.ok.mod.kin k0.kp (thn (ha.run pos pins s1 σ H (fun vs H2 => ∃ F2 ds', Go B.ms F0 H F2 H2 ∧ Tp X.K B.ms F2 H2 ∧ Rps X.K B.ms F2 vs ds' ∧ R ds' Qd B.Ed) I1 ⟨F0, ρ, _, J, z, fun vs F2 H2 ds g2 t2 r2 z3 => ⟨F2, ds, g2, t2, r2, z3⟩⟩) fun us s2 ⟨vs', H2, I2, rv, F2, ds', g2, t2, r2, z3⟩ => ⟨I2.kIn, ?_⟩) hst hpl
  exact wpAny_call (run_fnA (us := us) (vs := vs') (F.at hr) hx I2 rv (sp_call J kk g2 t2 r2 z3))
/-- C.m(*e) -/
def starD (d : D) (Q : List D → Prop) : Prop := match d with
  | .lst ds => Q ds
  | .tup ds => Q ds
  | _ => False
end
end Y
namespace Y
open PySem PySem.Spec PyProof.Rows L2 Z
/-- where nothing is let out, nothing is -/
theorem passN {X : Cx} : Passes (L2N.CX X.prog X.w) X E0 := fun _ _ _ _ _ _ _ ⟨_, _, _, _, _, h⟩ => h.2.2.2.2.2.2.2.elim
section
variable {P : Program} {w : World} {K : Frg} {mg : Str → Option Value} {base : Heap}
/-- the tape's draw, as a plain promise -/
def rDraw : RdF := ar2 fun t n Q _ => match t, n with
  | .tape, .int n => (0 < n ∧ Sz 8000 n) ∧ ∀ d, 0 ≤ d → d < n → Q (.int d)
  | _, _ => False
theorem draw_of {k : Nat} {f : Addr} {CX : CXT} (F : FnR P w K mg base CX k f (spDraw K)) : FnG P w K mg base CX k f (spP K rDraw) := (FnG.of F).imp fun vs H Q E h => by
  obtain ⟨ms, F, ds, Qd, Ed, t, r, h, kq, ke⟩ := h
  unfold rDraw ar2 at h
  split at h
  · split at h
    · obtain ⟨v, u, rfl, r1, r2⟩ := rps2 r
      cases r2
      cases r1 with
      | @tape tt mt nt =>
        refine ⟨_, _, rfl, F, tt, _, rfl, rfl, t.1, t.tape _ mt nt, h.1.1, szLog h.1.2, fun d H' d0 d1 g tp => ?_⟩
        refine kq _ F H' _ (g.sub fun y hy => ?_) ⟨g.fh, fun y my ny => ?_, fun p hp => ⟨(t.tabs p hp).1, (t.tabs p hp).2.go g fun z => ?_⟩⟩ (.int d) (h.2 d d0 d1)
        · have : y = tt := by simpa using hy
          rw [this]; exact mt
        · by_cases e : y = tt
          · subst e; exact tp
          · exact (t.tape y my ny).go g (by simpa using e)
        · have e : p.1 = tt := by simpa using z
          exact nt (e ▸ List.mem_map.mpr ⟨p, hp, rfl⟩)
    · exact h.elim
  · exact h.elim
/-- law's promise, where the tables are empty -/
def spLawT (K : Frg) : Sp := Sp1 fun a H Q _ => ∃ (s : Addr) (ns : List Int), a = .ref s ∧ ns.length ≤ 63 ∧ SqL K H s (ns.map V.int) ∧ (∀ p ∈ tabsOf K, H p.1 = some (.tbl #[])) ∧ ∀ H', Q (.bl true) H'
/-- the heap but for the tables -/
def noTb (K : Frg) (H : Hp) : Hp := fun b => if b ∈ tabA K then none else H b
theorem noTb_same {K : Frg} {H : Hp} : Same (noTb K H) H := fun b u e => by
  unfold noTb at e
  split at e
  · cases e
  · exact e
theorem noTb_ne {K : Frg} {H : Hp} {a : Addr} (h : a ∉ tabA K) : noTb K H a = H a := if_neg h
theorem tab_in {K : Frg} {H : Hp} {a : Addr} (hT : ∀ p ∈ tabsOf K, H p.1 = some (.tbl #[])) (m : a ∈ tabA K) : H a = some (.tbl #[]) := by
  obtain ⟨p, hp, rfl⟩ := List.mem_map.mp m
  exact hT p hp
theorem noTb_sq {K : Frg} {H : Hp} {a : Addr} {xs : List V} (hT : ∀ p ∈ tabsOf K, H p.1 = some (.tbl #[])) (h : SqL K H a xs) : SqL K (noTb K H) a xs := by
  rcases h with (h | ⟨o, h⟩) | h
  · exact .inl (.inl (by show noTb K H a = _; rw [noTb_ne fun m => by rw [tab_in hT m] at h; cases h]; exact h))
  · exact .inl (.inr ⟨o, by show noTb K H a = _; rw [noTb_ne fun m => by rw [tab_in hT m] at h; cases h]; exact h⟩)
  · exact .inr h
theorem noTb_tab {K : Frg} {H F1 H1 : Hp} {p : Addr × Str} (hT : ∀ p ∈ tabsOf K, H p.1 = some (.tbl #[])) (g : Go [] (noTb K H) H F1 H1) (hp : p ∈ tabsOf K) : TabF F1 H1 p.1 p.2 := by
  have m : p.1 ∈ tabA K := List.mem_map.mpr ⟨p, hp, rfl⟩
  obtain ⟨e1, e2⟩ := g.mu p.1 _ (fun z => nomatch z) (show noTb K H p.1 = none from if_pos m) (hT p hp)
  exact ⟨e1, #[], e2, True.intro, fun pos cv hc => by
    have z : PySem.codeAmong pos [] = some cv := hc
    simp [PySem.codeAmong] at z⟩
theorem noTb_tape {K : Frg} {H F1 H1 : Hp} {t : Addr} (hT : ∀ p ∈ tabsOf K, H p.1 = some (.tbl #[])) (g : Go [] (noTb K H) H F1 H1) (tp : Tape K F1 H1 t) : t ∉ tabA K := fun m => by
  obtain ⟨p, hp, rfl⟩ := List.mem_map.mp m
  obtain ⟨_, ps, e, _⟩ := noTb_tab hT g hp
  obtain ⟨_, xs, e', _⟩ := tp
  rw [e] at e'
  cases e'
/-- the law: the tape first, then its own body -/
theorem y_law {qual px : Str} {st : Stmt} {f : Addr} {N : List Str} {k i : Nat} {xt : Str} {pt pc pn pa pp : Pos} {rest : List Stmt} (F : DefAt K "law" qual st f) (S : FnScope N [px] (defScope st))
    (hb : ∀ (kV doc pm : Value) (an : Option Addr) (cdv ct : Value) (us : List Value), us.length = 1 → bindArgs (PySem.W.fnOf "law" qual (defArgs st) (defBody st) (defScope st) .none kV doc pm an cdv ct) ⟨us, []⟩ = pure ([px].zip us))
    (hs : defBody st = .Assign [.Name xt pt] (.Call (.Name "_law_tape" pn) [.Name px pa] [] pc) pp :: rest)
    (FT : ∀ base, FnR P w K mg base (L2N.CX P w) 1 (He.ga K "_law_tape") (spTape K)) (mt : mg "_law_tape" = some (.ref (He.ga K "_law_tape"))) (kt : PySem.W.keepIn K (.ref (He.ga K "_law_tape")) = true) (hk : 1 ≤ k) (h0 : N[0]? = some px) (hi : N[i]? = some xt) (hi0 : i ≠ 0)
    (hgl : ∀ cdv (s : Shared), (envOfC qual (defScope st) s.heap.objs.size f cdv).kindOf "_law_tape" = some .globalImplicit) (hvis : Vis (defScope st) px) (hloc : Loc (defScope st) xt)
    (hsw : ∀ cdv (s : Shared), swapsWith (.Call (.Name "_law_tape" pn) [.Name px pa] [] pc) (some (.Name xt pt)) pp.line (envOfC qual (defScope st) s.heap.objs.size f cdv) = pure false)
    (hst : ∀ cdv (s : Shared), starEach [.Name px pa] (envOfC qual (defScope st) s.heap.objs.size f cdv) = (false, eval (.Name px pa) (envOfC qual (defScope st) s.heap.objs.size f cdv)) :: starEach [] (envOfC qual (defScope st) s.heap.objs.size f cdv))
    (hpx : (px == ("__debug__" : Str)) = false) (hpc : (px == ("__classdict__" : Str)) = false)
    (hbody : ∀ (base : Heap) (cdv : Value), cdv = .ref (cdAt K f) → ∀ (A : Around) (outer : List Env) (s : Shared) (H : Hp) (E : XK) (B : Bs), Same B.F0 B.H0 → (∀ x, ¬ B.Ed x) → RoomG k (A.deeper (envOfC qual (defScope st) s.heap.objs.size f cdv)) → Px (cxOf (L2N.CX P w) P w K mg base N qual (defScope st) f cdv A outer s H E) B →
      PassesOwn (model P w) (cxOf (L2N.CX P w) P w K mg base N qual (defScope st) f cdv A outer s H E).A (cxOf (L2N.CX P w) P w K mg base N qual (defScope st) f cdv A outer s H E).env (cxOf (L2N.CX P w) P w K mg base N qual (defScope st) f cdv A outer s H E).xe →
      ∃ r, PSsp (cxOf (L2N.CX P w) P w K mg base N qual (defScope st) f cdv A outer s H E) B rest r ∧ r ((List.replicate N.length .no).set i (.val .tape)) { nx := fun _ => False, rt := fun d => d = .bl true }) : ∀ base : Heap, FnG P w K mg base (L2N.CX P w) (k + 1) f (spLawT K) := by
  refine fun base => zfnGC F S len1 hb fun cdv ecd A outer s H vs Q E hr h => ?_
  obtain ⟨_, rfl, sa, ns, rfl, hl, hS, hTb, kk⟩ := h
  have po := po_of (P := P) (w := w) (K := K) (mg := mg) (base := base) (N := N) (qual := qual) (scope := defScope st) (f := f) (cdv := cdv) (A := A) (outer := outer) (s := s) (H := H) (E := E)
  have key : ∀ (t : Addr) (F1 H1 : Hp), ∃ r, PSsp (cxOf (L2N.CX P w) P w K mg base N qual (defScope st) f cdv A outer s H E) ⟨t :: tabA K, F1, H1, fun _ => False⟩ rest r ∧ (Same F1 H1 → r ((List.replicate N.length .no).set i (.val .tape)) { nx := fun _ => False, rt := fun d => d = .bl true }) := fun t F1 H1 => by
    by_cases hs : Same F1 H1
    · obtain ⟨r, h1, h2⟩ := hbody base cdv ecd A outer s H E ⟨t :: tabA K, F1, H1, fun _ => False⟩ hs (fun _ z => z) hr (px_of fun cls d H' ⟨F', x, g, t', xr, z⟩ => z.elim) po
      exact ⟨r, h1, fun _ => h2⟩
    · exact ⟨fun _ _ => False, pss_imp pss_never fun σ H Dd ⟨F, ρ, E, I, z, _⟩ => z, fun z => absurd z hs⟩
  rw [hs]
  refine ⟨_, pss_cons (t := tAsg (tFn (spTape K) E0 (tCons (tVar 0) tNil)) (gName i)) (u := fun Dd σ H' => ∃ (t : Addr) (F1 H1 : Hp) (r : RdS), PSsp (cxOf (L2N.CX P w) P w K mg base N qual (defScope st) f cdv A outer s H E) ⟨t :: tabA K, F1, H1, fun _ => False⟩ rest r ∧ tS K ⟨t :: tabA K, F1, H1, fun _ => False⟩ r Dd σ H') ?_ ⟨fun pins s' σ H' D I ⟨t, F1, H1, r, hr, z⟩ => hr.run pins s' σ H' D I z⟩, ?_⟩
  · refine ps_set S.nd hi hloc (zcall (FT base) (hr.rm.mono hk) (hgl cdv s) mt kt passN (pa_cons (pe_var h0 hvis hpx hpc) pa_nil (hst cdv s)) (by decide) (hst cdv s) rfl) (hsw cdv s) (.inl rfl)
  · refine ⟨_, rfl, _, rfl, noTb K H, sa, ns, rfl, noTb_same, noTb_sq hTb hS, fun t F1 H1 g1 tp => ?_⟩
    have nt : t ∉ tabA K := noTb_tape hTb g1 tp
    obtain ⟨r, h1, h2⟩ := key t F1 H1
    refine ⟨t, F1, H1, r, h1, F1, _, _, ?_, h2 g1.fh, ?_, ?_, ?_, ?_⟩
    · have e : ∀ j : Nat, j ≠ i → ((List.replicate N.length Sl.no).set i (.val .tape))[j]? = if j < N.length then some .no else none := fun j hj => by
        rw [List.getElem?_set_ne (Ne.symm hj), List.getElem?_replicate]
      have hin : i < N.length := by
        rcases Nat.lt_or_ge i N.length with z | z
        · exact z
        · rw [List.getElem?_eq_none z] at hi; cases hi
      have hN1 : 1 ≤ N.length := by omega
      refine ⟨Go.refl g1.fh, ⟨g1.fh, fun y hy ny => ?_, fun p hp => ⟨List.mem_cons_of_mem _ (List.mem_map.mpr ⟨p, hp, rfl⟩), noTb_tab hTb g1 hp⟩⟩, ?_, fun j d hd => ?_, fun j m hm => ?_, fun j j' m n a hjj h1 h2 h3 => ?_⟩
      · rcases List.mem_cons.mp hy with e | e
        · rw [e]; exact tp
        · exact absurd e ny
      · simp [L2.start]; omega
      · by_cases hj : j = i
        · subst hj
          rw [List.getElem?_set_self (by simpa using hin)] at hd
          cases hd
          exact ⟨.ref t, List.getElem?_set_self (by simp [L2.start]; omega), .tape (by simp) nt⟩
        · rw [e j hj] at hd
          split at hd <;> cases hd
      · by_cases hj : j = i
        · subst hj
          rw [List.getElem?_set_self (by simpa using hin)] at hm
          cases hm
        · rw [e j hj] at hm
          split at hm <;> cases hm
      · exfalso
        by_cases hj : j = i
        · subst hj
          rw [List.getElem?_set_self (by simpa using hin)] at h1
          cases h1
        · rw [e j hj] at h1
          split at h1 <;> cases h1
    · intro _ _ _ _ _ _ z; exact z.elim
    · intro v d F' H' _ _ rr z
      have z' : d = .bl true := z
      subst z'
      cases rr
      exact kk H'
    · intro _ _ _ _ _ _ z; exact z
    · intro _ _ _ _ _ _ z; exact z
end
/-! ### texts -/
def strsOf : List D → Option (List Str)
  | [] => some []
  | .str b :: ds => (strsOf ds).map (b :: ·)
  | _ => none
def dJoin (x y : D) (Q : D → Prop) : Prop := match x, y with
  | .str a, .lst ds => (match strsOf ds with | some ys => (ys.map (·.length)).sum + ys.length * a.length ≤ 100000 ∧ Q (.str (Txt.join a ys)) | none => False)
  | _, _ => False
section
variable {X : Cx} {B : Bs} {K : Frg} {ms : List Addr} {a b c e o : Expr} {es : List Expr} {ra rb rc r ro : Rd} {rt ru : RdT} {rl : RdA} {pos p0 apos : Pos}
def isS (x : D) (k : Prop) : Prop := match x with
  | .str _ => k
  | _ => False
end
theorem all0 {p : Str → Prop} : ∀ c ∈ ([] : List Str), p c := fun _ h => nomatch h
theorem all1 {p : Str → Prop} {C : Str} (h : p C) : ∀ c ∈ [C], p c := fun c hc => by
  have : c = C := by simpa using hc
  rw [this]; exact h
theorem ar1E {P} {ds : List D} {Q E} (h : ar1 P ds Q E) : ∃ a, ds = [a] ∧ P a Q E := by
  unfold ar1 at h; split at h
  · exact ⟨_, rfl, h⟩
  · exact h.elim
theorem ar2E {P} {ds : List D} {Q E} (h : ar2 P ds Q E) : ∃ a b, ds = [a, b] ∧ P a b Q E := by
  unfold ar2 at h; split at h
  · exact ⟨_, _, rfl, h⟩
  · exact h.elim
theorem ar3E {P} {ds : List D} {Q E} (h : ar3 P ds Q E) : ∃ a b c, ds = [a, b, c] ∧ P a b c Q E := by
  unfold ar3 at h; split at h
  · exact ⟨_, _, _, rfl, h⟩
  · exact h.elim
end Y
namespace Y
open PySem PySem.Spec PyProof.Rows L2 Z
/-! ### facts of the top for the pure layer -/
def bRd (x : Str) : Frg → Bool := fun K => PySem.W.readsIn K (He.ga K x) (.type "type") && He.eqO (PySem.W.specialIn K (.ref (He.ga K x)) "__getattribute__") (some (some (.builtin "type.__getattribute__")))
theorem rd_of {K : Frg} {x : Str} (h : bRd x K = true) : ClX.CRead K (He.ga K x) (.type "type") := by
  obtain ⟨h1, h2⟩ := He.ba h
  exact ⟨h1, He.eqO_ok h2⟩
def bSM (x m : Str) : Frg → Bool := fun K => bRd x K && (He5.wrapB K (He.ga K x) "staticmethod" "staticmethod.__get__" m && PySem.W.keepIn K (.ref (He5.wf K (He.ga K x) "staticmethod" m)))
theorem sm_of {K : Frg} {x m : Str} (h : bSM x m K = true) : SMet K (He.ga K x) m (He.ma K (He.ga K x) m) (He5.wf K (He.ga K x) "staticmethod" m) := by
  obtain ⟨h1, h⟩ := He.ba h
  obtain ⟨h2, h3⟩ := He.ba h
  obtain ⟨h4, h5⟩ := He5.wrapB_ok h2
  exact ⟨rd_of h1, h4, h5, h3⟩
end Y
namespace Y
open PySem PySem.Spec PyProof.Rows L2 Z
section
variable {X : Cx} {B : Bs} {K : Frg} {ms : List Addr} {a b c e o : Expr} {es : List Expr} {ra rb rc r ro : Rd} {rt ru : RdT} {rl : RdA} {pos p0 apos : Pos} {s1 s2 : RdS}
def dModZ (x y : D) (Q : D → Prop) : Prop := match x, y with
  | .int i, .int j => j ≠ 0 ∧ Q (.int (i.fmod j))
  | _, _ => False
def dIsBl (neg : Bool) (x y : D) (Q : D → Prop) : Prop := match x, y with
  | .bl i, .bl j => Q (.bl (neg != decide (i = j)))
  | _, _ => False
def dInt1 (ds : List D) (Q : D → Prop) : Prop := match ds with
  | [.int i] => Q (.int i)
  | [.bl b] => Q (.int (if b then 1 else 0))
  | _ => False
/-! ### texts and enumerate as what a loop walks -/
end
end Y
namespace Y
open PySem PySem.Spec PyProof.Rows L2 Z
/-! ### texts of data: repr -/
mutual
def toP : D → PyData
  | .non => .none
  | .bl b => .bool b
  | .int i => .int i
  | .str s => .str s
  | .lst ds => .list (toPs ds)
  | .tup ds => .tuple (toPs ds)
  | .obj _ _ _ => .none
  | .ty _ => .none
  | .glob _ => .none
  | .tape => .none
  | .fn _ => .none
  | .dic _ _ => .dict []
  | .dpl _ _ => .none
def toPs : List D → List PyData
  | [] => []
  | d :: ds => toP d :: toPs ds
end
mutual
/-- data that repr shows: with so many items and signs at most, so deep at most -/
def shP (n : Nat) : D → Prop
  | .non => True
  | .bl _ => True
  | .int i => Sz 1900 i
  | .str s => ∀ c ∈ s.cps.toList, c < 16 ^ 8
  | .lst ds => shPs n ds
  | .tup ds => shPs n ds
  | .obj _ _ _ => False
  | .ty _ => False
  | .glob _ => False
  | .tape => False
  | .fn _ => False
  | .dic _ _ => False
  | .dpl _ _ => False
def shPs (n : Nat) : List D → Prop
  | [] => True
  | d :: ds => shP n d ∧ shPs n ds
end
def shD (d : D) : Str := (toP d).shown
theorem sz1900 {i : Int} (h : Sz 1900 i) : i.natAbs.log2 < 1920 := Nat.lt_of_lt_of_le (PySem.Flt.log2_lt_of (by decide) h) (by decide)
mutual
theorem sh_able {n : Nat} : ∀ d : D, shP n d → (toP d).showable = true
  | .non, _ => rfl
  | .bl _, _ => rfl
  | .int i, h => by
    show decide _ = true
    exact decide_eq_true (sz1900 h)
  | .str _, _ => rfl
  | .lst ds, h => sh_ables ds h
  | .tup ds, h => sh_ables ds h
  | .obj _ _ _, h => h.elim
  | .ty _, h => h.elim
  | .glob _, h => h.elim
  | .tape, h => h.elim
  | .fn _, h => h.elim
  | .dic _ _, h => h.elim
  | .dpl _ _, h => h.elim
theorem sh_ables {n : Nat} : ∀ ds : List D, shPs n ds → PyData.showableAll (toPs ds) = true
  | [], _ => rfl
  | d :: ds, h => by
    show ((toP d).showable && PyData.showableAll (toPs ds)) = true
    rw [sh_able d h.1, sh_ables ds h.2]
    rfl
end
mutual
theorem sh_short {n : Nat} : ∀ d : D, shP n d → (toP d).leavesShort 1921 = true
  | .non, _ => rfl
  | .bl _, _ => rfl
  | .int i, h => by
    show decide ((PyData.shown (.int i)).length ≤ 1921) = true
    exact decide_eq_true (int_text_len_1921 (sz1900 h))
  | .str s, h => by
    show (s.cps.toList.all fun c => decide (c < 16 ^ 8)) = true
    exact List.all_eq_true.mpr fun c hc => decide_eq_true (h c hc)
  | .lst ds, h => sh_shorts ds h
  | .tup ds, h => sh_shorts ds h
  | .obj _ _ _, h => h.elim
  | .ty _, h => h.elim
  | .glob _, h => h.elim
  | .tape, h => h.elim
  | .fn _, h => h.elim
  | .dic _ _, h => h.elim
  | .dpl _ _, h => h.elim
theorem sh_shorts {n : Nat} : ∀ ds : List D, shPs n ds → PyData.leavesShortAll 1921 (toPs ds) = true
  | [], _ => rfl
  | d :: ds, h => by
    show ((toP d).leavesShort 1921 && PyData.leavesShortAll 1921 (toPs ds)) = true
    rw [sh_short d h.1, sh_shorts ds h.2]
    rfl
end
mutual
theorem sh_nodict {n : Nat} : ∀ d : D, shP n d → (toP d).hasDict = false
  | .non, _ => rfl
  | .bl _, _ => rfl
  | .int _, _ => rfl
  | .str _, _ => rfl
  | .lst ds, h => sh_nodicts ds h
  | .tup ds, h => sh_nodicts ds h
  | .obj _ _ _, h => h.elim
  | .ty _, h => h.elim
  | .glob _, h => h.elim
  | .tape, h => h.elim
  | .fn _, h => h.elim
  | .dic _ _, h => h.elim
  | .dpl _ _, h => h.elim
theorem sh_nodicts {n : Nat} : ∀ ds : List D, shPs n ds → PyData.hasDictAll (toPs ds) = false
  | [], _ => rfl
  | d :: ds, h => by
    show ((toP d).hasDict || PyData.hasDictAll (toPs ds)) = false
    rw [sh_nodict d h.1, sh_nodicts ds h.2]
    rfl
end
section
variable {X : Cx} {B : Bs} {pins : List (Addr × Obj)} {σ : L2.St} {H F : Hp} {s : Shared} {ms : List Addr}
mutual
theorem sh_reads {n : Nat} (I : L2.Inv X pins σ H s) (hs : Same F H) : ∀ (d : D) (v : V) (u : Value), shP n d → Rp X.K ms F v d → RelV v u → ∃ as, Reads s.heap u (toP d) as
  | .non, _, u, _, r, e => by
    cases r
    obtain rfl : u = Value.none := e
    exact ⟨_, .none⟩
  | .bl b, _, u, _, r, e => by
    cases r
    obtain rfl : u = Value.bool b := e
    exact ⟨_, .bool b⟩
  | .int i, _, u, _, r, e => by
    cases r
    obtain ⟨t, rfl⟩ := (show ∃ t, u = Value.int i t from e)
    exact ⟨_, .int i t⟩
  | .str x, _, u, _, r, e => by
    cases r
    obtain ⟨t, rfl⟩ := (show ∃ t, u = Value.str x t from e)
    exact ⟨_, .str x t⟩
  | .lst ds, _, u, h, r, e => by
    cases r with
    | @lst a vs _ h1 h2 =>
      obtain rfl : u = Value.ref a := e
      obtain ⟨_, its, n, rv, hg⟩ := I.hok a _ (hs _ _ h1)
      obtain ⟨as, q⟩ := sh_readss I hs ds vs its h h2 rv
      exact ⟨_, .list hg rfl rfl (by simpa using q)⟩
  | .tup ds, _, u, h, r, e => by
    cases r with
    | @tup a vs _ h1 h2 =>
      obtain rfl : u = Value.ref a := e
      obtain ⟨its, rv, ⟨o, hg, hc, n, hd⟩, _⟩ := I.tuple (sqT hs h1)
      obtain ⟨as, q⟩ := sh_readss I hs ds vs its h h2 rv
      exact ⟨_, .tuple hg hc hd (by simpa using q)⟩
  | .obj _ _ _, _, _, h, _, _ => h.elim
  | .ty _, _, _, h, _, _ => h.elim
  | .glob _, _, _, h, _, _ => h.elim
  | .tape, _, _, h, _, _ => h.elim
  | .fn _, _, _, h, _, _ => h.elim
  | .dic _ _, _, _, h, _, _ => h.elim
  | .dpl _ _, _, _, h, _, _ => h.elim
theorem sh_readss {n : Nat} (I : L2.Inv X pins σ H s) (hs : Same F H) : ∀ (ds : List D) (vs : List V) (us : List Value), shPs n ds → Rps X.K ms F vs ds → Vals vs us → ∃ as, ReadsAll s.heap us (toPs ds) as
  | [], _, _, _, r, e => by
    cases r
    cases e
    exact ⟨_, .nil⟩
  | d :: ds, _, _, h, r, e => by
    cases r with
    | cons r1 r2 =>
      cases e with
      | cons e1 e2 =>
        obtain ⟨as, q1⟩ := sh_reads I hs d _ _ h.1 r1 e1
        obtain ⟨bs, q2⟩ := sh_readss I hs ds _ _ h.2 r2 e2
        exact ⟨_, .cons q1 q2⟩
end
/-- .. or the empty dict -/
def shT (n : Nat) (d : D) : Prop := match d with
  | .dic ks ds => ks = [] ∧ ds = []
  | d => shP n d
theorem shT.of {n : Nat} {d : D} (h : shP n d) : shT n d := by cases d <;> first | exact h | exact h.elim
end
end Y
namespace Y
open PySem PySem.Spec PyProof.Rows L2 Z
section
variable {X : Cx} {B : Bs} {K : Frg} {ms : List Addr} {a b c e o : Expr} {es : List Expr} {ra rb rc r ro : Rd} {rt ru : RdT} {rl : RdA} {pos p0 apos : Pos} {s1 s2 : RdS}
end
end Y
namespace Y
open PySem PySem.Spec PyProof.Rows L2 Z
/-! ### data that stand in the written part -/
inductive All2 {α β : Type} (f : α → β → Prop) : List α → List β → Prop
  | nil : All2 f [] []
  | cons {a : α} {b : β} {as : List α} {bs : List β} : f a b → All2 f as bs → All2 f (a :: as) (b :: bs)
theorem All2.len {α β : Type} {p : α → β → Prop} : ∀ {as : List α} {bs : List β}, All2 p as bs → as.length = bs.length
  | _, _, .nil => rfl
  | _, _, .cons _ t => by rw [List.length_cons, List.length_cons, t.len]
theorem All2.get {α β : Type} {p : α → β → Prop} : ∀ {as : List α} {bs : List β} {i : Nat} {a : α} {b : β}, All2 p as bs → as[i]? = some a → bs[i]? = some b → p a b
  | _, _, i, _, _, .nil, h, _ => by simp at h
  | _, _, 0, _, _, .cons h _, e1, e2 => by
    simp at e1 e2
    subst e1 e2
    exact h
  | _, _, i + 1, _, _, .cons _ t, e1, e2 => t.get (i := i) (by simpa using e1) (by simpa using e2)
/-- the value u of the written part bears d -/
def VD (K : Frg) (d : D) (u : Value) : Prop := ∃ v, RelV v u ∧ ∀ ms F, Rp K ms F v d
/-! ### a dict of the module with text keys -/
def EntD (K : Frg) (q : Str × D) (e : DictEntry) : Prop := (∃ t, e.key = .str q.1 t) ∧ VD K q.2 e.val
def KTab (K : Frg) (w : World) (x : Str) (tab : List (Str × D)) : Prop := ∃ es n, KDict K w (He.ga K x) es n ∧ All2 (EntD K) tab es.toList
/-- what a key finds -/
theorem ents_find {K : Frg} {z : Str} : ∀ {tab : List (Str × D)} {es : List DictEntry}, All2 (EntD K) tab es →
    (∃ d e, tab.lookup z = some d ∧ es.find? (·.key.isStr z) = some e ∧ VD K d e.val) ∨ (tab.lookup z = none ∧ es.find? (·.key.isStr z) = none ∧ es.any (·.refKey) = false)
  | _, _, .nil => .inr ⟨rfl, rfl, rfl⟩
  | q :: tab, e :: es, .cons h t => by
    obtain ⟨⟨tk, hk⟩, hv⟩ := h
    have hs : e.key.isStr z = decide (q.1 = z) := by rw [hk]; rfl
    by_cases c : q.1 = z
    · refine .inl ⟨q.2, e, ?_, ?_, hv⟩
      · rw [show (q :: tab) = (q.1, q.2) :: tab from rfl, List.lookup_cons, ← c]
        simp
      · rw [List.find?_cons, hs, decide_eq_true c]
    · have l1 : (q :: tab).lookup z = tab.lookup z := by
        rw [show (q :: tab) = (q.1, q.2) :: tab from rfl, List.lookup_cons]
        have : (z == q.1) = false := by
          rw [beq_eq_false_iff_ne]
          exact fun e => c e.symm
        rw [this]
      have l2 : (e :: es).find? (·.key.isStr z) = es.find? (·.key.isStr z) := by rw [List.find?_cons, hs, decide_eq_false c]
      rcases ents_find (z := z) t with ⟨d, e', h1, h2, h3⟩ | ⟨h1, h2, h3⟩
      · exact .inl ⟨d, e', l1.trans h1, l2.trans h2, h3⟩
      · refine .inr ⟨l1.trans h1, l2.trans h2, ?_⟩
        rw [List.any_cons, h3, Bool.or_false]
        unfold DictEntry.refKey
        rw [hk]
theorem KTab.ns {K : Frg} {w : World} {x : Str} {tab : List (Str × D)} (kt : KTab K w x tab) (z : Str) :
    (∃ d u, tab.lookup z = some d ∧ PySem.W.nsIn K (He.ga K x) z = some (some u) ∧ VD K d u) ∨ (tab.lookup z = none ∧ PySem.W.nsIn K (He.ga K x) z = some none) := by
  obtain ⟨es, n, kd, h⟩ := kt
  have e : PySem.W.nsIn K (He.ga K x) z = (match es.toList.find? (·.key.isStr z) with
      | some e => some (some e.val)
      | none => if es.toList.any (·.refKey) then none else some none) := by
    unfold PySem.W.nsIn
    rw [kd.at_]
    rfl
  rcases ents_find (z := z) h with ⟨d, e', h1, h2, h3⟩ | ⟨h1, h2, h3⟩
  · exact .inl ⟨d, e'.val, h1, by rw [e, h2], h3⟩
  · exact .inr ⟨h1, by rw [e, h2, h3]; rfl⟩
section
variable {X : Cx} {B : Bs} {K : Frg} {ms : List Addr} {a b c e o : Expr} {es : List Expr} {ra rb rc r ro : Rd} {rl : RdA} {pos p0 apos : Pos}
/-! ### d.items() -/
end
end Y
namespace Z
open PySem PySem.Spec PyProof.Rows L2
open PySem.W
section
variable {prog : Program} {w : World} {A : Around} {E : Value → Shared → Prop} {s : Shared} {K : Frg} {x C C' L f f' : Addr} {h₀ : Heap} {m : Str → Option Value} {ox : Obj} {od : Option Obj}
end
section
variable {X : Cx} {CX : CXT} {k : Nat} {f C C' p g g' : Addr} {sp : Sp} {E : XK} {x m : Str} {p0 pos apos : Pos} {e o a b : Expr} {es : List Expr} {ta tb : TE} {t : TA} {pins : List (Addr × Obj)} {σ : L2.St} {H : Hp} {s : Shared}
/-- what a op b asks of two own classes -/
structure Bin2 (K : Frg) (nm : String) (C C' g g' : Addr) : Prop where
  hr : ∃ rc, PySem.W.findIn K (.ref C) (dunderR nm) = some rc ∧ (rc = none ∨ ∃ g : Addr, rc = some (.ref g))
  hr' : ∃ rc, PySem.W.findIn K (.ref C') (dunderR nm) = some rc ∧ (rc = none ∨ ∃ g : Addr, rc = some (.ref g))
  hs' : PySem.W.findIn K (.ref C') (PySem.dunder nm) = some (some (.ref g'))
  hc : selfFirst K C = true
  hc' : selfFirst K C' = true
  hsub : subIn K (.ref C') (.ref C) = some false
  hn : C ≠ C'
/-- a op b, b of a built-in type -/
structure BinT (K : Frg) (nm : String) (C : Addr) (T : String) : Prop where
  hr : ∃ rc, PySem.W.findIn K (.ref C) (dunderR nm) = some rc ∧ (rc = none ∨ ∃ g : Addr, rc = some (.ref g))
  h1 : ∃ fo, PySem.W.findIn K (.type T) (PySem.dunder nm) = some fo
  h2 : ∃ ro, PySem.W.findIn K (.type T) (dunderR nm) = some ro
  hc : selfFirst K C = true
  hsub : subIn K (.type T) (.ref C) = some false
end
/-! ### facts -/
end Z
namespace Y
open PySem PySem.Spec PyProof.Rows L2 Z
section
variable {X : Cx} {B : Bs} {K : Frg} {ms : List Addr} {a b c e o : Expr} {es : List Expr} {ra rb rc r ro : Rd} {rt ru : RdT} {rl : RdA} {pos p0 apos : Pos} {R : RdF} {k : Nat} {f g p : Addr} {x m : Str} {s1 s2 : RdS}
end
end Y
namespace Y
open PySem PySem.Spec PyProof.Rows L2 Z
section
variable {X : Cx} {B : Bs} {K : Frg} {ms : List Addr} {a b c e o : Expr} {es : List Expr} {ra rb rc r ro : Rd} {rt ru : RdT} {rl : RdA} {pos p0 apos : Pos} {R : RdF} {k : Nat} {f g p : Addr} {x m : Str}
/-! ### f-strings -/
inductive PJp (X : Cx) (B : Bs) : List Expr → List Rd → Prop
  | nil : PJp X B [] []
  | cons {e : Expr} {r : Rd} {es : List Expr} {rs : List Rd} : PEp X B e r → PJp X B es rs → PJp X B (e :: es) (r :: rs)
/-! ### repr of an own instance -/
/-! ### a constant of a class, by the class -/
end
end Y
namespace Y
open PySem PySem.Spec PyProof.Rows L2 Z
/-! ### a comprehension of two clauses, where no slot holds a thing of its own -/
def noMu (ρ : Ev) : Prop := (ρ.all fun s => match s with | .mu _ => false | _ => true) = true
theorem noMu_get {ρ : Ev} (h : noMu ρ) (i : Nat) (m : Mo) : ρ[i]? ≠ some (.mu m) := fun e => by
  have := List.all_eq_true.mp h _ (List.mem_of_getElem? e)
  cases this
theorem Iv.again {K : Frg} {B : Bs} {F H F' H' : Hp} {σ : L2.St} {ρ : Ev} (I : Iv K B F H σ ρ) (n : noMu ρ) (s : Same F F') (g : Go B.ms B.F0 B.H0 F' H') (t : Tp K B.ms F' H') : Iv K B F' H' σ ρ :=
  ⟨g, t, I.len, fun i d e => let ⟨v, h1, h2⟩ := I.val i d e; ⟨v, h1, h2.up s⟩, fun i m e => absurd e (noMu_get n i m), fun i j m _ a _ e _ => absurd e (noMu_get n i m)⟩
def mapI2 (t t1 : Tg) (rt : RdT) (rl1 : RdA) (rt1 : RdT) (re : Rd) (vs1 : List Nat) (ρ : Ev) (ds : List D) (Q : List D → Prop) : Prop := ∃ J : Nat → List D → Prop, J 0 [] ∧
  (∀ (i : Nat) (d : D) (acc : List D), ds[i]? = some d → J i acc → tgD t d ρ fun ρ2 => noMu ρ2 ∧ rt ρ2 fun k => ifB k (rl1 ρ2 fun es => ∃ L : Nat → List D → Prop, L 0 acc ∧
    (∀ (j : Nat) (e : D) (ac : List D), es[j]? = some e → L j ac → tgD t1 e (wipeR ρ2 vs1) fun ρ3 => rt1 ρ3 fun k1 => ifB k1 (re ρ3 fun y => ac.length < 100000 ∧ L (j + 1) (ac ++ [y])) (L (j + 1) ac)) ∧ ∀ ac, L es.length ac → J (i + 1) ac) (J (i + 1) acc)) ∧ ∀ out, J ds.length out → Q out
section
variable {X : Cx} {B : Bs} {rl : RdA} {pos : Pos}
theorem wipe_wipe (σ : L2.St) (vs : List Nat) : L2.wipe (L2.wipe σ vs) vs = L2.wipe σ vs := by
  apply List.ext_getElem?
  intro j
  rw [wipe_get, L2.wipe_length, wipe_get]
  by_cases hj : j ∈ vs
  · rw [if_pos hj, if_pos hj]
  · rw [if_neg hj]
theorem lc2_of {K : Frg} {t t1 : Tg} {vs vs1 : List Nat} {rt rt1 : RdT} {rl1 : RdA} {re : Rd} (hw : ∀ i ∈ t.slots, i ∈ vs) (hw1 : ∀ i ∈ t1.slots, i ∈ vs1) (σ : L2.St) (H : Hp) (Q : VK)
    (h : tE K B (fun ρ Q => rl ρ fun ds => mapI2 t t1 rt rl1 rt1 re vs1 (wipeR ρ vs) ds fun ys => Q (.lst ys)) σ H Q) :
    tLc2 (tI K B rl) (tgV K t) (tT K B.nox rt) (tI K B.nox rl1) (tgV K t1) (tT K B.nox rt1) (tE K B.nox re) vs vs1 σ H Q := by
  obtain ⟨F, ρ, Qd, I, z, k⟩ := h
  refine ⟨F, ρ, _, I, z, fun J F1 H1 ds g1 t1' ⟨G, Yd, w, hG, hY⟩ ⟨Jw, z1, zs, zf⟩ D hD => ?_⟩
  have I1 := (I.step g1 t1').nox.wipes vs
  have dm : D ∉ B.ms := fun m => t1'.ne m hD
  have st : ∀ {F2 H2 : Hp}, Go B.ms F1 H1 F2 H2 → Tp K B.ms F2 H2 → F2 D = none → ∀ o, Go B.ms F1 H1 F2 (upd H2 D o) ∧ Tp K B.ms F2 (upd H2 D o) := fun {F2 H2} gg m fd o => by
    have p : Go [D] F2 H2 F2 (upd H2 D o) := Go.put gg.fh fd
    have p2 : Go (D :: B.ms) F2 H2 F2 (upd H2 D o) := p.sub fun a ha => by
      rcases List.mem_cons.mp ha with e | e
      · rw [e]; exact List.mem_cons_self
      · cases e
    have g2 : Go (D :: B.ms) F1 H1 F2 H2 := gg.sub fun a ha => List.mem_cons_of_mem _ ha
    exact ⟨(g2.trans p2).drop hD, t1'.put hD m p⟩
  have fd1 := same_none t1'.1 hD
  refine ⟨fun i m H' => m = ds.length - i ∧ i ≤ ds.length ∧ ∃ F' acc ys, Go B.ms F1 H1 F' H' ∧ Tp K B.ms F' H' ∧ F' D = none ∧ H' D = some (.lst acc) ∧ Rps K B.ms F' acc ys ∧ Jw i ys, ⟨_, rfl, Nat.zero_le _, F1, [], [], (st (Go.refl t1'.1) t1' fd1 _).1, (st (Go.refl t1'.1) t1' fd1 _).2, fd1, upd_same, .nil, z1⟩, ?_⟩
  rintro i m H2 ⟨rfl, hi, F2, acc, ys, g2, t2, fd, hd, hr, hj⟩
  have hg := hG F2 H2 g2.ff g2.fh
  by_cases hlt : i < ds.length
  · refine .inr ⟨w.goes i H2 hlt hg, fun H' => ∃ F' acc ys, Go B.ms F1 H1 F' H' ∧ Tp K B.ms F' H' ∧ F' D = none ∧ H' D = some (.lst acc) ∧ Rps K B.ms F' acc ys ∧ Jw (i + 1) ys, fun H' p => ⟨_, by omega, rfl, hlt, p⟩, fun x H2' y => ?_⟩
    have hd1 := List.getElem?_eq_getElem hlt
    have zz := zs i ds[i] ys hd1 hj
    obtain ⟨F3, g3, r3⟩ := hY i F2 H2 x H2' ds[i] g2.ff g2.fh (w.yields i H2 x H2' hlt hg y) hd1
    have I2 := (I1.step g2 t2).step0 g3
    have t3 := t2.go0 g3
    obtain ⟨fd3, hd3⟩ := g3.mu D _ (fun z => nomatch z) fd hd
    have q := tg_wipe (K := K) (v := x) (σ := L2.wipe σ vs) (H := H2') (Q := fun σ2 H2 => tT K B.nox rt σ2 H2 fun b H3 => if b = true then tI K B.nox rl1 σ2 H3 fun J1 H4 => ∃ W1 : Nat → Nat → Hp → Prop, (∃ m, W1 0 m H4) ∧ ∀ j k H, W1 j k H →
      (J1.stop j H ∧ ∃ F' acc ys, Go B.ms F1 H1 F' H ∧ Tp K B.ms F' H ∧ F' D = none ∧ H D = some (.lst acc) ∧ Rps K B.ms F' acc ys ∧ Jw (i + 1) ys) ∨ (J1.go j H ∧ ∃ Nx1 : Hp → Prop, (∀ H', Nx1 H' → ∃ k', k' < k ∧ W1 (j + 1) k' H') ∧ ∀ x H', J1.yld j H x H' → tgV K t1 x (L2.wipe σ2 vs1) H' fun σ3 H5 => L2.wipe σ3 vs1 = L2.wipe σ2 vs1 ∧ tT K B.nox rt1 σ3 H5 fun b H6 =>
        if b = true then tE K B.nox re σ3 H6 fun y H7 => ∃ acc, H7 D = some (.lst acc) ∧ acc.length < sizeLine ∧ Nx1 (upd H7 D (.lst (acc ++ [y]))) else Nx1 H6)
      else ∃ F' acc ys, Go B.ms F1 H1 F' H3 ∧ Tp K B.ms F' H3 ∧ F' D = none ∧ H3 D = some (.lst acc) ∧ Rps K B.ms F' acc ys ∧ Jw (i + 1) ys) hw (tg_run I2 r3 zz fun σ4 ρ4 I4 ⟨nm, z4⟩ => by
      refine ⟨F3, ρ4, _, I4, z4, fun b F5 H5 g5 t5 z5 => ?_⟩
      obtain ⟨fd5, hd5⟩ := g5.mu D _ dm fd3 hd3
      have g25 : Go B.ms F1 H1 F5 H5 := (g2.trans g3.nil).trans g5
      cases b with
      | false => exact ⟨F5, acc, ys, g25, t5, fd5, hd5, (hr.up g3.ff).up g5.ff, ifB_f z5⟩
      | true =>
        refine ⟨F5, ρ4, _, I4.step g5 t5, ifB_t z5, fun J1 F6 H6 es g6 t6 ⟨G1, Y1, w1, hG1, hY1⟩ ⟨L, l0, ls, lf⟩ => ?_⟩
        obtain ⟨fd6, hd6⟩ := g6.mu D _ dm fd5 hd5
        have g26 : Go B.ms F1 H1 F6 H6 := g25.trans g6
        have I6 := (I4.step g5 t5).step g6 t6
        refine ⟨fun j k H' => k = es.length - j ∧ j ≤ es.length ∧ ∃ F' ac zs, Same F6 F' ∧ Go B.ms F1 H1 F' H' ∧ Tp K B.ms F' H' ∧ F' D = none ∧ H' D = some (.lst ac) ∧ Rps K B.ms F' ac zs ∧ L j zs, ⟨_, rfl, Nat.zero_le _, F6, acc, ys, Same.refl _, g26, t6, fd6, hd6, ((hr.up g3.ff).up g5.ff).up g6.ff, l0⟩, ?_⟩
        rintro j k H7 ⟨rfl, hjl, F7, ac, zs7, s7, g7, t7, fd7, hd7, hr7, hl7⟩
        have hg7 := hG1 F7 H7 s7 g7.fh
        by_cases hlt1 : j < es.length
        · refine .inr ⟨w1.goes j H7 hlt1 hg7, fun H' => ∃ F' ac zs, Same F6 F' ∧ Go B.ms F1 H1 F' H' ∧ Tp K B.ms F' H' ∧ F' D = none ∧ H' D = some (.lst ac) ∧ Rps K B.ms F' ac zs ∧ L (j + 1) zs, fun H' p => ⟨_, by omega, rfl, hlt1, p⟩, fun x7 H7' y7 => ?_⟩
          have he1 := List.getElem?_eq_getElem hlt1
          have zz7 := ls j es[j] zs7 he1 hl7
          obtain ⟨F8, g8, r8⟩ := hY1 j F7 H7 x7 H7' es[j] s7 g7.fh (w1.yields j H7 x7 H7' hlt1 hg7 y7) he1
          obtain ⟨fd8, hd8⟩ := g8.mu D _ (fun z => nomatch z) fd7 hd7
          have t8 := t7.go0 g8
          have g18 : Go B.ms F1 H1 F8 H7' := g7.trans g8.nil
          have I8 : Iv K B.nox F8 H7' (L2.wipe σ4 vs1) (wipeR ρ4 vs1) := (I6.again nm (s7.trans g8.ff) (((I.go.trans g1).trans g7).trans g8.nil) t8).wipes vs1
          have q2 := tg_wipe (K := K) (v := x7) (σ := L2.wipe σ4 vs1) (H := H7') (Q := fun σ3 H5 => tT K B.nox rt1 σ3 H5 fun b H6 => if b = true then tE K B.nox re σ3 H6 fun y H7 => ∃ acc, H7 D = some (.lst acc) ∧ acc.length < sizeLine ∧ (∃ F' ac zs, Same F6 F' ∧ Go B.ms F1 H1 F' (upd H7 D (.lst (acc ++ [y]))) ∧ Tp K B.ms F' (upd H7 D (.lst (acc ++ [y]))) ∧ F' D = none ∧ (upd H7 D (.lst (acc ++ [y]))) D = some (.lst ac) ∧ Rps K B.ms F' ac zs ∧ L (j + 1) zs)
            else ∃ F' ac zs, Same F6 F' ∧ Go B.ms F1 H1 F' H6 ∧ Tp K B.ms F' H6 ∧ F' D = none ∧ H6 D = some (.lst ac) ∧ Rps K B.ms F' ac zs ∧ L (j + 1) zs) hw1 (tg_run I8 r8 zz7 fun σ9 ρ9 I9 z9 => by
            refine ⟨F8, ρ9, _, I9, z9, fun b F10 H10 g10 t10 z10 => ?_⟩
            obtain ⟨fd10, hd10⟩ := g10.mu D _ dm fd8 hd8
            cases b with
            | false => exact ⟨F10, ac, zs7, (s7.trans g8.ff).trans g10.ff, g18.trans g10, t10, fd10, hd10, (hr7.up g8.ff).up g10.ff, ifB_f z10⟩
            | true =>
              refine ⟨F10, ρ9, _, I9.step g10 t10, ifB_t z10, fun v F11 H11 d g11 t11 r11 z11 => ?_⟩
              obtain ⟨fd11, hd11⟩ := g11.mu D _ dm fd10 hd10
              have hr11 := ((hr7.up g8.ff).up g10.ff).up g11.ff
              obtain ⟨a1, a2⟩ := st ((g18.trans g10).trans g11) t11 fd11 (.lst (ac ++ [v]))
              exact ⟨ac, hd11, by rw [hr11.len]; exact Nat.lt_of_lt_of_le z11.1 line_ge, F11, ac ++ [v], zs7 ++ [d], ((s7.trans g8.ff).trans g10.ff).trans g11.ff, a1, a2, fd11, upd_same, hr11.app (.one r11), z11.2⟩)
          rw [wipe_wipe] at q2
          exact q2
        · have e : j = es.length := by omega
          subst e
          exact .inl ⟨w1.stops H7 hg7, F7, ac, zs7, g7, t7, fd7, hd7, hr7, lf _ hl7⟩)
    rw [wipe_wipe] at q
    exact q
  · have e : i = ds.length := by omega
    subst e
    refine .inl ⟨w.stops H2 hg, ?_⟩
    have p : Go [D] F2 H2 (upd F2 D (.lst acc)) H2 := Go.freeze g2.fh fd hd
    have p2 : Go (D :: B.ms) F2 H2 (upd F2 D (.lst acc)) H2 := p.sub fun a ha => by
      rcases List.mem_cons.mp ha with e | e
      · rw [e]; exact List.mem_cons_self
      · cases e
    have g12 : Go B.ms F1 H1 (upd F2 D (.lst acc)) H2 := ((g2.sub (ms' := D :: B.ms) fun a ha => List.mem_cons_of_mem _ ha).trans p2).drop hD
    exact k _ _ H2 _ (g1.trans g12) (t1'.put hD t2 p) (.lst upd_same (hr.up p.ff)) (zf _ hj)
theorem y_lc2 {elt tg iter tg1 iter1 : Expr} {ifs ifs1 : List Expr} {scope : Scope} {own : List (Str × Nat)} {vs1 : List Nat} {t t1 : Tg} {rt rt1 : RdT} {rl1 : RdA} {re : Rd} (hc : X.calm = true) (hN : X.N.Nodup) (hi : PIp X B tg iter rl) (ok : BlkOk X.N X.env.scope scope own) (hv : ∀ i ∈ vs1, i ∈ own.map (·.2))
    (hg : ∀ (s : Shared) (H : Hp) (C : Addr) (cl : List (Str × Addr)) (fp : List Addr), PG (X.blk s H scope (compEnvC scope cl C X.env) fp) tg (tgV X.K t)) (ht : ∀ (s : Shared) (H : Hp) (C : Addr) (cl : List (Str × Addr)) (fp : List Addr), PTs (X.blk s H scope (compEnvC scope cl C X.env) fp) ifs (tT X.K B.nox rt))
    (hi1 : ∀ (s : Shared) (H : Hp) (C : Addr) (cl : List (Str × Addr)) (fp : List Addr), PIp (X.blk s H scope (compEnvC scope cl C X.env) fp) B.nox tg1 iter1 rl1)
    (hg1 : ∀ (s : Shared) (H : Hp) (C : Addr) (cl : List (Str × Addr)) (fp : List Addr), PG (X.blk s H scope (compEnvC scope cl C X.env) fp) tg1 (tgV X.K t1)) (ht1 : ∀ (s : Shared) (H : Hp) (C : Addr) (cl : List (Str × Addr)) (fp : List Addr), PTs (X.blk s H scope (compEnvC scope cl C X.env) fp) ifs1 (tT X.K B.nox rt1))
    (he : ∀ (s : Shared) (H : Hp) (C : Addr) (cl : List (Str × Addr)) (fp : List Addr), PEp (X.blk s H scope (compEnvC scope cl C X.env) fp) B.nox elt re) (hw : ∀ i ∈ t.slots, i ∈ own.map (·.2) := by decide) (hw1 : ∀ i ∈ t1.slots, i ∈ vs1 := by decide) (hs : ∀ x, foldedSetIterable iter X.env x = pure x := by intro _; rfl) (hs1 : ∀ env x, foldedSetIterable iter1 env x = pure x := by intro _ _; rfl) :
    PEp X B (.ListComp elt [⟨tg, iter, ifs, 0⟩, ⟨tg1, iter1, ifs1, 0⟩] scope pos) (fun ρ Q => rl ρ fun ds => mapI2 t t1 rt rl1 rt1 re vs1 (wipeR ρ (own.map (·.2))) ds fun ys => Q (.lst ys)) :=
  pe_imp (pe_lc2 (wi1 := tI X.K B.nox rl1) (te := tE X.K B.nox re) hc hN hi ok hv hg ht hi1 hg1 ht1 he hs hs1) (lc2_of hw hw1)
end
end Y
/-! ### enumerate of a tuple -/
namespace PySem
section
variable {prog : Program} {w : World} {A : Around} {E : Value → Shared → Prop} {s : Shared}
end
end PySem
namespace Y
open PySem PySem.Spec PyProof.Rows L2 Z
section
variable {X : Cx} {B : Bs} {K : Frg} {ms : List Addr} {a b c e o : Expr} {es : List Expr} {ra rb rc r ro : Rd} {rt ru : RdT} {rl : RdA} {pos p0 apos : Pos} {R : RdF} {k : Nat} {f g p : Addr} {x m : Str}
end
end Y
namespace Z
open PySem PySem.Spec PyProof.Rows L2
/-! ### one keyword -/
section
variable {P : Program} {w : World} {K : Frg} {mg : Str → Option Value} {base : Heap}
end
section
variable {X : Cx} {CX : CXT} {k : Nat} {f C : Addr} {sp : Sp} {E : XK} {kn : Str} {pins : List (Addr × Obj)} {σ : L2.St} {H : Hp} {s : Shared}
end
end Z
namespace Y
open PySem PySem.Spec PyProof.Rows L2 Z
section
variable {P : Program} {w : World} {K : Frg} {mg : Str → Option Value} {base : Heap}
end
section
variable {X : Cx} {B : Bs} {K : Frg} {ms : List Addr} {a b c e o e2 : Expr} {es : List Expr} {ra rb rc r ro r2 : Rd} {rt ru : RdT} {rl : RdA} {pos p0 apos kpos : Pos} {R : RdF} {k : Nat} {f g p : Addr} {x m : Str}
/-! ### o[i], len(o) of own instances -/
/-! ### isinstance(x, (T1, T2)) -/
end
end Y
namespace Y
open PySem PySem.Spec PyProof.Rows L2 Z
/-! ### data without tapes -/
mutual
def noT : D → Bool
  | .lst ds => noTs ds
  | .tup ds => noTs ds
  | .obj _ _ ds => noTs ds
  | .dic _ ds => noTs ds
  | .dpl _ ds => noTs ds
  | .tape => false
  | _ => true
def noTs : List D → Bool
  | [] => true
  | d :: ds => noT d && noTs ds
end
section
variable {K : Frg} {ms ms' : List Addr} {F : Hp}
mutual
theorem Rp.noT : ∀ (d : D) (v : V), noT d = true → Rp K ms F v d → Rp K ms' F v d
  | .non, _, _, h => by cases h; exact .non
  | .bl b, _, _, h => by cases h; exact .bl b
  | .int i, _, _, h => by cases h; exact .int i
  | .str x, _, _, h => by cases h; exact .str x
  | .ty x, _, _, h => by cases h; exact .ty x
  | .glob x, _, _, h => by cases h; exact .glob x
  | .tape, _, n, _ => by cases n
  | .fn a, _, _, h => by cases h; exact .fn a
  | .lst ds, _, n, h => by cases h with | lst h1 h2 => exact .lst h1 (Rps.noT ds _ n h2)
  | .tup ds, _, n, h => by cases h with | tup h1 h2 => exact .tup h1 (Rps.noT ds _ n h2)
  | .obj c ns ds, _, n, h => by cases h with | obj h1 h2 h3 => exact .obj h1 h2 (Rps.noT ds _ n h3)
  | .dic ks ds, _, n, h => by cases h with | dic h1 h2 h3 => exact .dic h1 h2 (Rps.noT ds _ n h3)
  | .dpl ks ds, _, n, h => by cases h with | dpl h1 h2 h3 h4 h5 h6 h7 => exact .dpl h1 h2 h3 h4 h5 h6 (Rps.noT ds _ n h7)
theorem Rps.noT : ∀ (ds : List D) (vs : List V), noTs ds = true → Rps K ms F vs ds → Rps K ms' F vs ds
  | [], _, _, h => by cases h; exact .nil
  | d :: ds, _, n, h => by
    obtain ⟨n1, n2⟩ := He.ba (show (Y.noT d && noTs ds) = true from n)
    cases h with | cons h1 h2 => exact .cons (Rp.noT d _ n1 h1) (Rps.noT ds _ n2 h2)
end
end
/-! ### a def that gives a new list -/
section
variable {X : Cx} {B : Bs} {a b c e o : Expr} {es : List Expr} {ra rb rc r ro : Rd} {rt ru : RdT} {rl : RdA} {pos p0 apos : Pos} {R : RdF} {k : Nat} {f C g p : Addr} {x m : Str}
end
section
variable {P : Program} {w : World} {K : Frg} {mg : Str → Option Value} {base : Heap}
end
end Y
namespace Y
open PySem PySem.Spec PyProof.Rows L2 Z
/-! ### o.m.append(c), where o.m is a new list -/
section
variable {X : Cx} {B : Bs} {a b c e o : Expr} {r ro : Rd} {pos p0 apos cpos xpos : Pos} {R : RdF} {k : Nat} {f C g p : Addr} {x m : Str}
/-! ### join of lists and tuples -/
end
section
variable {P : Program} {w : World} {K : Frg} {mg : Str → Option Value} {base : Heap}
end
/-! ### str of an int -/
/-! ### facts -/
end Y
namespace Y
open PySem PySem.Spec PyProof.Rows L2 Z
/-! ### own dicts whose keys are tuples of ints -/
def lookI (kvs : List (List Int × D)) (k : List Int) : Option D := (kvs.find? fun kv => decide (kv.1 = k)).map (·.2)
def putI (kvs : List (List Int × D)) (k : List Int) (d : D) : List (List Int × D) := if (lookI kvs k).isSome then kvs.map (fun kv => if kv.1 = k then (kv.1, d) else kv) else kvs ++ [(k, d)]
def putX (xs : List (List Int × Addr × Value)) (k : List Int) (b : Addr) (u : Value) : List (List Int × Addr × Value) := if (xs.any fun x => decide (x.1 = k)) then xs.map (fun x => if x.1 = k then (x.1, x.2.1, u) else x) else xs ++ [(k, b, u)]
theorem any_find (xs : List (List Int × Addr × Value)) (k : List Int) : ((xs.find? fun x => decide (x.1 = k)).map (·.2)).isSome = xs.any fun x => decide (x.1 = k) := by
  rw [Option.isSome_map]
  induction xs with
  | nil => rfl
  | cons x xs ih =>
    rw [List.any_cons]
    by_cases e : x.1 = k
    · rw [List.find?_cons_of_pos (by exact decide_eq_true e), decide_eq_true e]; rfl
    · rw [List.find?_cons_of_neg (by simpa using e), decide_eq_false e, ih]; rfl
section
variable {K : Frg} {ms : List Addr} {F : Hp}
theorem DRl.len {kvs : List (List Int × D)} {xs : List (List Int × Addr × Value)} (h : DRl K ms F kvs xs) : kvs.length = xs.length := by
  induction h with
  | nil => rfl
  | cons _ _ _ _ ih => rw [List.length_cons, List.length_cons, ih]
theorem DRl.look {kvs : List (List Int × D)} {xs : List (List Int × Addr × Value)} (h : DRl K ms F kvs xs) (k : List Int) : (lookI kvs k = none ∧ xs.find? (fun x => decide (x.1 = k)) = none) ∨ ∃ d x v, lookI kvs k = some d ∧ xs.find? (fun x => decide (x.1 = k)) = some x ∧ RelV v x.2.2 ∧ Rp K ms F v d := by
  induction h with
  | nil => exact .inl ⟨rfl, rfl⟩
  | @cons k' b u v d kvs xs h1 h2 h3 _ ih =>
    by_cases e : k' = k
    · refine .inr ⟨d, (k', b, u), v, ?_, ?_, h2, h3⟩
      · unfold lookI; rw [List.find?_cons_of_pos (by exact decide_eq_true e)]; rfl
      · rw [List.find?_cons_of_pos (by exact decide_eq_true e)]
    · have e1 : lookI ((k', d) :: kvs) k = lookI kvs k := by unfold lookI; rw [List.find?_cons_of_neg (by simpa using e)]
      have e2 : ((k', b, u) :: xs).find? (fun x => decide (x.1 = k)) = xs.find? (fun x => decide (x.1 = k)) := by rw [List.find?_cons_of_neg (by simpa using e)]
      rw [e1, e2]
      exact ih
theorem DRl.some {kvs : List (List Int × D)} {xs : List (List Int × Addr × Value)} (h : DRl K ms F kvs xs) (k : List Int) : (lookI kvs k).isSome = xs.any fun x => decide (x.1 = k) := by
  rw [← any_find, Option.isSome_map]
  rcases h.look k with ⟨e1, e2⟩ | ⟨d, x, v, e1, e2, _⟩
  · rw [e1, e2]; rfl
  · rw [e1, e2]; rfl
theorem DRl.app {kvs kvs' : List (List Int × D)} {xs xs' : List (List Int × Addr × Value)} (h : DRl K ms F kvs xs) (h' : DRl K ms F kvs' xs') : DRl K ms F (kvs ++ kvs') (xs ++ xs') := by
  induction h with
  | nil => exact h'
  | cons a b c _ ih => exact .cons a b c ih
theorem DRl.mapPut {kvs : List (List Int × D)} {xs : List (List Int × Addr × Value)} {k : List Int} {u : Value} {v : V} {d : D} (h : DRl K ms F kvs xs) (hu : RelV v u) (hd : Rp K ms F v d) : DRl K ms F (kvs.map fun kv => if kv.1 = k then (kv.1, d) else kv) (xs.map fun x => if x.1 = k then (x.1, x.2.1, u) else x) := by
  induction h with
  | nil => exact .nil
  | @cons k' b' u' v' d' kvs xs h1 h2 h3 _ ih =>
    rw [List.map_cons, List.map_cons]
    by_cases e : k' = k
    · rw [if_pos e, if_pos e]
      exact .cons h1 hu hd ih
    · rw [if_neg e, if_neg e]
      exact .cons h1 h2 h3 ih
theorem DRl.put {kvs : List (List Int × D)} {xs : List (List Int × Addr × Value)} (h : DRl K ms F kvs xs) {k : List Int} {b : Addr} {u : Value} {v : V} {d : D} (hb : SqT K F b (k.map V.int)) (hu : RelV v u) (hd : Rp K ms F v d) : DRl K ms F (putI kvs k d) (putX xs k b u) := by
  unfold putI putX
  rw [h.some k]
  split
  · exact h.mapPut hu hd
  · exact h.app (.cons hb hu hd .nil)
end
section
variable {X : Cx} {B : Bs} {pins : List (Addr × Obj)} {σ : L2.St} {H F : Hp} {s : Shared}
end
/-! ### the rules -/
section
variable {X : Cx} {B : Bs} {e ev : Expr} {r rv : Rd} {pos p0 pv pos' tpos : Pos} {x : Str} {i k : Nat}
end
end Y
namespace Y
open PySem PySem.Spec PyProof.Rows L2 Z
/-! ### own lists: pop, + , != [] -/
theorem Rps.last {K : Frg} {ms : List Addr} {F : Hp} : ∀ {vs : List V} {ds : List D}, Rps K ms F vs ds → Rps K ms F vs.dropLast ds.dropLast
  | _, _, .nil => .nil
  | _, _, .cons h .nil => .nil
  | _, _, .cons h (.cons h1 h2) => .cons h (Rps.last (.cons h1 h2))
section
variable {X : Cx} {B : Bs} {a b c e o : Expr} {ra rb r ro : Rd} {pos p0 apos cpos pv pos' lp : Pos} {x y : Str} {i j k : Nat}
end
end Y
namespace Y
open PySem PySem.Spec PyProof.Rows L2 Z
/-! ### a class and a subclass of it, with one == -/
structure Two (K : Frg) (C C' g : Addr) : Prop where
  s1 : PySem.W.findIn K (.ref C) "__eq__" = some (some (.ref g))
  s2 : PySem.W.findIn K (.ref C') "__eq__" = some (some (.ref g))
  fn : PySem.W.isFn K (.ref g) = true
  n1 : PySem.W.findIn K (.ref C) "__ne__" = some (some (.builtin "object.__ne__"))
  n2 : PySem.W.findIn K (.ref C') "__ne__" = some (some (.builtin "object.__ne__"))
  o1 : PySem.W.mroIn K C (.type "object") = some true
  o2 : PySem.W.mroIn K C' (.type "object") = some true
  su : PySem.W.subIn K (.ref C') (.ref C) = some true
  nf : PySem.W.notFirst K C' (.ref C) = true
  ne : C ≠ C'
def bKt (x y : Str) (b : Bool) : Frg → Bool := fun K => decide (PySem.W.kitOne K (.ref (He.ga K x)) (.ref (He.ga K y)) = some b)
theorem kt_of {K : Frg} {x y : Str} {b : Bool} (h : bKt x y b K = true) : PySem.W.kitOne K (.ref (He.ga K x)) (.ref (He.ga K y)) = some b := of_decide_eq_true h
section
variable {X : Cx} {CX : CXT} {k : Nat} {g C C' : Addr} {sp : Sp} {E : XK}
end
section
variable {K : Frg} {B : Bs} {R : RdF}
end
section
variable {X : Cx} {B : Bs} {K : Frg} {ms : List Addr} {a b c e o e2 : Expr} {es : List Expr} {ra rb rc r ro r2 : Rd} {rt ru : RdT} {rl : RdA} {pos p0 apos kpos : Pos} {R : RdF} {k : Nat} {f g p : Addr} {x m : Str}
/-! ### o[i], len(o), repr(o) of instances of some classes with one method -/
end
end Y
namespace Z
open PySem PySem.Spec PyProof.Rows L2
open PySem.W
section
variable {prog : Program} {w : World} {A : Around} {E : Value → Shared → Prop} {s : Shared} {K : Frg} {x C C' L f f' : Addr} {h₀ : Heap} {m : Str → Option Value} {ox : Obj} {od : Option Obj} {T : String}
end
section
variable {X : Cx} {CX : CXT} {k : Nat} {f C C' p g g' : Addr} {sp : Sp} {E : XK} {T : String}
end
end Z
namespace Y
open PySem PySem.Spec PyProof.Rows L2 Z
section
variable {X : Cx} {B : Bs} {K : Frg} {R : RdF}
end
end Y
namespace GX
open PySem
/-! ### a run that never wakes a generator leaves it as it was -/
theorem no_run {M : Model} {w : String} {Γ : Ctx} {p : Pos} {fs : List Frame} {s s' : Shared} {e : End} (h : Runs M Γ p (.unsupported w) fs s e s') : False := by
  generalize ht : (Sem.unsupported w : Sem Fin) = t at h
  induction h with
  | segRet _ _ ih _ => exact ih ht
  | segGen _ _ ih _ => exact ih ht
  | segSuspOut _ _ ih => exact ih ht
  | segSuspGen _ _ _ _ ih _ => exact ih ht
  | _ => cases ht
theorem split_ret {k : Result → Sem Fin} {h : Option Value} {g : Bool} {l : List Value} {c : Code} {p : Pos} {kp : List Value} {fs : List Frame} (q : splitAtGen (.ret k h g l c p kp :: fs) = none) : splitAtGen fs = none := by
  unfold splitAtGen at q
  simpa using q
theorem split_app : ∀ {fs gs : List Frame}, splitAtGen fs = none → splitAtGen gs = none → splitAtGen (fs ++ gs) = none
  | [], _, _, h => h
  | .ret k hh g l c p kp :: fs, gs, q, h => by
    have := split_app (split_ret q) h
    show splitAtGen (.ret k hh g l c p kp :: (fs ++ gs)) = none
    unfold splitAtGen
    simpa using this
  | .gen .. :: fs, gs, q, _ => by unfold splitAtGen at q; cases q
def GOk : GenState → Prop
  | .suspended _ _ _ _ fs _ => splitAtGen fs = none
  | _ => True
def EOk : End → Prop
  | .susp _ _ _ _ _ _ fs => splitAtGen fs = none
  | _ => True
theorem EOk.gen {e : End} (h : EOk e) : GOk e.genState := by
  cases e with
  | ret _ => trivial
  | susp => exact h
def IsDead (d : GenState) : Prop := ∃ l c p fs cl, d = .suspended (fun _ => .unsupported "dead") l c p fs cl
/-- what a run sees, and what truly stands there -/
inductive Pr : GenState → GenState → Prop
  | same (x : GenState) : GOk x → Pr x x
  | dead {l l' : List Value} {c : Code} {p : Pos} {fs fs' : List Frame} {cl : Bool} {k : Resume → Sem Fin} : splitAtGen fs = none → fs.map Frame.where_ = fs'.map Frame.where_ → Pr (.suspended (fun _ => .unsupported "dead") l c p fs cl) (.suspended k l' c p fs' cl)
theorem Pr.seen {x y : GenState} (h : Pr x y) : x.seen = y.seen := by
  cases h with
  | same => rfl
  | dead _ e => show (GenStatus.suspended, some (_ :: _)) = (GenStatus.suspended, some (_ :: _)); rw [e]
structure Rl (D L : Array GenState) : Prop where
  sz : D.size = L.size
  pr : ∀ (i : Nat) (d y : GenState), D[i]? = some d → L[i]? = some y → Pr d y
def Kept (D L D' L' : Array GenState) : Prop := ∀ (i : Nat) (d y : GenState), D[i]? = some d → L[i]? = some y → IsDead d → D'[i]? = some d ∧ L'[i]? = some y
theorem Kept.refl (D L : Array GenState) : Kept D L D L := fun _ _ _ h1 h2 _ => ⟨h1, h2⟩
theorem Kept.trans {D L D1 L1 D2 L2 : Array GenState} (a : Kept D L D1 L1) (b : Kept D1 L1 D2 L2) : Kept D L D2 L2 := fun i d y h1 h2 h3 => let ⟨x1, x2⟩ := a i d y h1 h2 h3; b i d y x1 x2 h3
theorem Rl.get {D L : Array GenState} (h : Rl D L) {i : Nat} {d : GenState} (e : D[i]? = some d) : ∃ y, L[i]? = some y ∧ Pr d y := by
  have hi : i < D.size := by
    rcases Nat.lt_or_ge i D.size with z | z
    · exact z
    · rw [Array.getElem?_eq_none z] at e; cases e
  have hl : i < L.size := by rw [← h.sz]; exact hi
  exact ⟨L[i], Array.getElem?_eq_getElem hl, h.pr i d _ e (Array.getElem?_eq_getElem hl)⟩
theorem Rl.set {D L : Array GenState} (h : Rl D L) (g : Nat) {x : GenState} (hx : GOk x) : Rl (D.setIfInBounds g x) (L.setIfInBounds g x) := by
  refine ⟨by simp [h.sz], fun i d y e1 e2 => ?_⟩
  rw [Array.getElem?_setIfInBounds] at e1 e2
  by_cases hg : g = i
  · subst hg
    rw [if_pos rfl] at e1 e2
    split at e1
    · split at e2
      · cases e1; cases e2; exact .same _ hx
      · cases e2
    · cases e1
  · rw [if_neg hg] at e1 e2
    exact h.pr i d y e1 e2
theorem Kept.set {D L : Array GenState} {g : Nat} {d0 x x' : GenState} (e : D[g]? = some d0) (hd : ¬ IsDead d0) : Kept D L (D.setIfInBounds g x) (L.setIfInBounds g x') := fun i d y h1 h2 h3 => by
  have hg : g ≠ i := fun z => by subst z; rw [e] at h1; cases h1; exact hd h3
  rw [Array.getElem?_setIfInBounds, Array.getElem?_setIfInBounds, if_neg hg, if_neg hg]
  exact ⟨h1, h2⟩
/-- the same, in two steps: what was not dead at first may be set again -/
theorem Kept.set2 {D L D1 L1 : Array GenState} {g : Nat} {d0 x x' : GenState} (k : Kept D L D1 L1) (e : D[g]? = some d0) (hd : ¬ IsDead d0) : Kept D L (D1.setIfInBounds g x) (L1.setIfInBounds g x') := fun i d y h1 h2 h3 => by
  have hg : g ≠ i := fun z => by subst z; rw [e] at h1; cases h1; exact hd h3
  rw [Array.getElem?_setIfInBounds, Array.getElem?_setIfInBounds, if_neg hg, if_neg hg]
  exact k i d y h1 h2 h3
theorem Rl.push {D L : Array GenState} (h : Rl D L) (c : Code) : Rl (D.push (.fresh c)) (L.push (.fresh c)) := by
  refine ⟨by simp [h.sz], fun i d y e1 e2 => ?_⟩
  rw [Array.getElem?_push] at e1 e2
  rw [← h.sz] at e2
  split at e1
  · rename_i hi
    rw [if_pos hi] at e2
    cases e1; cases e2
    exact .same _ trivial
  · rename_i hi
    rw [if_neg hi] at e2
    exact h.pr i d y e1 e2
theorem Kept.push {D L : Array GenState} {x y : GenState} : Kept D L (D.push x) (L.push y) := fun i d z h1 h2 _ => by
  have a : i < D.size := by
    rcases Nat.lt_or_ge i D.size with q | q
    · exact q
    · rw [Array.getElem?_eq_none q] at h1; cases h1
  have b : i < L.size := by
    rcases Nat.lt_or_ge i L.size with q | q
    · exact q
    · rw [Array.getElem?_eq_none q] at h2; cases h2
  rw [Array.getElem?_push, if_neg (by omega), Array.getElem?_push, if_neg (by omega)]
  exact ⟨h1, h2⟩
theorem Pr.fresh {c : Code} {y : GenState} (h : Pr (.fresh c) y) : y = .fresh c := by cases h; rfl
theorem Pr.running {y : GenState} (h : Pr .running y) : y = .running := by cases h; rfl
theorem Pr.finished {y : GenState} (h : Pr .finished y) : y = .finished := by cases h; rfl
theorem nd_fresh {c : Code} : ¬ IsDead (.fresh c) := fun ⟨_, _, _, _, _, h⟩ => by cases h
theorem runs_lift {M : Model} {Γ : Ctx} {p : Pos} {t : Sem Fin} {fs : List Frame} {s s' : Shared} {e : End} (h : Runs M Γ p t fs s e s') (hf : splitAtGen fs = none) :
    ∀ L, Rl s.gens L → ∃ L', Rl s'.gens L' ∧ Kept s.gens L s'.gens L' ∧ EOk e ∧ Runs M Γ p t fs { s with gens := L } e { s' with gens := L' } := by
  induction h with
  | done => exact fun L h => ⟨L, h, .refl _ _, trivial, .done⟩
  | raise => exact fun L h => ⟨L, h, .refl _ _, trivial, .raise⟩
  | again q _ ih => intro L h; obtain ⟨L', a, b, c, d⟩ := ih rfl L h; exact ⟨L', a, b, c, .again q d⟩
  | rule _ ih => intro L h; obtain ⟨L', a, b, c, d⟩ := ih rfl L h; exact ⟨L', a, b, c, .rule d⟩
  | «at» _ ih => intro L h; obtain ⟨L', a, b, c, d⟩ := ih rfl L h; exact ⟨L', a, b, c, .at d⟩
  | load q _ ih => intro L h; obtain ⟨L', a, b, c, d⟩ := ih rfl L h; exact ⟨L', a, b, c, .load q d⟩
  | update q _ ih => intro L h; obtain ⟨L', a, b, c, d⟩ := ih rfl L h; exact ⟨L', a, b, c, .update q d⟩
  | loadIfAlive _ ih => intro L h; obtain ⟨L', a, b, c, d⟩ := ih rfl L h; exact ⟨L', a, b, c, .loadIfAlive d⟩
  | point _ ih => intro L h; obtain ⟨L', a, b, c, d⟩ := ih rfl L h; exact ⟨L', a, b, c, .point d⟩
  | alloc _ ih => intro L h; obtain ⟨L', a, b, c, d⟩ := ih rfl L h; exact ⟨L', a, b, c, .alloc d⟩
  | fresh _ ih => intro L h; obtain ⟨L', a, b, c, d⟩ := ih rfl L h; exact ⟨L', a, b, c, .fresh d⟩
  | ask _ ih => intro L h; obtain ⟨L', a, b, c, d⟩ := ih rfl L h; exact ⟨L', a, b, c, .ask d⟩
  | choose n _ ih => intro L h; obtain ⟨L', a, b, c, d⟩ := ih rfl L h; exact ⟨L', a, b, c, .choose n d⟩
  | os _ ih => intro L h; obtain ⟨L', a, b, c, d⟩ := ih rfl L h; exact ⟨L', a, b, c, .os d⟩
  | handled _ ih => intro L h; obtain ⟨L', a, b, c, d⟩ := ih rfl L h; exact ⟨L', a, b, c, .handled d⟩
  | genState hs _ ih =>
    intro L h
    obtain ⟨L', a, b, c, d⟩ := ih rfl L h
    obtain ⟨y, hy, py⟩ := h.get hs
    rw [py.seen] at d
    exact ⟨L', a, b, c, .genState hy d⟩
  | stack _ ih => intro L h; obtain ⟨L', a, b, c, d⟩ := ih rfl L h; exact ⟨L', a, b, c, .stack d⟩
  | thread _ ih => intro L h; obtain ⟨L', a, b, c, d⟩ := ih rfl L h; exact ⟨L', a, b, c, .thread d⟩
  | newGen _ ih =>
    intro L h
    obtain ⟨L', a, b, c, d⟩ := ih rfl _ (h.push _)
    exact ⟨L', a, Kept.push.trans b, c, .newGen (h.sz ▸ d)⟩
  | call _ _ ih1 ih2 =>
    intro L h
    obtain ⟨L1, a, b, c, d⟩ := ih1 rfl L h
    obtain ⟨L2, a2, b2, c2, d2⟩ := ih2 rfl L1 a
    exact ⟨L2, a2, b.trans b2, c2, .call d d2⟩
  | callSusp _ ih => intro L h; obtain ⟨L', a, b, c, d⟩ := ih rfl L h; exact ⟨L', a, b, split_app c (by unfold splitAtGen splitAtGen; rfl), .callSusp d⟩
  | yield => exact fun L h => ⟨L, h, .refl _ _, rfl, .yield⟩
  | resumeFresh hs _ hq _ ih1 ih2 =>
    intro L h
    obtain ⟨y, hy, py⟩ := h.get hs
    cases py.fresh
    obtain ⟨L1, a, b, c, d⟩ := ih1 rfl _ (h.set _ (x := .running) trivial)
    obtain ⟨L2, a2, b2, c2, d2⟩ := ih2 rfl _ (a.set _ c.gen)
    exact ⟨L2, a2, (Kept.set2 ((Kept.set hs nd_fresh).trans b) hs nd_fresh).trans b2, c2, .resumeFresh hy d hq d2⟩
  | @resumeSuspended Γ p g r l k s k₀ l₀ c₀ p₀ fs cl e₁ s₁ e s' hs hr hq _ ih1 ih2 =>
    intro L h
    obtain ⟨y, hy, py⟩ := h.get hs
    have nd : ¬ IsDead (.suspended k₀ l₀ c₀ p₀ fs cl) := fun ⟨_, _, _, _, _, z⟩ => by
      have z2 : k₀ = fun _ => .unsupported "dead" := by injection z
      rw [z2] at hr
      exact no_run hr
    cases py with
    | dead _ _ => exact (no_run hr).elim
    | same _ gk =>
      obtain ⟨L1, a, b, c, d⟩ := ih1 gk _ (h.set _ (x := .running) trivial)
      obtain ⟨L2, a2, b2, c2, d2⟩ := ih2 rfl _ (a.set _ c.gen)
      exact ⟨L2, a2, (Kept.set2 ((Kept.set hs nd).trans b) hs nd).trans b2, c2, .resumeSuspended hy d hq d2⟩
  | resumeJustStarted hs hv _ ih =>
    intro L h
    obtain ⟨y, hy, py⟩ := h.get hs
    cases py.fresh
    obtain ⟨L', a, b, c, d⟩ := ih rfl L h
    exact ⟨L', a, b, c, .resumeJustStarted hy hv d⟩
  | resumeThrowFresh hs _ ih =>
    intro L h
    obtain ⟨y, hy, py⟩ := h.get hs
    cases py.fresh
    obtain ⟨L', a, b, c, d⟩ := ih rfl _ (h.set _ (x := .finished) trivial)
    exact ⟨L', a, (Kept.set hs nd_fresh).trans b, c, .resumeThrowFresh hy d⟩
  | resumeRunning hs _ ih =>
    intro L h
    obtain ⟨y, hy, py⟩ := h.get hs
    cases py.running
    obtain ⟨L', a, b, c, d⟩ := ih rfl L h
    exact ⟨L', a, b, c, .resumeRunning hy d⟩
  | resumeFinished hs _ ih =>
    intro L h
    obtain ⟨y, hy, py⟩ := h.get hs
    cases py.finished
    obtain ⟨L', a, b, c, d⟩ := ih rfl L h
    exact ⟨L', a, b, c, .resumeFinished hy d⟩
  | segRet _ _ ih1 ih2 =>
    intro L h
    obtain ⟨L1, a, b, c, d⟩ := ih1 rfl L h
    obtain ⟨L2, a2, b2, c2, d2⟩ := ih2 (split_ret hf) L1 a
    exact ⟨L2, a2, b.trans b2, c2, .segRet d d2⟩
  | segGen _ _ _ _ => unfold splitAtGen at hf; cases hf
  | segSuspOut q _ ih => intro L h; obtain ⟨L', a, b, c, d⟩ := ih rfl L h; exact ⟨L', a, b, split_app c q, .segSuspOut q d⟩
  | segSuspGen q _ _ _ _ _ => rw [q] at hf; cases hf
end GX
namespace GX
open PySem
open Sem (wp)
open PyProof.Rows (AllBare)
theorem wakes_lift {M : Model} {Γ : Ctx} {p : Pos} {g : Nat} {r : Resume} {s s' : Shared} {res : GenResult} (h : Wakes M Γ p g r s res s') {L : Array GenState} (hL : Rl s.gens L) :
    ∃ L', Rl s'.gens L' ∧ Kept s.gens L s'.gens L' ∧ Wakes M Γ p g r { s with gens := L } res { s' with gens := L' } := by
  unfold Wakes at h
  split at h
  · exact h.elim
  · rename_i c hs
    obtain ⟨y, hy, py⟩ := hL.get hs
    cases py.fresh
    split at h
    · obtain ⟨e₁, s₁, h1, h2, rfl, rfl⟩ := h
      obtain ⟨L1, a, b, c1, d⟩ := runs_lift h1 rfl _ (hL.set _ (x := .running) trivial)
      refine ⟨_, a.set g c1.gen, Kept.set2 ((Kept.set hs nd_fresh).trans b) hs nd_fresh, ?_⟩
      unfold Wakes
      dsimp only
      rw [hy]
      exact ⟨e₁, { s₁ with gens := L1 }, d, h2, rfl, rfl⟩
    · rename_i v hv
      obtain ⟨rfl, rfl⟩ := h
      refine ⟨L, hL, .refl _ _, ?_⟩
      unfold Wakes
      dsimp only
      rw [hy]
      cases v with
      | none => exact (hv rfl).elim
      | _ => exact ⟨rfl, rfl⟩
    · obtain ⟨rfl, rfl⟩ := h
      refine ⟨_, hL.set g (x := .finished) trivial, Kept.set hs nd_fresh, ?_⟩
      unfold Wakes
      dsimp only
      rw [hy]
      exact ⟨rfl, rfl⟩
  · rename_i k₀ l₀ c₀ p₀ fs cl hs
    obtain ⟨y, hy, py⟩ := hL.get hs
    obtain ⟨e₁, s₁, h1, h2, rfl, rfl⟩ := h
    have nd : ¬ IsDead (.suspended k₀ l₀ c₀ p₀ fs cl) := fun ⟨_, _, _, _, _, z⟩ => by
      have z2 : k₀ = fun _ => .unsupported "dead" := by injection z
      rw [z2] at h1
      exact no_run h1
    cases py with
    | dead _ _ => exact (no_run h1).elim
    | same _ gk =>
      obtain ⟨L1, a, b, c1, d⟩ := runs_lift h1 gk _ (hL.set _ (x := .running) trivial)
      refine ⟨_, a.set g c1.gen, Kept.set2 ((Kept.set hs nd).trans b) hs nd, ?_⟩
      unfold Wakes
      dsimp only
      rw [hy]
      exact ⟨e₁, { s₁ with gens := L1 }, d, h2, rfl, rfl⟩
  · rename_i hs
    obtain ⟨y, hy, py⟩ := hL.get hs
    cases py.running
    obtain ⟨rfl, rfl⟩ := h
    refine ⟨L, hL, .refl _ _, ?_⟩
    unfold Wakes
    dsimp only
    rw [hy]
    exact ⟨rfl, rfl⟩
  · rename_i hs
    obtain ⟨y, hy, py⟩ := hL.get hs
    cases py.finished
    obtain ⟨rfl, rfl⟩ := h
    refine ⟨L, hL, .refl _ _, ?_⟩
    unfold Wakes
    dsimp only
    rw [hy]
    exact ⟨rfl, rfl⟩
def Post (D L : Array GenState) (Q : Shared → Prop) (s' : Shared) : Prop := ∃ D', Rl D' s'.gens ∧ Kept D L D' s'.gens ∧ Q { s' with gens := D' }
theorem Post.up {D L D1 L1 : Array GenState} (k : Kept D L D1 L1) {Q : Shared → Prop} {s' : Shared} (h : Post D1 L1 Q s') : Post D L Q s' := let ⟨D', a, b, c⟩ := h; ⟨D', a, k.trans b, c⟩
theorem wp_lift {α : Type} (M : Model) (Γ : Ctx) (t : Sem α) : ∀ (Q : α → Pos → Shared → Prop) (E : Value → Pos → Shared → Prop) (p : Pos) (s : Shared) (L : Array GenState), Rl s.gens L → wp M Γ t Q E p s →
    wp M Γ t (fun a p' s' => Post s.gens L (Q a p') s') (fun e p' s' => Post s.gens L (E e p') s') p { s with gens := L } := by
  induction t with
  | pure a => intro Q E p s L hL h; exact ⟨s.gens, hL, .refl _ _, h⟩
  | raise e => intro Q E p s L hL h; exact ⟨s.gens, hL, .refl _ _, h⟩
  | unsupported _ => intro Q E p s L _ h; exact h
  | finish _ => intro Q E p s L _ h; exact h
  | rule _ k ih => intro Q E p s L hL h; exact ih () Q E p s L hL h
  | «at» p' k ih => intro Q E p s L hL h; exact ih () Q E p' s L hL h
  | load a _ k ih => intro Q E p s L hL h; obtain ⟨o, ho, h⟩ := h; exact ⟨o, ho, ih o Q E p s L hL h⟩
  | update a _ f k ih => intro Q E p s L hL h; exact ⟨h.1, ih () Q E p { s with heap := s.heap.update a f } L hL h.2⟩
  | loadIfAlive a k ih => intro Q E p s L hL h; exact ih _ Q E p s L hL h
  | point _ k ih => intro Q E p s L hL h; exact ih () Q E p s L hL h
  | register _ _ => intro Q E p s L _ h; exact h
  | alloc o k ih => intro Q E p s L hL h; exact ih _ Q E p { s with heap := s.heap.push o } L hL h
  | fresh k ih => intro Q E p s L hL h; exact ih _ Q E p { s with toks := s.toks + 1 } L hL h
  | ask k ih => intro Q E p s L hL h; exact ih _ Q E p s L hL h
  | choose src m k ih => intro Q E p s L hL h; exact ⟨h.1, ih _ Q E p { s with drawn := s.drawn.bump src } L hL h.2⟩
  | os q _ k ih => intro Q E p s L hL h; exact ih _ Q E p { s with os := (Os.step s.os q).1 } L hL h
  | call c hd _ _ k ih =>
    intro Q E p s L hL h
    obtain ⟨r, s', hr, h⟩ := h
    obtain ⟨L', a, b, _, d⟩ := runs_lift hr rfl L hL
    refine ⟨r, { s' with gens := L' }, d, ?_⟩
    exact Sem.wp_mono M Γ _ (fun _ _ _ z => Post.up b z) (fun _ _ _ z => Post.up b z) _ _ (ih r Q E p s' L' a h)
  | handled own k ih => intro Q E p s L hL h; exact ih _ Q E p s L hL h
  | genState g k ih =>
    intro Q E p s L hL h
    obtain ⟨st, hs, h⟩ := h
    obtain ⟨y, hy, py⟩ := hL.get hs
    refine ⟨y, hy, ?_⟩
    rw [← py.seen]
    exact ih _ Q E p s L hL h
  | newGen c k ih =>
    intro Q E p s L hL h
    have := ih _ Q E p { s with gens := s.gens.push (.fresh c) } (L.push (.fresh c)) (hL.push c) h
    have h2 := Sem.wp_mono M Γ _ (fun _ _ _ z => Post.up Kept.push z) (fun _ _ _ z => Post.up Kept.push z) _ _ this
    show wp M Γ (k L.size) _ _ p _
    rw [← hL.sz]
    exact h2
  | resume g r _ k ih =>
    intro Q E p s L hL h
    obtain ⟨res, s', hw, h⟩ := h
    obtain ⟨L', a, b, d⟩ := wakes_lift hw hL
    refine ⟨res, { s' with gens := L' }, d, ?_⟩
    exact Sem.wp_mono M Γ _ (fun _ _ _ z => Post.up b z) (fun _ _ _ z => Post.up b z) _ _ (ih res Q E p s' L' a h)
  | yield _ _ _ _ => intro Q E p s L _ h; exact h
  | stack k ih => intro Q E p s L hL h; exact ih _ Q E p s L hL h
  | fork _ _ => intro Q E p s L _ h; exact h
  | thread k ih => intro Q E p s L hL h; exact ih _ Q E p s L hL h
  | await _ _ _ _ _ => intro Q E p s L _ h; exact h
/-! ### all that sleeps made dead -/
def clean (f : Frame) : Frame := .ret (fun _ => .unsupported "dead") none false [] f.where_.1 f.where_.2 []
def poison : GenState → GenState
  | .suspended _ l c p fs cl => .suspended (fun _ => .unsupported "dead") l c p (fs.map clean) cl
  | x => x
theorem clean_split : ∀ fs : List Frame, splitAtGen (fs.map clean) = none
  | [] => rfl
  | f :: fs => by
    show splitAtGen (.ret _ _ _ _ _ _ _ :: fs.map clean) = none
    unfold splitAtGen
    simp [clean_split fs]
theorem poison_pr (x : GenState) : Pr (poison x) x := by
  cases x with
  | suspended k l c p fs cl =>
    refine .dead (clean_split fs) ?_
    rw [List.map_map]
    exact List.map_congr_left fun f _ => by cases f <;> rfl
  | fresh c => exact .same _ trivial
  | running => exact .same _ trivial
  | finished => exact .same _ trivial
theorem Pr.bare {x y : GenState} (h : Pr x y) : x.bare = y.bare := by cases h <;> rfl
theorem poison_rl (G : Array GenState) : Rl (G.map poison) G := by
  refine ⟨by simp, fun i d y e1 e2 => ?_⟩
  rw [Array.getElem?_map, e2] at e1
  cases e1
  exact poison_pr y
def susp : GenState → Bool
  | .suspended .. => true
  | _ => false
/-- what slept sleeps on -/
def Still (G G' : Array GenState) : Prop := ∀ (i : Nat) (y : GenState), G[i]? = some y → susp y = true → G'[i]? = some y
def Lifted (G : Array GenState) (Q : Shared → Prop) (s' : Shared) : Prop := ∃ D', Rl D' s'.gens ∧ Q { s' with gens := D' } ∧ Still G s'.gens
theorem wpAny_lift {M : Model} {A : Around} {α : Type} {t : Sem α} {Q : α → Shared → Prop} {E : Value → Shared → Prop} {s : Shared} (h : wpAny M A t Q E { s with gens := s.gens.map poison }) :
    wpAny M A t (fun a s' => Lifted s.gens (Q a) s') (fun e s' => Lifted s.gens (E e) s') s := by
  have fin : ∀ (P : Shared → Prop) (s' : Shared), Post (s.gens.map poison) s.gens P s' → Lifted s.gens P s' := fun P s' ⟨D', a, b, c⟩ => by
    refine ⟨D', a, c, fun i y hy hs => ?_⟩
    cases y with
    | suspended k l c p fs cl => exact (b i (poison (.suspended k l c p fs cl)) _ (by rw [Array.getElem?_map, hy]; rfl) hy ⟨_, _, _, _, _, rfl⟩).2
    | _ => cases hs
  intro Γ p hΓ
  exact Sem.wp_mono M Γ _ (fun _ _ s' z => fin _ s' z) (fun _ _ s' z => fin _ s' z) _ _ (wp_lift M Γ t _ _ p { s with gens := s.gens.map poison } s.gens (poison_rl s.gens) (h Γ p hΓ))
end GX
namespace GX
open PySem PySem.Spec PyProof.Rows L2 Z
section
variable {X : Cx} {pins : List (Addr × Obj)} {σ : L2.St} {H : Hp} {s : Shared} {D : Array GenState}
theorem inv_regen (I : L2.Inv X pins σ H s) (b : AllBare D) : L2.Inv X pins σ H { s with gens := D } := ⟨I.ok, I.os, b, I.base, I.loc, I.cell, I.free, I.freeC, I.pin, I.hok, I.len⟩
end
/-- what is wanted of an exception hangs on no sleeper -/
def GFree (X : Cx) : Prop := ∀ (e : Value) (s' : Shared) (D : Array GenState), Rl D s'.gens → X.xe e { s' with gens := D } → X.xe e s'
/-- a generator that is walked: its objects (fp: those it has now), and how it sleeps -/
structure TurnG (P : Program) (w : World) (K : Frg) (mg : Str → Option Value) (A : Around) (tg : Expr) (J : It) (it : Addr) (g : Nat) (tn : Nat → List Addr → Heap → GenState → Prop) : Prop where
  obj : ∀ i fp h y, tn i fp h y → ∀ b ∈ fp, ∃ o, h.get? b = some o ∧ ∀ v, o.data ≠ .cell v
  keep : ∀ i fp h h' y, tn i fp h y → (∀ b ∈ fp, ∀ o, h.get? b = some o → h'.get? b = some o) → tn i fp h' y
  item : ∀ (X : Cx), X.prog = P → X.w = w → X.K = K → X.mg = mg → X.A = A → X.calm = true → ∀ (i : Nat) (pins : List (Addr × Obj)) (s : Shared) (σ : L2.St) (H : Hp) (E : Value → Shared → Prop) (y : GenState) (fp : List Addr), L2.Inv X pins σ H s → (∀ b ∈ fp, FpOk X pins H b) → s.gens[g]? = some y → tn i fp s.heap y → J.go i H →
    wpAny (model P w) X.A (pyNext (.ref it)) (fun r s1 => ∃ u, r = some u ∧
      wpAny (model P w) X.A (letOwnedTupleGo tg (.ref it) u) (fun _ s2 => ∃ x H' y' fp', L2.Inv X pins σ H' s2 ∧ RelV x u ∧ J.yld i H x H' ∧ s2.gens[g]? = some y' ∧ susp y' = true ∧ tn (i + 1) fp' s2.heap y' ∧ ∀ b ∈ fp', FpOk X pins H' b) E s1) E s
  done : ∀ (X : Cx), X.prog = P → X.w = w → X.K = K → X.mg = mg → X.A = A → X.calm = true → ∀ (i : Nat) (pins : List (Addr × Obj)) (s : Shared) (σ : L2.St) (H : Hp) (E : Value → Shared → Prop) (y : GenState) (fp : List Addr), L2.Inv X pins σ H s → (∀ b ∈ fp, FpOk X pins H b) → s.gens[g]? = some y → tn i fp s.heap y → J.stop i H →
    wpAny (model P w) X.A (pyNext (.ref it)) (fun r s1 => r = none ∧ L2.Inv X pins σ H s1) E s
  self : ∀ (A : Around) (i : Nat) (s : Shared) (y : GenState) (fp : List Addr) (Q : Value → Shared → Prop) (E : Value → Shared → Prop), tn i fp s.heap y → Q (.ref it) s → wpAny (model P w) A (pyIter (.ref it)) Q E s
def PGE (X : Cx) (pins : List (Addr × Obj)) (σ : L2.St) (tg : Expr) (R : It → Hp → Prop) (itv : Value) (s2 : Shared) : Prop :=
  ∃ (it : Addr) (fp : List Addr) (g : Nat) (tn : Nat → List Addr → Heap → GenState → Prop) (J : It) (H' : Hp) (y : GenState), itv = .ref it ∧ L2.Inv X pins σ H' s2 ∧ TurnG X.prog X.w X.K X.mg X.A tg J it g tn ∧ s2.gens[g]? = some y ∧ tn 0 fp s2.heap y ∧ (∀ b ∈ fp, FpOk X pins H' b) ∧ R J H'
/-- an expression that makes a generator -/
structure PIG (X : Cx) (tg iter : Expr) (wi : L2.TI) : Prop where
  run : ∀ (pins : List (Addr × Obj)) (s : Shared) (σ : L2.St) (H : Hp) (R : It → Hp → Prop), L2.Inv X pins σ H s → wi σ H R →
    wpAny (model X.prog X.w) X.A (eval iter X.env) (fun v s1 => wpAny (model X.prog X.w) X.A (pyIter v) (PGE X pins σ tg R) X.xe s1) X.xe s
/-- a step that knows nothing of the sleeper -/
theorem over {X : Cx} {α : Type} {t : Sem α} {Q : α → Shared → Prop} {R : α → Shared → Prop} {s : Shared} (hX : GFree X) (h : wpAny (model X.prog X.w) X.A t Q X.xe { s with gens := s.gens.map poison })
    (k : ∀ a (s' : Shared) D, Rl D s'.gens → Q a { s' with gens := D } → Still s.gens s'.gens → R a s') : wpAny (model X.prog X.w) X.A t R X.xe s :=
  wpAny_mono (wpAny_lift h) (fun a s' ⟨D, r, q, st⟩ => k a s' D r q st) fun e s' ⟨D, r, q, _⟩ => hX e s' D r q
section
variable {X : Cx} {tg : Expr}
end
end GX
namespace GX
open PySem PySem.Spec PyProof.Rows L2 Z
section
variable {X : Cx} {tg : Expr}
end
end GX
namespace GX
open PySem PySem.Spec PyProof.Rows L2 GenW
/-! ### one turn of a generator: runs to an end of which Φ holds -/
def Sg (M : Model) (A : Around) (Φ : End → Shared → Prop) (c : Code) (t : Sem PySem.Fin) (fs : List Frame) (s : Shared) : Prop :=
  ∀ Γ p, Γ.code = c → Γ.Woken A → ∃ e s', Runs M Γ p t fs s e s' ∧ Φ e s'
section
variable {M : Model} {A : Around} {Φ Ψ : End → Shared → Prop} {c : Code} {fs : List Frame} {s : Shared}
theorem Sg.mono {t : Sem PySem.Fin} (h : Sg M A Φ c t fs s) (k : ∀ e s', Φ e s' → Ψ e s') : Sg M A Ψ c t fs s := fun Γ p hc hΓ => let ⟨e, s', r, q⟩ := h Γ p hc hΓ; ⟨e, s', r, k e s' q⟩
theorem sg_wrap {α : Type} {m : Sem α} {K : α → Sem PySem.Fin} {H : Value → Sem PySem.Fin} {gd lv}
    (h : wpAny M (A.over c fs) m (fun a s' => Sg M A Φ c (K a) fs s') (fun x s' => Sg M A Φ c (H x) fs s') s) : Sg M A Φ c (m.wrap K H gd lv) fs s := by
  rintro Γ p rfl hΓ
  exact runs_wrap_of_wp K H gd lv m (h (Γ.over fs) p (hΓ.over fs)) (fun a p' s' h' => h' Γ p' rfl hΓ) (fun x p' s' h' => h' Γ p' rfl hΓ)
theorem sg_bw {α β : Type} {m : Sem α} {K : α → Sem β} {K' : β → Sem PySem.Fin} {H' : Value → Sem PySem.Fin} {gd lv}
    (h : wpAny M (A.over c fs) m (fun a s' => Sg M A Φ c ((K a).wrap K' H' gd lv) fs s') (fun x s' => Sg M A Φ c (H' x) fs s') s) : Sg M A Φ c ((m >>= K).wrap K' H' gd lv) fs s := by
  rw [Sem.bind_eq_wrap', Sem.wrap_wrap]; exact sg_wrap h
theorem sg_at {p' : Pos} {k : Unit → Sem PySem.Fin} (h : Sg M A Φ c (k ()) fs s) : Sg M A Φ c (.at p' k) fs s :=
  sg_wrap (m := standAt p') (K := k) (H := .raise) (gd := id) (lv := id) (wpAny_standAt h)
theorem sg_point {l : List Value} {k : Unit → Sem PySem.Fin} (h : Sg M A Φ c (k ()) fs s) : Sg M A Φ c (.point l k) fs s :=
  sg_wrap (m := point) (K := k) (H := .raise) (gd := id) (lv := fun _ => l) (wpAny_point h)
theorem sg_call {c' : Code} {h g l} {k : Result → Sem PySem.Fin} (hc : ∀ p, Sg M A Φ c' (M.den c') (.ret k h g l c p [] :: fs) s) : Sg M A Φ c (.call c' h g l k) fs s := by
  rintro Γ p rfl hΓ
  obtain ⟨e, s', hr, he⟩ := hc p (Γ.goto c') p rfl (hΓ.goto c')
  exact ⟨e, s', runs_call_seg hr, he⟩
theorem sg_leaf {k h g l c₁ p₁ kp} (r : Result) (hk : Sg M A Φ c₁ (k r) fs s) : Sg M A Φ c (leafOf r) (.ret k h g l c₁ p₁ kp :: fs) s := by
  rintro Γ p rfl hΓ
  obtain ⟨e, s', hr, he⟩ := hk (Γ.goto c₁) p₁ rfl (hΓ.goto c₁)
  exact ⟨e, s', Runs.pop r hr, he⟩
theorem sg_again {c' : Code} (hq : c'.quiet = true) (hc : Sg M A Φ c' (M.den c') fs s) : Sg M A Φ c (.pure (.again c')) fs s := by
  rintro Γ p rfl hΓ
  obtain ⟨e, s', hr, he⟩ := hc (Γ.goto c') p rfl (hΓ.goto c')
  exact ⟨e, s', Runs.head (c₁ := c') (fun _ _ x => .again hq x) hr, he⟩
theorem sg_end (r : Result) (h : Φ (.ret r) s) : Sg M A Φ c (leafOf r) [] s := by
  rintro Γ p rfl _
  exact ⟨.ret r, s, Runs.leaf r, h⟩
theorem sg_yield {v g l} {k : Resume → Sem PySem.Fin} (hfs : splitAtGen fs = none) (h : ∀ p, Φ (.susp v g l k c p fs) s) : Sg M A Φ c (.yield v g l k) fs s := by
  rintro Γ p rfl _
  exact ⟨_, s, Runs.yield' fs hfs, h p⟩
/-- a sleeper that is woken -/
def Wk (M : Model) (A : Around) (y : GenState) (s : Shared) (Φ : End → Shared → Prop) : Prop := match y with
  | .fresh c => Sg M A Φ c (M.den c) [] s
  | .suspended k _ c _ fs _ => Sg M A Φ c (k (.send .none)) fs s
  | _ => False
theorem wpAny_resumeF {E : Value → Shared → Prop} {g : Nat} {y : GenState} {l : List Value} {α : Type} {k : GenResult → Sem α} {Q : α → Shared → Prop} (hg : s.gens[g]? = some y)
    (h : Wk M A y (s.setGen g .running) Φ) (hq : ∀ e s', Φ e s' → e.quiet = true) (hR : ∀ e s1, Φ e s1 → wpAny M A (k e.result) Q E (s1.setGen g e.genState)) : wpAny M A (.resume g (.send .none) l k) Q E s := by
  intro Γ p hΓ
  rw [Sem.wp_resume]
  have hB : ∀ c, (Γ.wake c p).Woken A := fun c => hΓ.wake c p
  cases y with
  | fresh c =>
    obtain ⟨e₁, s₁, hr, he⟩ := h (Γ.wake c p) p rfl (hB c)
    exact ⟨_, _, by unfold Wakes; rw [hg]; exact ⟨e₁, s₁, hr, hq e₁ s₁ he, rfl, rfl⟩, hR e₁ s₁ he Γ p hΓ⟩
  | suspended k₀ l₀ c₀ p₀ fs₀ cl =>
    obtain ⟨e₁, s₁, hr, he⟩ := h (Γ.wake c₀ p) p₀ rfl (hB c₀)
    exact ⟨_, _, by unfold Wakes; rw [hg]; exact ⟨e₁, s₁, hr, hq e₁ s₁ he, rfl, rfl⟩, hR e₁ s₁ he Γ p hΓ⟩
  | running => exact h.elim
  | finished => exact h.elim
end
section
variable {P : Program} {w : World} {A : Around} {E : Value → Shared → Prop} {s : Shared} {Φ : End → Shared → Prop}
end
/-! ### for, in a generator -/
section
variable {M : Model} {A : Around} {Φ : End → Shared → Prop} {c : Code} {fs : List Frame} {s : Shared} {env : Env} {K : Flow → Sem PySem.Fin} {H : Value → Sem PySem.Fin} {gd : Bool → Bool} {lv : List Value → List Value}
theorem sg_cons {st : Stmt} {rest : List Stmt} (h : Sg M A Φ c ((exec st env).wrap (fun f => match f with | .next => (execs rest env).wrap K H gd lv | f => K f) H gd lv) fs s) :
    Sg M A Φ c ((execs (st :: rest) env).wrap K H gd lv) fs s := by rw [execs_cons_wrap]; exact h
theorem sg_nil (h : Sg M A Φ c (K .next) fs s) : Sg M A Φ c ((execs [] env).wrap K H gd lv) fs s := h
/-- what a loop's call does with what comes back -/
def backK (env : Env) (K : Flow → Sem PySem.Fin) (H : Value → Sem PySem.Fin) (gd : Bool → Bool) (lv : List Value → List Value) (r : Result) : Sem PySem.Fin :=
  ((match r with | .ok f => (.pure f : Sem Flow) | .error e => .raise e).onRaise fun (x : Value) => do
    if (← field x 1) == Value.none then unsupported "frame.own-activation:exception-without-traceback"
    setFlight x env.frame).wrap K H gd lv
theorem sg_For {tg iter : Expr} {body : List Stmt} {pos : Pos}
    (h : wpAny M (A.over c fs) (eval iter env) (fun x s1 => wpAny M (A.over c fs) (pyIter x) (fun it s2 => ∀ p, Sg M A Φ (.forLoop tg it body [] env) (M.den (.forLoop tg it body [] env)) (.ret (backK env K H gd lv) none (gd false) (lv []) c p [] :: fs) s2) (fun _ _ => False) s1) (fun _ _ => False) s)
    (hs : ∀ x, foldedSetIterable iter env x = pure x := by intro _; rfl) : Sg M A Φ c ((exec (.For tg iter body [] pos) env).wrap K H gd lv) fs s := by
  rw [exec_For]
  refine sg_bw (wpAny_standAt ?_)
  refine sg_bw (wpAny_mono h (fun x s1 h1 => ?_) fun _ _ e => e.elim)
  refine sg_bw (wpAny_of_eq (hs x) ?_)
  refine sg_bw (wpAny_standAt ?_)
  refine sg_bw (wpAny_holding (wpAny_mono h1 (fun it s2 h2 => ?_) fun _ _ e => e.elim))
  exact sg_call h2
/-- what is done with what leaves a loop's code as an exception -/
def loopH (env : Env) (e : Value) : Sem PySem.Fin := (do noteFrame e env; theTreesLotGoes e : Sem Unit).bind fun _ => .raise e
def loopK (c : Code) (f : Flow) : Sem PySem.Fin := match f with
  | .next | .cont => .pure (.again c)
  | .brk => .pure (.done .next)
  | .ret v => .pure (.done (.ret v))
end
section
variable {P : Program} {w : World} {A : Around} {Φ : End → Shared → Prop} {fs : List Frame} {s : Shared} {env : Env}
theorem sg_forLoop {tg : Expr} {it : Value} {body : List Stmt}
    (h : wpAny (model P w) (A.over (.forLoop tg it body [] env) fs) (pyNext it) (fun r s1 => match r with
      | none => Sg (model P w) A Φ (.block [] env) (leafOf (.ok .next)) fs s1
      | some v => wpAny (model P w) (A.over (.forLoop tg it body [] env) fs) (letOwnedTupleGo tg it v) (fun _ s2 => wpAny (model P w) (A.over (.forLoop tg it body [] env) fs) (assign tg env v)
          (fun _ s3 => Sg (model P w) A Φ (.forLoop tg it body [] env) ((execs body env).wrap (loopK (.forLoop tg it body [] env)) (loopH env) id id) fs s3) (fun _ _ => False) s2) (fun _ _ => False) s1) (fun _ _ => False) s) :
    Sg (model P w) A Φ (.forLoop tg it body [] env) ((model P w).den (.forLoop tg it body [] env)) fs s := by
  show Sg _ A Φ _ ((forTurn tg it body [] env).onRaise (fun x => do noteFrame x env; theTreesLotGoes x)) fs s
  unfold forTurn
  rw [Sem.onRaise_eq_wrap]
  refine sg_bw (wpAny_standAt ?_)
  refine sg_bw (wpAny_onRaise (wpAny_mono h (fun r s1 h1 => ?_) fun _ _ e => e.elim))
  cases r with
  | none => exact sg_again rfl h1
  | some v =>
    refine sg_bw (wpAny_mono h1 (fun _ s2 h2 => ?_) fun _ _ e => e.elim)
    refine sg_bw (wpAny_mono h2 (fun _ s3 h3 => ?_) fun _ _ e => e.elim)
    rw [Sem.bind_eq_wrap', Sem.wrap_wrap]
    refine Eq.mpr (congrArg (fun t => Sg (model P w) A Φ (.forLoop tg it body [] env) t fs s3) (Sem.wrap_congr (execs body env) (K' := loopK (.forLoop tg it body [] env)) (H' := loopH env) _ _ (fun f => ?_) fun e => ?_)) h3
    · cases f <;> rfl
    · rfl
end
end GX
namespace GX
open PySem PySem.Spec PyProof.Rows L2 GenW
/-! ### nothing that runs makes the heap smaller -/
theorem runs_hsz {M : Model} {Γ : PySem.Ctx} {p : Pos} {t : Sem PySem.Fin} {fs : List Frame} {s s' : Shared} {e : End} (h : Runs M Γ p t fs s e s') : s.heap.objs.size ≤ s'.heap.objs.size := by
  induction h <;> (try simp only [Shared.setGen, Heap.size_push, Heap.size_update] at *) <;> omega
theorem wakes_hsz {M : Model} {Γ : PySem.Ctx} {p : Pos} {g : Nat} {r : Resume} {s s' : Shared} {res : GenResult} (h : Wakes M Γ p g r s res s') : s.heap.objs.size ≤ s'.heap.objs.size := by
  unfold Wakes at h
  split at h
  · exact h.elim
  · split at h
    · obtain ⟨e₁, s₁, hr, _, _, rfl⟩ := h
      exact (runs_hsz hr : (s.setGen g .running).heap.objs.size ≤ s₁.heap.objs.size)
    · rw [h.2]; exact Nat.le_refl _
    · rw [h.2]; exact Nat.le_refl _
  · obtain ⟨e₁, s₁, hr, _, _, rfl⟩ := h
    exact (runs_hsz hr : (s.setGen g .running).heap.objs.size ≤ s₁.heap.objs.size)
  · rw [h.2]; exact Nat.le_refl _
  · rw [h.2]; exact Nat.le_refl _
theorem wp_hsz {α : Type} (M : Model) (Γ : PySem.Ctx) (n : Nat) (t : Sem α) : ∀ (Q : α → Pos → Shared → Prop) (E : Value → Pos → Shared → Prop) (p : Pos) (s : Shared), n ≤ s.heap.objs.size → Sem.wp M Γ t Q E p s →
    Sem.wp M Γ t (fun a p' s' => n ≤ s'.heap.objs.size ∧ Q a p' s') (fun e p' s' => n ≤ s'.heap.objs.size ∧ E e p' s') p s := by
  induction t with
  | pure a => intro Q E p s hn h; exact ⟨hn, h⟩
  | raise e => intro Q E p s hn h; exact ⟨hn, h⟩
  | unsupported _ => intro Q E p s _ h; exact h
  | finish _ => intro Q E p s _ h; exact h
  | rule _ k ih => intro Q E p s hn h; exact ih () Q E p s hn h
  | «at» p' k ih => intro Q E p s hn h; exact ih () Q E p' s hn h
  | load a _ k ih => intro Q E p s hn h; obtain ⟨o, ho, h⟩ := h; exact ⟨o, ho, ih o Q E p s hn h⟩
  | update a _ f k ih => intro Q E p s hn h; exact ⟨h.1, ih () Q E p _ (by show n ≤ (s.heap.update a f).objs.size; rw [Heap.size_update]; exact hn) h.2⟩
  | loadIfAlive a k ih => intro Q E p s hn h; exact ih _ Q E p s hn h
  | point _ k ih => intro Q E p s hn h; exact ih () Q E p s hn h
  | register _ _ => intro Q E p s _ h; exact h
  | alloc o k ih => intro Q E p s hn h; exact ih _ Q E p _ (by show n ≤ (s.heap.push o).objs.size; rw [Heap.size_push]; omega) h
  | fresh k ih => intro Q E p s hn h; exact ih _ Q E p _ hn h
  | ask k ih => intro Q E p s hn h; exact ih _ Q E p s hn h
  | choose src m k ih => intro Q E p s hn h; exact ⟨h.1, ih _ Q E p _ hn h.2⟩
  | os q _ k ih => intro Q E p s hn h; exact ih _ Q E p _ hn h
  | call c hd _ _ k ih => intro Q E p s hn h; obtain ⟨r, s', hr, h⟩ := h; exact ⟨r, s', hr, ih r Q E p s' (Nat.le_trans hn (runs_hsz hr)) h⟩
  | handled own k ih => intro Q E p s hn h; exact ih _ Q E p s hn h
  | genState g k ih => intro Q E p s hn h; obtain ⟨st, hs, h⟩ := h; exact ⟨st, hs, ih _ Q E p s hn h⟩
  | newGen c k ih => intro Q E p s hn h; exact ih _ Q E p _ hn h
  | resume g r _ k ih => intro Q E p s hn h; obtain ⟨res, s', hw, h⟩ := h; exact ⟨res, s', hw, ih res Q E p s' (Nat.le_trans hn (wakes_hsz hw)) h⟩
  | yield _ _ _ _ => intro Q E p s _ h; exact h
  | stack k ih => intro Q E p s hn h; exact ih _ Q E p s hn h
  | fork _ _ => intro Q E p s _ h; exact h
  | thread k ih => intro Q E p s hn h; exact ih _ Q E p s hn h
  | await _ _ _ _ _ => intro Q E p s _ h; exact h
theorem wpAny_hsz {α : Type} {M : Model} {A : Around} {s : Shared} {t : Sem α} {Q : α → Shared → Prop} {E : Value → Shared → Prop}
    (h : wpAny M A t (fun a s' => s.heap.objs.size ≤ s'.heap.objs.size → Q a s') E s) : wpAny M A t Q E s :=
  wpAny_mono (fun Γ p hΓ => wp_hsz M Γ _ t _ _ p s (Nat.le_refl _) (h Γ p hΓ) : wpAny M A t (fun a s' => s.heap.objs.size ≤ s'.heap.objs.size ∧ (s.heap.objs.size ≤ s'.heap.objs.size → Q a s')) (fun e s' => s.heap.objs.size ≤ s'.heap.objs.size ∧ E e s') s)
    (fun _ _ x => x.2 x.1) fun _ _ x => x.2
/-! ### yield -/
theorem sg_Expr_Yield {M : Model} {A : Around} {Φ : End → Shared → Prop} {c : Code} {fs : List Frame} {s : Shared} {env : Env} {K : Flow → Sem PySem.Fin} {H : Value → Sem PySem.Fin} {gd : Bool → Bool} {lv : List Value → List Value} {e : Expr} {ypos pos : Pos}
    (hfs : splitAtGen fs = none) (hgd : gd false = false)
    (h : wpAny M (A.over c fs) (eval e env) (fun v s' => ∀ g l k p, g = false → (∀ Ψ s'', Sg M A Ψ c (K .next) fs s'' → Sg M A Ψ c (k (.send .none)) fs s'') → Φ (.susp v g l k c p fs) s') (fun _ _ => False) s)
    (hco : env.scope.isCoroutine = false) (hi : interactive env = false) : Sg M A Φ c ((exec (.Expr (.Yield (some e) ypos) pos) env).wrap K H gd lv) fs s := by
  rw [exec_Expr env _ pos hi rfl]
  show Sg M A Φ c (.at pos fun _ => ((eval e env >>= fun v => (standAt ypos >>= fun _ => yieldOut env v)) >>= fun x => dropValue (.Yield (some e) ypos) pos x).wrap K H gd lv) fs s
  have hy : ∀ v, yieldOut env v = yieldValue v := fun v => by simp only [yieldOut, hco, Bool.false_eq_true, if_false]
  simp only [hy]
  refine sg_at ?_
  rw [Sem.bind_eq_wrap', Sem.bind_eq_wrap', Sem.wrap_wrap, Sem.wrap_wrap]
  refine sg_wrap (wpAny_mono h (fun v s' h' => ?_) fun _ _ x => x.elim)
  refine sg_at ?_
  refine sg_yield hfs fun p => ?_
  refine h' _ _ _ p hgd fun Ψ s'' hx => ?_
  exact hx
end GX
namespace Y
open PySem PySem.Spec PyProof.Rows L2 Z
/-! ### iterators of ranges, long ones too -/
abbrev ritT (b : Bool) : String := if b then "range_iterator" else "longrange_iterator"
def RIt (h : Heap) (it : Addr) (x left step : Int) : Prop := ∃ b : Bool, h.get? it = some { cls := .type (ritT b), dict := none, data := .fields #[rawInt x, rawInt left, rawInt step], slots := #[] }
theorem RIt.at {h h' : Heap} {it : Addr} {x left step : Int} (r : RIt h it x left step) (e : ∀ o, h.get? it = some o → h'.get? it = some o) : RIt h' it x left step := let ⟨b, q⟩ := r; ⟨b, e _ q⟩
theorem RIt.lt {h : Heap} {it : Addr} {x left step : Int} (r : RIt h it x left step) : it < h.objs.size := let ⟨b, q⟩ := r; Heap.lt_size q
theorem RIt.to {h h' : Heap} {it : Addr} {x left step : Int} (r : RIt h it x left step) (e : h'.get? it = h.get? it) : RIt h' it x left step := let ⟨b, q⟩ := r; ⟨b, e.trans q⟩
open PySem.F in
theorem lri_slot : Slot "longrange_iterator" "__next__" "longrange_iterator.__next__" := by
  refine .of (owner := "longrange_iterator") (n := "__next__") ?_ (by decide +kernel) (by decide +kernel) (by decide +kernel) (.inl (by decide +kernel)) ?_
  · rw [typeLookup_type, builtinLookup_eq_fast]
    kernel_rfl
  · rw [isSubtype_type]
    kernel_rfl
theorem lri_entry : entryFor table "longrange_iterator.__next__" = some Builtin.«longrange_iterator.__next__» := entryFor_of_tree (by kernel_rfl)
theorem lri_args (a : Value) : argsOk "longrange_iterator.__next__" ⟨[a], []⟩ := by
  unfold argsOk
  kernel_rfl
section
variable {P : Program} {w : World} {A : Around} {E : Value → Shared → Prop} {s : Shared}
theorem lri_item (it : Addr) (x left step : Int) (h0 : ¬left ≤ 0) : Meets (Builtin.«longrange_iterator.__next__» ⟨[.ref it], []⟩) (fun _ R s => s.heap.get? it = some { cls := .type "longrange_iterator", dict := none, data := .fields #[rawInt x, rawInt left, rawInt step], slots := #[] } ∧
    R (.ok (.ret (Value.int x s.toks))) { s with heap := (s.heap.update it (Obj.mapFields fun v => v.setIfInBounds 0 (rawInt (x + step)))).update it (Obj.mapFields fun v => v.setIfInBounds 1 (rawInt (left - 1))), toks := s.toks + 1 }) :=
  .of_wp fun prog w A R s h => by
    obtain ⟨hp, g, d, tk, os⟩ := s
    obtain ⟨hl, h⟩ := h
    wp_walk
    exact ⟨_, rfl, h⟩
/-- the next item -/
theorem rit_item {it : Addr} {x left step : Int} {Q : Option Value → Shared → Prop} (hit : RIt s.heap it x left step) (hl : 0 < left) (hQ : ∀ h', RIt h' it (x + step) (left - 1) step → Heap.SameBut it s.heap h' → Q (some (.int x s.toks)) { s with heap := h', toks := s.toks + 1 }) : wpAny (model P w) A (pyNext (.ref it)) Q E s := by
  obtain ⟨b, hit⟩ := hit
  cases b with
  | true => exact wpAny_pyNext_range_item hit hl fun h' i sb => hQ h' ⟨true, i⟩ sb
  | false =>
    have hT : s.TypeIs (.ref it) "longrange_iterator" := ⟨_, hit, rfl⟩
    unfold pyNext
    refine wpAny_bind (wpAny_attempt (wpAny_callSpecial?_slot (name := Str.ofString "__next__") hT lri_slot (call_meets lri_slot hT lri_entry (lri_args _) (lri_item it x left step (by omega)) ⟨hit, ?_⟩)))
    exact wpAny_pure (hQ _ ⟨false, Heap.get?_update_self _ (Heap.get?_update_self _ hit rfl) rfl⟩ ((Heap.SameBut.update ..).trans (Heap.SameBut.update ..)))
/-- the end -/
theorem rit_end {it : Addr} {x left step : Int} {Q : Option Value → Shared → Prop} (hh : A.handled = none) (hit : RIt s.heap it x left step) (hl : left ≤ 0) (hQ : ∀ h', Heap.ExtBut it s.heap h' → Q none { s with heap := h' }) : wpAny (model P w) A (pyNext (.ref it)) Q E s := by
  obtain ⟨b, hit⟩ := hit
  cases b with
  | true => exact wpAny_pyNext_range_end hh hit hl hQ
  | false =>
    have hT : s.TypeIs (.ref it) "longrange_iterator" := ⟨_, hit, rfl⟩
    unfold pyNext
    refine wpAny_bind (wpAny_attempt (wpAny_callSpecial?_slot (name := Str.ofString "__next__") hT lri_slot (wpAny_call_entry lri_slot hT lri_entry ?_ (lri_args _))))
    unfold Builtin.«longrange_iterator.__next__»
    wp_walk
    simp only [raiseNew]
    refine wpAny_bind (wpAny_bind (wpAny_handled ?_))
    rw [show A.in1.handled = none from hh]
    refine wpAny_pure (wpAny_throw ?_)
    refine wpAny_bind ?_
    refine wpAny_isInstance (T := "StopIteration") (b := true) ⟨_, Heap.get?_push_size _ rfl, rfl⟩ isSubtype_stop ?_
    exact wpAny_pure (hQ _ (((Heap.ExtBut.refl it s.heap).push _).push _))
/-- range(n), its iterator -/
theorem rit_new {r : Addr} {n : Int} {t u v : Tok} {Q : Value → Shared → Prop} (hr : IsRange s.heap r 0 n 1 t u v) (hQ : ∀ h', h'.objs.size = s.heap.objs.size + 1 → (∀ b o, s.heap.get? b = some o → h'.get? b = some o) → RIt h' s.heap.objs.size 0 (Builtin.Range.rangeSize 0 n 1) 1 → Q (.ref s.heap.objs.size) { s with heap := h' }) : wpAny (model P w) A (pyIter (.ref r)) Q E s := by
  have hT : s.TypeIs (.ref r) "range" := ⟨_, hr, rfl⟩
  by_cases hs : Builtin.Range.small 0 n 1 = true
  · exact wpAny_pyIter_range hr hs (hQ _ (Heap.size_push ..) (fun b o e => Heap.get?_push_of_some _ e) ⟨true, Heap.get?_push_size _ rfl⟩)
  · have hf := Bool.eq_false_iff.mpr hs
    unfold Builtin.Range.small at hf
    refine wpAny_pyIter_slot hT F.slot_range_iter (call_meets F.slot_range_iter hT F.entry_range_iter (F.args_range_iter_1 _) (AutoRange.range___iter___range_0 r 0 n 1 t u v (by rw [hf]; rfl)) ⟨hr, ?_⟩)
    rw [hf]
    simp only [Bool.false_eq_true, if_false]
    exact ⟨"longrange_iterator", _, ⟨_, Heap.get?_push_size _ rfl, rfl⟩, lri_slot.lookup, hQ _ (Heap.size_push ..) (fun b o e => Heap.get?_push_of_some _ e) ⟨false, Heap.get?_push_size _ rfl⟩⟩
end
end Y
namespace GX
open PySem PySem.Spec PyProof.Rows L2 GenW
/-! ### for y in range(c): for x in range(a): yield (x, y) -/
/-- the names that the def's code asks the module for -/
def Good (s : Shared) : Prop := (∃ m, s.heap.Ns mainGlobals m ∧ m "range" = none) ∧ ∃ m, s.heap.Ns builtinsNs m ∧ m "range" = some (.type "range")
def Kp (fp : List Addr) (h h' : Heap) : Prop := ∀ b o, b ∉ fp → h.get? b = some o → h'.get? b = some o
theorem Kp.refl {fp : List Addr} {h : Heap} : Kp fp h h := fun _ _ _ e => e
theorem Kp.trans {fp : List Addr} {h h1 h2 : Heap} (a : Kp fp h h1) (b : Kp fp h1 h2) : Kp fp h h2 := fun c o n e => b c o n (a c o n e)
theorem Kp.of {fp : List Addr} {h h' : Heap} (a : ∀ b o, h.get? b = some o → h'.get? b = some o) : Kp fp h h' := fun b o _ e => a b o e
theorem Kp.one {fp : List Addr} {h h' : Heap} {x : Addr} (m : x ∈ fp) (a : Heap.ExtBut x h h') : Kp fp h h' := fun b o n e => a b o (fun z => n (z ▸ m)) e
/-- what is wanted of the def's environment -/
structure EnvOk (env : Env) : Prop where
  kind : env.scope.kind = .function
  glob : env.globals = mainGlobals
  blt : env.builtins = builtinsNs
  rng : env.kindOf "range" = some .globalImplicit
  ka : env.kindOf "a" = some .local
  kb : env.kindOf "b" = some .local
  kc : env.kindOf "c" = some .local
  kx : env.kindOf "x" = some .local
  ky : env.kindOf "y" = some .local
  ks : env.kindOf "self" = some .local
  co : env.scope.isCoroutine = false
  hi : interactive env = false
theorem EnvOk.hp {env : Env} (e : EnvOk env) : (env.scope.kind == .class || (env.scope.kind == .module && env.locals != env.globals)) = false := by rw [e.kind]; rfl
def FrA (h : Heap) (L : Addr) (a : Int) : Prop := ∃ m t, h.Ns L m ∧ m "a" = some (.int a t)
def FrY (h : Heap) (L : Addr) (a y : Int) : Prop := ∃ m t u, h.Ns L m ∧ m "a" = some (.int a t) ∧ m "y" = some (.int y u)
def tupO (v u : Value) : Obj := { cls := .type "tuple", data := .seq #[v, u] }
def Base (gobj : Addr) (gno : Nat) (fp : List Addr) (h : Heap) (y : GenState) : Prop := y.bare = true ∧ susp y = true ∧ gobj ∈ fp ∧ h.IsGen gobj gno ∧ (∀ b ∈ fp, b < h.objs.size) ∧ ∀ b ∈ fp, ∃ o, h.get? b = some o ∧ ∀ v, o.data ≠ .cell v
def DoneG (fp : List Addr) (s : Shared) (e : End) (s' : Shared) : Prop := (∃ f, e = .ret (.ok f) ∧ (f = .ret .none ∨ f = .next)) ∧ Kp fp s.heap s'.heap ∧ s.heap.objs.size ≤ s'.heap.objs.size ∧ s'.os = s.os ∧ s'.gens = s.gens
def ItemG (fp : List Addr) (s : Shared) (xy : Int × Int) (S : List Addr → Heap → GenState → Prop) (e : End) (s' : Shared) : Prop :=
  ∃ h1 tx ty l k c p fs fp', e = .susp (.ref h1.objs.size) false l k c p fs ∧ fs.any Frame.guarded = false ∧ s'.heap = h1.push (tupO (.int xy.1 tx) (.int xy.2 ty)) ∧ Kp fp s.heap h1 ∧ s.heap.objs.size ≤ h1.objs.size ∧ (∀ b ∈ fp', b ∈ fp ∨ s.heap.objs.size ≤ b) ∧ (∀ b ∈ fp', b < h1.objs.size) ∧
    S fp' s'.heap e.genState ∧ s'.os = s.os ∧ s'.gens = s.gens
section
variable (P : Program) (w : World) (A : Around) (gobj : Addr) (gno : Nat) (itm : Nat → Int × Int)
/-- asleep, with so many items to come -/
def Slp : Nat → List Addr → Heap → GenState → Prop
  | 0 => fun fp h y => Base gobj gno fp h y ∧ ∀ s, Good s → (∀ b ∈ fp, ∀ o, h.get? b = some o → s.heap.get? b = some o) → Wk (model P w) A y s (DoneG fp s)
  | r + 1 => fun fp h y => Base gobj gno fp h y ∧ ∀ s, Good s → (∀ b ∈ fp, ∀ o, h.get? b = some o → s.heap.get? b = some o) → Wk (model P w) A y s (ItemG fp s (itm r) (Slp r))
def TurnE (r : Nat) (fp : List Addr) (s : Shared) : End → Shared → Prop := match r with
  | 0 => DoneG fp s
  | r + 1 => ItemG fp s (itm r) (Slp P w A gobj gno itm r)
end
theorem slp_of {P : Program} {w : World} {A : Around} {gobj : Addr} {gno : Nat} {itm : Nat → Int × Int} {r : Nat} {fp : List Addr} {h : Heap} {y : GenState} (b : Base gobj gno fp h y)
    (k : ∀ s, Good s → (∀ b ∈ fp, ∀ o, h.get? b = some o → s.heap.get? b = some o) → Wk (model P w) A y s (TurnE P w A gobj gno itm r fp s)) : Slp P w A gobj gno itm r fp h y := by
  cases r with
  | zero => exact ⟨b, k⟩
  | succ r => exact ⟨b, k⟩
/-! ### the pieces, by the heap -/
section
variable {P : Program} {w : World} {A : Around} {env : Env} {s : Shared} {L : Addr}
/-- range(n), its iterator -/
theorem ev_range {v : Str} {n : Int} {p1 p2 p3 : Pos} {m : Str → Option Value} {t : Tok} {R : Value → Shared → Prop} {E : Value → Shared → Prop} (ok : EnvOk env) (g : Good s) (hk : env.kindOf v = some .local) (hn : s.heap.Ns env.locals m) (hv : m v = some (.int n t)) (h1 : 0 ≤ n)
    (hR : ∀ h' tk I, s.heap.objs.size ≤ I → I < h'.objs.size → (∀ b o, s.heap.get? b = some o → h'.get? b = some o) → Y.RIt h' I 0 n 1 → s.heap.objs.size ≤ h'.objs.size → R (.ref I) { s with heap := h', toks := tk })
    (hd : (v == ("__debug__" : Str)) = false := by decide) :
    wpAny (model P w) A (eval (.Call (.Name "range" p1) [.Name v p2] [] p3) env) (fun x s1 => wpAny (model P w) A (pyIter x) R E s1) E s := by
  obtain ⟨⟨mg, g1, g2⟩, mb, b1, b2⟩ := g
  refine Call_ (Calls.Name_function_global ok.kind ok.rng (Calls.loadGlobal_builtin (mg := mg) (mb := mb) (by rw [ok.glob]; exact g1) g2 (by rw [ok.blt]; exact b1) b2 ?_))
  refine PyProof.Rows.callWith_type1 (args_cons ?_ rfl) rfl rfl
  refine wpAny_Name (wpAny_loadName_local ok.kind hk hn hv ?_) hd
  refine args_nil ?_
  refine call_range_1 ?_
  refine Y.rit_new (IsRange.new ..) fun h' hz hk hi => ?_
  have e2 : Builtin.Range.rangeSize 0 n 1 = n := by rw [rangeSize_one]; split <;> omega
  rw [e2] at hi
  refine hR _ _ _ ?_ ?_ (fun b o e => hk b o (Heap.get?_push_of_some _ e)) hi ?_
  · show _ ≤ (s.heap.push _).objs.size
    rw [Heap.size_push]; omega
  · show (s.heap.push _).objs.size < h'.objs.size
    rw [hz]
    exact Nat.lt_succ_self _
  · show _ ≤ h'.objs.size
    rw [hz]
    show _ ≤ (s.heap.push _).objs.size + 1
    rw [Heap.size_push]; omega
/-- a store -/
theorem ev_store {v : Str} {u : Value} {p : Pos} {m : Str → Option Value} {Q : Unit → Shared → Prop} {E : Value → Shared → Prop} (ok : EnvOk env) (hk : env.kindOf v = some .local) (hn : s.heap.Ns env.locals m)
    (h : ∀ h', h'.Ns env.locals (fun x => if x = v then some u else m x) → Heap.SameBut env.locals s.heap h' → Q () { s with heap := h', toks := s.toks + 1 }) : wpAny (model P w) A (assign (.Name v p) env u) Q E s :=
  wpAny_assign_Name (wpAny_storeName_local hk hn h ok.hp)
theorem nameGo {it v : Value} {x : Str} {p : Pos} {Q : Unit → Shared → Prop} {E : Value → Shared → Prop} (h : Q () s) : wpAny (model P w) A (letOwnedTupleGo (.Name x p) it v) Q E s := wpAny_pure h
end
/-! ### the loops -/
section
variable {P : Program} {w : World} {A A' : Around} {env : Env} {gobj : Addr} {gno : Nat} {itm : Nat → Int × Int} {a C : Nat} {q1 q2 q3 q5 q6 p1 p2 p3 p4 p5 q7 q8 q9 : Pos} {kt : Nat}
abbrev bodyI (p1 p2 p3 p4 p5 : Pos) (kt : Nat) : List Stmt := [.Expr (.Yield (some (.Tuple [.Name "x" p1, .Name "y" p2] kt p3)) p4) p5]
abbrev bodyO (q1 q2 q3 q5 q7 p1 p2 p3 p4 p5 : Pos) (kt : Nat) : List Stmt := [.For (.Name "x" q1) (.Call (.Name "range" q2) [.Name "a" q3] [] q5) (bodyI p1 p2 p3 p4 p5 kt) [] q7]
/-- where the things of this turn stand -/
structure At (env : Env) (gobj : Addr) (gno : Nat) (fp : List Addr) (s0 s : Shared) (a y : Int) (I1 I2 : Addr) (q j : Int) (x : Int) : Prop where
  fr : FrY s.heap env.locals a y
  i1 : Y.RIt s.heap I1 (y + 1) q 1
  i2 : Y.RIt s.heap I2 x j 1
  n1 : I1 ≠ env.locals
  n2 : I2 ≠ env.locals
  n3 : I1 ≠ I2
  gn : s.heap.IsGen gobj gno
  g1 : gobj ≠ env.locals
  g2 : gobj ≠ I1
  g3 : gobj ≠ I2
  mf : ∀ b, (b = gobj ∨ b = env.locals ∨ b = I1 ∨ b = I2) → b ∈ fp ∨ s0.heap.objs.size ≤ b
  kp : Kp fp s0.heap s.heap
  sz : s0.heap.objs.size ≤ s.heap.objs.size
  nl : ∀ b, b = mainGlobals ∨ b = builtinsNs → b ∉ fp ∧ b < s0.heap.objs.size
  os : s.os = s0.os
  gens : s.gens = s0.gens
theorem isgen_at {h h' : Heap} {a g} (x : h.IsGen a g) (e : ∀ o, h.get? a = some o → h'.get? a = some o) : h'.IsGen a g := let ⟨o, nm, qn, ho, r⟩ := x; ⟨o, nm, qn, e _ ho, r⟩
theorem nl_next {fp fq : List Addr} {s0 s1 : Shared} (nl : ∀ b, b = mainGlobals ∨ b = builtinsNs → b ∉ fp ∧ b < s0.heap.objs.size) (mf : ∀ b ∈ fq, b ∈ fp ∨ s0.heap.objs.size ≤ b) (g : Good s1) :
    ∀ b, b = mainGlobals ∨ b = builtinsNs → b ∉ fq ∧ b < s1.heap.objs.size := fun b hb => by
  refine ⟨fun m => ?_, ?_⟩
  · rcases mf b m with z | z
    · exact (nl b hb).1 z
    · exact absurd (Nat.lt_of_lt_of_le (nl b hb).2 z) (Nat.lt_irrefl _)
  · obtain ⟨⟨m1, e1, _⟩, m2, e2, _⟩ := g
    rcases hb with rfl | rfl
    · exact e1.lt
    · exact e2.lt
/-- x, y = .., yield (x, y): one item -/
theorem inner_item {r j q : Nat} {x y : Int} {fp : List Addr} {s0 s : Shared} {I1 I2 : Addr} {fs : List Frame} (ok : EnvOk env) (hA : A.over (.forLoop (.Name "x" q1) (.ref I2) (bodyI p1 p2 p3 p4 p5 kt) [] env) fs = A') (hh : A'.handled = none) (hsp : splitAtGen fs = none) (hgu : fs.any Frame.guarded = false)
    (z : At env gobj gno fp s0 s a y I1 I2 q ((j : Int) + 1) x) (hx : itm r = (x, y))
    (ih : ∀ (fp' : List Addr) (s1 : Shared), Good s1 → At env gobj gno fp' s1 s1 a y I1 I2 q j (x + 1) → Sg (model P w) A (TurnE P w A gobj gno itm r fp' s1) (.forLoop (.Name "x" q1) (.ref I2) (bodyI p1 p2 p3 p4 p5 kt) [] env) ((model P w).den (.forLoop (.Name "x" q1) (.ref I2) (bodyI p1 p2 p3 p4 p5 kt) [] env)) fs s1) :
    Sg (model P w) A (TurnE P w A gobj gno itm (r + 1) fp s0) (.forLoop (.Name "x" q1) (.ref I2) (bodyI p1 p2 p3 p4 p5 kt) [] env) ((model P w).den (.forLoop (.Name "x" q1) (.ref I2) (bodyI p1 p2 p3 p4 p5 kt) [] env)) fs s := by
  refine sg_forLoop ?_
  rw [hA]
  refine Y.rit_item z.i2 (by omega) fun h' it' sb => ?_
  have it' : Y.RIt h' I2 (x + 1) j 1 := by
    have e : ((j : Int) + 1 - 1) = j := by omega
    rw [e] at it'; exact it'
  refine nameGo ?_
  obtain ⟨m, t, u, hn, ha, hy⟩ := z.fr
  have hn' : h'.Ns env.locals m := hn.sameBut sb (Ne.symm z.n2)
  refine ev_store ok ok.kx hn' fun h2 hn2 sb2 => ?_
  refine sg_cons (sg_Expr_Yield hsp rfl ?_ ok.co ok.hi)
  rw [hA]
  refine wpAny_Tuple_spliced (args_cons (wpAny_Name (wpAny_loadName_local ok.kind ok.kx hn2 (v := .int x s.toks) (if_pos rfl) ?_) (by decide)) rfl)
  refine args_cons (wpAny_Name (wpAny_loadName_local ok.kind ok.ky hn2 (v := .int y u) ((if_neg (by decide)).trans hy) ?_) (by decide)) rfl
  refine args_nil ⟨by show 2 ≤ sizeLine; decide, ?_⟩
  intro g l k p hg hk
  subst hg
  have lL : env.locals < h2.objs.size := hn2.lt
  have i2' : Y.RIt h2 I2 (x + 1) j 1 := it'.at fun o e => by rw [sb2.2 I2 z.n2]; exact e
  have i1' : Y.RIt h2 I1 (y + 1) q 1 := z.i1.at fun o e => by rw [sb2.2 I1 z.n1, sb.2 I1 z.n3]; exact e
  have gn' : h2.IsGen gobj gno := isgen_at z.gn fun o e => by rw [sb2.2 gobj z.g1, sb.2 gobj z.g3]; exact e
  have size : h2.objs.size = s.heap.objs.size := sb2.1.trans sb.1
  have kp2 : Kp fp s0.heap h2 := fun b o n e => by
    have ne : ∀ c, (c = gobj ∨ c = env.locals ∨ c = I1 ∨ c = I2) → b ≠ c := fun c hc z' => by
      rcases z.mf c hc with k1 | k1
      · exact n (z' ▸ k1)
      · exact absurd (Nat.lt_of_lt_of_le (Heap.lt_size e) (z' ▸ k1)) (Nat.lt_irrefl _)
    rw [sb2.2 b (ne _ (.inr (.inl rfl))), sb.2 b (ne _ (.inr (.inr (.inr rfl))))]
    exact z.kp b o n e
  have up : ∀ b o, h2.get? b = some o → (h2.push (tupO (.int x s.toks) (.int y u))).get? b = some o := fun b o e => Heap.get?_push_of_some _ e
  refine ⟨h2, s.toks, u, l, k, _, p, fs, [gobj, env.locals, I1, I2], rfl, hgu, by rw [hx]; rfl, kp2, by rw [size]; exact z.sz, fun b hb => ?_, fun b hb => ?_, ?_, z.os, z.gens⟩
  · simp only [List.mem_cons, List.not_mem_nil, or_false] at hb
    exact z.mf b hb
  · simp only [List.mem_cons, List.not_mem_nil, or_false] at hb
    rcases hb with rfl | rfl | rfl | rfl
    · obtain ⟨o, _, _, e, _⟩ := gn'; exact Heap.lt_size e
    · exact lL
    · exact i1'.lt
    · exact i2'.lt
  have lt : ∀ b ∈ [gobj, env.locals, I1, I2], ∃ o, h2.get? b = some o ∧ ∀ v, o.data ≠ .cell v := fun b hb => by
    simp only [List.mem_cons, List.not_mem_nil, or_false] at hb
    rcases hb with rfl | rfl | rfl | rfl
    · obtain ⟨o, _, _, e, _, d, _⟩ := gn'; exact ⟨o, e, fun v c => by rw [d] at c; cases c⟩
    · obtain ⟨o, _, _, e, d, _⟩ := hn2; exact ⟨o, e, fun v c => by rw [d] at c; cases c⟩
    · obtain ⟨_, e⟩ := i1'
      exact ⟨_, e, fun v c => by
        have c' : Data.fields _ = Data.cell v := c
        cases c'⟩
    · obtain ⟨_, e⟩ := i2'
      exact ⟨_, e, fun v c => by
        have c' : Data.fields _ = Data.cell v := c
        cases c'⟩
  refine slp_of ⟨?_, rfl, List.mem_cons_self, isgen_at gn' fun o e => up _ _ e, fun b hb => ?_, fun b hb => ?_⟩ fun s1 g1 ag => ?_
  · show (!(false || fs.any Frame.guarded)) = true
    rw [hgu]; rfl
  · obtain ⟨o, e, _⟩ := lt b hb
    exact Heap.lt_size (up b o e)
  · obtain ⟨o, e, d⟩ := lt b hb
    exact ⟨o, up b o e, d⟩
  have at1 : ∀ b ∈ [gobj, env.locals, I1, I2], ∀ o, h2.get? b = some o → s1.heap.get? b = some o := fun b hb o e => ag b hb o (up b o e)
  refine hk _ s1 (sg_nil (sg_again rfl (ih _ s1 g1 ⟨?_, i1'.at (at1 _ (by simp)), i2'.at (at1 _ (by simp)), z.n1, z.n2, z.n3, isgen_at gn' (at1 _ (by simp)), z.g1, z.g2, z.g3, fun b hb => .inl (by simpa using hb), .refl, Nat.le_refl _, ?_, rfl, rfl⟩)))
  · exact ⟨_, t, u, hn2.at' (at1 _ (by simp)), (if_neg (by decide)).trans ha, (if_neg (by decide)).trans hy⟩
  · exact nl_next z.nl (fun b hb => z.mf b (by simpa using hb)) g1
/-- the outer loop's frames, the inner loop's: what comes when they end -/
structure OutOk (P : Program) (w : World) (A A' : Around) (env : Env) (cO : Code) (fs : List Frame) : Prop where
  over : A.over cO fs = A'
  split : splitAtGen fs = none
  guard : fs.any Frame.guarded = false
  fin : ∀ Φ s, Φ (.ret (.ok (.ret .none))) s → Sg (model P w) A Φ (.block [] env) (leafOf (.ok .next)) fs s
structure InOk (P : Program) (w : World) (A A' : Around) (env : Env) (cO cI : Code) (fsO fs : List Frame) : Prop where
  over : A.over cI fs = A'
  split : splitAtGen fs = none
  guard : fs.any Frame.guarded = false
  fin : ∀ Φ s, Sg (model P w) A Φ cO ((model P w).den cO) fsO s → Sg (model P w) A Φ (.block [] env) (leafOf (.ok .next)) fs s
theorem in_of {env : Env} {cO cI : Code} {fsO : List Frame} {K : Flow → Sem PySem.Fin} {H : Value → Sem PySem.Fin} (o : OutOk P w A A' env cO fsO) (hw : cI.weight = 0) (hu : cI.cUnits = 0) (hK : K .next = .pure (.again cO)) (hq : cO.quiet = true) (p : Pos) :
    InOk P w A A' env cO cI fsO (.ret (backK env K H id id) none (id false) (id []) cO p [] :: fsO) where
  over := (over_loop hw hu).trans o.over
  split := by
    show (splitAtGen fsO).map _ = none
    rw [o.split]; rfl
  guard := by
    show (false || fsO.any Frame.guarded) = false
    rw [o.guard]; rfl
  fin := fun Φ s h => by
    refine sg_leaf (.ok .next) ?_
    show Sg _ _ _ _ (K .next) _ _
    rw [hK]
    exact sg_again hq h
/-- a row begins -/
theorem outer_row {r q : Nat} {y : Int} {fp : List Addr} {s0 s : Shared} {I1 : Addr} {fsO : List Frame} (ok : EnvOk env) (hh : A'.handled = none) (ha : 1 ≤ a) (gs : Good s)
    (o : OutOk P w A A' env (.forLoop (.Name "y" q6) (.ref I1) (bodyO q1 q2 q3 q5 q7 p1 p2 p3 p4 p5 kt) [] env) fsO)
    (fr : FrA s.heap env.locals a) (i1 : Y.RIt s.heap I1 y (q + 1) 1) (n1 : I1 ≠ env.locals) (gn : s.heap.IsGen gobj gno) (g1 : gobj ≠ env.locals) (g2 : gobj ≠ I1)
    (mf : ∀ b, (b = gobj ∨ b = env.locals ∨ b = I1) → b ∈ fp ∨ s0.heap.objs.size ≤ b) (kp : Kp fp s0.heap s.heap) (sz : s0.heap.objs.size ≤ s.heap.objs.size) (nl : ∀ b, b = mainGlobals ∨ b = builtinsNs → b ∉ fp ∧ b < s0.heap.objs.size) (os : s.os = s0.os) (gens : s.gens = s0.gens)
    (k : ∀ (s1 : Shared) (I2 : Addr) (fs : List Frame), Good s1 → InOk P w A A' env (.forLoop (.Name "y" q6) (.ref I1) (bodyO q1 q2 q3 q5 q7 p1 p2 p3 p4 p5 kt) [] env) (.forLoop (.Name "x" q1) (.ref I2) (bodyI p1 p2 p3 p4 p5 kt) [] env) fsO fs → At env gobj gno fp s0 s1 a y I1 I2 q a 0 →
      Sg (model P w) A (TurnE P w A gobj gno itm r fp s0) (.forLoop (.Name "x" q1) (.ref I2) (bodyI p1 p2 p3 p4 p5 kt) [] env) ((model P w).den (.forLoop (.Name "x" q1) (.ref I2) (bodyI p1 p2 p3 p4 p5 kt) [] env)) fs s1) :
    Sg (model P w) A (TurnE P w A gobj gno itm r fp s0) (.forLoop (.Name "y" q6) (.ref I1) (bodyO q1 q2 q3 q5 q7 p1 p2 p3 p4 p5 kt) [] env) ((model P w).den (.forLoop (.Name "y" q6) (.ref I1) (bodyO q1 q2 q3 q5 q7 p1 p2 p3 p4 p5 kt) [] env)) fsO s := by
  refine sg_forLoop ?_
  rw [o.over]
  refine Y.rit_item i1 (by omega) fun h' it' sb => ?_
  have it' : Y.RIt h' I1 (y + 1) q 1 := by
    have e : ((q : Int) + 1 - 1) = q := by omega
    rw [e] at it'; exact it'
  refine nameGo ?_
  obtain ⟨m, t, hn, hm⟩ := fr
  have hn' : h'.Ns env.locals m := hn.sameBut sb (Ne.symm n1)
  refine ev_store ok ok.ky hn' fun h2 hn2 sb2 => ?_
  refine sg_cons (sg_For ?_)
  rw [o.over]
  have kp1 : Kp [env.locals, I1] s.heap h2 := fun b o n e => by
    rw [sb2.2 b (fun z => n (z ▸ by simp)), sb.2 b (fun z => n (z ▸ by simp))]
    exact e
  have ownMF : ∀ b, b ∈ [env.locals, I1] → b ∈ fp ∨ s0.heap.objs.size ≤ b := fun b hb => mf b (by simp at hb; rcases hb with h | h <;> simp [h])
  have gnl : ∀ b, b = mainGlobals ∨ b = builtinsNs → b ∉ [env.locals, I1] := fun b hb m => by
    rcases ownMF b m with z | z
    · exact (nl b hb).1 z
    · exact absurd (Nat.lt_of_lt_of_le (nl b hb).2 z) (Nat.lt_irrefl _)
  have g2' : Good { s with heap := h2, toks := s.toks + 1 + 1 } := by
    obtain ⟨⟨m1, e1, e2⟩, m2, e3, e4⟩ := gs
    exact ⟨⟨m1, e1.at' fun o e => kp1 _ o (gnl _ (.inl rfl)) e, e2⟩, m2, e3.at' fun o e => kp1 _ o (gnl _ (.inr rfl)) e, e4⟩
  refine ev_range (v := "a") (n := a) (t := t) ok g2' ok.ka hn2 ((if_neg (by decide)).trans hm) (by omega) fun h3 tk I2 l1 l2 k3 r3 s3 p => ?_
  have size : h2.objs.size = s.heap.objs.size := sb2.1.trans sb.1
  have l1 : h2.objs.size ≤ I2 := l1
  have k3 : ∀ b o, h2.get? b = some o → h3.get? b = some o := k3
  have s3 : h2.objs.size ≤ h3.objs.size := s3
  have i1' : Y.RIt h2 I1 (y + 1) q 1 := it'.at fun o e => by rw [sb2.2 I1 n1]; exact e
  have gn' : h2.IsGen gobj gno := isgen_at gn fun o e => by rw [sb2.2 gobj g1, sb.2 gobj g2]; exact e
  have lg : gobj < h2.objs.size := by obtain ⟨o, _, _, e, _⟩ := gn'; exact Heap.lt_size e
  refine k _ I2 _ (by obtain ⟨⟨m1, e1, e2⟩, m2, e3, e4⟩ := g2'; exact ⟨⟨m1, e1.at' (k3 _), e2⟩, m2, e3.at' (k3 _), e4⟩) (in_of o rfl rfl rfl rfl p) ⟨⟨_, t, _, hn2.at' (k3 _), (if_neg (by decide)).trans hm, if_pos rfl⟩, i1'.at (k3 _), r3, n1, Nat.ne_of_gt (Nat.lt_of_lt_of_le hn2.lt l1), Nat.ne_of_lt (Nat.lt_of_lt_of_le (i1'.lt) l1), isgen_at gn' (k3 _), g1, g2, Nat.ne_of_lt (Nat.lt_of_lt_of_le lg l1), fun b hb => ?_, ?_, ?_, nl, os, gens⟩
  · rcases hb with h | h | h | h
    · exact mf b (.inl h)
    · exact mf b (.inr (.inl h))
    · exact mf b (.inr (.inr h))
    · exact .inr (by rw [h]; omega)
  · refine fun b o n e => k3 b o (kp1 b o (fun hb => ?_) (kp b o n e))
    rcases ownMF b hb with z | z
    · exact n z
    · exact absurd (Nat.lt_of_lt_of_le (Heap.lt_size e) z) (Nat.lt_irrefl _)
  · show s0.heap.objs.size ≤ h3.objs.size
    omega
/-- THE LOOPS: what a turn does from any place -/
theorem loops {I1 : Addr} {fsO : List Frame} (ok : EnvOk env) (hh : A'.handled = none) (ha : 1 ≤ a) (hitm : ∀ r j q x y : Nat, r = j + q * a → x + (j + 1) = a → y + 1 + q = C → itm r = ((x : Int), (y : Int)))
    (o : OutOk P w A A' env (.forLoop (.Name "y" q6) (.ref I1) (bodyO q1 q2 q3 q5 q7 p1 p2 p3 p4 p5 kt) [] env) fsO) :
    ∀ (r j q : Nat) (x y : Nat) (fp : List Addr) (s0 s : Shared) (I2 : Addr) (fs : List Frame), r = j + q * a → x + j = a → y + 1 + q = C → Good s →
      InOk P w A A' env (.forLoop (.Name "y" q6) (.ref I1) (bodyO q1 q2 q3 q5 q7 p1 p2 p3 p4 p5 kt) [] env) (.forLoop (.Name "x" q1) (.ref I2) (bodyI p1 p2 p3 p4 p5 kt) [] env) fsO fs → At env gobj gno fp s0 s a y I1 I2 q j x →
      Sg (model P w) A (TurnE P w A gobj gno itm r fp s0) (.forLoop (.Name "x" q1) (.ref I2) (bodyI p1 p2 p3 p4 p5 kt) [] env) ((model P w).den (.forLoop (.Name "x" q1) (.ref I2) (bodyI p1 p2 p3 p4 p5 kt) [] env)) fs s := by
  have fin0 : ∀ (fp : List Addr) (s0 s : Shared) (fs : List Frame) (I2 : Addr) (y x : Int) (q : Nat) (Φ : End → Shared → Prop), Good s → InOk P w A A' env (.forLoop (.Name "y" q6) (.ref I1) (bodyO q1 q2 q3 q5 q7 p1 p2 p3 p4 p5 kt) [] env) (.forLoop (.Name "x" q1) (.ref I2) (bodyI p1 p2 p3 p4 p5 kt) [] env) fsO fs → At env gobj gno fp s0 s a y I1 I2 q (0 : Nat) x →
      (∀ s1, Good s1 → FrA s1.heap env.locals a → Y.RIt s1.heap I1 (y + 1) q 1 → s1.heap.IsGen gobj gno → Kp fp s0.heap s1.heap → s0.heap.objs.size ≤ s1.heap.objs.size → s1.os = s0.os → s1.gens = s0.gens →
        Sg (model P w) A Φ (.forLoop (.Name "y" q6) (.ref I1) (bodyO q1 q2 q3 q5 q7 p1 p2 p3 p4 p5 kt) [] env) ((model P w).den (.forLoop (.Name "y" q6) (.ref I1) (bodyO q1 q2 q3 q5 q7 p1 p2 p3 p4 p5 kt) [] env)) fsO s1) →
      Sg (model P w) A Φ (.forLoop (.Name "x" q1) (.ref I2) (bodyI p1 p2 p3 p4 p5 kt) [] env) ((model P w).den (.forLoop (.Name "x" q1) (.ref I2) (bodyI p1 p2 p3 p4 p5 kt) [] env)) fs s := by
    intro fp s0 s fs I2 y x q Φ gs io z k
    refine sg_forLoop ?_
    rw [io.over]
    refine wpAny_hsz (Y.rit_end hh z.i2 (by simp) fun h' eb sz => io.fin _ _ (k _ ?_ ?_ ?_ ?_ ?_ ?_ z.os z.gens))
    · have nI : ∀ b, b = mainGlobals ∨ b = builtinsNs → b ≠ I2 := fun b hb e => by
        rcases z.mf I2 (.inr (.inr (.inr rfl))) with m | m
        · exact (z.nl b hb).1 (e ▸ m)
        · exact absurd (Nat.lt_of_lt_of_le (z.nl b hb).2 (e ▸ m)) (Nat.lt_irrefl _)
      obtain ⟨⟨m1, e1, e2⟩, m2, e3, e4⟩ := gs
      exact ⟨⟨m1, e1.at' fun o e => eb _ o (nI _ (.inl rfl)) e, e2⟩, m2, e3.at' fun o e => eb _ o (nI _ (.inr rfl)) e, e4⟩
    · obtain ⟨m, t, u, hn, ha, hy⟩ := z.fr
      exact ⟨m, t, hn.at' fun o e => eb _ o (Ne.symm z.n2) e, ha⟩
    · exact z.i1.at fun o e => eb _ o z.n3 e
    · exact isgen_at z.gn fun o e => eb _ o z.g3 e
    · refine fun b o n e => eb b o (fun hb => ?_) (z.kp b o n e)
      rcases z.mf I2 (.inr (.inr (.inr rfl))) with m | m
      · exact n (hb ▸ m)
      · exact absurd (Nat.lt_of_lt_of_le (Heap.lt_size e) (hb ▸ m)) (Nat.lt_irrefl _)
    · exact Nat.le_trans z.sz sz
  intro r
  induction r with
  | zero =>
    intro j q x y fp s0 s I2 fs hr hx hy gs io z
    have hj : j = 0 := by omega
    have hq : q = 0 := by
      rcases Nat.eq_zero_or_pos q with e | e
      · exact e
      · have := Nat.mul_le_mul e ha
        omega
    subst hj hq
    refine fin0 fp s0 s fs I2 y x 0 _ gs io z fun s1 gs1 fr1 i1 gn1 kp1 sz1 os1 ge1 => ?_
    refine sg_forLoop ?_
    rw [o.over]
    refine wpAny_hsz (Y.rit_end hh i1 (by simp) fun h' eb sz => o.fin _ _ ⟨⟨_, rfl, .inl rfl⟩, ?_, Nat.le_trans sz1 sz, os1, ge1⟩)
    refine fun b o n e => eb b o (fun hb => ?_) (kp1 b o n e)
    rcases z.mf I1 (.inr (.inr (.inl rfl))) with m | m
    · exact n (hb ▸ m)
    · exact absurd (Nat.lt_of_lt_of_le (Heap.lt_size e) (hb ▸ m)) (Nat.lt_irrefl _)
  | succ r ih =>
    intro j q x y fp s0 s I2 fs hr hx hy gs io z
    rcases Nat.eq_zero_or_pos j with hj | hj
    · subst hj
      obtain ⟨q', rfl⟩ : ∃ q', q = q' + 1 := ⟨q - 1, by
        rcases Nat.eq_zero_or_pos q with e | e
        · subst e; omega
        · omega⟩
      have hr' : r = (a - 1) + q' * a := by rw [Nat.add_mul] at hr; omega
      refine fin0 fp s0 s fs I2 y x (q' + 1) _ gs io z fun s1 gs1 fr1 i1 gn1 kp1 sz1 os1 ge1 => ?_
      refine outer_row (y := (y : Int) + 1) (q := q') ok hh ha gs1 o fr1 (by push_cast at i1; exact i1) z.n1 gn1 z.g1 z.g2 (fun b hb => z.mf b (by rcases hb with h | h | h <;> simp [h])) kp1 sz1 z.nl os1 ge1 fun s2 I2' fs' _ io' z' => ?_
      have e1 : ((a - 1 : Nat) : Int) + 1 = a := by omega
      refine inner_item (j := a - 1) (q := q') (x := 0) (y := (y : Int) + 1) ok io'.over hh io'.split io'.guard (by rw [e1]; exact z') ?_ fun fp' s3 gs3 z3 => ?_
      · have := hitm r (a - 1) q' 0 (y + 1) hr' (by omega) (by omega)
        rw [this]; push_cast; rfl
      · refine ih (a - 1) q' 1 (y + 1) fp' s3 s3 I2' fs' hr' (by omega) (by omega) gs3 io' ?_
        push_cast
        rw [Int.zero_add] at z3
        exact z3
    · obtain ⟨j', rfl⟩ : ∃ j', j = j' + 1 := ⟨j - 1, by omega⟩
      refine inner_item (j := j') ok io.over hh io.split io.guard (by push_cast at z; exact z) (hitm r j' q x y (by omega) (by omega) hy) fun fp' s3 gs3 z3 => ?_
      refine ih j' q (x + 1) y fp' s3 s3 I2 fs (by omega) (by omega) hy gs3 io ?_
      push_cast
      exact z3
end
end GX
namespace GX
open PySem PySem.Spec PyProof.Rows L2 GenW Z
section
variable {P : Program} {w : World} {A : Around} {Φ : End → Shared → Prop} {s : Shared} {env : Env}
def funcK (f : Flow) : Sem PySem.Fin := .pure (.done (.ret (match f with | .ret v => v | _ => .none)))
def funcH (env : Env) (e : Value) : Sem PySem.Fin := (leaving env e).bind fun _ => .raise e
theorem sg_func {body : List Stmt} {fs : List Frame} (h : Sg (model P w) A Φ (.func body env) ((execs body env).wrap funcK (funcH env) id id) fs s) : Sg (model P w) A Φ (.func body env) ((model P w).den (.func body env)) fs s := by
  show Sg _ A Φ _ (.point [] fun _ => ((execs body env).onRaise (leaving env)) >>= _) fs s
  refine sg_point ?_
  rw [Sem.onRaise_eq_wrap, Sem.bind_eq_wrap', Sem.wrap_wrap]
  refine Eq.mpr (congrArg (fun t => Sg (model P w) A Φ (.func body env) t fs s) (Sem.wrap_congr (execs body env) (K' := funcK) (H' := funcH env) _ _ (fun f => ?_) fun e => ?_)) h
  · cases f <;> rfl
  · rw [Sem.bind_eq_wrap, Sem.wrap_wrap]
    show _ = (leaving env e).bind _
    rw [Sem.bind_eq_wrap]
    rfl
end
abbrev cellBody (t1 t2 t3 t4 t5 t6 t7 u1 u2 u3 u4 q1 q2 q3 q5 q6 q7 p1 p2 p3 p4 p5 : Pos) (tt kt : Nat) : List Stmt :=
  [.Assign [.Tuple [.Name "a" t1, .Name "b" t2, .Name "c" t3] tt t4] (.Attribute (.Name "self" t5) "own_numbers" t6) t7,
   .For (.Name "y" q6) (.Call (.Name "range" u1) [.Name "c" u2] [] u3) (bodyO q1 q2 q3 q5 q7 p1 p2 p3 p4 p5 kt) [] u4]
section
variable {X : Cx} {pins : List (Addr × Obj)} {σ : L2.St} {H : Hp} {s : Shared} {A : Around} {env : Env} {gobj selfa C0 dx : Addr} {gno : Nat} {itm : Nat → Int × Int} {a b C : Nat} {fs0 : List (Str × V)} {tp : Addr} {tt kt : Nat} {t1 t2 t3 t4 t5 t6 t7 u1 u2 u3 u4 q1 q2 q3 q5 q6 q7 p1 p2 p3 p4 p5 : Pos}
theorem good_of (I : L2.Inv X pins σ H s) (hm : X.mg "range" = none) : Good s := by
  obtain ⟨mb, h1, h2⟩ := I.mod.blt
  exact ⟨⟨_, I.mod.glob.keeps I.bk, hm⟩, mb, h1.keeps I.bk, (h2 _ (by decide)).trans boot_range⟩
/-- the first turn -/
theorem first (ok : EnvOk env) (hA : A.handled = none) (ha : 1 ≤ a) (hC : 1 ≤ C) (hitm : ∀ r j q x y : Nat, r = j + q * a → x + (j + 1) = a → y + 1 + q = C → itm r = ((x : Int), (y : Int)))
    (I : L2.Inv X pins σ H s) (hm : X.mg "range" = none) (hs : H selfa = some (.ins C0 dx fs0)) (c1 : Cls X.K C0) (c2 : NoAttr X.K C0 "own_numbers") (hl : fs0.lookup ("own_numbers" : Str) = some (V.ref tp)) (hq : SqT X.K H tp [.int a, .int b, .int C])
    (pg : ∃ o, (gobj, o) ∈ pins) (pL : ∃ o, (env.locals, o) ∈ pins) (gn : s.heap.IsGen gobj gno) (gL : gobj ≠ env.locals) {m : Str → Option Value} (hn : s.heap.Ns env.locals m) (hself : m "self" = some (.ref selfa)) (nL : ∀ b, b = mainGlobals ∨ b = builtinsNs → b ≠ env.locals) :
    Sg (model X.prog X.w) A (fun e s' => ∃ s2, L2.Inv X pins σ H s2 ∧ s.gens.size ≤ s2.gens.size ∧ TurnE X.prog X.w A gobj gno itm (C * a) [gobj, env.locals] s2 e s')
      (.func (cellBody t1 t2 t3 t4 t5 t6 t7 u1 u2 u3 u4 q1 q2 q3 q5 q6 q7 p1 p2 p3 p4 p5 tt kt) env) ((model X.prog X.w).den (.func (cellBody t1 t2 t3 t4 t5 t6 t7 u1 u2 u3 u4 q1 q2 q3 q5 q6 q7 p1 p2 p3 p4 p5 tt kt) env)) [] s := by
  refine sg_func ?_
  refine sg_cons (sg_wrap ?_)
  rw [over_func]
  refine wpAny_Assign_stores (attr_of (by rfl) (wpAny_Name (wpAny_loadName_local ok.kind ok.ks hn hself ?_) (by decide))) (by rfl) (by rfl)
  refine wpAny_gsz (n := s.gens.size) (Nat.le_refl _) (getattr_ok I hs c1 c2 hl fun u s2 I2 ru sz2 => ?_)
  obtain rfl : u = Value.ref tp := ru
  have pin := fun (x : Addr) (o : Obj) (hx : (x, o) ∈ pins) (o' : Obj) (e : s.heap.get? x = some o') => show s2.heap.get? x = some o' by
    have h1 := (I.pin (x, o) (List.mem_append_right _ hx)).1
    have h2 := (I2.pin (x, o) (List.mem_append_right _ hx)).1
    rw [e] at h1
    cases h1
    exact h2
  obtain ⟨og, hpg⟩ := pg
  obtain ⟨oL, hpL⟩ := pL
  have hn2 : s2.heap.Ns env.locals m := hn.at' (pin _ _ hpL)
  have gn2 : s2.heap.IsGen gobj gno := isgen_at gn (pin _ _ hpg)
  obtain ⟨its, rv, ht, hz⟩ := I2.tuple hq
  cases rv with
  | cons r1 rv =>
  cases rv with
  | cons r2 rv =>
  cases rv with
  | cons r3 rv =>
  cases rv
  obtain ⟨ta, rfl⟩ := r1
  obtain ⟨tb, rfl⟩ := r2
  obtain ⟨tc, rfl⟩ := r3
  have hA' : (A.deeper env).handled = none := hA
  show wpAny _ _ (assign (.Tuple [.Name "a" t1, .Name "b" t2, .Name "c" t3] tt t4) env (.ref tp)) _ _ _
  refine wpAny_hsz (assign_Tuple_tuple hA' ht (by rfl) (by rfl) fun h3 x3 => ?_)
  have k3 : ∀ b o, s2.heap.get? b = some o → h3.get? b = some o := fun b o e => x3 b o (Nat.ne_of_lt (Heap.lt_size e)) e
  refine assignInOrder_cons (ev_store (s := { s2 with heap := h3 }) ok ok.ka (hn2.at' (k3 _)) fun h4 hn4 sb4 => ?_)
  refine assignInOrder_cons (ev_store (s := { s2 with heap := h4, toks := s2.toks + 1 }) ok ok.kb hn4 fun h5 hn5 sb5 => ?_)
  refine assignInOrder_cons (ev_store (s := { s2 with heap := h5, toks := s2.toks + 1 + 1 }) ok ok.kc hn5 fun h6 hn6 sb6 => ?_)
  refine assignInOrder_nil fun sz6 => ?_
  have sz6 : s2.heap.objs.size ≤ h6.objs.size := sz6
  have kp6 : Kp [gobj, env.locals] s2.heap h6 := fun b o n e => by
    have nL : b ≠ env.locals := fun z => n (z ▸ by simp)
    rw [sb6.2 b nL]
    show h5.get? b = some o
    rw [sb5.2 b nL]
    show h4.get? b = some o
    rw [sb4.2 b nL]
    exact k3 b o e
  have gn6 : h6.IsGen gobj gno := isgen_at gn2 fun o e => by
    rw [sb6.2 gobj gL]
    show h5.get? gobj = some o
    rw [sb5.2 gobj gL]
    show h4.get? gobj = some o
    rw [sb4.2 gobj gL]
    exact k3 _ o e
  have nl : ∀ b, b = mainGlobals ∨ b = builtinsNs → b ∉ [gobj, env.locals] ∧ b < s2.heap.objs.size := fun b hb => by
    obtain ⟨⟨m1, e1, _⟩, m2, e2, _⟩ := good_of I2 hm
    have gd : ∀ mm, s2.heap.Ns b mm → b ≠ gobj := fun mm hmm e => by
      obtain ⟨o, _, _, e3, d, _⟩ := hmm
      obtain ⟨o', _, _, e4, _, d', _⟩ := gn2
      rw [e, e4] at e3
      cases e3
      rw [d] at d'
      cases d'
    refine ⟨fun mm => ?_, ?_⟩
    · simp only [List.mem_cons, List.not_mem_nil, or_false] at mm
      rcases mm with z | z
      · rcases hb with rfl | rfl
        · exact gd _ e1 z
        · exact gd _ e2 z
      · exact nL b hb z
    · rcases hb with rfl | rfl
      · exact e1.lt
      · exact e2.lt
  have g2 := good_of I2 hm
  have g6 : Good { s2 with heap := h6, toks := s2.toks + 1 + 1 + 1 } := by
    obtain ⟨⟨m1, e1, e2⟩, m2, e3, e4⟩ := g2
    exact ⟨⟨m1, e1.at' fun o e => kp6 _ o (nl _ (.inl rfl)).1 e, e2⟩, m2, e3.at' fun o e => kp6 _ o (nl _ (.inr rfl)).1 e, e4⟩
  refine sg_cons (sg_For ?_)
  rw [over_func]
  refine ev_range (v := "c") (n := C) (t := tc) ok g6 ok.kc hn6 (if_pos rfl) (by omega) fun h7 tk I1 l1 l2 k7 r7 s7 p => ?_
  have l1 : h6.objs.size ≤ I1 := l1
  have s7 : h6.objs.size ≤ h7.objs.size := s7
  have k7 : ∀ b o, h6.get? b = some o → h7.get? b = some o := k7
  have hn7 := hn6.at' (k7 env.locals)
  obtain ⟨C', rfl⟩ : ∃ C', C = C' + 1 := ⟨C - 1, by omega⟩
  have lg : gobj < h6.objs.size := by obtain ⟨o, _, _, e, _⟩ := gn6; exact Heap.lt_size e
  have oo : OutOk X.prog X.w A (A.deeper env) env (.forLoop (.Name "y" q6) (.ref I1) (bodyO q1 q2 q3 q5 q7 p1 p2 p3 p4 p5 kt) [] env) (.ret (backK env (fun f => match f with | .next => (execs [] env).wrap funcK (funcH env) id id | f => funcK f) (funcH env) id id) none (id false) (id []) (.func (cellBody t1 t2 t3 t4 t5 t6 t7 u1 u2 u3 u4 q1 q2 q3 q5 q6 q7 p1 p2 p3 p4 p5 tt kt) env) p [] :: []) :=
    ⟨(over_loop rfl rfl).trans over_func, rfl, rfl, fun Φ s h => sg_leaf (.ok .next) (sg_nil (env := env) (sg_end (.ok (.ret .none)) h))⟩
  refine Sg.mono (Ψ := fun e s' => ∃ s2, L2.Inv X pins σ H s2 ∧ s.gens.size ≤ s2.gens.size ∧ TurnE X.prog X.w A gobj gno itm ((C' + 1) * a) [gobj, env.locals] s2 e s') (outer_row (r := (C' + 1) * a) (y := 0) (q := C') (s0 := s2) (fp := [gobj, env.locals]) ok hA' ha ?_ oo ?_ (by push_cast at r7; exact r7) (Nat.ne_of_gt (Nat.lt_of_lt_of_le hn6.lt l1)) (isgen_at gn6 (k7 _)) gL (Nat.ne_of_lt (Nat.lt_of_lt_of_le lg l1)) (fun b hb => ?_) ?_ ?_ nl rfl rfl fun s8 I2' fs' gs8 io z => ?_) fun e s' q => ⟨s2, I2, sz2, q⟩
  · obtain ⟨⟨m1, e1, e2⟩, m2, e3, e4⟩ := g6
    exact ⟨⟨m1, e1.at' (k7 _), e2⟩, m2, e3.at' (k7 _), e4⟩
  · exact ⟨_, ta, hn7, (if_neg (by decide)).trans ((if_neg (by decide)).trans (if_pos rfl))⟩
  · rcases hb with h | h | h
    · exact .inl (by simp [h])
    · exact .inl (by simp [h])
    · exact .inr (by rw [h]; exact Nat.le_trans sz6 l1)
  · exact kp6.trans (Kp.of k7)
  · show s2.heap.objs.size ≤ h7.objs.size
    omega
  · have hr : (C' + 1) * a = a + C' * a := by rw [Nat.add_mul, Nat.one_mul, Nat.add_comm]
    exact loops ok hA' ha hitm oo _ a C' 0 0 _ s2 s8 I2' fs' hr (by omega) (by omega) gs8 io z
end
end GX
namespace GX
open PySem PySem.Spec PyProof.Rows L2 GenW Z
section
variable {X : Cx} {pins : List (Addr × Obj)} {σ : L2.St} {H : Hp} {s s1 : Shared} {fp : List Addr}
/-- behind a turn that left all but its own things as they were -/
theorem inv_turn {h1 : Heap} (I : L2.Inv X pins σ H s) (fo : ∀ b ∈ fp, FpOk X pins H b) (kp : Kp fp s.heap h1) (os : s1.os = s.os) (ba : AllBare s1.gens) (e1 : s1.heap = h1) : L2.Inv X pins σ H s1 := by
  subst e1
  refine I.call' (ch := fp) os ⟨fun b o e n hf hx => kp b o hx e, fun b o e n hf hx => ⟨o.slots, kp b o hx e⟩, fun b o e n hx => n, fun b o e hx => ⟨o, kp b o hx e⟩, fun _ _ q => q, fun _ _ _ q => q, fun b ps q => ⟨#[], by rw [q]; simp⟩⟩ (fun b u e => ?_) ba fun b hb => ⟨(fo b hb).2.2.2.1, (fo b hb).2.1, (fo b hb).2.2.2.2.1, (fo b hb).2.2.2.2.2⟩
  have nf : ∀ c v, H c = some v → c ∉ fp := fun c v e m => by rw [(fo c m).1] at e; cases e
  refine (I.hok b u e).stay (fun c v hc q => kp c v ?_ q) (fun _ y => y) fun _ _ y => y
  rcases hc with z | z
  · rw [z]; exact nf b u e
  · exact nf c _ z
end
structure ScOk (sc : Scope) : Prop where
  rng : sc.names.lookup ("range" : Str) = some .globalImplicit
  ka : sc.names.lookup ("a" : Str) = some .local
  kb : sc.names.lookup ("b" : Str) = some .local
  kc : sc.names.lookup ("c" : Str) = some .local
  kx : sc.names.lookup ("x" : Str) = some .local
  ky : sc.names.lookup ("y" : Str) = some .local
  ks : sc.names.lookup ("self" : Str) = some .local
section
variable {P : Program} {w : World} {K : Frg} {mg : Str → Option Value} {A : Around} {env : Env} {gobj selfa C0 dx : Addr} {gno : Nat} {itm : Nat → Int × Int} {a b C : Nat} {fs0 : List (Str × V)} {tp : Addr} {tt kt : Nat} {t1 t2 t3 t4 t5 t6 t7 u1 u2 u3 u4 q1 q2 q3 q5 q6 q7 p1 p2 p3 p4 p5 : Pos}
end
end GX
namespace Y
open PySem PySem.Spec PyProof.Rows L2 Z
section
variable {X : Cx} {B : Bs} {pos : Pos}
/-- {} -/
theorem y_dic0 : PEp X B (.Dict [] [] pos) (fun _ Q => Q (.dic [] [])) := by
  refine ⟨fun pins s σ H Q I ⟨F, ρ, Qd, J, z, k⟩ => ?_⟩
  refine thn (pe_dnewK.run pins s σ H (fun v H1 => ∃ p, v = .ref p ∧ H p = none ∧ H1 = upd H p (.dK [])) I fun p hp => ⟨p, rfl, hp, rfl⟩) fun u s1 ⟨v, H1, I1, rv, p, ev, hp, eH⟩ => ?_
  subst ev eH
  obtain ⟨od, I2⟩ := I1.lock upd_same trivial
  rw [upd_upd] at I2
  exact ⟨.ref p, _, I2, rv, k _ _ _ _ (Go.new J.same hp) (J.tp.go0 (Go.new J.same hp)) (.dic (vs := []) (upd_same ..) rfl .nil) z⟩
end
end Y
namespace Y
open PySem PySem.Spec PyProof.Rows L2 Z
open PySem.W PySem.Calls PySem.HandSPX
/-! ### C(..), C an own class of errors with an own __init__ -/
def OwnCall (newId : String) (bmB : List Value) : Prop := ∀ {prog : Program} {w : World} {A : Around} {R : Result → Shared → Prop} {h : Heap} {g : Array GenState} {d : Drawn} {t : Tok} {os : OsState} {nm q : Str} {C N fI : Addr} {bs bm : List Value} {sn : List Str} {sub : List Value} {ab : Bool} {col : Option Bool} {dd : Option Addr} {k0 k1 k2 k3 k5 : Option Value} {rest : List Value},
  (∀ X : String, bm.contains (.type X) = bmB.contains (.type X)) → h.get? C = some (excClassObj nm q C N bs bm true sn sub ab col dd k0 k1 k2 k3 k5 newId) →
  W.Looks (model prog w) h (typeLookup (.ref C) "__init__") (some (.ref fI)) → (∀ self, W.Looks (model prog w) h (bindSpecial (.ref fI) self) (.ref fI, [self])) → rest.length ≤ sizeLine →
  codeAny (model prog w) (A.under (.builtin "type.__call__" ⟨.ref C :: rest, []⟩)) (.call (.ref fI) ⟨.ref (h.objs.size + 1) :: rest, []⟩) (W.InitBack (h.objs.size + 1) R) ⟨(h.push (W.kdv_tup rest)).push (excO C h.objs.size), g, d, t, os⟩ →
  codeAny (model prog w) A (.call (.ref C) ⟨rest, []⟩) R ⟨h, g, d, t, os⟩
theorem own_base {B newId initId : String} {bmB : List Value} (F : ExcBaseFacts B newId initId bmB) : OwnCall newId bmB := fun hT hC hi hb hr hq => call_own F hT hC hi hb hr hq
/-! ### .. over KeyError, which has no __new__ of its own -/
def bsKey : List Value := [.type "KeyError", .type "LookupError", .type "Exception", .type "BaseException", .type "object"]
abbrev lkNew : String := "LookupError.__new__"
section
variable {prog : Program} {w : World} {A : Around} {E : Value → Shared → Prop} {R : Result → Shared → Prop} {hp : Heap} {gs : Array GenState} {dr : Drawn} {tk : Tok} {os : OsState} {nm q : Str} {C N fI : Addr} {bs bm : List Value} {sn : List Str} {sub : List Value} {ab : Bool} {col : Option Bool} {dd : Option Addr} {k0 k1 k2 k3 k5 : Option Value} {rs : List Value}
theorem key_check {M : Model} {Q : Unit → Shared → Prop} (hB : (Value.ref C :: bm).contains (.type "LookupError") = true) (hK : hp.get? C = some (excClassObj nm q C N bs bm true sn sub ab col dd k0 k1 k2 k3 k5 lkNew)) (hq : Q () ⟨hp, gs, dr, tk, os⟩) : wpAny M A (checkBuiltinCall lkNew ⟨.ref C :: rs, []⟩) Q E ⟨hp, gs, dr, tk, os⟩ := by
  have e1 := PySem.F.excBase_LookupError.noStar
  simp only [checkBuiltinCall, PySem.F.excBase_LookupError.newKind, PySem.F.excBase_LookupError.newSplit, PySem.F.excBase_LookupError.newRow]
  repeat (first | refine wpAny_loadPart_at hK ?_ | (refine wpAny_isSubtype_exc hK ?_; rw [hB]) | refine wpAny_staticBase_exc hK ?_ | refine wpAny_madeBy_exc hK ?_ | simp only [bne_self_eq_false, Bool.false_eq_true, if_false] | wp_step)
  exact hq
theorem key_new (hB : (Value.ref C :: bm).contains (.type "LookupError") = true) (hA : (Value.ref C :: bm).contains (.type "AttributeError") = false) (hN : (Value.ref C :: bm).contains (.type "NameError") = false) (hK : hp.get? C = some (excClassObj nm q C N bs bm true sn sub ab col dd k0 k1 k2 k3 k5 lkNew))
    (hq : R (.ok (.ret (.ref (hp.objs.size + 1)))) ⟨(hp.push (W.kdv_tup rs)).push (excO C hp.objs.size), gs, dr, tk, os⟩) (hl : rs.length ≤ sizeLine) : codeAny (model prog w) A (.builtin lkNew ⟨.ref C :: rs, []⟩) R ⟨hp, gs, dr, tk, os⟩ := by
  have e0 := PySem.F.excBase_LookupError.ends
  refine PySem.codeAny_builtinAt PySem.F.excBase_LookupError.entry (?_ : _)
  unfold Builtin.«BaseException.__new__»
  refine PySem.wpAt_bind ?_
  show PySem.wpAt _ _ _ (stack >>= _) _ _ _
  refine PySem.wpAt_bind (PySem.wpAt_stack fun p0 b0 => PySem.wpAt_of_wpAny ?_)
  wp_walk
  refine PySem.wpAt_of_wpAny ?_
  rw [PySem.F.excBase_LookupError.owner]
  repeat (first | with_reducible refine wpAny_madeHere_exc PySem.F.excBase_LookupError.canon hK ?_ | with_reducible refine wpAny_loadPart_at hK ?_ | (with_reducible refine wpAny_isSubtype_exc hK ?_; first | rw [hB] | rw [hA] | rw [hN]) | wp_step)
  show R _ _
  rw [Heap.size_push]
  exact hq
theorem key_type {Q : Fin → Shared → Prop} (hB : (Value.ref C :: bm).contains (.type "LookupError") = true) (hA : (Value.ref C :: bm).contains (.type "AttributeError") = false) (hN : (Value.ref C :: bm).contains (.type "NameError") = false) (hK : hp.get? C = some (excClassObj nm q C N bs bm true sn sub ab col dd k0 k1 k2 k3 k5 lkNew))
    (hi : W.Looks (model prog w) hp (typeLookup (.ref C) "__init__") (some (.ref fI))) (hb : ∀ self, W.Looks (model prog w) hp (bindSpecial (.ref fI) self) (.ref fI, [self])) (hl : rs.length ≤ sizeLine)
    (hq : codeAny (model prog w) A (.call (.ref fI) ⟨.ref (hp.objs.size + 1) :: rs, []⟩) (fun r s' => match r with | .ok (.ret v) => v = .none ∧ Q (.done (.ret (.ref (hp.objs.size + 1)))) s' | .ok _ => False | .error e => E e s') ⟨(hp.push (W.kdv_tup rs)).push (excO C hp.objs.size), gs, dr, tk, os⟩) :
    wpAny (model prog w) A (Builtin.«type.__call__» ⟨.ref C :: rs, []⟩) Q E ⟨hp, gs, dr, tk, os⟩ := by
  repeat (first | with_reducible refine wpAny_loadPart_at hK ?_ | with_reducible refine wpAny_madeBy_exc hK ?_ | wp_step)
  refine codeAny_call_builtin_code (Code.quiet_builtin _ PySem.F.excBase_LookupError.quiet) (key_check hB hK ?_)
  refine key_new hB hA hN hK ?_ hl
  show wpAny _ _ _ _ _ _
  have kp : ∀ b o, hp.get? b = some o → ((hp.push (W.kdv_tup rs)).push (excO C hp.objs.size)).get? b = some o := fun b o e => Heap.get?_push_of_some _ (Heap.get?_push_of_some _ e)
  have hK1 := kp _ _ hK
  have hg : ((hp.push (W.kdv_tup rs)).push (excO C hp.objs.size)).get? (hp.objs.size + 1) = some (excO C hp.objs.size) := by heap_get
  have cc : (Value.ref C :: bm).contains (.ref C) = true := by simp
  have j1 := hi.keeps kp
  have j2 := (hb (.ref (hp.objs.size + 1))).keeps kp
  unfold isInstance
  repeat (first | with_reducible refine wpAny_loadPart_at hg ?_ | (with_reducible refine wpAny_isSubtype_exc hK1 ?_; rw [cc]) | wp_step)
  show wpAny _ _ (typeLookup (.ref C) _) _ _ _
  refine j1.at (wpAny_holding (wpAny_bind (j2.at (wpAny_bind (wpAny_call (codeAny_mono hq fun r s' z => ?_))))))
  rcases r with e | (v | _ | _ | _) <;> first | exact z | exact z.elim | skip
  obtain ⟨rfl, z⟩ := z
  first
    | exact wpAny_pure (wpAny_pure z)
    | (wp_walk; exact z)
theorem own_key : OwnCall lkNew bsKey := by
  intro prog w A R hp gs dr tk os nm q C N fI bs bm sn sub ab col dd k0 k1 k2 k3 k5 rs hT hK hi hb hl hq
  have hB : (Value.ref C :: bm).contains (.type "LookupError") = true := by rw [List.contains_cons, hT]; rfl
  have hA : (Value.ref C :: bm).contains (.type "AttributeError") = false := by rw [List.contains_cons, hT]; rfl
  have hN : (Value.ref C :: bm).contains (.type "NameError") = false := by rw [List.contains_cons, hT]; rfl
  have z1 := tc_lookup
  have z2 := tc_bind (.ref C)
  have z3 : (⟨hp, gs, dr, tk, os⟩ : Shared).TypeIs (.ref C) "type" := ⟨_, hK, rfl⟩
  refine codeAny_of_tree ?_
  show wpAny _ _ (callAny (.ref C) _) _ _ _
  repeat (any_goals (first | assumption | with_reducible refine wpAny_loadPart_at hK ?_ | wp_step))
  refine ⟨rfl, ?_⟩
  refine codeAny_call_builtin_at (Code.quiet_builtin _ (by decide +kernel)) entry_typeCall (wpAny_check_type_call_sub hK (key_type hB hA hN hK hi hb hl ?_))
  refine codeAny_mono hq fun r s' z => ?_
  rcases r with e | (v | _ | _ | _) <;> exact z
end
end Y
namespace Y
open PySem PySem.Spec PyProof.Rows L2 Z
open PySem.W PySem.Calls PySem.HandSPX
/-! ### an own class of errors whose __init__ keeps its argument in one field -/
def iA (f : Str) (p1 p2 : Pos) : Arguments := { posonlyargs := [], args := [{ arg := "self", annotation := none, pos := p1 }, { arg := f, annotation := none, pos := p2 }], vararg := none, kwonlyargs := [], kw_defaults := [], kwarg := none, defaults := [] }
def iB (f : Str) (q1 q2 q3 q4 : Pos) : List Stmt := [.Assign [.Attribute (.Name "self" q1) f q2] (.Name f q3) q4]
def iS (f : Str) : Scope := { kind := .function, names := [(PySem.Str.ofString "self", .local), (f, .local)], isGenerator := false, isCoroutine := false, more := [] }
/-- a built-in base of own errors -/
structure ExB (bmB : List Value) (newId : String) : Prop where
  call : OwnCall newId bmB
  ps : ∀ self, refuseLoop self "__setattr__" bmB = pure ()
  ob : bmB.contains (.type "object") = true
  ne : bmB.isEmpty = false
def bsValue : List Value := [.type "ValueError", .type "Exception", .type "BaseException", .type "object"]
def bsOver : List Value := [.type "OverflowError", .type "ArithmeticError", .type "Exception", .type "BaseException", .type "object"]
def bsArith : List Value := [.type "ArithmeticError", .type "Exception", .type "BaseException", .type "object"]
def bsRun : List Value := [.type "RuntimeError", .type "Exception", .type "BaseException", .type "object"]
theorem exB_Value : ExB bsValue "ValueError.__new__" := ⟨own_base F.excBase_ValueError, F.store_ValueError.passes, by decide +kernel, rfl⟩
theorem exB_Over : ExB bsOver "OverflowError.__new__" := ⟨own_base F.excBase_OverflowError, F.store_OverflowError.passes, by decide +kernel, rfl⟩
theorem exB_Arith : ExB bsArith "ArithmeticError.__new__" := ⟨own_base F.excBase_ArithmeticError, F.store_ArithmeticError.passes, by decide +kernel, rfl⟩
theorem exB_Key : ExB bsKey lkNew := ⟨own_key, fun self => by kernel_rfl, by decide +kernel, rfl⟩
section
variable {prog : Program} {w : World} {A : Around} {E : Value → Shared → Prop} {R : Result → Shared → Prop} {hp : Heap} {g : Array GenState} {d : Drawn} {t : Tok} {os : OsState}
open Builtin Builtin.ObjectAttr in
theorem exc_osaG {K : W.Frag} {name : Str} {tk : Tok} {v : Value} {x C : Addr} {fv : Array Value} {cd : ClassData} {bmB : List Value} {newId : String} (EB : ExB bmB newId)
    (X : K.In hp) (hx : hp.get? x = some { cls := .ref C, data := .fields fv }) (hcd : W.clsIn K C = some cd) (hm : excTail bmB cd.mro = true) (hh : cd.hasDict = true) (ha : W.findIn K (.ref C) name = some none)
    (hq : ∀ h' tk' dx, (∀ b o, b ≠ x → hp.get? b = some o → h'.get? b = some o) → hp.objs.size ≤ dx → dx ≠ x → h'.get? x = some { cls := .ref C, dict := some dx, data := .fields fv } →
      h'.Ns1 dx (fun y => if y = name then some v else none) → R (.ok (.ret .none)) ⟨h', g, d, tk', os⟩) :
    codeAny (model prog w) A (.call (.builtin "object.__setattr__") ⟨[.ref x, .str name tk, v], []⟩) R ⟨hp, g, d, t, os⟩ := by
  have I : W.InstAt hp x { cls := .ref C, data := .fields fv } C none := ⟨hx, rfl, rfl, trivial⟩
  have SF := F.store_object
  have hob : cd.mro.contains (.type "object") = true := (excTail_contains "object" _ hm).trans EB.ob
  have ne : cd.mro.isEmpty = false := by
    cases e : cd.mro with
    | nil => rw [e] at hob; simp at hob
    | cons _ _ => rfl
  have hxs : x ≠ hp.objs.size := Nat.ne_of_lt (Heap.lt_size hx)
  have sub : W.Looks (model prog w) hp (isInstance (.ref x) (.type "object")) true := I.type.andThen (W.looks_mroIn X (by unfold W.mroIn; rw [hcd, Option.bind_some, if_neg (by rw [ne]; decide), hob]))
  refine codeAny_call_builtin SF.slot.plain SF.entry (@W.check_slot (model prog w) _ _ ⟨hp, g, d, t, os⟩ "object.__setattr__" "object" "__setattr__" (.ref x) [.str name tk, v] [] _ SF.kind SF.split sub (SF.args (.ref x) (.str name tk) v) ?_)
  have hmr : W.Looks (model prog w) hp (mroOf (.ref C)) cd.mro := (W.looks_clsIn X hcd).andThen .now
  have L3 : W.Looks (model prog w) hp (storeTaker? none) none := .now
  have hcls : W.Looks (model prog w) hp (classData C) cd := W.looks_clsIn X hcd
  rw [W.osa_eq, refuse_eq]
  refine wpAny_bind (wpAny_bind (I.type.at (wpAny_bind (hmr.at ?_))))
  rw [excTail_pass _ (EB.ps _) _ hm]
  refine wpAny_pure (wpAny_bind (I.type.at (wpAny_bind ((W.looks_findIn X ha).at (wpAny_bind (L3.at ?_))))))
  show wpAny _ _ (storeInOwnDict (.ref x) (.ref C) (.str name tk) name v false) _ _ _
  obtain ⟨nm, bs, mro, ns, qn, hd, sn, sb, ab, col, del⟩ := cd
  dsimp only at hh
  subst hh
  unfold storeInOwnDict ownDictForStores
  repeat (first | with_reducible refine store_in_new ?_ ?_ | with_reducible refine wpAny_loadPart_at hx ?_ | with_reducible refine hcls.at ?_ | wp_step)
  · exact ⟨_, #[], _, (Heap.get?_update_ne _ _ _ _ hxs.symm).trans (Heap.get?_push_at rfl rfl), rfl, fun e he => absurd he (by simp), fun _ => rfl⟩
  · intro h' tk' hn' hs
    have hx₁ : (hp.push { cls := .type "dict", data := .dict #[] }).get? x = some { cls := .ref C, data := .fields fv } := Heap.get?_push_of_some _ hx
    refine hq h' tk' hp.objs.size (fun b o hb ho => ?_) (Nat.le_refl _) hxs.symm ?_ hn'
    · exact (hs.2 b (Nat.ne_of_lt (Heap.lt_size ho))).trans ((Heap.get?_update_ne _ _ _ _ hb).trans (Heap.get?_push_of_some _ ho))
    · exact (hs.2 x hxs).trans (Heap.get?_update_self _ hx₁ rfl)
end
structure XcT (K : Frg) (C fI : Addr) (f qual : Str) (st : Stmt) : Prop where
  cls : ∃ nm q N bs bm sn sub ab col dd k0 k1 k2 k3 k5 bmB newId, K.lookup C = some (excClassObj nm q C N bs bm true sn sub ab col dd k0 k1 k2 k3 k5 newId) ∧ excTail bmB bm = true ∧ ExB bmB newId
  sa : findIn K (.ref C) "__setattr__" = some (some (.builtin "object.__setattr__"))
  xf : L2.XfC K C
  noN : findIn K (.ref C) f = some none
  iC : findIn K (.ref C) "__init__" = some (some (.ref fI))
  tC : typeIn K (.ref fI) = some (.type "function")
  kC : keepIn K (.ref C) = true
  exC : subIn K (.ref C) (.type "BaseException") = some true
  tyC : typeIn K (.ref C) = some (.type "type")
  df : DefAt K "__init__" qual st fI
  arg : ∃ p1 p2, defArgs st = iA f p1 p2
  body : ∃ q1 q2 q3 q4, defBody st = iB f q1 q2 q3 q4
  sc : defScope st = iS f
def Fld (f : Str) : Prop := f = "value" ∨ f = "index" ∨ f = "limit" ∨ f = "name"
theorem one_size (v : Value) : [v].length ≤ sizeLine := by
  rw [sizeLine_eq]
  exact (by decide : 1 ≤ 16777216)
theorem ldC {M : Model} {s : Shared} {name : Str} {scope : Scope} {L a : Addr} {cd : Value} {m : Str → Option Value} {x : Str} {pos : Pos} {v : Value} {Q : Value → Shared → Prop} {A : Around} {E : Value → Shared → Prop} (hn : s.heap.Ns L m) (hv : m x = some v) (h : Q v s)
    (hk : scope.kind = .function := by rfl) (hl : (envOfC name scope L a cd).kindOf x = some .local := by rfl) (hd : (x == ("__debug__" : Str)) = false := by decide) :
    wpAny M A (eval (.Name x pos) (envOfC name scope L a cd)) Q E s := wpAny_Name (wpAny_loadName_local hk hl hn hv h) hd
structure InitEnd (h h' : Heap) (x C dx t1 : Addr) (f : Str) (v : Value) : Prop where
  keep : ∀ b o, b ≠ x → h.get? b = some o → h'.get? b = some o
  obj : h'.get? x = some { cls := .ref C, dict := some dx, data := .fields #[.ref t1, .none, .none, .none, .bool false, .none] }
  dbig : h.objs.size ≤ dx
  dne : dx ≠ x
  ns : h'.Ns1 dx (fun y => if y = f then some v else none)
structure OwnMade (h h' : Heap) (e C d : Addr) (f : Str) (v : Value) : Prop where
  keep : ∀ b o, h.get? b = some o → h'.get? b = some o
  new : h.objs.size ≤ e
  obj : ∃ oe t1, h'.get? e = some oe ∧ oe.cls = .ref C ∧ oe.dict = some d ∧ oe.data = .fields #[.ref t1, .none, .none, .none, .bool false, .none]
  dbig : h.objs.size ≤ d
  dne : d ≠ e
  ns : h'.Ns1 d (fun y => if y = f then some v else none)
section
variable {prog : Program} {w : World} {A : Around} {E : Value → Shared → Prop} {R : Result → Shared → Prop} {s : Shared} {K : Frg} {mg : Str → Option Value} {C fI : Addr} {f qual : Str} {st : Stmt}
theorem xc_init (T : XcT K C fI f qual st) (hf : Fld f) {x t0 : Addr} {v : Value} (X : K.In s.heap) (hlim : s.heap.NoLimit) (hx : s.heap.get? x = some (excO C t0)) (hnx : K.lookup x = none) (hroom : A.depth < recursionLimit)
    (hq : ∀ h' tk dx, InitEnd s.heap h' x C dx t0 f v → R (.ok (.ret .none)) { s with heap := h', toks := tk }) :
    codeAny (model prog w) A (.call (.ref fI) ⟨[.ref x, v], []⟩) R s := by
  obtain ⟨fd, F⟩ := T.df
  obtain ⟨oc, od, dV, kV, doc, pm, an, cdv, ct, osl, rfl, ho, hcd, hD, hK⟩ := F.ex
  have hD' : dV = .none := by
    rcases hD with ⟨_, z⟩ | ⟨z, _⟩
    · exact z
    · exact absurd rfl z
  subst hD'
  obtain ⟨p1, p2, eA⟩ := T.arg
  obtain ⟨q1, q2, q3, q4, eB⟩ := T.body
  rw [eA, eB, T.sc] at ho
  obtain ⟨nm, q, N, bs, bm, sn, sub, ab, col, dd, k0, k1, k2, k3, k5, bmB, newId, hC, hbm, EB⟩ := T.cls
  have hcl : clsIn K C = some { name := nm, bases := bs, mro := .ref C :: bm, ns := N, qualname := q, hasDict := true, slotNames := sn, subclasses := sub, abstract := ab, collection := col, hasDel := false } := by unfold clsIn; rw [hC] <;> rfl
  have hsa := T.sa
  have hno := T.noN
  clear T eA eB F hK hD
  rcases hf with rfl | rfl | rfl | rfl
  all_goals
    refine Att.call_fn (binds := [("self", .ref x), (_, v)]) X hlim ho hcd hroom (BindsTo.of_eq (by first | rfl | with_unfolding_all rfl)) (by first | rfl | decide | with_unfolding_all rfl) (fun s₁ IC => ?_) rfl rfl rfl
    obtain ⟨h₁, tk₁, rfl⟩ := IC.toInCall.same
    have k : ∀ b o, s.heap.get? b = some o → h₁.get? b = some o := IC.toInCall.keep
    have hn := IC.toInCall.ns
    have hxL : s.heap.objs.size ≠ x := Nat.ne_of_gt (Heap.lt_size hx)
    have X₁ : K.In h₁ := X.keeps k
    have hx₁ := k _ _ hx
    show wpAny _ _ (execs _ _) _ _ _
    refine wpAny_execs_cons (plainObj_wpAny_Assign_Attribute ?_)
    refine ldC (v := v) hn (by first | rfl | with_unfolding_all rfl | kernel_rfl) (ldC (v := .ref x) hn (by first | rfl | with_unfolding_all rfl | kernel_rfl) ?_)
    refine set_plain X₁ (ox := excO C t0) (od := none) ⟨hx₁, rfl, rfl, trivial⟩ hsa ?_
    refine exc_osaG EB X₁ hx₁ hcl (show excTail bmB (.ref C :: bm) = true from hbm) rfl hno (fun h₃ tk₃ dx k₃ dn dne hx₃ hn₃ => ?_)
    show wpAny _ _ (execs _ _) _ _ _
    have z : s.heap.objs.size < h₁.objs.size := hn.lt
    exact wpAny_execs_nil (hq h₃ tk₃ dx ⟨fun b o hb e => k₃ b o hb (k b o e), hx₃, Nat.le_of_lt (Nat.lt_of_lt_of_le z dn), dne, hn₃⟩)
theorem xc_made (T : XcT K C fI f qual st) (hf : Fld f) {v : Value} (X : K.In s.heap) (hlim : s.heap.NoLimit) (hroom : A.depth + 1 < recursionLimit)
    (hq : ∀ h' tk e d, OwnMade s.heap h' e C d f v → R (.ok (.ret (.ref e))) { s with heap := h', toks := tk }) :
    codeAny (model prog w) A (.call (.ref C) ⟨[v], []⟩) R s := by
  obtain ⟨nm, q, N, bs, bm, sn, sub, ab, col, dd, k0, k1, k2, k3, k5, bmB, newId, hC, hbm, EB⟩ := T.cls
  obtain ⟨hp, g, dr, tk, os⟩ := s
  have k : ∀ b o, hp.get? b = some o → ((hp.push (kdv_tup [v])).push (excO C hp.objs.size)).get? b = some o := fun b o e => Heap.get?_push_of_some _ (Heap.get?_push_of_some _ e)
  have hget : ((hp.push (kdv_tup [v])).push (excO C hp.objs.size)).get? (hp.objs.size + 1) = some (excO C hp.objs.size) := by heap_get
  have hnx : K.lookup (hp.objs.size + 1) = none := by
    cases e : K.lookup (hp.objs.size + 1) with
    | none => rfl
    | some o =>
      have z : hp.get? (hp.objs.size + 1) = some o := X _ _ e
      exact absurd (Nat.lt_of_succ_lt (Heap.lt_size z)) (Nat.lt_irrefl _)
  refine EB.call (fun X => excTail_contains X bm hbm) (X _ _ hC) (looks_findIn X T.iC) (fun self => bind_fn X self T.tC) (one_size v) ?_
  refine xc_init (s := ⟨(hp.push (kdv_tup [v])).push (excO C hp.objs.size), g, dr, tk, os⟩) T hf (X.keeps k) (hlim.keeps k) hget hnx ?_ fun h' tk' dx ⟨k', hx, dn, dne, hns⟩ => ?_
  · show A.depth + 1 < recursionLimit
    exact hroom
  · have old : ∀ b o, hp.get? b = some o → h'.get? b = some o := fun b o e => k' b o (Nat.ne_of_lt (Nat.lt_succ_of_lt (Heap.lt_size e))) (k b o e)
    have z : hp.objs.size + 1 + 1 ≤ dx := by
      first
        | (simpa only [Heap.size_push] using dn)
        | exact dn
        | (have q := dn; rw [Heap.size_push, Heap.size_push] at q; exact q)
    exact ⟨rfl, hq h' tk' (hp.objs.size + 1) dx ⟨old, Nat.le_succ _, ⟨_, _, hx, rfl, rfl, rfl⟩, Nat.le_trans (Nat.le_trans (Nat.le_succ _) (Nat.le_succ _)) z, dne, hns⟩⟩
end
end Y
namespace Y
open PySem PySem.Spec PyProof.Rows L2 Z
/-! ### try: body, except C as n: suite, ..; the caught error is a thing of the heap -/
section
variable {X : Cx} {pins : List (Addr × Obj)} {σ : L2.St} {H : Hp} {s : Shared}
theorem xo_ok {P : Program} {w : World} {H : Hp} {h : Heap} {a : Addr} {cls : Value} {d : Option Addr} {oe : Obj} {vs : Array Value} (e : h.get? a = some oe) (z : L2N.Zn cls d oe) (hd : oe.data = .fields vs) : ObjOk P w H h a (XO cls d a) :=
  ⟨⟨oe, vs, e, z, hd⟩, ⟨oe, e⟩, fun _ _ ⟨o, v, q, r⟩ k => ⟨o, v, k o q, r⟩⟩
theorem inv_track {a m : Addr} {o : HO} (J : Inv X pins σ H s) (na : H a = none) (n0 : X.s_0.heap.get? a = none) (nL : a ≠ X.env.locals) (hcell : ∀ x c, X.env.cells.lookup x = some c → c ≠ a) (hpin : ∀ p ∈ X.pn ++ pins, p.1 ≠ a)
    (new : ObjOk X.prog X.w (upd H a o) s.heap a o) : Inv (X.suite m (X.pn ++ pins)) [] σ (upd H a o) s :=
  ⟨J.ok.suite _ _, J.os, J.bare, ⟨J.base.keep, J.base.slot, fun b u q n hx => by rw [upd_ne (fun z => by rw [z, n0] at q; cases q)]; exact J.base.free b u q n hx, J.base.there,
      fun b xs q => by have h := J.base.tups b xs q; rw [upd_ne (fun z => by rw [z, na] at h; cases h)]; exact h, fun b u xs q => by have h := J.base.frzs b u xs q; rw [upd_ne (fun z => by rw [z, na] at h; cases h)]; exact h,
      fun b ps q => by obtain ⟨more, h⟩ := J.base.tbls b ps q; exact ⟨more, by rw [upd_ne (fun z => by rw [z, na] at h; cases h)]; exact h⟩⟩,
    J.loc, J.cell, by show upd H a o X.env.locals = none; rw [upd_ne (Ne.symm nL)]; exact J.free, fun x c e => by rw [upd_ne (hcell x c e)]; exact J.freeC x c e,
    fun p hp => by
      have hp' : p ∈ X.pn ++ pins := by rw [List.append_nil] at hp; exact hp
      obtain ⟨h1, h2, h3⟩ := J.pin p hp'
      exact ⟨h1, by rw [upd_ne (hpin p hp')]; exact h2, h3⟩,
    fun b u e => by
      by_cases hb : b = a
      · subst hb
        rw [upd_same] at e
        cases e
        exact new
      · rw [upd_ne hb] at e
        exact (J.hok b u e).stay (fun c v _ q => q) (fun c q => by rw [upd_ne (fun z => by rw [z, na] at q; cases q)]; exact q) fun c xs q => by rw [upd_ne (fun z => by rw [z, na] at q; cases q)]; exact q, J.len⟩
theorem inv_untrk {m : Addr} {pn' : List (Addr × Obj)} (I : Inv (X.suite m (X.pn ++ pins)) pn' σ H s) (ok : X.Ok) : Inv X pins σ H s :=
  ⟨ok, I.os, I.bare, I.base, I.loc, I.cell, I.free, I.freeC, fun p hp => I.pin p (List.mem_append_left _ hp), I.hok, I.len⟩
end
def endX (i : Nat) (D : Ends) : Ends := { nx := fun σ' H' => D.nx (σ'.set i none) H', rt := D.rt, bk := fun σ' H' => D.bk (σ'.set i none) H', ct := fun σ' H' => D.ct (σ'.set i none) H' }
def wN (K : Frg) (Wout : WX) (D : Ends) : List (Value × Nat × (Addr → TS)) → WX
  | [] => Wout
  | (c, i, ts) :: l => fun cls d σ H => ∃ b, PySem.W.exmOne K cls c = some b ∧ (b = true → ∀ a, H a = none → ts a (endX i D) (σ.set i (some (.ref a))) (upd H a (XO cls d a))) ∧ (b = false → wN K Wout D l cls d σ H)
inductive HdsN (X : Cx) : List ExceptHandler → List (Value × Nat × (Addr → TS)) → Prop
  | nil : HdsN X [] []
  | cons {x n : Str} {c : Value} {i : Nat} {ts : Addr → TS} {b₀ : Stmt} {suite : List Stmt} {np pos' : Pos} {hds : List ExceptHandler} {l : List (Value × Nat × (Addr → TS))} (hc : Names X x c) (hi : X.N[i]? = some n) (hln : X.env.kindOf n = some .local)
      (hsu : ∀ (a : Addr) (pn : List (Addr × Obj)), PSs (X.suite a pn) (b₀ :: suite) (ts a)) (r : HdsN X hds l) :
      HdsN X (.ExceptHandler (some (.Name x np)) (some n) (b₀ :: suite) pos' :: hds) ((c, i, ts) :: l)
section
variable {X : Cx} {body : List Stmt} {h₀ : ExceptHandler} {hds : List ExceptHandler} {l : List (Value × Nat × (Addr → TS))} {pos : Pos} {tb : WX → TS} {Wout : WX}
theorem ps_tryN (hs : X.stack = X.env :: X.outer) (hf : X.env.frame = some X.env.locals) (hN : X.N.Nodup) (hex : X.ex = []) (tk : L2N.Takes X Wout)
    (hb : ∀ (W : WX) (pn : List (Addr × Obj)) (xe : Value → Shared → Prop), L2N.Takes (X.tr pn xe) W → PassesOwn (model X.prog X.w) X.A X.env xe → PSs (X.tr pn xe) body (tb W))
    (hh : HdsN X (h₀ :: hds) l) : PS X (.Try body (h₀ :: hds) [] [] pos) (fun D σ H => tb (wN X.K Wout D l) D σ H) := by
  refine ⟨fun pins s σ H D I h => ?_⟩
  have ok := I.ok
  have hfr : X.A.frames = some (X.env :: X.outer) := by rw [ok.frames, hs]
  refine wpAny_Try_except ?_
  refine wpAny_mono ((hb (wN X.K Wout D l) (X.pn ++ pins) (fun e s₁ => wpAny (model X.prog X.w) X.A (noteFrame e X.env) (fun _ s₂ => wpAny (model X.prog X.w) X.A (setFlight e none) (fun _ s₃ =>
    wpAny (model X.prog X.w) X.A (handleBy e X.env (h₀ :: hds)) (SP X pins D) X.xe s₃) X.xe s₂) X.xe s₁) (fun u s' xx => ?_) PassesOwn.looking).run [] s σ H D (I.toTry _) h) (fun f s1 hsp => ?_) (fun e s1 he => he)
  · obtain ⟨a, B, sI, pins', σ', H', cls, d, rfl, J', nb, up, sky, na, os, ag, w⟩ := xx
    have J : Inv X pins σ' H' sI := J'.ofTry ok
    have sky' : Sky B (X.env :: X.outer) a (L2N.Zn cls d) X.env.locals s'.heap := by rw [← hs]; exact sky
    show wpAny (model X.prog X.w) X.A (noteFrame (.ref a) X.env) _ _ _
    refine L2N.Sky.land L2N.Zn.steady hfr hf sky' fun h3 fl3 up3 => ?_
    have J3 : Inv X pins σ' H' { s' with heap := h3 } := J.landed nb fl3.1 (up.trans up3) os ag
    obtain ⟨oe3, vs3, he3, hz3, hd3⟩ := fl3.there
    have notFr : ∀ {h : Heap} {o : Obj} {vs : Array Value}, h.FunFrames B (X.env :: X.outer) → h.get? a = some o → o.data = .fields vs → a ∉ frs (X.env :: X.outer) := fun {h o vs} ff e dd hm => by
      obtain ⟨_, o', e', hnf⟩ := ff.mem hm
      rw [e] at e'; cases e'
      exact hnf _ dd
    have nfr := notFr fl3.2.2.1 he3 hd3
    have nL : a ≠ X.env.locals := fun z => nfr (List.mem_filterMap.mpr ⟨X.env, List.mem_cons_self, by rw [hf, z]⟩)
    have nF : a ∉ X.fs := fun hm => by
      obtain ⟨e, he, q⟩ := List.mem_filterMap.mp hm
      exact nfr (List.mem_filterMap.mpr ⟨e, List.mem_cons_of_mem _ he, q⟩)
    have nfrS : a ∉ frs X.stack := by rw [hs]; exact nfr
    have nI : ∀ o, sI.heap.get? a ≠ some o := fun o e => by
      have z := nb a o e nfrS
      rw [fl3.2.1] at z
      cases z
    have n0 : X.s_0.heap.get? a = none := by
      cases e : X.s_0.heap.get? a with
      | none => rfl
      | some o =>
        obtain ⟨o', z⟩ := J.base.there a o e (by rw [hex]; exact fun z => nomatch z)
        exact absurd z (nI o')
    have hpn : ∀ p ∈ X.pn ++ pins, p.1 ≠ a := fun p hp z => by
      have q := (J.pin p hp).1
      rw [z] at q
      exact nI _ q
    have hcl : ∀ x c, X.env.cells.lookup x = some c → c ≠ a := fun x c e z => by
      obtain ⟨v, o, q, _⟩ := J.cell x c e
      rw [z] at q
      exact nI _ q
    have S3 := J3.suite he3 hd3 na nL nF
    have go : ∀ {hds' : List ExceptHandler} {l' : List (Value × Nat × (Addr → TS))}, HdsN X hds' l' → wN X.K Wout D l' cls d σ' H' →
        wpAny (model X.prog X.w) X.A (handleBy (.ref a) X.env hds') (SP X pins D) X.xe { s' with heap := h3 } := by
      intro hds' l' hk
      induction hk with
      | nil =>
        intro w
        refine wpAny_handleBy_nil ?_
        obtain ⟨k1, k2, k3, oe, vs, T, oT, ts', he, hz, hd, h1, hr⟩ := id fl3
        unfold PySem.passOn
        refine wpAny_bind (wpAny_field he hd h1 ?_)
        rw [if_neg (show ¬ ((Value.ref T == Value.none) = true) from by simp)]
        have fin : wpAny (model X.prog X.w) X.A (setFlight (.ref a) X.env.frame) (fun _ s4 => wpAny (model X.prog X.w) X.A (throw (.ref a) : Sem Flow) (SP X pins D) X.xe s4) X.xe { s' with heap := h3 } := by
          rw [hf]
          refine HandSPX.setFlight_upZ fl3 fun h4 hh4 up4 => wpAny_throw (tk _ _ ?_)
          exact ⟨a, B, sI, pins, σ', H', cls, d, rfl, J, nb, (up.trans up3).trans up4, .inr (.inr (by rw [hs]; exact hh4)), na, os, ag, w⟩
        first
          | exact wpAny_bind (wpAny_pure (wpAny_bind fin))
          | exact wpAny_bind fin
      | @cons x n c i ts b₀ suite np pos' hds2 l2 hc hi hln hsu r ih =>
        intro w
        obtain ⟨b, hb1, hyes, hno⟩ := w
        refine wpAny_handleBy_cons (codeAny_handlers_test ?_) (by intro q; cases q)
        have LT : PySem.W.Looks (model X.prog X.w) h3 (typeOf (.ref a)) cls := fun A Q E s k q => wpAny_typeOf_ref (k _ _ he3) (by rw [hz3.1]; exact q)
        have LM := PySem.W.exm_one (M := model X.prog X.w) (J3.kIn) LT hb1
        have test : ∀ {Q : Value → Shared → Prop} {E : Value → Shared → Prop}, Q c { s' with heap := h3 } → wpAny (model X.prog X.w) (X.A.mark (some (.ref a))) (eval (.Name x np) X.env) Q E { s' with heap := h3 } := fun {Q E} q => by
          obtain ⟨hg, hdbg, hm | ⟨hm, hv, hnn⟩⟩ := hc
          · exact ld_glob (X := X.suite a ((a, oe3) :: (X.pn ++ pins))) S3 hg hm q hdbg
          · exact ld_blt (X := X.suite a ((a, oe3) :: (X.pn ++ pins))) S3 hg hm hv q hnn hdbg
        refine test (LM.here ?_)
        cases b with
        | true =>
          refine codeAny_handlers_suite_as ?_
          refine HandSPX.lands_againZ fl3 fun h4 fl4 up4 => ?_
          have J4 : Inv X pins σ' H' { s' with heap := h4 } := J.landed nb fl4.1 ((up.trans up3).trans up4) os ag
          obtain ⟨oe4, vs4, he4, hz4, hd4⟩ := fl4.there
          have S4 := inv_track (m := a) (o := XO cls d a) J4 na n0 nL hcl hpn (xo_ok he4 hz4 hd4)
          refine store_ok (X := X.suite a (X.pn ++ pins)) (v := .ref a) S4 hN hi (.inl hln) rfl (fun s5 S5 => ?_) (.inr hln)
          refine wpAny_mono ((hsu a (X.pn ++ pins)).run [] s5 _ _ _ S5 (hyes rfl a na)) (fun f s6 hsp => ?_) (fun _ _ z => False.elim z)
          have end_ : ∀ {σ6 : L2.St} {H6 : Hp} {Q : Shared → Prop}, Inv (X.suite a (X.pn ++ pins)) [] σ6 H6 s6 → (∀ s7, Inv X pins (σ6.set i none) H6 s7 → Q s7) →
              wpAny (model X.prog X.w) X.A (do bindName X.env n .none; unbindBehindTheSuite X.env n pos') (fun _ s7 => Q s7) X.xe s6 := fun {σ6 H6 Q} S6 hq => gone_ok (inv_untrk S6 ok) hN hi hln hq
          cases f with
          | next =>
            obtain ⟨σ6, H6, S6, q6⟩ := hsp
            exact end_ S6 fun s7 J7 => ⟨_, _, J7, q6⟩
          | brk =>
            obtain ⟨σ6, H6, S6, q6⟩ := hsp
            exact end_ S6 fun s7 J7 => ⟨_, _, J7, q6⟩
          | cont =>
            obtain ⟨σ6, H6, S6, q6⟩ := hsp
            exact end_ S6 fun s7 J7 => ⟨_, _, J7, q6⟩
          | ret u =>
            obtain ⟨v6, σ6, H6, S6, r6, q6⟩ := hsp
            exact end_ S6 fun s7 J7 => ⟨_, _, _, J7, r6, q6⟩
        | false =>
          show wpAny _ X.A (handleBy (.ref a) X.env hds2) _ _ _
          exact ih (hno rfl)
    exact go hh w
  · cases f with
    | next =>
      obtain ⟨σ', H', J', q⟩ := hsp
      exact wpAny_execs_nil ⟨σ', H', J'.ofTry ok, q⟩
    | brk =>
      obtain ⟨σ', H', J', q⟩ := hsp
      exact ⟨σ', H', J'.ofTry ok, q⟩
    | cont =>
      obtain ⟨σ', H', J', q⟩ := hsp
      exact ⟨σ', H', J'.ofTry ok, q⟩
    | ret u =>
      obtain ⟨v, σ', H', J', r, q⟩ := hsp
      exact ⟨v, σ', H', J'.ofTry ok, r, q⟩
end
end Y
namespace Y
open PySem PySem.Spec PyProof.Rows L2 Z
/-! ### raise -/
abbrev Tk (X : Cx) (B : Bs) : Prop := L2N.Takes X (fun cls d _ H => EE X.K B cls d H)
def tMkX (C : Addr) (f : Str) (ta : TA) : L2.St → Hp → XK → Prop := fun σ H Q => ta σ H fun vs H1 => ∃ v, vs = [v] ∧ ∀ d, H1 d = none → Q (.ref C) (some d) (upd H1 d (.xd [(f, v)]))
theorem relO_x {f : Str} {v : V} {v' : Value} (r : RelV v v') (g : Str) : RelO (List.lookup g [(f, v)]) (if g = f then some v' else none) := by
  by_cases hw : g = f
  · subst hw
    rw [if_pos rfl]
    have q : List.lookup g [(g, v)] = some v := by simp [List.lookup]
    rw [q]
    exact r
  · rw [if_neg hw]
    have qw : (g == f) = false := by simpa using hw
    have q2 : List.lookup g [(f, v)] = none := by simp [List.lookup, qw]
    rw [q2]
    trivial
section
variable {X : Cx} {B : Bs} {a b c e : Expr} {es : List Expr} {ra rb rc r : Rd} {rt ru : RdT} {rl : RdA} {pos p p0 p1 pos2 : Pos} {st : Stmt} {C fI f : Addr} {x fn qual : Str} {sti : Stmt} {k : Nat} {R : RdF}
theorem pmk_x {ta : TA} (T : XcT X.K C fI fn qual sti) (hf : Fld fn) (hr : RoomG k X.A) (ha : PA X [a] ta) (hg : Gl X x) (hm : X.mg x = some (.ref C)) (hdb : (x == ("__debug__" : Str)) = false := by decide)
    (he : starEach (a :: []) X.env = (false, eval a X.env) :: starEach [] X.env := by rfl) (hpl : (backTo pos (starEach [] X.env)).any (·.1) = false := by rfl) :
    L2N.PMk X (.Call (.Name x p) [a] [] pos) (tMkX C fn ta) := by
  intro pins s σ H Q I h
  refine wpAny_Call_Name_kw (ld_glob I hg hm ?_ hdb)
  refine PySem.W.callWith_K (h₀ := X.base) I.ok.mod.kin T.kC (thn (ha.run pos pins s σ H _ I h) fun us s1 hh => ?_) he hpl
  obtain ⟨vs, H1, I1, r1, v, ev, q1⟩ := hh
  subst ev
  refine ⟨I1.kIn, ?_⟩
  cases r1 with
  | cons rv rn =>
    rename_i v' us'
    cases rn
    show wpAny _ _ (call (.ref C) [v']) _ _ _
    have hlim := I1.nolimit
    obtain ⟨hp, g, dr, tk, os⟩ := s1
    refine wpAny_call (xc_made T hf I1.kIn hlim (by have := hr.rm.dp; omega) fun h' tk' e d M => ?_)
    show L2N.MkP X pins σ Q (.ref e) ⟨h', g, dr, tk', os⟩
    obtain ⟨oe, t1, hoe, hc, hd, hdat⟩ := M.obj
    have hns := M.ns
    obtain ⟨G', g1, g2⟩ := restrict h' fun b => decide (b ≠ e)
    have gk : ∀ b, b ≠ e → G'.get? b = h'.get? b := fun b hb => g1 b (decide_eq_true hb)
    have ge : G'.get? e = none := g2 e (by simp)
    have old : ∀ b o, hp.get? b = some o → G'.get? b = some o := fun b o q => (gk b (Nat.ne_of_lt (Nat.lt_of_lt_of_le (Heap.lt_size q) M.new))).trans (M.keep b o q)
    have ob : ObjOk X.prog X.w (upd H1 d (.xd [(fn, v)])) G' d (.xd [(fn, v)]) :=
      ⟨_, hns.at (fun o q => (gk d M.dne).trans q), fun f => relO_x rv f⟩
    have J : Inv X pins σ (upd H1 d (.xd [(fn, v)])) ⟨G', g, dr, tk', os⟩ := I1.laid (t' := tk') old M.dbig ob
    refine ⟨e, oe, _, ⟨G', g, dr, tk', os⟩, _, .ref C, some d, rfl, J, fun b o q => ?_, ge, hoe, ⟨hc, hd, fun vs z => by rw [hdat] at z; cases z; rfl⟩, hdat, rfl, ?_, rfl, I1.bare, raises_own T.exC T.tyC, q1 d (I1.hok.fresh M.dbig)⟩
    · by_cases hb : b = e
      · have q' : G'.get? b = some o := q
        rw [hb, ge] at q'; cases q'
      · exact (gk b hb).symm.trans q
    · rw [upd_ne (Ne.symm M.dne)]
      exact I1.hok.fresh M.new
theorem s_raise (hc : X.calm = true) (tk : Tk X B) (T : XcT X.K (He.ga X.K x) fI fn qual sti) (hf : Fld fn) (hr : RoomG k X.A) (ha : PEp X B a r) (hg : Gl X x) (hm : X.mg x = some (.ref (He.ga X.K x))) (hdb : (x == ("__debug__" : Str)) = false := by decide)
    (he : starEach (a :: []) X.env = (false, eval a X.env) :: starEach [] X.env := by rfl) (hpl : (backTo pos (starEach [] X.env)).any (·.1) = false := by rfl) :
    PSp X B (.Raise (some (.Call (.Name x p) [a] [] pos)) none pos2) (fun ρ _ => r ρ fun d => B.Ed ⟨.glob x, [fn], [d]⟩) :=
  ps_imp (L2N.ps_raise hc tk (pmk_x T hf hr (pa_cons ha pa_nil he) hg hm hdb he hpl)) fun σ H Dd ⟨F, ρ, E, I, z, _⟩ => ⟨F, ρ, _, I, z, fun v F1 H1 d g1 t1 r1 q => ⟨v, rfl, fun dd hd =>
    ⟨upd F1 dd (.xd [(fn, v)]), ⟨.glob x, [fn], [d]⟩, (I.go.trans g1).trans (Go.new t1.1 hd), t1.go0 (Go.new t1.1 hd), ⟨rfl, fun _ => ⟨dd, [v], rfl, upd_same, rfl, .cons (r1.up (Go.new (ms := B.ms) t1.1 hd).ff) .nil⟩⟩, q⟩⟩⟩
/-! ### what may raise, in the body of a try -/
def tX (K : Frg) (B : Bs) (r : Ev → (D → Prop) → (Ex → Prop) → Prop) (W : WX) : TE := fun σ H Q => ∃ F ρ Qd Ed, Iv K B F H σ ρ ∧ r ρ Qd Ed ∧ (∀ v F' H' d, Go B.ms F H F' H' → Tp K B.ms F' H' → Rp K B.ms F' v d → Qd d → Q v H') ∧
  ∀ cls d F' H' x, Go B.ms F H F' H' → Tp K B.ms F' H' → XR K B.ms F' cls d x → Ed x → W cls d σ H'
def PXp (X : Cx) (B : Bs) (e : Expr) (r : Ev → (D → Prop) → (Ex → Prop) → Prop) : Prop := ∀ W, L2N.Takes X W → PE X e (tX X.K B r W)
theorem run_X {W : WX} {pins : List (Addr × Obj)} {σ : L2.St} {H : Hp} {s : Shared} {sp : Sp} {Q : VK} {us : List Value} {vs : List V} (F : FnA X.A X.prog X.w X.K X.mg X.base (L2N.CX X.prog X.w) f sp) (tk : L2N.Takes X W) (I : L2.Inv X pins σ H s) (r : Vals vs us) (h : sp vs H Q (fun cls d H' => W cls d σ H')) :
    codeAny (model X.prog X.w) X.A (.call (.ref f) ⟨us, []⟩) (fun r s' => match r with | .ok (.ret v) => EP X pins σ Q v s' | .ok _ => False | .error e => X.xe e s') s :=
  codeAny_mono (F X.stack s H us vs Q _ I.env0 r h) fun q s' hq => match q, hq with
    | .error er, hq => tk er s' (L2N.XE.of_call I (fun _ _ _ h => h) hq)
    | .ok (.ret _), hq => I.after hq
    | .ok .next, hq => False.elim hq
    | .ok .brk, hq => False.elim hq
    | .ok .cont, hq => False.elim hq
/-! ### try -/
def endR (i : Nat) (E : En) : En := { nx := fun ρ' => E.nx (ρ'.set i .no), rt := E.rt, bk := fun ρ' => E.bk (ρ'.set i .no), ct := fun ρ' => E.ct (ρ'.set i .no) }
def hndR (K : Frg) (Ed : Ex → Prop) : List (Str × Nat × RdS) → Ex → Ev → En → Prop
  | [], x, _, _ => Ed x
  | (C, i, rs) :: l, x, ρ, E => ∃ b, (∃ cls, clsV K x.c = some cls ∧ PySem.W.exmOne K cls (.ref (He.ga K C)) = some b) ∧ ifB b (rs (ρ.set i (.mu (.exc x))) (endR i E)) (hndR K Ed l x ρ E)
inductive HdsP (X : Cx) (B : Bs) : List ExceptHandler → List (Str × Nat × RdS) → Prop
  | nil : HdsP X B [] []
  | cons {x n : Str} {i : Nat} {rs : RdS} {b₀ : Stmt} {suite : List Stmt} {np pos' : Pos} {hds : List ExceptHandler} {l : List (Str × Nat × RdS)} (hc : Names X x (.ref (He.ga X.K x))) (hi : X.N[i]? = some n) (hln : X.env.kindOf n = some .local)
      (hsu : ∀ (a : Addr) (pn : List (Addr × Obj)), PSsp (X.suite a pn) B.nox (b₀ :: suite) rs) (r : HdsP X B hds l) :
      HdsP X B (.ExceptHandler (some (.Name x np)) (some n) (b₀ :: suite) pos' :: hds) ((x, i, rs) :: l)
def hdV (K : Frg) (B : Bs) (q : Str × Nat × RdS) : Value × Nat × (Addr → TS) := (.ref (He.ga K q.1), q.2.1, fun _ => tS K B.nox q.2.2)
theorem HdsP.n {hds : List ExceptHandler} {l : List (Str × Nat × RdS)} (h : HdsP X B hds l) : HdsN X hds (l.map (hdV X.K B)) := by
  induction h with
  | nil => exact .nil
  | cons hc hi hln hsu _ ih => exact .cons hc hi hln hsu ih
theorem Iv.unnox {K : Frg} {F H : Hp} {σ : L2.St} {ρ : Ev} (I : Iv K B.nox F H σ ρ) : Iv K B F H σ ρ := ⟨I.go, I.tp, I.len, I.val, I.own, I.sep⟩
theorem hnd_ok {K : Frg} {E : En} {Dd : Ends} {F H : Hp} {σ : L2.St} {ρ : Ev} {cls : Value} {d : Option Addr} {x : Ex} (h0 : Same B.F0 B.H0) (I : Iv K B F H σ ρ) (xr : XR K B.ms F cls d x)
    (kn : ∀ σ' ρ' F' H', Same F F' → Iv K B F' H' σ' ρ' → E.nx ρ' → Dd.nx σ' H') (kr : ∀ v d F' H', Go B.ms B.F0 B.H0 F' H' → Tp K B.ms F' H' → Rp K B.ms F' v d → E.rt d → Dd.rt v H')
    (kb : ∀ σ' ρ' F' H', Same F F' → Iv K B F' H' σ' ρ' → E.bk ρ' → Dd.bk σ' H') (kc : ∀ σ' ρ' F' H', Same F F' → Iv K B F' H' σ' ρ' → E.ct ρ' → Dd.ct σ' H') :
    ∀ {l : List (Str × Nat × RdS)}, hndR K B.Ed l x ρ E → wN K (fun cls d _ H => EE K B cls d H) Dd (l.map (hdV K B)) cls d σ H
  | [], q => ⟨F, x, I.go, I.tp, xr, q⟩
  | (C, i, rs) :: l, q => by
    obtain ⟨b, ⟨cls', e1, e2⟩, q⟩ := q
    have e3 : cls' = cls := Option.some.inj (e1.symm.trans xr.1)
    subst e3
    refine ⟨b, e2, fun hb a na => ?_, fun hb => ?_⟩
    · subst hb
      refine ⟨F, _, endR i E, (I.newM (m := .exc x) h0 i na rfl ⟨cls', d, rfl, xr⟩).nox, ifB_t q, fun σ' ρ' F' H' s J z => ?_, fun v d F' H' g t r z => kr v d F' H' g t r z, fun σ' ρ' F' H' s J z => ?_, fun σ' ρ' F' H' s J z => ?_⟩
      · exact kn _ _ F' H' s (J.unnox.wipe i) z
      · exact kb _ _ F' H' s (J.unnox.wipe i) z
      · exact kc _ _ F' H' s (J.unnox.wipe i) z
    · subst hb
      exact hnd_ok h0 I xr kn kr kb kc (ifB_f q)
theorem s_tryE {h₀ : ExceptHandler} {hds : List ExceptHandler} {l : List (Str × Nat × RdS)} {rx : Ev → (D → Prop) → (Ex → Prop) → Prop} (h0 : Same B.F0 B.H0) (hs : X.stack = X.env :: X.outer) (hf : X.env.frame = some X.env.locals) (hN : X.N.Nodup) (hex : X.ex = []) (tk : Tk X B)
    (hx : ∀ (pn : List (Addr × Obj)) (xe : Value → Shared → Prop), PXp (X.tr pn xe) B e rx) (hh : HdsP X B (h₀ :: hds) l) (hsw : swapsWith e none p1.line X.env = pure false := by rfl) :
    PSp X B (.Try [.Expr e p1] (h₀ :: hds) [] [] pos) (fun ρ E => rx ρ (fun _ => E.nx ρ) (fun x => hndR X.K B.Ed l x ρ E)) :=
  ps_imp (ps_tryN (Wout := fun cls d _ H => EE X.K B cls d H) (tb := fun W => tDrop (tX X.K B rx W)) hs hf hN hex tk (fun W pn xe tk' po => pss_one (ps_expr (hx pn xe W tk') hsw)) hh.n) fun σ H Dd ⟨F, ρ, E, I, z, kn, kr, kb, kc⟩ =>
    ⟨F, ρ, _, _, I, z, fun v F' H' d g t r q => kn σ ρ F' H' g.ff (I.step g t) q, fun cls d F' H' x g t xr q => hnd_ok h0 (I.step g t) xr (fun σ2 ρ2 F2 H2 s => kn σ2 ρ2 F2 H2 (g.ff.trans s)) kr (fun σ2 ρ2 F2 H2 s => kb σ2 ρ2 F2 H2 (g.ff.trans s)) (fun σ2 ρ2 F2 H2 s => kc σ2 ρ2 F2 H2 (g.ff.trans s)) q⟩
/-! ### the field of a caught error -/
def rXf (cs : List Str) (i : Nat) (f : Str) : Rd := fun ρ Q => match ρ[i]? with
  | some (.mu (.exc x)) => (∃ c ∈ cs, x.c = .glob c) ∧ x.ns = [f] ∧ (match x.ds with | [d] => Q d | _ => False)
  | _ => False
theorem y_xf {n fn : Str} {i : Nat} {cs : List Str} (hv : PE X (.Name n p) (tVar i)) (hc : ∀ c ∈ cs, XfC X.K (He.ga X.K c) ∧ PySem.W.findIn X.K (.ref (He.ga X.K c)) fn = some none)
    (hb : attributeBase (.Name n p) fn X.env (eval (.Name n p) X.env) = eval (.Name n p) X.env := by rfl) : PEp X B (.Attribute (.Name n p) fn pos) (rXf cs i fn) := by
  refine ⟨fun pins s σ H Q I ⟨F, ρ, Qd, J, z, kk⟩ => ?_⟩
  unfold rXf at z
  split at z
  · rename_i x hx
    obtain ⟨⟨c, hcs, ec⟩, hns, z⟩ := z
    split at z
    · rename_i dv hds
      obtain ⟨a, o, h1, h2, h3, h4, h5, cls, d, rfl, xr⟩ := J.own i _ hx
      refine attr_of hb (thn (hv.run pins s σ H (fun v H1 => v = .ref a ∧ H1 = H) I ⟨_, h1, rfl, rfl⟩) fun u s1 hh => ?_)
      obtain ⟨x1, H1, I1, rx, rfl, rfl⟩ := hh
      obtain rfl : u = Value.ref a := rx
      obtain ⟨⟨oe, vs, ha, hz, hd⟩, _⟩ := I1.hok a _ h5
      obtain ⟨ec1, xr2⟩ := xr
      rw [ec] at ec1
      have ecl : cls = .ref (He.ga X.K c) := (Option.some.inj ec1).symm
      subst ecl
      obtain ⟨dd, ws, ed, eF, el, er⟩ := xr2 (.inl (by rw [hns]; exact fun z => nomatch z))
      rw [hns] at eF el
      rw [hds] at er
      subst ed
      obtain ⟨T, hno⟩ := hc c hcs
      cases er with
      | @cons v _ _ _ r1 r2 =>
      cases r2
      have hx2 : ObjOk X.prog X.w H1 s1.heap dd (.xd [(fn, v)]) := I1.hok dd _ (J.same _ _ eF)
      obtain ⟨mA, hns2, hr⟩ := hx2
      obtain ⟨od, ho, hl⟩ := lookIn_ns hns2
      have l : List.lookup fn [(fn, v)] = some v := by simp [List.lookup]
      obtain ⟨u, hu, ru⟩ := RelO.some_of (v := v) (o := mA fn) (by rw [← l]; exact hr fn)
      have JJ : PySem.W.InstAt s1.heap a oe (He.ga X.K c) (some od) := ⟨ha, hz.1, by unfold PySem.W.notCls; rw [hd] <;> rfl, by rw [hz.2.1]; exact ho⟩
      exact HandSPX.exc_get I1.kIn JJ T.ga T.gg T.exC (PySem.W.findObj_own T.hdC hno rfl (by rw [hl, hu])) (handed_of ru) ⟨v, H1, I1.tok _, ru, kk v F H1 dv (Go.refl J.same) J.tp r1 z⟩
    · exact z.elim
  · exact z.elim
end
end Y
namespace Y
open PySem PySem.Spec PyProof.Rows L2 Z
/-! ### what the heap tells of an error class -/
def bsOf : Nat → List Value × String
  | 0 => (bsValue, "ValueError.__new__")
  | 1 => (bsOver, "OverflowError.__new__")
  | 3 => (bsKey, lkNew)
  | _ => (bsArith, "ArithmeticError.__new__")
theorem exB_of : ∀ b : Nat, ExB (bsOf b).1 (bsOf b).2
  | 0 => exB_Value
  | 1 => exB_Over
  | 2 => exB_Arith
  | 3 => exB_Key
  | _ + 4 => exB_Arith
def xclB (K : Frg) (C : Addr) (b : Nat) : Bool := match K.lookup C with
  | some ⟨.type "type", _, .cls cd, sl⟩ => (match cd.mro, sl.toList with
    | .ref C' :: bm, [_, _, _, _, some (.builtin n), _] => C' == C && n == (bsOf b).2 && !cd.hasDel && cd.hasDict && PySem.W.excTail (bsOf b).1 bm
    | _, _ => false)
  | _ => false
theorem xcl_of {K : Frg} {C : Addr} {b : Nat} (q : xclB K C b = true) : ∃ nm q N bs bm sn sub ab col dd k0 k1 k2 k3 k5 bmB newId, K.lookup C = some (excClassObj nm q C N bs bm true sn sub ab col dd k0 k1 k2 k3 k5 newId) ∧ PySem.W.excTail bmB bm = true ∧ ExB bmB newId := by
  unfold xclB at q
  split at q
  · rename_i dd cd sl ho
    split at q
    · rename_i C' bm k0 k1 k2 k3 n k5 hm hs
      simp only [Bool.and_eq_true, beq_iff_eq, Bool.not_eq_true'] at q
      obtain ⟨⟨⟨⟨rfl, rfl⟩, hdel⟩, hdi⟩, ht⟩ := q
      obtain ⟨nm, bs, mro, ns, qn, hd, sn, sub, ab, col, del⟩ := cd
      dsimp only at hm hdel hdi
      subst hm hdel hdi
      have hsl : sl = #[k0, k1, k2, k3, some (.builtin (bsOf b).2), k5] := by
        obtain ⟨l⟩ := sl
        simp only at hs
        rw [hs]
      subst hsl
      exact ⟨nm, qn, ns, bs, bm, sn, sub, ab, col, dd, k0, k1, k2, k3, k5, _, _, ho, ht, exB_of b⟩
    · cases q
  · cases q
def bXc (x f : Str) (b : Nat) : Frg → Bool := fun K => xclB K (He.ga K x) b && (He.eqO (PySem.W.findIn K (.ref (He.ga K x)) "__setattr__") (some (some (.builtin "object.__setattr__"))) && (L2.xfB K (He.ga K x) && (He.eqO (PySem.W.findIn K (.ref (He.ga K x)) f) (some none) &&
  (He.eqO (PySem.W.findIn K (.ref (He.ga K x)) "__init__") (some (some (.ref (He.ma K (He.ga K x) "__init__")))) && (decide (PySem.W.typeIn K (.ref (He.ma K (He.ga K x) "__init__")) = some (.type "function")) && (PySem.W.keepIn K (.ref (He.ga K x)) &&
  (decide (PySem.W.subIn K (.ref (He.ga K x)) (.type "BaseException") = some true) && decide (PySem.W.typeIn K (.ref (He.ga K x)) = some (.type "type")))))))))
structure XcB (K : Frg) (C fI : Addr) (f : Str) : Prop where
  cls : ∃ nm q N bs bm sn sub ab col dd k0 k1 k2 k3 k5 bmB newId, K.lookup C = some (excClassObj nm q C N bs bm true sn sub ab col dd k0 k1 k2 k3 k5 newId) ∧ PySem.W.excTail bmB bm = true ∧ ExB bmB newId
  sa : PySem.W.findIn K (.ref C) "__setattr__" = some (some (.builtin "object.__setattr__"))
  xf : L2.XfC K C
  noN : PySem.W.findIn K (.ref C) f = some none
  iC : PySem.W.findIn K (.ref C) "__init__" = some (some (.ref fI))
  tC : PySem.W.typeIn K (.ref fI) = some (.type "function")
  kC : PySem.W.keepIn K (.ref C) = true
  exC : PySem.W.subIn K (.ref C) (.type "BaseException") = some true
  tyC : PySem.W.typeIn K (.ref C) = some (.type "type")
theorem xcb_of {K : Frg} {x f : Str} {b : Nat} (h : bXc x f b K = true) : XcB K (He.ga K x) (He.ma K (He.ga K x) "__init__") f := by
  obtain ⟨h1, h⟩ := He.ba h
  obtain ⟨h2, h⟩ := He.ba h
  obtain ⟨h3, h⟩ := He.ba h
  obtain ⟨h4, h⟩ := He.ba h
  obtain ⟨h5, h⟩ := He.ba h
  obtain ⟨h6, h⟩ := He.ba h
  obtain ⟨h7, h⟩ := He.ba h
  obtain ⟨h8, h9⟩ := He.ba h
  exact ⟨xcl_of h1, He.eqO_ok h2, L2.xfB_ok h3, He.eqO_ok h4, He.eqO_ok h5, of_decide_eq_true h6, h7, of_decide_eq_true h8, of_decide_eq_true h9⟩
theorem XcB.t {K : Frg} {C fI : Addr} {f qual : Str} {st : Stmt} (h : XcB K C fI f) (df : DefAt K "__init__" qual st fI) (arg : ∃ p1 p2, defArgs st = iA f p1 p2) (body : ∃ q1 q2 q3 q4, defBody st = iB f q1 q2 q3 q4) (sc : defScope st = iS f) : XcT K C fI f qual st :=
  ⟨h.cls, h.sa, h.xf, h.noN, h.iC, h.tC, h.kC, h.exC, h.tyC, df, arg, body, sc⟩
def bEx (x y : Str) (b : Bool) : Frg → Bool := fun K => decide (PySem.W.exmOne K (.ref (He.ga K x)) (.ref (He.ga K y)) = some b)
theorem ex_of {K : Frg} {x y : Str} {b : Bool} (h : bEx x y b K = true) : PySem.W.exmOne K (.ref (He.ga K x)) (.ref (He.ga K y)) = some b := of_decide_eq_true h
/-! ### defs that may raise -/
section
variable {P : Program} {w : World} {K : Frg} {mg : Str → Option Value} {base : Heap}
theorem tk_of {N : List Str} {qual : Str} {scope : Scope} {f : Addr} {cdv : Value} {A : Around} {outer : List Env} {s : Shared} {H : Hp} {E : XK} {B : Bs} (h : ∀ cls d H', EE K B cls d H' → E cls d H') : Tk (cxOf (L2N.CX P w) P w K mg base N qual scope f cdv A outer s H E) B := by
  have tk : L2N.Takes (cxOf (L2N.CX P w) P w K mg base N qual scope f cdv A outer s H E) (fun cls d _ H => E cls d H) := L2N.takes_of rfl rfl rfl rfl
  exact tk.imp fun cls d σ H z => h cls d H z
theorem y_fnX {x qual : Str} {st : Stmt} {f : Addr} {N ps : List Str} {k : Nat} {R : RdF} (F : DefAt K x qual st f) (S : FnScope N ps (defScope st)) (len : ∀ ds Q E, R ds Q E → ds.length = ps.length)
    (hb : ∀ (kV doc pm : Value) (an : Option Addr) (cdv ct : Value) (us : List Value), us.length = ps.length → bindArgs (PySem.W.fnOf x qual (defArgs st) (defBody st) (defScope st) .none kV doc pm an cdv ct) ⟨us, []⟩ = pure (ps.zip us))
    (hbody : ∀ (cdv : Value) (A : Around) (outer : List Env) (s : Shared) (H : Hp) (E : XK) (B : Bs), Same B.F0 B.H0 → RoomG k (A.deeper (envOfC qual (defScope st) s.heap.objs.size f cdv)) → Px (cxOf (L2N.CX P w) P w K mg base N qual (defScope st) f cdv A outer s H E) B →
      PassesOwn (model P w) (cxOf (L2N.CX P w) P w K mg base N qual (defScope st) f cdv A outer s H E).A (cxOf (L2N.CX P w) P w K mg base N qual (defScope st) f cdv A outer s H E).env (cxOf (L2N.CX P w) P w K mg base N qual (defScope st) f cdv A outer s H E).xe →
      Tk (cxOf (L2N.CX P w) P w K mg base N qual (defScope st) f cdv A outer s H E) B →
      ∃ r, PSsp (cxOf (L2N.CX P w) P w K mg base N qual (defScope st) f cdv A outer s H E) B (defBody st) r ∧ ∀ ds Q, R ds Q B.Ed → r (startE N.length ds) { nx := fun _ => Q .non, rt := Q }) : FnG P w K mg base (L2N.CX P w) (k + 1) f (spP K R) := by
  refine zfnG F S (fun vs H Q E ⟨ms, F, ds, Qd, Ed, _, r, h, _⟩ => by rw [r.len]; exact len _ _ _ h) hb fun cdv A outer s H vs Q E hr h => ?_
  obtain ⟨ms, F, ds, Qd, Ed, t, r, h, kq, ke⟩ := h
  obtain ⟨rr, h1, h2⟩ := hbody cdv A outer s H E ⟨ms, F, H, Ed⟩ t.1 hr (px_of fun cls d H' ⟨F', x, g, t', xr, z⟩ => ke cls d F' H' x g t' xr z) po_of (tk_of fun cls d H' ⟨F', x, g, t', xr, z⟩ => ke cls d F' H' x g t' xr z)
  refine ⟨_, h1, F, _, _, iv_start (B := ⟨ms, F, H, Ed⟩) t r, h2 ds Qd h, ?_, ?_, ?_, ?_⟩
  · intro σ' ρ' F' H' _ I' z
    exact kq .non F' H' .non I'.go I'.tp .non z
  · intro v d F' H' g t' r' z
    exact kq v F' H' d g t' r' z
  · intro _ _ _ _ _ _ z; exact z
  · intro _ _ _ _ _ _ z; exact z
end
/-! ### repr in an except suite -/
section
variable {X : Cx}
end
end Y
namespace Y
open PySem PySem.Spec PyProof.Rows L2 Z
/-! ### enumerate(text) -/
section
variable {X : Cx} {B : Bs} {e : Expr} {rl : RdA} {pos : Pos}
end
end Y
namespace Y
open PySem PySem.Spec PyProof.Rows L2 Z
/-! ### constructors and defs with *args that may raise -/
section
variable {P : Program} {w : World} {K : Frg} {mg : Str → Option Value} {base : Heap}
theorem y_initBX {C qual : Str} {st : Stmt} {f : Addr} {N ps : List Str} {k : Nat} {R : RdF} (S : FnScope N ps (defScope st)) (len : ∀ ds Q E, R ds Q E → ds.length + 1 = ps.length)
    (hbody : ∀ (cdv : Value) (A : Around) (outer : List Env) (s : Shared) (H : Hp) (E : XK) (B : Bs), Same B.F0 B.H0 → RoomG k (A.deeper (envOfC qual (defScope st) s.heap.objs.size f cdv)) → Px (cxOf (L2N.CX P w) P w K mg base N qual (defScope st) f cdv A outer s H E) B →
      PassesOwn (model P w) (cxOf (L2N.CX P w) P w K mg base N qual (defScope st) f cdv A outer s H E).A (cxOf (L2N.CX P w) P w K mg base N qual (defScope st) f cdv A outer s H E).env (cxOf (L2N.CX P w) P w K mg base N qual (defScope st) f cdv A outer s H E).xe →
      Tk (cxOf (L2N.CX P w) P w K mg base N qual (defScope st) f cdv A outer s H E) B →
      ∃ r, PSsp (cxOf (L2N.CX P w) P w K mg base N qual (defScope st) f cdv A outer s H E) B (defBody st) r ∧ ∀ x ds Q, R ds Q B.Ed → r (.mu (.ins x C [] []) :: startE (N.length - 1) ds) { nx := finI x C Q, rt := fun _ => False }) (cdv : Value) (A : Around) (outer : List Env) (s : Shared) (H : Hp) (vs : List V) (Q : VK) (E : XK) (hr : RoomG k (A.deeper (envOfC qual (defScope st) s.heap.objs.size f cdv))) (h : spI K C R vs H Q E) :
    ∃ t, PSs (cxOf (L2N.CX P w) P w K mg base N qual (defScope st) f cdv A outer s H E) (defBody st) t ∧ t { nx := fun _ H' => Q .non H', rt := Q } (start N vs) H := by
  obtain ⟨ms, F, Hb, x, args, ds, Qd, Ed, rfl, g0, sb, nx, t, ⟨dx, hx⟩, r, h, kq, ke⟩ := h
  obtain ⟨rr, h1, h2⟩ := hbody cdv A outer s H E ⟨ms, F, Hb, Ed⟩ sb hr (px_of fun cls d H' ⟨F', y, g, t', xr, z⟩ => ke cls d F' H' y g t' xr z) po_of (tk_of fun cls d H' ⟨F', y, g, t', xr, z⟩ => ke cls d F' H' y g t' xr z)
  have hN : 1 ≤ N.length := by
    have e1 := len _ _ _ h
    have e2 := congrArg List.length S.pre
    rw [List.length_take] at e2
    omega
  have nm : x ∉ ms := t.notIns hx
  have iv : Iv K ⟨ms, F, Hb, Ed⟩ F H (L2.start N (.ref x :: args)) (.mu (.ins x C [] []) :: startE (N.length - 1) ds) := by
    refine ⟨g0, t, ?_, fun i d h => ?_, fun i m h => ?_, fun i j m n a hij h1 h2 h3 => ?_⟩
    · simp [L2.start, startE, r.len]
      omega
    · cases i with
      | zero => cases h
      | succ i =>
        rw [List.getElem?_cons_succ] at h
        unfold startE at h
        have hi : i < ds.length := by
          rcases Nat.lt_or_ge i ds.length with z | z
          · exact z
          · rw [List.getElem?_append_right (by simpa using z), List.getElem?_replicate] at h
            split at h <;> cases h
        rw [List.getElem?_append_left (by simpa using hi), List.getElem?_map, List.getElem?_eq_getElem hi] at h
        have hd : ds[i]? = some d := by
          rw [List.getElem?_eq_getElem hi]
          simpa using h
        obtain ⟨v, h1, h2⟩ := r.get hd
        refine ⟨v, ?_, h2⟩
        unfold L2.start
        rw [List.getElem?_append_left (by simp [r.len]; omega), List.getElem?_map, List.getElem?_cons_succ, h1]
        rfl
    · cases i with
      | zero =>
        cases h
        exact ⟨x, _, rfl, same_none sb nx, nm, nx, hx, rfl, dx, [], rfl, rfl, .nil⟩
      | succ i =>
        exfalso
        rw [List.getElem?_cons_succ] at h
        unfold startE at h
        rcases Nat.lt_or_ge i ds.length with z | z
        · rw [List.getElem?_append_left (by simpa using z), List.getElem?_map, List.getElem?_eq_getElem z] at h
          cases h
        · rw [List.getElem?_append_right (by simpa using z), List.getElem?_replicate] at h
          split at h <;> cases h
    · have key : ∀ (i : Nat) (m : Mo), (Sl.mu (.ins x C [] []) :: startE (N.length - 1) ds)[i]? = some (.mu m) → i = 0 := fun i m h => by
        cases i with
        | zero => rfl
        | succ i =>
          exfalso
          rw [List.getElem?_cons_succ] at h
          unfold startE at h
          rcases Nat.lt_or_ge i ds.length with z | z
          · rw [List.getElem?_append_left (by simpa using z), List.getElem?_map, List.getElem?_eq_getElem z] at h
            cases h
          · rw [List.getElem?_append_right (by simpa using z), List.getElem?_replicate] at h
            split at h <;> cases h
      exact absurd ((key i m h1).trans (key j n h2).symm) hij
  refine ⟨_, h1, F, _, _, iv, h2 x ds Qd h, ?_, ?_, ?_, ?_⟩
  · intro σ' ρ' F' H' _ I' z
    have z' : finI x C Qd ρ' := z
    clear z
    unfold finI at z'
    split at z'
    · rename_i y c ns fs e
      obtain ⟨⟨rfl, rfl⟩, z'⟩ := z'
      obtain ⟨a, o, b1, b2, b3, b4, b5, b6⟩ := I'.own 0 _ e
      obtain ⟨ea, _⟩ := id b6
      subst ea
      exact kq F' H' o ns fs I'.go I'.tp b2 b5 b6 z'
    · exact z'.elim
  · intro v d F' H' g t' r' z
    exact z.elim
  · intro _ _ _ _ _ _ z; exact z
  · intro _ _ _ _ _ _ z; exact z
theorem y_initX {C x qual : Str} {st : Stmt} {f : Addr} {N ps : List Str} {k : Nat} {R : RdF} (F : DefAt K x qual st f) (S : FnScope N ps (defScope st)) (len : ∀ ds Q E, R ds Q E → ds.length + 1 = ps.length)
    (hb : ∀ (kV doc pm : Value) (an : Option Addr) (cdv ct : Value) (us : List Value), us.length = ps.length → bindArgs (PySem.W.fnOf x qual (defArgs st) (defBody st) (defScope st) .none kV doc pm an cdv ct) ⟨us, []⟩ = pure (ps.zip us))
    (hbody : ∀ (cdv : Value) (A : Around) (outer : List Env) (s : Shared) (H : Hp) (E : XK) (B : Bs), Same B.F0 B.H0 → RoomG k (A.deeper (envOfC qual (defScope st) s.heap.objs.size f cdv)) → Px (cxOf (L2N.CX P w) P w K mg base N qual (defScope st) f cdv A outer s H E) B →
      PassesOwn (model P w) (cxOf (L2N.CX P w) P w K mg base N qual (defScope st) f cdv A outer s H E).A (cxOf (L2N.CX P w) P w K mg base N qual (defScope st) f cdv A outer s H E).env (cxOf (L2N.CX P w) P w K mg base N qual (defScope st) f cdv A outer s H E).xe →
      Tk (cxOf (L2N.CX P w) P w K mg base N qual (defScope st) f cdv A outer s H E) B →
      ∃ r, PSsp (cxOf (L2N.CX P w) P w K mg base N qual (defScope st) f cdv A outer s H E) B (defBody st) r ∧ ∀ x ds Q, R ds Q B.Ed → r (.mu (.ins x C [] []) :: startE (N.length - 1) ds) { nx := finI x C Q, rt := fun _ => False }) : FnG P w K mg base (L2N.CX P w) (k + 1) f (spI K C R) := by
  exact zfnG F S (fun vs H Q E ⟨ms, F, Hb, x, args, ds, Qd, Ed, e, _, _, _, _, _, r, h, _⟩ => by rw [e, List.length_cons, r.len]; exact len _ _ _ h) hb (y_initBX S len hbody)
theorem y_fnSX {x qual pv : Str} {st : Stmt} {f : Addr} {N : List Str} {k : Nat} {R : RdF} (F : DefAt K x qual st f) (S : FnScope N [pv] (defScope st)) (len : ∀ ds Q E, R ds Q E → ds.length ≤ 100000)
    (hb : ∀ (kV doc pm : Value) (an : Option Addr) (cdv ct : Value) (rest : List Value), bindArgs (PySem.W.fnOf x qual (defArgs st) (defBody st) (defScope st) .none kV doc pm an cdv ct) ⟨rest, []⟩ = (newTuple rest >>= fun t => pure [(pv, t)]))
    (hbody : ∀ (cdv : Value) (A : Around) (outer : List Env) (s : Shared) (H : Hp) (E : XK) (B : Bs), Same B.F0 B.H0 → RoomG k (A.deeper (envOfC qual (defScope st) s.heap.objs.size f cdv)) → Px (cxOf (L2N.CX P w) P w K mg base N qual (defScope st) f cdv A outer s H E) B →
      PassesOwn (model P w) (cxOf (L2N.CX P w) P w K mg base N qual (defScope st) f cdv A outer s H E).A (cxOf (L2N.CX P w) P w K mg base N qual (defScope st) f cdv A outer s H E).env (cxOf (L2N.CX P w) P w K mg base N qual (defScope st) f cdv A outer s H E).xe →
      Tk (cxOf (L2N.CX P w) P w K mg base N qual (defScope st) f cdv A outer s H E) B →
      ∃ r, PSsp (cxOf (L2N.CX P w) P w K mg base N qual (defScope st) f cdv A outer s H E) B (defBody st) r ∧ ∀ ds Q, R ds Q B.Ed → r (startE N.length [.tup ds]) { nx := fun _ => Q .non, rt := Q }) : FnG P w K mg base (L2N.CX P w) (k + 1) f (spP K R) := by
  refine (zfnSG (sp := spP K (ar1 fun d Q E => starD d fun ds => d = .tup ds ∧ R ds Q E)) F S hb fun cdv A outer s H vs Q E hr h => ?_).imp fun vs H Q E h => ?_
  · obtain ⟨ms, F, ds, Qd, Ed, t, r, h, kq, ke⟩ := h
    unfold ar1 at h
    split at h
    · rename_i d
      unfold starD at h
      split at h
      · exact absurd h.1 (fun z => nomatch z)
      · rename_i ds
        obtain ⟨rr, h1, h2⟩ := hbody cdv A outer s H E ⟨ms, F, H, Ed⟩ t.1 hr (px_of fun cls d H' ⟨F', x, g, t', xr, z⟩ => ke cls d F' H' x g t' xr z) po_of (tk_of fun cls d H' ⟨F', x, g, t', xr, z⟩ => ke cls d F' H' x g t' xr z)
        refine ⟨_, h1, F, _, _, iv_start (B := ⟨ms, F, H, Ed⟩) t r, h2 ds Qd h.2, ?_, ?_, ?_, ?_⟩
        · intro σ' ρ' F' H' _ I' z
          exact kq .non F' H' .non I'.go I'.tp .non z
        · intro v d F' H' g t' r' z
          exact kq v F' H' d g t' r' z
        · intro _ _ _ _ _ _ z; exact z
        · intro _ _ _ _ _ _ z; exact z
      · exact h.elim
    · exact h.elim
  · obtain ⟨ms, F, ds, Qd, Ed, t, r, h, kq, ke⟩ := h
    refine ⟨by rw [r.len]; exact Nat.le_trans (len _ _ _ h) line_ge, fun p hp => ?_⟩
    obtain ⟨F2, g2, q2, _⟩ := newE t.1 hp rfl
    exact ⟨ms, F2, [.tup ds], Qd, Ed, t.go0 g2, .cons (.tup (SqT.of q2) (r.up g2.ff)) .nil, ⟨rfl, h⟩, fun v F' H' d g t' r' q => kq v F' H' d (g2.nil.trans g) t' r' q, fun cls d F' H' x g t' xr q => ke cls d F' H' x (g2.nil.trans g) t' xr q⟩
end
end Y
namespace Y
open PySem PySem.Spec PyProof.Rows L2 Z
/-! ### more calls that may raise, in the body of a try -/
section
variable {X : Cx} {B : Bs} {a b c e o : Expr} {es : List Expr} {ra rb rc r ro : Rd} {rt ru : RdT} {rl : RdA} {pos p0 apos : Pos} {R : RdF} {k : Nat} {f g p : Addr} {x m : Str}
end
end Y
namespace PySem.W
open PySem PySem.Spec PySem.Calls PyProof.Rows
section
variable {prog : Program} {w : World} {A : Around} {E : Value → Shared → Prop} {s : Shared} {K : Frag} {x D : Addr} {ox : Obj} {od : Option Obj}
theorem findObj_dataG {C : Addr} {name : Str} {a g : Value} (hc : (clsIn K C).isSome = true) (ha : findIn K (.ref C) name = some (some a)) (hg : specialIn K a "__get__" = some (some g)) (ht : takesIn K a = some true) : findObj K C od name = some (.bind g a) := by
  obtain ⟨cd, hc⟩ := Option.isSome_iff_exists.mp hc
  unfold findObj
  rw [hc, Option.bind_some, ha, Option.bind_some]
  cases od <;> simp [hg, ht]
theorem kin_classG {Q : Option Value → Shared → Prop} (hga : findIn K (.ref D) "__getattribute__" = some (some (.builtin "BaseException.__getattribute__"))) (hgt : findIn K (.ref D) "__getattr__" = some none) (hsub : subIn K (.ref D) (.type "BaseException") = some true)
    (hdct : hasDictIn K D = true) (ha : findIn K (.ref D) "__class__" = some (some (.builtin "object.__class__")))
    (hn : specialIn K (.builtin "object.__class__") "__get__" = some (some (.builtin "getset_descriptor.__get__"))) (htk : takesIn K (.builtin "object.__class__") = some true) (hm : mroIn K D (.type "object") = some true)
    (X : K.In s.heap) (I : InstAt s.heap x ox D od) (h : Q (some (.ref D)) { s with toks := s.toks + 1 }) : wpAny (model prog w) A (getAttr? (.ref x) "__class__") Q E s := by
  have hf : findObj K D od "__class__" = some (.bind (.builtin "getset_descriptor.__get__") (.builtin "object.__class__")) := findObj_dataG (by obtain ⟨cd, hc, _⟩ := any_some hdct; rw [hc]; rfl) ha hn htk
  obtain ⟨hp, g, d, t, os⟩ := s
  have L0 := I.type (M := model prog w)
  have L1 := looks_findIn (M := model prog w) X hga
  have L2 := looks_findIn (M := model prog w) X hgt
  have L3 := looks_find (M := model prog w) X I hf
  have sub : Looks (model prog w) hp (isInstance (.ref x) (.type "BaseException")) true := L0.andThen (looks_subIn X hsub)
  have hx0 : (false && onTheHeap (Value.builtin "BaseException.__getattribute__")) = false := rfl
  have hx2 : (Value.builtin "BaseException.__getattribute__" == Value.builtin "object.__getattribute__") = false := by decide +kernel
  have hx1 : (onTheHeap (Value.ref D) && Value.builtin "BaseException.__getattribute__" == Value.builtin "object.__getattribute__") = false := by rw [hx2]; rfl
  unfold getAttr? getAttrBy? getAttrBy
  refine wpAny_bind (wpAny_mkText (wpAny_bind (wpAny_attempt (wpAny_holding (wpAny_bind (L0.at (wpAny_bind (L1.at ?_))))))))
  show wpAny _ _ (if (onTheHeap (Value.ref D) && Value.builtin "BaseException.__getattribute__" == Value.builtin "object.__getattribute__") = true then _ else _) _ _ _
  rw [hx1, if_neg Bool.false_ne_true]
  unfold getAttrByItsOwn hookBefore
  refine wpAny_bind ?_
  rw [if_pos (show onTheHeap (Value.ref D) = true from rfl)]
  refine L2.at ?_
  refine wpAny_bind (wpAny_attempt (wpAny_holding ?_))
  unfold callGetattribute
  rw [hx0, if_neg Bool.false_ne_true]
  unfold boundAndCalled
  rw [PySem.F.excAttr_ValueError.ga.bind (.ref x)]
  refine wpAny_bind (wpAny_pure ?_)
  show wpAny _ _ (call (.builtin "BaseException.__getattribute__") [.ref x, .str "__class__" t]) _ _ _
  refine wpAny_call (codeAny_call_builtin PySem.F.excAttr_ValueError.ga.plain PySem.F.entry_bexc_ga ?_)
  refine @check_slot (model prog w) _ _ ⟨hp, g, d, t + 1, os⟩ "BaseException.__getattribute__" "BaseException" "__getattribute__" (.ref x) [.str "__class__" t] [] _ (by decide +kernel) (by decide +kernel) sub (PySem.F.args_bexc_ga (.ref x) (.str "__class__" t)) ?_
  unfold Builtin.«object.__getattribute__»
  refine wpAny_bind (wpAny_of_eq (a := ((Value.ref x : Value), [Value.str "__class__" t])) (by first | rfl | (simp only [slotArgs]; rfl)) ?_)
  refine wpAny_bind (wpAny_pure (wpAny_bind (L0.at (wpAny_bind (L3.at ?_)))))
  show wpAny _ _ (holding [Value.builtin "object.__class__"] (call (.builtin "getset_descriptor.__get__") [.builtin "object.__class__", .ref x, .ref D]) >>= ret) _ _ _
  refine wpAny_bind (wpAny_holding (wpAny_call (PySem.W.class_get (s := ⟨hp, g, d, t + 1, os⟩) (ox := ox) (od := od) X I hm ?_)))
  refine wpAny_pure ?_
  show wpAny _ _ (handedOut (.ref D)) _ _ _
  rw [handedOut_of (v := .ref D) rfl]
  first
    | exact wpAny_pure (wpAny_pure h)
    | exact wpAny_pure h
    | exact wpAny_pure (wpAny_bind (wpAny_pure (wpAny_pure h)))
theorem kitx_excG (hga : findIn K (.ref D) "__getattribute__" = some (some (.builtin "BaseException.__getattribute__"))) (hgt : findIn K (.ref D) "__getattr__" = some none) (hsub : subIn K (.ref D) (.type "BaseException") = some true) (hdct : hasDictIn K D = true) (ha : findIn K (.ref D) "__class__" = some (some (.builtin "object.__class__")))
    (hn : specialIn K (.builtin "object.__class__") "__get__" = some (some (.builtin "getset_descriptor.__get__"))) (htk : takesIn K (.builtin "object.__class__") = some true) (hm : mroIn K D (.type "object") = some true) :
    KitX K (.ref x) (.ref D) (fun h => InstAt h x ox D od) where
  ty := fun _ _ _ I => I.type
  it := fun _ _ X _ => by
    obtain ⟨cdD, hcD, _⟩ := any_some hdct
    unfold clsIn at hcD
    split at hcD
    · rename_i c' d' cd' sl' ho
      intro A' Q' E' s' k q
      unfold isType loadHead
      exact wpAny_bind (wpAny_loadPart (k _ _ (X _ _ ho)) (wpAny_pure q))
    · cases hcD
  ne := fun h tp dd its n sl X htp => by
    obtain ⟨cdD, hcD, _⟩ := any_some hdct
    refine Bool.eq_false_iff.mpr fun q => ?_
    have e : D = tp := Value.ref.inj (beq_iff_eq.mp q)
    subst e
    unfold clsIn at hcD
    split at hcD
    · rename_i c' d' cd' sl' ho
      have z := (X _ _ ho).symm.trans htp
      cases z
    · cases hcD
  ca := fun X I k => kin_classG hga hgt hsub hdct ha hn htk hm X I k
end
end PySem.W
namespace Y
open PySem PySem.Spec PyProof.Rows L2 Z
/-! ### isinstance(e, C), e a caught error -/
def rIsX (K : Frg) : List V → Hp → VK → Prop := fun xs H Q => ∃ (a D : Addr) (d : Option Addr) (c : V) (cv : Value) (b : Bool), xs = [.ref a, c] ∧ H a = some (XO (.ref D) d a) ∧ (∀ dd, d = some dd → ∃ fs, H dd = some (.xd fs)) ∧ ExcC K D ∧
  (∀ u, RelV c u → u = cv) ∧ PySem.W.kitOne K (.ref D) cv = some b ∧ Q (.bl b) H
section
variable {X : Cx} {B : Bs}
theorem call_isX : CallR X (.builtin "isinstance") (rIsX X.K) := by
  intro pins s σ H xs us Q I r h
  obtain ⟨a, D, d, c, cv, b, rfl, hH, hdd, C, hcv, e, q⟩ := h
  cases r with
  | cons rx rr =>
    cases rr with
    | cons rt rr =>
      cases rr
      cases rx
      have ec := hcv _ rt
      subst ec
      obtain ⟨⟨oe, vs, hget, hz, hv⟩, _⟩ := I.hok a _ hH
      have J : ∃ od, PySem.W.InstAt s.heap a oe D od := by
        cases d with
        | none => exact ⟨none, hget, hz.1, by unfold PySem.W.notCls; rw [hv] <;> rfl, by rw [hz.2.1]; trivial⟩
        | some dd =>
          obtain ⟨fs, hx⟩ := hdd dd rfl
          have hx2 : ObjOk X.prog X.w H s.heap dd (.xd fs) := I.hok dd _ hx
          obtain ⟨mA, hns, hr⟩ := hx2
          obtain ⟨od, ho, hl⟩ := lookIn_ns hns
          exact ⟨some od, hget, hz.1, by unfold PySem.W.notCls; rw [hv] <;> rfl, by rw [hz.2.1]; exact ho⟩
      obtain ⟨od, J⟩ := J
      exact PySem.W.kia_one (PySem.W.kitx_excG C.hg C.hk C.hs C.hd C.ha C.hn C.ht C.hm) I.kIn J e (fun z => nomatch z) fun tk => ⟨.bl b, H, I.kept (t' := tk) fun _ _ z => z, rfl, q⟩
def rIsE (K : Frg) (i : Nat) (C : Str) : Rd := fun ρ Q => match ρ[i]? with
  | some (.mu (.exc x)) => ∃ c b, (x.c = .glob c ∧ x.ns ≠ []) ∧ ExcC K (He.ga K c) ∧ PySem.W.kitOne K (.ref (He.ga K c)) (.ref (He.ga K C)) = some b ∧ Q (.bl b)
  | _ => False
theorem y_isx {K : Frg} {n C : Str} {i : Nat} {p p0 p1 pos : Pos} (hv : PE X (.Name n p) (tVar i)) (hg : Gl X C) (hm : X.mg C = some (.ref (He.ga X.K C))) (hi : Gl X "isinstance") (hmi : X.mg "isinstance" = none) (hdC : (C == ("__debug__" : Str)) = false := by decide)
    (h1 : starEach [.Name n p, .Name C p1] X.env = (false, eval (.Name n p) X.env) :: starEach [.Name C p1] X.env := by rfl) (h2 : starEach [.Name C p1] X.env = (false, eval (.Name C p1) X.env) :: starEach [] X.env := by rfl)
    (hpl : (backTo pos (starEach [.Name C p1] X.env)).any (·.1) = false := by rfl) (hK : X.K = K := by rfl) : PEp X B (.Call (.Name "isinstance" p0) [.Name n p, .Name C p1] [] pos) (rIsE K i C) := by
  subst hK
  exact pe_imp (pe_callB call_isX hi hmi (by decide +kernel) (pa_cons hv (pa_cons (pe_glob (v := .ref (He.ga X.K C)) hg hm rfl hdC) pa_nil h2) h1) (by decide) (by decide) h1 hpl) fun σ H Q ⟨F, ρ, Qd, J, z, kk⟩ => by
    unfold rIsE at z
    split at z
    · rename_i x hx
      obtain ⟨c, b, ⟨ec, hns⟩, EC, hk, z⟩ := z
      obtain ⟨a, o, s1, s2, s3, s4, s5, cls, d, rfl, xr⟩ := J.own i _ hx
      obtain ⟨ec1, xr2⟩ := xr
      rw [ec] at ec1
      have ecl : cls = .ref (He.ga X.K c) := (Option.some.inj ec1).symm
      subst ecl
      refine ⟨_, s1, a, He.ga X.K c, d, _, _, b, rfl, s5, fun dd ed => ?_, EC, fun u r => r, hk, kk _ F H _ (Go.refl J.same) J.tp (.bl b) z⟩
      obtain ⟨dd2, ws, ed2, eF, _⟩ := xr2 (.inl hns)
      rw [ed] at ed2
      cases ed2
      exact ⟨_, J.same _ _ eF⟩
    · exact z.elim
end
def bExC (x : Str) : Frg → Bool := fun K => He.eqO (PySem.W.findIn K (.ref (He.ga K x)) "__getattribute__") (some (some (.builtin "BaseException.__getattribute__"))) && (He.eqO (PySem.W.findIn K (.ref (He.ga K x)) "__getattr__") (some none) && (decide (PySem.W.subIn K (.ref (He.ga K x)) (.type "BaseException") = some true) && (PySem.W.hasDictIn K (He.ga K x) &&
  (He.eqO (PySem.W.findIn K (.ref (He.ga K x)) "__class__") (some (some (.builtin "object.__class__"))) && (He.eqO (PySem.W.specialIn K (.builtin "object.__class__") "__get__") (some (some (.builtin "getset_descriptor.__get__"))) && (decide (PySem.W.takesIn K (.builtin "object.__class__") = some true) && decide (PySem.W.mroIn K (He.ga K x) (.type "object") = some true)))))))
theorem exc_of {K : Frg} {x : Str} (h : bExC x K = true) : ExcC K (He.ga K x) := by
  obtain ⟨h1, h⟩ := He.ba h
  obtain ⟨h2, h⟩ := He.ba h
  obtain ⟨h3, h⟩ := He.ba h
  obtain ⟨h4, h⟩ := He.ba h
  obtain ⟨h5, h⟩ := He.ba h
  obtain ⟨h6, h⟩ := He.ba h
  obtain ⟨h7, h8⟩ := He.ba h
  exact ⟨He.eqO_ok h1, He.eqO_ok h2, of_decide_eq_true h3, h4, He.eqO_ok h5, He.eqO_ok h6, of_decide_eq_true h7, of_decide_eq_true h8⟩
end Y
namespace Z
open PySem PySem.Spec PyProof.Rows L2
section
variable {P : Program} {w : World} {K : Frg} {mg : Str → Option Value} {base : Heap}
end
end Z
namespace Y
open PySem PySem.Spec PyProof.Rows L2 Z
section
variable {P : Program} {w : World} {K : Frg} {mg : Str → Option Value} {base : Heap}
end
section
variable {X : Cx} {B : Bs} {e e2 : Expr} {es : List Expr} {r2 : Rd} {rl : RdA} {pos p0 kpos : Pos} {R : RdF} {k : Nat} {f : Addr} {x kn : Str}
end
end Y
namespace Y
open PySem PySem.Spec PyProof.Rows L2 Z
/-! ### lambdas: making -/
theorem tabN_mem {K : Frg} {x : Str} (hx : x ∈ lamNames) (hf : isFnB (K.lookup (He.ga K x)) = true) : (tabN K x, lamQ x) ∈ tabsOf K :=
  List.mem_map.mpr ⟨x, List.mem_filter.mpr ⟨hx, hf⟩, rfl⟩
theorem nodup_fst {α β : Type} : ∀ {l : List (α × β)} {a : α} {b c : β}, (l.map (·.1)).Nodup → (a, b) ∈ l → (a, c) ∈ l → b = c
  | (x, y) :: l, a, b, c, nd, h1, h2 => by
    rw [List.map_cons, List.nodup_cons] at nd
    have no : ∀ {d : β}, (x, d) ∉ l := fun h => nd.1 (List.mem_map.mpr ⟨_, h, rfl⟩)
    rcases List.mem_cons.mp h1 with e1 | e1 <;> rcases List.mem_cons.mp h2 with e2 | e2
    · cases e1; cases e2; rfl
    · cases e1; exact (no e2).elim
    · cases e2; exact (no e1).elim
    · exact nodup_fst nd.2 e1 e2
/-- what K tells of a def that makes lambdas -/
structure LamF (K : Frg) (mg : Str → Option Value) (x : Str) : Prop where
  mem : (tabN K x, lamQ x) ∈ tabsOf K
  nd : (tabA K).Nodup
  hd : PySem.W.codeHdIn K (cdAt K (He.ga K x)) (tabN K x) = true
  bm : ∃ bm ob, mg "__builtins__" = some (.ref bm) ∧ bm ≠ builtinsNs ∧ bm ≠ mainGlobals ∧ bm ≠ tabN K x ∧ K.lookup bm = some ob ∧ ob.cls = .type "module" ∧ ob.dict = some builtinsNs ∧ ob.data = .plain
  gP : mainGlobals ≠ tabN K x
def isMod : Option Obj → Bool
  | some ⟨.type "module", some d, .plain, _⟩ => d == builtinsNs
  | _ => false
def bLam (x : Str) : Frg → Bool := fun K => lamNames.contains x && (isFnB (K.lookup (He.ga K x)) && (decide (tabA K).Nodup && (PySem.W.codeHdIn K (cdAt K (He.ga K x)) (tabN K x) && (isMod (K.lookup (He.ga K "__builtins__")) &&
  (!(He.ga K "__builtins__" == builtinsNs) && (!(He.ga K "__builtins__" == mainGlobals) && (!(He.ga K "__builtins__" == tabN K x) && !(mainGlobals == tabN K x))))))))
theorem lamF_of {K : Frg} {mg : Str → Option Value} {x : Str} (hb : mg "__builtins__" = some (.ref (He.ga K "__builtins__"))) (h : bLam x K = true) : LamF K mg x := by
  obtain ⟨h1, h⟩ := He.ba h
  obtain ⟨h2, h⟩ := He.ba h
  obtain ⟨h3, h⟩ := He.ba h
  obtain ⟨h4, h⟩ := He.ba h
  obtain ⟨h5, h⟩ := He.ba h
  obtain ⟨h6, h⟩ := He.ba h
  obtain ⟨h7, h⟩ := He.ba h
  obtain ⟨h8, h9⟩ := He.ba h
  have ne : ∀ {a b : Addr}, (!(a == b)) = true → a ≠ b := fun {a b} z e => by subst e; simp at z
  refine ⟨tabN_mem (by simpa using h1) h2, of_decide_eq_true h3, h4, ?_, ne h9⟩
  cases e : K.lookup (He.ga K "__builtins__") with
  | none => rw [e] at h5; cases h5
  | some ob =>
    rw [e] at h5
    obtain ⟨oc, od, dt, sl⟩ := ob
    unfold isMod at h5
    split at h5
    · rename_i d sl' e2
      cases e2
      have : d = builtinsNs := by simpa using h5
      subst this
      exact ⟨_, _, hb, ne h6, ne h7, ne h8, e, rfl, rfl, rfl⟩
    · cases h5
theorem LamF.tb {K : Frg} {mg : Str → Option Value} {x : Str} {base : Heap} (L : LamF K mg x) (M : L2.Mod K mg base) : LamX.TabB base mg (cdAt K (He.ga K x)) (tabN K x) := by
  obtain ⟨bm, ob, b1, b2, b3, b4, b5, b6⟩ := L.bm
  exact ⟨PySem.W.codeHd_of_K M.kin L.hd, ⟨bm, ob, b1, b2, b3, b4, M.kin _ _ b5, b6⟩, L.gP⟩
abbrev lamO (q : Str) (params : Arguments) (body : Expr) (scope : Scope) (cl : List (Str × Addr)) (pm : Value) (c' : Addr) (ctv : Value) : Obj := PySem.W.kla_obj "<lambda>" q params body scope cl pm c' ctv
section
variable {X : Cx} {pins : List (Addr × Obj)} {σ : L2.St} {H F : Hp} {s : Shared}
theorem lam_mk {c P : Addr} {q : Str} {params : Arguments} {body : Expr} {scope : Scope} {lp : Pos} {E Q : Value → Shared → Prop} (I : Inv X pins σ H s) (TB : LamX.TabB X.base X.mg c P) (hcode : X.env.code = .ref c) (hq : X.env.qual ++ "<lambda>" = q) (hT : TabF F H P q) (sm : Same F H)
    (hdef : defaultsOf params X.env = ([], [])) (hfr : ∀ y ∈ scope.names, y.2 = .free → ∃ c, X.env.cells.lookup y.1 = some c)
    (k : ∀ (f c' : Addr) (pm ctv : Value) (F1 H1 : Hp) (s' : Shared), Inv X pins σ H1 s' → Go [P] F H F1 H1 → TabF F1 H1 P q → F1 c' = some (LamX.CodeO c' q) → s'.heap.get? f = some (lamO q params body scope (cloFrom X.env.cells scope.names []) pm c' ctv) → H1 f = none → f ∉ frs X.stack → Q (.ref f) s') :
    wpAny (model X.prog X.w) X.A (eval (.Lambda params body scope lp) X.env) Q E s := by
  subst hq
  obtain ⟨fP, ps, tbl, trip, known⟩ := hT
  have tblH := I.hok P _ tbl
  have newF : ∀ a : Addr, s.heap.objs.size ≤ a → a ∉ frs X.stack := fun a big m => by
    rcases List.mem_cons.mp (I.stkSub a m) with z | z
    · exact absurd (z ▸ I.lt) (Nat.not_lt.mpr big)
    · exact I.nofs big z
  refine PySem.W.kla_eval hdef ?_
  cases found : codeAmong lp ps.toList with
  | some cv =>
    obtain ⟨c', rfl, known'⟩ := known lp cv found
    refine PySem.W.kla_makeFunctionHit (closure_ok hfr) I.ok.glob (I.mod.glob.keeps I.bk) hcode (TB.code.keeps I.bk) tblH trip found (TB.bm.keeps I.bk) fun ctv hp tk stays big => ?_
    exact k hp.objs.size c' _ ctv F H _ (I.kept fun b o e => Heap.get?_push_of_some _ (stays b o e)) (Go.refl sm) ⟨fP, ps, tbl, trip, known⟩ known' (Heap.get?_push_size _ rfl) (I.hok.fresh big) (newF _ big)
  | none =>
    refine PySem.W.kla_makeFunction (closure_ok hfr) I.ok.glob (I.mod.glob.keeps I.bk) hcode (TB.code.keeps I.bk) tblH trip found TB.gP (TB.bm.keeps I.bk) fun c' ctv hp tk grow big small rec' tab' => ?_
    obtain ⟨c2, oc, vs, tq, ec, look, dat, nam⟩ := rec'
    cases ec
    have free' : H c' = none := I.hok.fresh big
    have neP : c' ≠ P := fun z => by rw [z, tbl] at free'; cases free'
    have fF : F c' = none := same_none sm free'
    have J := LamX.inv_table (t' := tk) (more := #[rawInt lp.line, rawInt lp.col, .ref c']) (h' := hp.push (lamO (X.env.qual ++ "<lambda>") params body scope (cloFrom X.env.cells scope.names []) ((X.mg "__name__").getD .none) c' ctv)) I tbl
      (fun b o nb e => Heap.get?_push_of_some _ (grow b o nb e)) (Heap.get?_push_of_some _ tab') big ⟨oc, vs, tq, Heap.get?_push_of_some _ look, dat, nam⟩
    have big2 : s.heap.objs.size ≤ hp.objs.size := Nat.le_trans big (Nat.le_of_lt small)
    have oldF : ∀ b u, F b = some u → b ≠ c' ∧ b ≠ P := fun b u e => ⟨fun z => (by rw [z, fF] at e; cases e), fun z => (by rw [z, fP] at e; cases e)⟩
    refine k hp.objs.size c' _ ctv (upd F c' (LamX.CodeO c' (X.env.qual ++ "<lambda>"))) _ _ J ⟨fun b u e => ?_, fun b u e => ?_, fun b u nm e1 e2 => ?_⟩ ⟨?_, _, (upd_ne (Ne.symm neP)).trans upd_same, ?_, fun lp' cv hc => ?_⟩ upd_same (Heap.get?_push_size _ rfl) ?_ (newF _ big2)
    · rw [upd_ne (oldF b u e).1]; exact e
    · by_cases hb : b = c'
      · subst hb; rw [upd_same] at e ⊢; exact e
      · rw [upd_ne hb] at e
        rw [upd_ne hb, upd_ne (oldF b u e).2]
        exact sm b u e
    · have hb : b ≠ c' := ne_of_none e2 free'
      have hb2 : b ≠ P := fun z => nm (by rw [z]; exact List.mem_cons_self)
      exact ⟨by rw [upd_ne hb]; exact e1, by rw [upd_ne hb, upd_ne hb2]; exact e2⟩
    · rw [upd_ne (Ne.symm neP)]; exact fP
    · have el : (ps ++ #[rawInt lp.line, rawInt lp.col, .ref c']).toList = ps.toList ++ [rawInt lp.line, rawInt lp.col, .ref c'] := by simp
      rw [el]
      exact PySem.TriplesOk_snoc _ _ _ _ trip
    · have el : (ps ++ #[rawInt lp.line, rawInt lp.col, .ref c']).toList = ps.toList ++ [rawInt lp.line, rawInt lp.col, .ref c'] := by simp
      rw [el] at hc
      rcases LamX.among_app _ trip hc with z | z
      · obtain ⟨c0, e1, e2⟩ := known lp' cv z
        exact ⟨c0, e1, by rw [upd_ne (oldF _ _ e2).1]; exact e2⟩
      · exact ⟨c', z, upd_same⟩
    · rw [upd_ne (Nat.ne_of_gt small), upd_ne (Nat.ne_of_gt (Nat.lt_of_lt_of_le (Heap.lt_size tblH) big2))]
      exact I.hok.fresh big2
end
theorem tp_table {K : Frg} {ms : List Addr} {F H F1 H1 : Hp} {P : Addr} {q : Str} (t : Tp K ms F H) (hm : (P, q) ∈ tabsOf K) (nd : (tabA K).Nodup) (g : Go [P] F H F1 H1) (n : TabF F1 H1 P q) : Tp K ms F1 H1 := by
  refine ⟨g.fh, fun y my ny => (t.tape y my ny).go g fun z => ?_, fun p hp => ⟨(t.tabs p hp).1, ?_⟩⟩
  · have : y = P := by simpa using z
    exact ny (this ▸ List.mem_map.mpr ⟨_, hm, rfl⟩)
  · by_cases e : p.1 = P
    · obtain ⟨a, b⟩ := p
      cases e
      rw [nodup_fst nd hp hm]
      exact n
    · exact (t.tabs p hp).2.go g fun z => e (by simpa using z)
/-! ### a larger base -/
theorem env0_big {P : Program} {w : World} {K : Frg} {mg : Str → Option Value} {base : Heap} {A : Around} {outer : List Env} {s : Shared} {H : Hp} (e0 : Env0 P w K mg base A outer s H) :
    ∃ b2 : Heap, (∀ b o, s.heap.get? b = some o → H b = none → b ∉ frs outer → b2.get? b = some o) ∧ Env0 P w K mg b2 A outer s H := by
  let l := trk s.heap H ++ frs outer
  have inl : ∀ b o, s.heap.get? b = some o → b ∈ trk s.heap H → ∃ u, H b = some u := fun b o e m => by
    have q : (H b).isSome = true := (List.mem_filter.mp m).2
    exact Option.isSome_iff_exists.mp q
  have see : ∀ b o, s.heap.get? b = some o → H b = none → b ∉ frs outer → (PySem.W.hideAll s.heap l).get? b = some o := fun b o e n nf => PySem.W.hideAll_get _ e fun m => by
    rcases List.mem_append.mp m with z | z
    · obtain ⟨u, q⟩ := inl b o e z
      rw [n] at q; cases q
    · exact nf z
  have up : ∀ b o, base.get? b = some o → (PySem.W.hideAll s.heap l).get? b = some o := fun b o e => see b o (e0.bs b o e).1 (e0.bs b o e).2 fun m => by
    have := (e0.funs.mem m).1
    rw [e] at this; cases this
  refine ⟨PySem.W.hideAll s.heap l, see, ⟨e0.frames, ?_, fun b o e => ?_, Nat.le_of_eq (PySem.W.hideAll_size _ _), ?_, e0.frf, e0.hok, e0.bare⟩⟩
  · obtain ⟨kin, glob, ⟨mb, bl, bb⟩, lim⟩ := e0.mod
    exact ⟨kin.keeps up, glob.keeps up, ⟨mb, bl.keeps up, bb⟩, lim.keeps up⟩
  · have e' := PySem.W.of_hideAll l e
    refine ⟨e', ?_⟩
    cases q : H b with
    | none => rfl
    | some u =>
      have z := PySem.W.hideAll_none l (h := s.heap) (List.mem_append_left _ (List.mem_filter.mpr ⟨List.mem_range.mpr (Heap.lt_size e'), by simp [q]⟩) : b ∈ l)
      rw [z] at e; cases e
  · have key : ∀ fs : List Env, s.heap.FunFrames base fs → (∀ b ∈ frs fs, b ∈ l) → s.heap.FunFrames (PySem.W.hideAll s.heap l) fs := by
      intro fs
      induction fs with
      | nil => intro _ _; trivial
      | cons env rest ih =>
        rintro ⟨h1, ⟨L, o, h2, h3, h4, h5⟩, h6⟩ sub
        have hL : L ∈ frs (env :: rest) := List.mem_filterMap.mpr ⟨env, List.mem_cons_self, h2⟩
        refine ⟨h1, ⟨L, o, h2, PySem.W.hideAll_none l (sub L hL), h4, h5⟩, ih h6 fun b hb => sub b ?_⟩
        obtain ⟨e, he, q⟩ := List.mem_filterMap.mp hb
        exact List.mem_filterMap.mpr ⟨e, List.mem_cons_of_mem _ he, q⟩
    exact key outer e0.funs fun b hb => List.mem_append_right _ hb
end Y
namespace Y
open PySem PySem.Spec PyProof.Rows L2 Z
/-! ### contracts over a known frozen heap; closures -/
def spX (K : Frg) (ms : List Addr) (Fm : Hp) (R : RdF) : Sp := fun vs H Q E => ∃ F ds Qd Ed, Same Fm F ∧ Tp K ms F H ∧ Rps K ms F vs ds ∧ R ds Qd Ed ∧ (∀ v F' H' d, Go ms F H F' H' → Tp K ms F' H' → Rp K ms F' v d → Qd d → Q v H') ∧
  (∀ cls d F' H' x, Go ms F H F' H' → Tp K ms F' H' → XR K ms F' cls d x → Ed x → E cls d H')
/-- a function at fa that keeps the promise R -/
structure CloAt (P : Program) (w : World) (K : Frg) (mg : Str → Option Value) (base : Heap) (k : Nat) (fa : Addr) (ms : List Addr) (Fm : Hp) (R : RdF) : Prop where
  fo : PySem.W.FnAt fa base
  fn : FnG P w K mg base (L2N.CX P w) k fa (spX K ms Fm R)
/-- the cells that a function captured, in a base -/
structure CellsB (cl : List (Str × Addr)) (fr : List Str) (ws : List (Option V)) (b2 : Heap) : Prop where
  len : ws.length = fr.length
  all : ∀ y c, cl.lookup y = some c → ∃ v, b2.IsCell c v
  inj : ∀ x y c, cl.lookup x = some c → cl.lookup y = some c → x = y
  has : ∀ (i : Nat) (y : Str), fr[i]? = some y → ∃ c, cl.lookup y = some c ∧ ∀ v, ws[i]? = some (some v) → ∃ u, L2.RelV v u ∧ b2.IsCell c (some u)
section
variable {P : Program} {w : World} {K : Frg} {mg : Str → Option Value} {b2 : Heap}
theorem CellsB.at {cl : List (Str × Addr)} {fr : List Str} {ws : List (Option V)} {A : Around} {outer : List Env} {s : Shared} {H : Hp} (C : CellsB cl fr ws b2) (e0 : Env0 P w K mg b2 A outer s H) : NdefX.CellsAt cl fr ws s.heap H :=
  ⟨C.len, fun y c e => let ⟨v, o, h1, h2⟩ := C.all y c e; ⟨(e0.bs _ _ h1).2, v, o, (e0.bs _ _ h1).1, h2⟩, C.inj, fun i y e => let ⟨c, h1, h2⟩ := C.has i y e; ⟨c, h1, fun v hv => let ⟨u, r, o, q1, q2⟩ := h2 v hv; ⟨u, r, o, (e0.bs _ _ q1).1, q2⟩⟩⟩
abbrev lamNF (q : Str) (params : Arguments) (scope : Scope) (cl : List (Str × Addr)) (c' : Addr) : NdefX.NF := ⟨"<lambda>", q, params, [], scope, cl, c'⟩
abbrev lamC (P : Program) (w : World) (K : Frg) (mg : Str → Option Value) (b2 : Heap) (N : List Str) (F : NdefX.NF) (f : Addr) (A : Around) (outer : List Env) (s : Shared) (H : Hp) (E : XK) : Cx := NdefX.ncx (L2N.CX P w) P w K mg b2 N F f A outer s H E
/-- a lambda by its body -/
theorem clo_fn {fr ps N : List Str} {q : Str} {params : Arguments} {body : Expr} {scope : Scope} {cl : List (Str × Addr)} {pm ctv : Value} {c' f : Addr} {ws : List (Option V)} {ms : List Addr} {Fm : Hp} {ρc : Ev} {k : Nat} {r : Bs → Rd}
    (hf : b2.get? f = some (lamO q params body scope cl pm c' ctv)) (hc : Fm c' = some (LamX.CodeO c' q)) (S : NdefX.NScope N ps fr scope) (hN : N = ps ++ fr)
    (hb : ∀ (cl : List (Str × Addr)) (pm cv ctv : Value) (us : List Value), us.length = ps.length → bindArgs (PySem.W.kla_fn "<lambda>" q params body scope cl pm cv ctv) ⟨us, []⟩ = pure (ps.zip us))
    (C : CellsB cl fr ws b2) (hl : ρc.length = fr.length) (hv : ∀ (i : Nat) (d : D), ρc[i]? = some (.val d) → ∃ v, ws[i]? = some (some v) ∧ Rp K ms Fm v d) (hm : ∀ (i : Nat) (m : Mo), ρc[i]? ≠ some (.mu m))
    (hbody : ∀ (A : Around) (outer : List Env) (s : Shared) (H : Hp) (E : XK) (B : Bs), RoomG k (A.deeper (NdefX.envF (lamNF q params scope cl c') f s.heap.objs.size)) → Px (lamC P w K mg b2 N (lamNF q params scope cl c') f A outer s H E) B → PEp (lamC P w K mg b2 N (lamNF q params scope cl c') f A outer s H E) B body (r B)) :
    FnG P w K mg b2 (L2N.CX P w) (k + 1) f (spX K ms Fm (fun ds Q E => ds.length = ps.length ∧ ∀ F0 H0, r ⟨ms, F0, H0, E⟩ (ds.map Sl.val ++ ρc) Q)) := by
  intro A outer s H us vs Q E hr e0 rv ⟨F, ds, Qd, Ed, sm, t, rd, ⟨hlen, hR⟩, kq, ke⟩
  have ho : s.heap.get? f = some (lamO q params body scope cl pm c' ctv) := (e0.bs _ _ hf).1
  have hl2 : vs.length = ps.length := by rw [rd.len]; exact hlen
  have hu : us.length = ps.length := by rw [← rv.length]; exact hl2
  have crec : s.heap.CodeRec (.ref c') q := NdefX.codeO_at e0.hok (t.1 _ _ (sm _ _ hc))
  have lim : s.heap.NoLimit := e0.mod.nolimit.keeps fun b o e => (e0.bs b o e).1
  refine PySem.W.kla_callFunE hr.rm.depth ho rfl S.co S.gen rfl crec ?_
  rw [hb _ _ _ _ us hu]
  refine wpAny_pure (wpAny_newFunctionEnv S.nocell (fun ⟨n, _⟩ hy => S.par n (List.of_mem_zip hy).1) (fun h₁ hns hsb => ⟨lim.fresh _ hsb, ?_⟩) S.kind)
  have kp : ∀ b o, s.heap.get? b = some o → h₁.get? b = some o := fun b o e => hsb.extBut b o (Nat.ne_of_lt (Heap.lt_size e)) (Heap.get?_push_of_some _ e)
  have J : Inv (lamC P w K mg b2 N (lamNF q params scope cl c') f A outer s H E) [] (NdefX.startF N vs ws) H { s with heap := h₁, toks := s.toks + (ps.zip us).length } := NdefX.inv_startN (F := lamNF q params scope cl c') S hr.rm.hd e0 hl2 rv (C.at e0) hns kp
  have hx : Px (lamC P w K mg b2 N (lamNF q params scope cl c') f A outer s H E) ⟨ms, F, H, Ed⟩ := by
    have tk : L2N.Takes (lamC P w K mg b2 N (lamNF q params scope cl c') f A outer s H E) (fun cls d _ H => E cls d H) := L2N.takes_of rfl rfl rfl rfl
    exact L2N.passes_call tk fun cls d σ H ⟨F', x, g, t', xr, z⟩ => ke cls d F' _ x g t' xr z
  have eS : NdefX.startF N vs ws = vs.map some ++ ws := by
    unfold NdefX.startF
    have : N.length - vs.length - ws.length = 0 := by
      rw [hN, List.length_append, C.len, hl2]; omega
    rw [this]
    simp
  have iv : Iv K ⟨ms, F, H, Ed⟩ F H (NdefX.startF N vs ws) (ds.map Sl.val ++ ρc) := by
    rw [eS]
    refine ⟨Go.refl t.1, t, by rw [List.length_append, List.length_append, List.length_map, List.length_map, rd.len, hl, C.len], fun i d h => ?_, fun i m h => ?_, fun i j m n a _ h _ _ => ?_⟩
    · rcases Nat.lt_or_ge i ds.length with z | z
      · rw [List.getElem?_append_left (by simpa using z), List.getElem?_map] at h
        have hd : ds[i]? = some d := by
          rw [List.getElem?_eq_getElem z] at h ⊢
          simpa using h
        obtain ⟨v, h1, h2⟩ := rd.get hd
        refine ⟨v, ?_, h2⟩
        rw [List.getElem?_append_left (by rw [List.length_map, rd.len]; exact z), List.getElem?_map, h1]
        rfl
      · rw [List.getElem?_append_right (by simpa using z), List.length_map] at h
        obtain ⟨v, h1, h2⟩ := hv _ d h
        refine ⟨v, ?_, h2.up sm⟩
        rw [List.getElem?_append_right (by rw [List.length_map, rd.len]; exact z), List.length_map, rd.len]
        exact h1
    · exfalso
      rcases Nat.lt_or_ge i ds.length with z | z
      · rw [List.getElem?_append_left (by simpa using z), List.getElem?_map, List.getElem?_eq_getElem z] at h
        cases h
      · rw [List.getElem?_append_right (by simpa using z)] at h
        exact hm _ m h
    · exfalso
      rcases Nat.lt_or_ge i ds.length with z | z
      · rw [List.getElem?_append_left (by simpa using z), List.getElem?_map, List.getElem?_eq_getElem z] at h
        cases h
      · rw [List.getElem?_append_right (by simpa using z)] at h
        exact hm _ m h
  show codeAny _ _ (.expr body (NdefX.envF (lamNF q params scope cl c') f s.heap.objs.size)) _ _
  have hp := hbody A outer s H E ⟨ms, F, H, Ed⟩ (hr.deeper _) hx
  refine PySem.W.kla_codeExpr (wpAny_mono (hp.run [] _ (NdefX.startF N vs ws) H Q J ⟨F, _, Qd, iv, hR F H, fun v F' H' d g t' rr z => kq v F' H' d g t' rr z⟩) (fun v s' hq => ?_) fun e s' hq => hq)
  obtain ⟨v', H', J', rv', z⟩ := hq
  exact ⟨v', H', J'.os, J'.bare, J'.base, J'.hok, rv', z⟩
end
/-- a slot as a closure sees it -/
def capS (ρ : Ev) (j : Nat) : Sl := match ρ[j]? with
  | some (.val d) => .val d
  | _ => .no
/-- the promise of a lambda made at ρ -/
def cloR (ms : List Addr) (r : Bs → Rd) (np : Nat) (js : List Nat) (ρ : Ev) : RdF := fun ds Q E => ds.length = np ∧ ∀ F0 H0, r ⟨ms, F0, H0, E⟩ (ds.map Sl.val ++ js.map (capS ρ)) Q
/-- what a lambda's text tells -/
structure LamT (X : Cx) (N ps fr : List Str) (js : List Nat) (q : Str) (params : Arguments) (body : Expr) (scope : Scope) : Prop where
  sc : NdefX.NScope N ps fr scope
  nn : N = ps ++ fr
  bd : ∀ (cl : List (Str × Addr)) (pm cv ctv : Value) (us : List Value), us.length = ps.length → bindArgs (PySem.W.kla_fn "<lambda>" q params body scope cl pm cv ctv) ⟨us, []⟩ = pure (ps.zip us)
  df : defaultsOf params X.env = ([], [])
  free : ∀ y ∈ scope.names, y.2 = .free → X.env.scope.names.lookup y.1 = some .cell ∨ X.env.scope.names.lookup y.1 = some .free
  frm : ∀ y ∈ fr, (y, NameKind.free) ∈ scope.names
  ix : js.map (fun j => X.N[j]?) = fr.map some
  own : ∀ y, X.fn y = true
section
variable {X : Cx} {B : Bs} {pins : List (Addr × Obj)} {σ : L2.St} {H F : Hp} {s : Shared} {ρ : Ev}
/-- a lambda is made: a function that keeps its promise, over a larger base -/
theorem lam_clo {x : Str} {N ps fr : List Str} {js : List Nat} {k : Nat} {params : Arguments} {body : Expr} {scope : Scope} {lp : Pos} {E : Value → Shared → Prop} {Q : Value → Shared → Prop} {r : Bs → Rd} (I : Inv X pins σ H s) (J : Iv X.K B F H σ ρ)
    (L : LamF X.K X.mg x) (hcode : X.env.code = .ref (cdAt X.K (He.ga X.K x))) (hq : X.env.qual ++ "<lambda>" = lamQ x) (T : LamT X N ps fr js (lamQ x) params body scope)
    (hbody : ∀ (b2 : Heap) (cl : List (Str × Addr)) (c' f : Addr) (A : Around) (outer : List Env) (s : Shared) (H : Hp) (E : XK) (B : Bs), RoomG k (A.deeper (NdefX.envF (lamNF (lamQ x) params scope cl c') f s.heap.objs.size)) → Px (lamC X.prog X.w X.K X.mg b2 N (lamNF (lamQ x) params scope cl c') f A outer s H E) B → PEp (lamC X.prog X.w X.K X.mg b2 N (lamNF (lamQ x) params scope cl c') f A outer s H E) B body (r B))
    (kk : ∀ (f : Addr) (F1 H1 : Hp) (s1 : Shared) (b2 : Heap), Inv X pins σ H1 s1 → Go B.ms F H F1 H1 → Tp X.K B.ms F1 H1 → Iv X.K B F1 H1 σ ρ → Env0 X.prog X.w X.K X.mg b2 X.A X.stack s1 H1 → CloAt X.prog X.w X.K X.mg b2 (k + 1) f B.ms F1 (cloR B.ms r ps.length js ρ) → Q (.ref f) s1) :
    wpAny (model X.prog X.w) X.A (eval (.Lambda params body scope lp) X.env) Q E s := by
  have tp := J.tp
  have hfr : ∀ y ∈ scope.names, y.2 = .free → ∃ c, X.env.cells.lookup y.1 = some c := fun y hy e => (T.free y hy e).elim (fun z => I.ok.has _ (.inl z)) fun z => I.ok.has _ (.inr z)
  refine lam_mk I (L.tb I.mod) hcode hq (tp.tabs _ L.mem).2 tp.1 T.df hfr fun f c' pm ctv F1 H1 s1 I1 g n1 hcc hfo hfn hfs => ?_
  have t1 := tp_table tp L.mem L.nd g n1
  have gm : Go B.ms F H F1 H1 := g.sub fun a ha => by
    have : a = tabN X.K x := by simpa using ha
    rw [this]; exact (tp.tabs _ L.mem).1
  have J1 := J.step gm t1
  obtain ⟨b2, see, e0⟩ := env0_big I1.env0
  have hb2f : b2.get? f = some (lamO (lamQ x) params body scope (cloFrom X.env.cells scope.names []) pm c' ctv) := see f _ hfo hfn hfs
  have CA := NdefX.cells_of I1 (NdefX.Caps.made I1.ok T.free T.frm T.ix)
  have capsub : ∀ y c, (cloFrom X.env.cells scope.names []).lookup y = some c → X.env.cells.lookup y = some c := fun y c e => (NdefX.Caps.made (js := js) (fr := fr) I1.ok T.free T.frm T.ix).sub y c e
  have nofr : ∀ y c, (cloFrom X.env.cells scope.names []).lookup y = some c → c ∉ frs X.stack := fun y c e m => by
    have e' := capsub y c e
    rcases List.mem_cons.mp (I1.stkSub c m) with z | z
    · exact I1.cne y c e' z
    · obtain ⟨_, o, ho, _⟩ := I1.ok.funs.mem z
      exact absurd (Heap.lt_size ho) (Nat.not_lt.mpr (I1.ok.cab y c (T.own y) e'))
  have cb : ∀ y c v, (cloFrom X.env.cells scope.names []).lookup y = some c → s1.heap.IsCell c v → b2.IsCell c v := fun y c v e ⟨o, h1, h2⟩ => ⟨o, see c o h1 (I1.freeC y c (capsub y c e)) (nofr y c e), h2⟩
  have CB : CellsB (cloFrom X.env.cells scope.names []) fr (js.map (NdefX.slotAt σ)) b2 := ⟨CA.len, fun y c e => let ⟨v, h⟩ := (CA.all y c e).2; ⟨v, cb y c v e h⟩, CA.inj, fun i y e => let ⟨c, h1, h2⟩ := CA.has i y e; ⟨c, h1, fun v hv => let ⟨u, q1, q2⟩ := h2 v hv; ⟨u, q1, cb y c _ h1 q2⟩⟩⟩
  have hjl : (js.map (capS ρ)).length = fr.length := by
    have := congrArg List.length T.ix
    simpa using this
  refine kk f F1 H1 s1 b2 I1 gm t1 J1 e0 ⟨⟨_, _, _, _, hb2f⟩, clo_fn (ρc := js.map (capS ρ)) (ws := js.map (NdefX.slotAt σ)) hb2f hcc T.sc T.nn T.bd CB hjl (fun i d h => ?_) (fun i m h => ?_) (fun A outer s H E B => hbody b2 _ c' f A outer s H E B)⟩
  · rw [List.getElem?_map] at h ⊢
    cases e : js[i]? with
    | none => rw [e] at h; cases h
    | some j =>
      rw [e] at h
      have h' : capS ρ j = .val d := Option.some.inj h
      unfold capS at h'
      split at h'
      · rename_i d' e'
        cases h'
        obtain ⟨v, h1, h2⟩ := J1.val j _ e'
        exact ⟨v, congrArg some (NdefX.slotAt_of h1), h2⟩
      · cases h'
  · rw [List.getElem?_map] at h
    cases e : js[i]? with
    | none => rw [e] at h; cases h
    | some j =>
      rw [e] at h
      have h' : capS ρ j = .mu m := Option.some.inj h
      unfold capS at h'
      split at h' <;> cases h'
end
end Y
namespace Y
open PySem PySem.Spec PyProof.Rows L2 Z
theorem run_AB {X : Cx} {CX : CXT} {f : Addr} {sp : Sp} {E : XK} {pins : List (Addr × Obj)} {σ : L2.St} {H : Hp} {s : Shared} {b2 : Heap} {Q : VK} {us : List Value} {vs : List V} (F : FnA X.A X.prog X.w X.K X.mg b2 CX f sp) (e0 : Env0 X.prog X.w X.K X.mg b2 X.A X.stack s H) (hx : Passes CX X E) (I : L2.Inv X pins σ H s) (r : Vals vs us) (h : sp vs H Q E) :
    codeAny (model X.prog X.w) X.A (.call (.ref f) ⟨us, []⟩) (fun r s' => match r with | .ok (.ret v) => EP X pins σ Q v s' | .ok _ => False | .error e => X.xe e s') s :=
  codeAny_mono (F X.stack s H us vs Q E e0 r h) fun q s' hq => match q, hq with
    | .error er, hq => hx pins σ H s er s' I hq
    | .ok (.ret _), hq => I.after hq
    | .ok .next, hq => False.elim hq
    | .ok .brk, hq => False.elim hq
    | .ok .cont, hq => False.elim hq
/-! ### calls with a lambda, calls of a function that was handed in -/
section
variable {X : Cx} {B : Bs} {a e : Expr} {es : List Expr} {ra : Rd} {rl : RdA} {pos p0 lp : Pos} {k kc : Nat} {f fa : Addr} {y x q : Str} {N ps fr : List Str} {js : List Nat} {params : Arguments} {body : Expr} {scope : Scope} {r : Bs → Rd} {R2 : Addr → RdF → RdF} {ms : List Addr} {Fm : Hp} {R : RdF} {i : Nat}
theorem y_lam0 (F : ∀ (b2 : Heap) (fa : Addr) (Fm : Hp) (Rc : RdF), CloAt X.prog X.w X.K X.mg b2 (kc + 1) fa B.ms Fm Rc → FnG X.prog X.w X.K X.mg b2 (L2N.CX X.prog X.w) k f (spX X.K B.ms Fm (R2 fa Rc))) (hr : RoomG k X.A) (hg : Gl X y) (hm : X.mg y = some (.ref f)) (hk : PySem.W.keepIn X.K (.ref f) = true) (hx : Px X B)
    (L : LamF X.K X.mg x) (hcode : X.env.code = .ref (cdAt X.K (He.ga X.K x))) (T : LamT X N ps fr js (lamQ x) params body scope)
    (hbody : ∀ (b2 : Heap) (cl : List (Str × Addr)) (c' f : Addr) (A : Around) (outer : List Env) (s : Shared) (H : Hp) (E : XK) (B : Bs), RoomG kc (A.deeper (NdefX.envF (lamNF (lamQ x) params scope cl c') f s.heap.objs.size)) → Px (lamC X.prog X.w X.K X.mg b2 N (lamNF (lamQ x) params scope cl c') f A outer s H E) B → PEp (lamC X.prog X.w X.K X.mg b2 N (lamNF (lamQ x) params scope cl c') f A outer s H E) B body (r B))
    (hq : X.env.qual ++ "<lambda>" = lamQ x := by rfl) (hdb : (y == ("__debug__" : Str)) = false := by decide) (he : starEach [.Lambda params body scope lp] X.env = [(false, eval (.Lambda params body scope lp) X.env)] := by rfl) :
    PEp X B (.Call (.Name y p0) [.Lambda params body scope lp] [] pos) (fun ρ Q => ∀ fa, R2 fa (cloR B.ms r ps.length js ρ) [.fn fa] Q B.Ed) := by
  refine ⟨fun pins s σ H Q I ⟨F0, ρ, Qd, J, z, kk⟩ => ?_⟩
  refine wpAny_Call_Name_kw (ld_glob I hg hm ?_ hdb)
  refine PySem.W.callWith_K (h₀ := X.base) I.ok.mod.kin hk ?_ he rfl
  rw [he]
  refine Calls.spliced_cons (lam_clo I J L hcode hq T hbody fun fa F1 H1 s1 b2 I1 g1 t1 J1 e0 C => ?_)
  refine Calls.spliced_nil ⟨I1.kIn, ?_⟩
  have hs : spX X.K B.ms F1 (R2 fa (cloR B.ms r ps.length js ρ)) [.ref fa] H1 Q (EE X.K B) :=
    ⟨F1, [.fn fa], Qd, B.Ed, Same.refl _, t1, .one (.fn fa), z fa, fun v F2 H2 d g2 t2 r2 q2 => kk v F2 H2 d (g1.trans g2) t2 r2 q2, fun cls d F2 H2 x g2 t2 xr q => ⟨F2, x, J1.go.trans g2, t2, xr, q⟩⟩
  exact wpAny_call (run_AB (us := [.ref fa]) (vs := [.ref fa]) ((F b2 fa F1 _ C).at hr) e0 hx I1 (.cons rfl .nil) hs)
/-! ### x(..), where x was handed in -/
theorem fnAt_up {base h : Heap} {q : Addr} (X : PySem.W.FnAt q base) (k : ∀ b o, base.get? b = some o → h.get? b = some o) : PySem.W.FnAt q h := let ⟨a, b, c, d, e⟩ := X; ⟨a, b, c, d, k _ _ e⟩
/-- x() in a try -/
theorem x_callV (hv : PEp X B.nox (.Name y p0) (rVar i)) (C : CloAt X.prog X.w X.K X.mg X.base kc fa ms Fm R) (hms : B.ms = ms) (hFm : Same Fm B.F0) (hr : RoomG kc X.A) :
    PXp X B (.Call (.Name y p0) [] [] pos) (fun ρ Q E => rVar i ρ fun d => d = .fn fa ∧ ∃ Q' E', R [] Q' E' ∧ (∀ d, Q' d → Q d) ∧ ∀ x, E' x → E x) := fun W tk => by
  refine ⟨fun pins s σ H Q I ⟨F0, ρ, Qd, Ed, J, z, kq, kx⟩ => ?_⟩
  subst hms
  refine wpAny_Call_Name_kw (thn (hv.run pins s σ H (fun v H1 => ∃ F1, Go B.ms F0 H F1 H1 ∧ Tp X.K B.ms F1 H1 ∧ v = .ref fa ∧ ∃ Q' E', R [] Q' E' ∧ (∀ d, Q' d → Qd d) ∧ ∀ x, E' x → Ed x) I ⟨F0, ρ, _, J.nox, z, fun v F1 H1 d g1 t1 r1 z1 => ⟨F1, g1, t1, (by obtain ⟨rfl, _⟩ := z1; cases r1; rfl), z1.2⟩⟩) fun u s1 ⟨v, H1, I1, rv, F1, g1, t1, ev, Q', E', z1, zq, zx⟩ => ?_)
  subst ev
  obtain rfl : u = Value.ref fa := rv
  have J1 := J.step g1 t1
  refine PySem.W.callWith_F0 (first := []) (fnAt_up C.fo I1.bk) ?_
  exact wpAny_call (run_X (us := []) (vs := []) (C.fn.at hr) tk I1 .nil ⟨F1, [], Q', E', hFm.trans J1.go.ff, t1, .nil, z1, fun v F2 H2 d g2 t2 r2 q2 => kq v F2 H2 d (g1.trans g2) t2 r2 (zq d q2), fun cls d F2 H2 x g2 t2 xr q => kx cls d F2 H2 x (g1.trans g2) t2 xr (zx x q)⟩)
end
/-! ### defs that are handed a function; defs that make lambdas -/
/-- what a lambda's text tells, by a check -/
def lamTB (NX : List Str) (sc : Scope) (N ps fr : List Str) (js : List Nat) (scope : Scope) : Bool :=
  NdefX.nscB N ps fr scope && (decide (N = ps ++ fr) && ((scope.names.all fun y => !decide (y.2 = .free) || decide (sc.names.lookup y.1 = some .cell) || decide (sc.names.lookup y.1 = some .free)) && ((fr.all fun y => decide ((y, NameKind.free) ∈ scope.names)) && decide (js.map (fun j => NX[j]?) = fr.map some))))
theorem lamT_by {X : Cx} {N ps fr NX : List Str} {js : List Nat} {q : Str} {params : Arguments} {body : Expr} {scope sc : Scope} (h : lamTB NX sc N ps fr js scope = true) (hN : X.N = NX) (hs : X.env.scope = sc)
    (bd : ∀ (cl : List (Str × Addr)) (pm cv ctv : Value) (us : List Value), us.length = ps.length → bindArgs (PySem.W.kla_fn "<lambda>" q params body scope cl pm cv ctv) ⟨us, []⟩ = pure (ps.zip us)) (df : defaultsOf params X.env = ([], [])) (own : ∀ y, X.fn y = true) : LamT X N ps fr js q params body scope := by
  obtain ⟨h1, h⟩ := He.ba h
  obtain ⟨h2, h⟩ := He.ba h
  obtain ⟨h3, h⟩ := He.ba h
  obtain ⟨h4, h5⟩ := He.ba h
  refine ⟨NdefX.nscope_by h1, of_decide_eq_true h2, bd, df, fun y hy e => ?_, fun y hy => of_decide_eq_true (List.all_eq_true.mp h4 y hy), by rw [hN]; exact of_decide_eq_true h5, own⟩
  have z := List.all_eq_true.mp h3 y hy
  rw [hs]
  simp only [Bool.or_eq_true, Bool.not_eq_true', decide_eq_true_eq, decide_eq_false_iff_not] at z
  rcases z with (z | z) | z
  · exact absurd e z
  · exact .inl z
  · exact .inr z
/-- the code objects of the defs that make lambdas, with their tables -/
def csOf (K : Frg) : List (Addr × Addr) := (lamNames.filter fun x => isFnB (K.lookup (He.ga K x))).map fun x => (cdAt K (He.ga K x), tabN K x)
/-- all tables that are asked for, whichever defs there are -/
def tfAll : List (Frg → Addr) := lamNames.map fun x K => if isFnB (K.lookup (He.ga K x)) then He.ga K x else He.ga K "law"
theorem cs_tf {K : Frg} {p : Addr × Addr} (h : p ∈ csOf K) : ∃ f ∈ tfAll, p = (cdAt K (f K), He.tabOf K (cdAt K (f K))) := by
  obtain ⟨x, hx, rfl⟩ := List.mem_map.mp h
  obtain ⟨h1, h2⟩ := List.mem_filter.mp hx
  refine ⟨_, List.mem_map.mpr ⟨x, h1, rfl⟩, ?_⟩
  show _ = (cdAt K (if _ then _ else _), He.tabOf K (cdAt K (if _ then _ else _)))
  rw [if_pos h2]
  rfl
theorem cs_says {q : Ask} {w : World} {h : Heap} {K : Frg} (X : K.In h) (c : Says q w h K) (e : q.tf = tfAll) : (∀ p ∈ csOf K, h.get? p.2 = some { cls := .none, data := .fields #[] }) ∧ (∀ p ∈ csOf K, K.lookup p.2 = none) ∧ ∀ p ∈ csOf K, PySem.W.CodeHd h p.1 p.2 := by
  refine ⟨fun p hp => ?_, fun p hp => ?_, fun p hp => ?_⟩ <;> obtain ⟨f, hf, rfl⟩ := cs_tf hp
  · exact c.empty f (e ▸ hf)
  · exact c.out f (e ▸ hf)
  · exact PySem.W.codeHd_of_K X (c.hd f (e ▸ hf))
theorem cs_tabs {K : Frg} {H : Hp} (h : ∀ p ∈ csOf K, H p.2 = some (.tbl #[])) : ∀ p ∈ tabsOf K, H p.1 = some (.tbl #[]) := fun p hp => by
  obtain ⟨x, hx, rfl⟩ := List.mem_map.mp hp
  exact h _ (List.mem_map.mpr ⟨x, hx, rfl⟩)
def bLamG (x : Str) : Frg → Bool := fun K => bGlo "__builtins__" K && bLam x K
theorem lamG_of {K : Frg} {h : Heap} {mg : Str → Option Value} (X : K.In h) (G : h.Ns mainGlobals mg) {x : Str} (c : bLamG x K = true) : LamF K mg x := by
  obtain ⟨h1, h2⟩ := He.ba c
  exact lamF_of (glo_of X G h1) h2
section
variable {P : Program} {w : World} {K : Frg} {mg : Str → Option Value} {base : Heap}
theorem y_fnV {x qual : Str} {st : Stmt} {f : Addr} {N ps : List Str} {k : Nat} {R : RdF} {ms : List Addr} {Fm : Hp} (F : DefAt K x qual st f) (S : FnScope N ps (defScope st)) (len : ∀ ds Q E, R ds Q E → ds.length = ps.length)
    (hb : ∀ (kV doc pm : Value) (an : Option Addr) (cdv ct : Value) (us : List Value), us.length = ps.length → bindArgs (PySem.W.fnOf x qual (defArgs st) (defBody st) (defScope st) .none kV doc pm an cdv ct) ⟨us, []⟩ = pure (ps.zip us))
    (hbody : ∀ (cdv : Value) (A : Around) (outer : List Env) (s : Shared) (H : Hp) (E : XK) (B : Bs), B.ms = ms → Same Fm B.F0 → Same B.F0 B.H0 → RoomG k (A.deeper (envOfC qual (defScope st) s.heap.objs.size f cdv)) → Px (cxOf (L2N.CX P w) P w K mg base N qual (defScope st) f cdv A outer s H E) B →
      PassesOwn (model P w) (cxOf (L2N.CX P w) P w K mg base N qual (defScope st) f cdv A outer s H E).A (cxOf (L2N.CX P w) P w K mg base N qual (defScope st) f cdv A outer s H E).env (cxOf (L2N.CX P w) P w K mg base N qual (defScope st) f cdv A outer s H E).xe →
      Tk (cxOf (L2N.CX P w) P w K mg base N qual (defScope st) f cdv A outer s H E) B →
      ∃ r, PSsp (cxOf (L2N.CX P w) P w K mg base N qual (defScope st) f cdv A outer s H E) B (defBody st) r ∧ ∀ ds Q, R ds Q B.Ed → r (startE N.length ds) { nx := fun _ => Q .non, rt := Q }) : FnG P w K mg base (L2N.CX P w) (k + 1) f (spX K ms Fm R) := by
  refine zfnG F S (fun vs H Q E ⟨F, ds, Qd, Ed, _, _, r, h, _⟩ => by rw [r.len]; exact len _ _ _ h) hb fun cdv A outer s H vs Q E hr h => ?_
  obtain ⟨F, ds, Qd, Ed, sm, t, r, h, kq, ke⟩ := h
  obtain ⟨rr, h1, h2⟩ := hbody cdv A outer s H E ⟨ms, F, H, Ed⟩ rfl sm t.1 hr (px_of fun cls d H' ⟨F', x, g, t', xr, z⟩ => ke cls d F' H' x g t' xr z) po_of (tk_of fun cls d H' ⟨F', x, g, t', xr, z⟩ => ke cls d F' H' x g t' xr z)
  refine ⟨_, h1, F, _, _, iv_start (B := ⟨ms, F, H, Ed⟩) t r, h2 ds Qd h, ?_, ?_, ?_, ?_⟩
  · intro σ' ρ' F' H' _ I' z
    exact kq .non F' H' .non I'.go I'.tp .non z
  · intro v d F' H' g t' r' z
    exact kq v F' H' d g t' r' z
  · intro _ _ _ _ _ _ z; exact z
  · intro _ _ _ _ _ _ z; exact z
/-- a def that makes lambdas -/
theorem y_fnC {x qual : Str} {st : Stmt} {f : Addr} {N ps : List Str} {k : Nat} {R : RdF} (F : DefAt K x qual st f) (S : FnScope N ps (defScope st)) (len : ∀ ds Q E, R ds Q E → ds.length = ps.length)
    (hb : ∀ (kV doc pm : Value) (an : Option Addr) (cdv ct : Value) (us : List Value), us.length = ps.length → bindArgs (PySem.W.fnOf x qual (defArgs st) (defBody st) (defScope st) .none kV doc pm an cdv ct) ⟨us, []⟩ = pure (ps.zip us))
    (hbody : ∀ (cdv : Value), cdv = .ref (cdAt K f) → ∀ (A : Around) (outer : List Env) (s : Shared) (H : Hp) (E : XK) (B : Bs), Same B.F0 B.H0 → RoomG k (A.deeper (envOfC qual (defScope st) s.heap.objs.size f cdv)) → Px (cxOf (L2N.CX P w) P w K mg base N qual (defScope st) f cdv A outer s H E) B →
      PassesOwn (model P w) (cxOf (L2N.CX P w) P w K mg base N qual (defScope st) f cdv A outer s H E).A (cxOf (L2N.CX P w) P w K mg base N qual (defScope st) f cdv A outer s H E).env (cxOf (L2N.CX P w) P w K mg base N qual (defScope st) f cdv A outer s H E).xe →
      Tk (cxOf (L2N.CX P w) P w K mg base N qual (defScope st) f cdv A outer s H E) B →
      ∃ r, PSsp (cxOf (L2N.CX P w) P w K mg base N qual (defScope st) f cdv A outer s H E) B (defBody st) r ∧ ∀ ds Q, R ds Q B.Ed → r (startE N.length ds) { nx := fun _ => Q .non, rt := Q }) : FnG P w K mg base (L2N.CX P w) (k + 1) f (spP K R) := by
  refine zfnGC F S (fun vs H Q E ⟨ms, F, ds, Qd, Ed, _, r, h, _⟩ => by rw [r.len]; exact len _ _ _ h) hb fun cdv ecd A outer s H vs Q E hr h => ?_
  obtain ⟨ms, F, ds, Qd, Ed, t, r, h, kq, ke⟩ := h
  obtain ⟨rr, h1, h2⟩ := hbody cdv ecd A outer s H E ⟨ms, F, H, Ed⟩ t.1 hr (px_of fun cls d H' ⟨F', x, g, t', xr, z⟩ => ke cls d F' H' x g t' xr z) po_of (tk_of fun cls d H' ⟨F', x, g, t', xr, z⟩ => ke cls d F' H' x g t' xr z)
  refine ⟨_, h1, F, _, _, iv_start (B := ⟨ms, F, H, Ed⟩) t r, h2 ds Qd h, ?_, ?_, ?_, ?_⟩
  · intro σ' ρ' F' H' _ I' z
    exact kq .non F' H' .non I'.go I'.tp .non z
  · intro v d F' H' g t' r' z
    exact kq v F' H' d g t' r' z
  · intro _ _ _ _ _ _ z; exact z
  · intro _ _ _ _ _ _ z; exact z
end
end Y
namespace Y
open PySem PySem.Spec PyProof.Rows L2 Z
/-! ### shown texts are texts of real signs -/
def okU (s : Str) : Prop := ∀ c ∈ s.cps.toList, c < 0x110000
theorem okU_iff {s : Str} : okU s ↔ PyData.strOk s = true := by
  unfold okU PyData.strOk
  rw [Array.all_eq_true']
  simp [Array.mem_toList_iff]
theorem okU_app {a b : Str} (h : okU a) (h' : okU b) : okU (a ++ b) := by
  intro c hc
  have e : (a ++ b).cps.toList = a.cps.toList ++ b.cps.toList := by
    show (a.cps ++ b.cps).toList = _
    simp
  rw [e] at hc
  rcases List.mem_append.mp hc with z | z
  · exact h c z
  · exact h' c z
theorem chr_lt (c : Char) : c.toNat < 0x110000 := by
  rcases c.valid with h | h
  · exact Nat.lt_trans h (by decide)
  · exact h.2
theorem okU_lit (x : String) : okU (Str.ofString x) := by
  intro c hc
  have e : (Str.ofString x).cps.toList = x.toList.map Char.toNat := by
    rw [Str.ofString_eq_toList]
  rw [e] at hc
  obtain ⟨a, _, rfl⟩ := List.mem_map.mp hc
  exact chr_lt a
theorem okU_from : ∀ (ts : List Str) (k : Nat) (acc : Str), okU acc → (∀ t ∈ ts, okU t) → okU (PySem.textFrom k acc ts)
  | [], _, _, h, _ => h
  | t :: ts, k, acc, h, ht => okU_from ts (k + 1) _ (okU_app (okU_app h (okU_lit _)) (ht t List.mem_cons_self)) fun u hu => ht u (List.mem_cons_of_mem _ hu)
theorem okU_join {sep : Str} (hs : okU sep) : ∀ (ts : List Str), (∀ t ∈ ts, okU t) → okU (Str.join sep ts)
  | [], _ => fun c hc => by
    have e : (Str.join sep []).cps.toList = [] := rfl
    rw [e] at hc
    cases hc
  | [x], h => h x List.mem_cons_self
  | x :: y :: r, h => okU_app (okU_app (h x List.mem_cons_self) hs) (okU_join hs (y :: r) fun t ht => h t (List.mem_cons_of_mem _ ht))
theorem okU_char {q c : Nat} (hq : q < 0x110000) (hc : c < 0x110000) : ∀ d ∈ PySem.Builtin.Str.reprChar q c, d < 0x110000 := by
  have hex : ∀ (w : Nat) (d : Nat), d ∈ List.replicate (w - ((Nat.toDigits 16 c).map Char.toNat).length) 48 ++ (Nat.toDigits 16 c).map Char.toNat → d < 0x110000 := fun w d h => by
    rcases List.mem_append.mp h with z | z
    · rw [(List.mem_replicate.mp z).2]; decide
    · obtain ⟨a, _, rfl⟩ := List.mem_map.mp z
      exact chr_lt a
  intro d hd
  unfold PySem.Builtin.Str.reprChar at hd
  dsimp only at hd
  repeat' split at hd
  all_goals first
    | (simp only [List.mem_cons, List.not_mem_nil, or_false] at hd; omega)
    | (rcases List.mem_append.mp hd with z | z
       · simp only [List.mem_cons, List.not_mem_nil, or_false] at z; omega
       · exact hex _ d z)
theorem okU_fold {q : Nat} (hq : q < 0x110000) : ∀ (l : List Nat) (acc : Array Nat), (∀ c ∈ l, c < 0x110000) → (∀ c ∈ acc.toList, c < 0x110000) → ∀ c ∈ (l.foldl (fun out c => out ++ (PySem.Builtin.Str.reprChar q c).toArray) acc).toList, c < 0x110000
  | [], _, _, h => h
  | c :: r, acc, hl, h => okU_fold hq r _ (fun d hd => hl d (List.mem_cons_of_mem _ hd)) fun d hd => by
    rw [Array.toList_append] at hd
    rcases List.mem_append.mp hd with z | z
    · exact h d z
    · exact okU_char hq (hl c List.mem_cons_self) d (by simpa using z)
theorem okU_repr {x : Str} (h : okU x) : okU (PySem.reprText x) := by
  have hq : PySem.reprQuote x < 0x110000 := by
    unfold PySem.reprQuote
    split <;> decide
  intro c hc
  unfold PySem.reprText at hc
  rw [show ((⟨(x.cps.foldl (fun out c => out ++ (PySem.Builtin.Str.reprChar (PySem.reprQuote x) c).toArray) #[PySem.reprQuote x]).push (PySem.reprQuote x)⟩ : Str)).cps.toList = _ ++ _ from Array.toList_push] at hc
  rcases List.mem_append.mp hc with z | z
  · rw [← Array.foldl_toList] at z
    exact okU_fold hq _ _ h (fun d hd => by
      have : d = PySem.reprQuote x := by simpa using hd
      rw [this]; exact hq) c z
  · have : c = PySem.reprQuote x := by simpa using z
    rw [this]; exact hq
theorem okU_shown : ∀ (n : Nat) (d : D), okD n d = true → okU (toP d).shown := by
  have key : ∀ (n : Nat), (∀ d, okD n d = true → okU (toP d).shown) → ∀ ds : List D, ds.all (okD n) = true → ∀ t ∈ PyData.shownAll (toPs ds), okU t := by
    intro n ih ds
    induction ds with
    | nil => intro _ t ht; cases ht
    | cons d ds ih2 =>
      intro h t ht
      rw [List.all_cons, Bool.and_eq_true] at h
      rcases List.mem_cons.mp (show t ∈ (toP d).shown :: PyData.shownAll (toPs ds) from ht) with e | e
      · rw [e]; exact ih d h.1
      · exact ih2 h.2 t e
  have base : ∀ (n : Nat) (d : D), (∀ ds, d ≠ .lst ds) → (∀ ds, d ≠ .tup ds) → okD n d = true → okU (toP d).shown := by
    intro n d h1 h2 h
    cases d with
    | non => exact okU_lit _
    | bl b => cases b <;> exact okU_lit _
    | int i => exact okU_lit _
    | str s => exact okU_repr (okU_iff.mpr (by cases n <;> exact h))
    | lst ds => exact absurd rfl (h1 ds)
    | tup ds => exact absurd rfl (h2 ds)
    | _ => cases n <;> cases h
  intro n
  induction n with
  | zero =>
    intro d h
    cases d with
    | lst ds => cases h
    | tup ds => cases h
    | _ => exact base 0 _ (fun _ z => nomatch z) (fun _ z => nomatch z) h
  | succ n ih =>
    intro d h
    cases d with
    | lst ds => exact okU_app (okU_from _ 0 _ (okU_lit _) (key n ih ds h)) (okU_lit _)
    | tup ds =>
      refine okU_app (okU_app (okU_lit _) (okU_join (okU_lit _) _ (key n ih ds h))) ?_
      exact okU_lit _
    | _ => exact base (n + 1) _ (fun _ z => nomatch z) (fun _ z => nomatch z) h
/-! ### s.upper() -/
/-! ### weaker promises -/
section
variable {P : Program} {w : World} {K : Frg} {mg : Str → Option Value} {base : Heap} {k : Nat} {f : Addr} {R R' : RdF} {C : Str}
theorem FnG.weakI (F : FnG P w K mg base (L2N.CX P w) k f (spI K C R)) (h : ∀ ds Q E, R' ds Q E → R ds Q E) : FnG P w K mg base (L2N.CX P w) k f (spI K C R') :=
  F.imp fun vs H Q E ⟨ms, F, Hb, x, args, ds, Qd, Ed, e, g, s, n, t, dx, r, z, kq, ke⟩ => ⟨ms, F, Hb, x, args, ds, Qd, Ed, e, g, s, n, t, dx, r, h _ _ _ z, kq, ke⟩
end
/-! ### small data, by a check -/
mutual
def shb : D → Bool
  | .non | .bl _ => true
  | .int i => decide (i.natAbs < 18446744073709551616)
  | .str s => PyData.strOk s
  | .lst ds => shbs ds
  | .tup ds => shbs ds
  | _ => false
def shbs : List D → Bool
  | [] => true
  | d :: ds => shb d && shbs ds
end
mutual
theorem shb_ok : ∀ d : D, shb d = true → shP 0 d
  | .non, _ => trivial
  | .bl _, _ => trivial
  | .int i, h => by
    have h := of_decide_eq_true (show decide (i.natAbs < 18446744073709551616) = true from h)
    show i.natAbs < 2 ^ 1900
    exact Nat.lt_of_lt_of_le h (Nat.le_trans (show (18446744073709551616 : Nat) ≤ 2 ^ 64 by decide) (Nat.pow_le_pow_right (by decide) (by decide)))
  | .str s, h => fun c hc => Nat.lt_trans (okU_iff.mpr h c hc) (by decide)
  | .lst ds, h => shbs_ok ds h
  | .tup ds, h => shbs_ok ds h
  | .obj _ _ _, h => nomatch h
  | .ty _, h => nomatch h
  | .glob _, h => nomatch h
  | .tape, h => nomatch h
  | .fn _, h => nomatch h
  | .dic _ _, h => nomatch h
  | .dpl _ _, h => nomatch h
theorem shbs_ok : ∀ ds : List D, shbs ds = true → shPs 0 ds
  | [], _ => trivial
  | d :: ds, h => by
    obtain ⟨h1, h2⟩ := He.ba (show (shb d && shbs ds) = true from h)
    exact ⟨shb_ok d h1, shbs_ok ds h2⟩
end
def knB : D → Bool
  | .obj _ _ _ | .ty _ | .glob _ | .tape | .fn _ | .dpl _ _ => false
  | _ => true
theorem all_at {α : Type} {p : α → Bool} {l : List α} {i : Nat} {d : α} (h : l.all p = true) (e : l[i]? = some d) : p d = true := List.all_eq_true.mp h d (List.mem_of_getElem? e)
end Y
namespace Y
open PySem PySem.Spec PyProof.Rows L2 Z
abbrev exV (c : Str) (d : D) : Ex := ⟨.glob c, ["value"], [d]⟩
abbrev exL (n : Int) : Ex := ⟨.glob "LimitExceeded", ["limit"], [.int n]⟩
/-! ### s * n -/
/-! ### C.m(..), a class method -/
section
variable {X : Cx} {B : Bs} {e : Expr} {es : List Expr} {rl : RdA} {pos apos : Pos} {R : RdF} {k : Nat} {g p : Addr} {m : Str}
end
/-! ### defs with a last parameter by name alone that make lambdas -/
section
variable {P : Program} {w : World} {K : Frg} {mg : Str → Option Value} {base : Heap}
end
end Y
namespace Y
open PySem PySem.Spec PyProof.Rows L2 Z
/-! ### rows that are never reached -/
/-! ### a last parameter by name alone, whose default is an object -/
section
variable {P : Program} {w : World} {K : Frg} {mg : Str → Option Value} {base : Heap}
end
end Y
namespace Y
open PySem PySem.Spec PyProof.Rows L2 Z
/-! ### own lists that are handed out -/
section
variable {K : Frg} {B : Bs} {F H F' H' : Hp} {σ : L2.St} {ρ : Ev}
end
section
variable {X : Cx} {B : Bs} {b e : Expr} {es : List Expr} {rb r : Rd} {rl : RdA} {pos p0 : Pos} {R : RdF} {k : Nat} {f : Addr} {x : Str} {st : Stmt} {rest : List Stmt} {s1 s2 : RdS}
end
section
variable {P : Program} {w : World} {K : Frg} {mg : Str → Option Value} {base : Heap}
end
/-! ### an own list in a comparison -/
section
variable {X : Cx} {B : Bs} {b : Expr} {rb : Rd} {pos : Pos} {x : Str}
end
end Y
namespace Y
open PySem PySem.Spec PyProof.Rows L2 Z
/-! ### a comprehension whose list stays its maker's own -/
section
variable {X : Cx} {B : Bs} {a b c e o : Expr} {es : List Expr} {ra rb rc r ro : Rd} {rt ru : RdT} {rl : RdA} {pos p0 apos : Pos} {R : RdF} {k : Nat} {f C g p : Addr} {x m : Str}
end
/-! ### max and min of a list of ints -/
section
variable {K : Frg} {ms : List Addr}
end
/-! ### count of a list of texts -/
section
variable {X : Cx} {B : Bs} {o e : Expr} {ro r : Rd} {pos apos cpos : Pos}
end
end Y
namespace Y
open PySem PySem.Spec PyProof.Rows L2 Z
section
variable {X : Cx} {B : Bs} {b : Expr} {rb : Rd} {pos : Pos} {x : Str}
end
end Y
namespace Y
open PySem PySem.Spec PyProof.Rows L2 Z
/-! ### an own dict becomes plain data -/
section
variable {K : Frg} {ms : List Addr} {B : Bs} {F H : Hp} {σ : L2.St} {ρ : Ev}
theorem DRl.keys {kvs : List (List Int × D)} {xs : List (List Int × Addr × Value)} (h : DRl K ms F kvs xs) : ∃ vs, DKs K F (kvs.map (·.1)) xs vs ∧ Rps K ms F vs (kvs.map (·.2)) := by
  induction h with
  | nil => exact ⟨[], .nil, .nil⟩
  | cons h1 h2 h3 _ ih =>
    obtain ⟨vs, a, b⟩ := ih
    exact ⟨_ :: vs, .cons h1 h2 a, .cons h3 b⟩
theorem DKs.dr {ks : List (List Int)} {xs : List (List Int × Addr × Value)} {vs : List V} (h : DKs K F ks xs vs) : ∀ {ds : List D}, Rps K ms F vs ds → DRl K ms F (ks.zip ds) xs := by
  induction h with
  | nil => intro ds r; cases r; exact .nil
  | cons h1 h2 _ ih =>
    intro ds r
    cases r with
    | cons r1 r2 => exact .cons h1 h2 r1 (ih r2)
end
section
variable {X : Cx} {B : Bs} {a b c e f o : Expr} {es : List Expr} {ra rb rc r rf ro : Rd} {rt ru : RdT} {rl : RdA} {pos p0 p2 pv apos cpos : Pos} {k i : Nat} {x : Str} {s1 s2 : RdS}
/-! ### tests that change an own thing -/
/-! ### such a dict as plain data -/
end
section
variable {K : Frg} {ms : List Addr}
end
section
variable {X : Cx} {B : Bs} {e f o : Expr} {r rf ro : Rd} {pos apos cpos : Pos} {k : Nat}
end
/-! ### an own list that is lent to a test -/
section
variable {K : Frg} {ms : List Addr} {B : Bs} {F H : Hp} {σ : L2.St} {ρ : Ev}
/-- the heap without it -/
def lessF (F : Hp) (a : Addr) : Hp := fun x => if x = a then none else F x
end
section
variable {X : Cx} {B : Bs} {e : Expr} {r : Rd} {rt : RdT}
end
end Y
namespace Y
open PySem PySem.Spec PyProof.Rows L2 Z
section
variable {X : Cx} {B : Bs} {e : Expr} {r : Rd} {rl : RdA} {pos pv pos' : Pos} {x y : Str} {i j k : Nat} {s1 s2 : RdS}
/-! ### x += e -/
/-! ### expressions and iterables that change an own thing -/
end
/-! ### the keys of a dict, one by one -/
theorem DKs.sq {K : Frg} {F : Hp} {ks : List (List Int)} {xs : List (List Int × Addr × Value)} {vs : List V} (h : DKs K F ks xs vs) : (∀ x ∈ xs, SqT K F x.2.1 (x.1.map V.int)) ∧ ks = xs.map (·.1) := by
  induction h with
  | nil => exact ⟨fun x hx => (nomatch hx), rfl⟩
  | cons h1 _ _ ih =>
    refine ⟨fun x hx => ?_, by rw [List.map_cons, ih.2]⟩
    rcases List.mem_cons.mp hx with rfl | hx
    · exact h1
    · exact ih.1 x hx
section
variable {X : Cx} {B : Bs} {e o : Expr} {r ro : Rd} {rl : RdA} {pos pv pos' p0 : Pos} {x : Str} {i j k : Nat}
/-! ### len(d) -/
end
section
variable {K : Frg} {ms : List Addr}
end
/-! ### displays that make own things -/
section
variable {X : Cx} {B : Bs} {e ek ev e1 e2 e3 e4 : Expr} {es : List Expr} {r rk rv r4 : Rd} {rl : RdA} {pos pv pos' p0 : Pos} {x : Str} {i j k l : Nat}
end
end Y
namespace Y
open PySem PySem.Spec PyProof.Rows L2 Z
section
variable {X : Cx} {B : Bs} {rl : RdA} {pos pv : Pos} {x : Str} {i : Nat}
end
end Y
namespace Y
open PySem PySem.Spec PyProof.Rows L2 Z
section
variable {X : Cx} {B : Bs} {e1 e2 : Expr} {r2 : Rd} {pos p0 : Pos} {i j : Nat}
end
def bNs (x : Str) : Frg → Bool := fun K => decide (PySem.W.subIn K (.ref (He.ga K x)) (.type "StopIteration") = some false)
theorem ns_of {K : Frg} {x : Str} (h : bNs x K = true) : PySem.W.subIn K (.ref (He.ga K x)) (.type "StopIteration") = some false := of_decide_eq_true h
end Y
namespace Y
open PySem PySem.Spec PyProof.Rows L2 Z
/-! ### a place as the index of a told dict -/
section
variable {X : Cx} {B : Bs} {a b : Expr} {ra rb : Rd} {pos : Pos} {k : Nat}
end
end Y
namespace Y
open PySem PySem.Spec PyProof.Rows L2 Z
/-! ### lambdas of one parameter that a comprehension in their text reads -/
abbrev cellO : Obj := { cls := .type "cell", data := .cell none }
section
variable {M : Model} {A : Around} {E : Value → Shared → Prop} {s : Shared}
end
/-- names of a lambda of one parameter, which a comprehension reads -/
structure NScopeP (N : List Str) (p : Str) (fr : List Str) (sc : Scope) : Prop where
  kind : sc.kind = .function
  co : sc.isCoroutine = false
  gen : sc.isGenerator = false
  pre : N.take (1 + fr.length) = p :: fr
  par : sc.names.lookup p = some .cell
  one : ∀ y, sc.names.lookup y = some .cell → y = p
  free : ∀ y ∈ sc.names, y.2 = .free → y.1 ∈ fr
  frk : ∀ x ∈ fr, sc.names.lookup x = some .free
  cf : ∀ n acc, cellsFrom n sc.names acc = (p, n) :: acc
  pc : ∀ h : Heap, pushCells h sc.names = h.push cellO
section
variable {P : Program} {w : World} {K : Frg} {mg : Str → Option Value} {b2 : Heap} {N fr : List Str} {p : Str} {q : Str} {params : Arguments} {scope : Scope} {cl : List (Str × Addr)} {c' f : Addr} {A : Around} {outer : List Env} {s : Shared} {H : Hp} {E : XK} {u : Value} {v0 : V} {ws : List (Option V)}
end
section
variable {P : Program} {w : World} {K : Frg} {mg : Str → Option Value} {b2 : Heap}
end
/-- what a lambda's text tells -/
structure LamTP (X : Cx) (N : List Str) (p : Str) (fr : List Str) (js : List Nat) (q : Str) (params : Arguments) (body : Expr) (scope : Scope) : Prop where
  sc : NScopeP N p fr scope
  bd : ∀ (cl : List (Str × Addr)) (pm cv ctv : Value) (us : List Value), us.length = 1 → bindArgs (PySem.W.kla_fn "<lambda>" q params body scope cl pm cv ctv) ⟨us, []⟩ = pure ([p].zip us)
  df : defaultsOf params X.env = ([], [])
  free : ∀ y ∈ scope.names, y.2 = .free → X.env.scope.names.lookup y.1 = some .cell ∨ X.env.scope.names.lookup y.1 = some .free
  frm : ∀ y ∈ fr, (y, NameKind.free) ∈ scope.names
  ix : js.map (fun j => X.N[j]?) = fr.map some
  own : ∀ y, X.fn y = true
section
variable {X : Cx} {B : Bs} {pins : List (Addr × Obj)} {σ : L2.St} {H F : Hp} {s : Shared} {ρ : Ev}
end
section
variable {X : Cx} {B : Bs} {a e : Expr} {es : List Expr} {ra : Rd} {rl : RdA} {pos p0 lp : Pos} {k kc : Nat} {f fa : Addr} {y x q : Str} {N fr : List Str} {p : Str} {js : List Nat} {params : Arguments} {body : Expr} {scope : Scope} {r : Bs → Rd} {R2 : Addr → RdF → RdF} {ms : List Addr} {Fm : Hp} {R : RdF} {i : Nat}
end
end Y
namespace Y
open PySem PySem.Spec PyProof.Rows L2 Z
/-! ### def x(*pv, kn); def x(.., *, k1, k2); x(kn = c); x(.., k1 = a, k2 = b); x(*e) -/
section
variable {P : Program} {w : World} {K : Frg} {mg : Str → Option Value} {base : Heap}
end
section
variable {X : Cx} {B : Bs} {e e2 e3 : Expr} {es : List Expr} {r r2 r3 : Rd} {rl : RdA} {pos p0 kpos kp1 kp2 sp_ : Pos} {R : RdF} {k : Nat} {f : Addr} {x kn k1 k2 : Str}
end
end Y
namespace Y
open PySem PySem.Spec PyProof.Rows L2 Z
/-! ### an own list that a whole statement reads -/
section
variable {K : Frg} {ms : List Addr} {F H : Hp} {B : Bs}
end
section
variable {X : Cx} {B : Bs} {e : Expr} {r : Rd}
end
end Y
namespace Y
open PySem PySem.Spec PyProof.Rows L2 Z
/-! ### sorted lists of shown data -/
section
variable {K : Frg} {ms : List Addr} {F : Hp}
end
section
variable {X : Cx}
end
/-! ### the keys of a told dict, sorted -/
section
variable {X : Cx}
end
end Y
namespace Y
open PySem PySem.Spec PyProof.Rows L2 Z
/-! ### the keys of a told dict, as a list -/
section
variable {X : Cx}
end
end Y
namespace Y
open PySem PySem.Spec PyProof.Rows L2 Z
end Y
namespace Y
open PySem PySem.Spec PyProof.Rows L2 Z
/-! ### dicts with keys that are numbers or texts -/
def dicD (kds : List (Key × D)) : D := .dic (kds.map (·.1)) (kds.map (·.2))
section
variable {K : Frg} {ms : List Addr} {F H : Hp}
end
section
variable {X : Cx} {B : Bs} {pos cpos apos : Pos} {a e o f : Expr} {ra ro r rf : Rd}
/-- the value that a key finds -/
def lookK (kds : List (Key × D)) (k : Key) : Option D := (kds.find? fun q => decide (q.1 = k)).map (·.2)
end
end Y
namespace Y
open PySem PySem.Spec PyProof.Rows L2 Z
/-! ### own dicts whose keys are numbers or texts -/
/-- in its place, or at the end -/
def putP (kds : List (Key × D)) (k : Key) (d : D) : List (Key × D) := if (kds.any fun q => decide (q.1 = k)) = true then kds.map (fun q => if q.1 = k then (q.1, d) else q) else kds ++ [(k, d)]
section
variable {K : Frg} {ms : List Addr} {F : Hp} {kvs : List (Key × V)} {kds : List (Key × D)}
theorem Rkd.any (h : Rkd K ms F kvs kds) (k : Key) : (kvs.any fun q => decide (q.1 = k)) = kds.any fun q => decide (q.1 = k) := by
  induction h with
  | nil => rfl
  | cons _ _ ih => rw [List.any_cons, List.any_cons, ih]
theorem Rkd.app {kvs' : List (Key × V)} {kds' : List (Key × D)} (h : Rkd K ms F kvs kds) (h' : Rkd K ms F kvs' kds') : Rkd K ms F (kvs ++ kvs') (kds ++ kds') := by
  induction h with
  | nil => exact h'
  | cons h1 _ ih => exact .cons h1 ih
theorem Rkd.mapPut {k : Key} {v : V} {d : D} (h : Rkd K ms F kvs kds) (r : Rp K ms F v d) : Rkd K ms F (kvs.map fun q => if q.1 = k then (q.1, v) else q) (kds.map fun q => if q.1 = k then (q.1, d) else q) := by
  induction h with
  | nil => exact .nil
  | @cons j w e _ _ h1 _ ih =>
    rw [List.map_cons, List.map_cons]
    by_cases z : j = k
    · rw [if_pos z, if_pos z]
      exact .cons r ih
    · rw [if_neg z, if_neg z]
      exact .cons h1 ih
theorem Rkd.put {k : Key} {v : V} {d : D} (h : Rkd K ms F kvs kds) (r : Rp K ms F v d) : Rkd K ms F (putK kvs k v) (putP kds k d) := by
  unfold putK putP
  rw [← h.any k]
  by_cases z : (kvs.any fun q => decide (q.1 = k)) = true
  · rw [if_pos z, if_pos z]
    exact h.mapPut r
  · rw [if_neg z, if_neg z]
    exact h.app (.cons r .nil)
theorem Rkd.get (h : Rkd K ms F kvs kds) (k : Key) : (∃ v d, valV kvs k = some v ∧ lookK kds k = some d ∧ Rp K ms F v d) ∨ (valV kvs k = none ∧ lookK kds k = none) := by
  induction h with
  | nil => exact .inr ⟨rfl, rfl⟩
  | @cons j w e kvs kds h1 _ ih =>
    by_cases z : j = k
    · refine .inl ⟨w, e, valV_pos z, ?_, h1⟩
      unfold lookK
      rw [List.find?_cons]
      simp [z]
    · rw [valV_neg (p := (j, w)) z]
      have : lookK ((j, e) :: kds) k = lookK kds k := by
        unfold lookK
        rw [List.find?_cons]
        simp [z]
      rw [this]
      exact ih
theorem Rkd.len (h : Rkd K ms F kvs kds) : kvs.length = kds.length := by
  induction h with
  | nil => rfl
  | cons _ _ ih => rw [List.length_cons, List.length_cons, ih]
theorem Rkd.zip (h : Rkd K ms F kvs kds) : ∃ vs, kvs = (kds.map (·.1)).zip vs ∧ (kds.map (·.1)).length = vs.length ∧ Rps K ms F vs (kds.map (·.2)) := by
  induction h with
  | nil => exact ⟨[], rfl, rfl, .nil⟩
  | @cons j w e kvs kds h1 _ ih =>
    obtain ⟨vs, e1, e2, e3⟩ := ih
    exact ⟨w :: vs, by rw [e1]; rfl, by rw [List.map_cons, List.length_cons, e2]; rfl, .cons h1 e3⟩
end
/-! ### a dict comprehension -/
section
variable {X : Cx} {B : Bs} {e o : Expr} {es : List Expr} {r : Rd} {rt : RdT} {rl : RdA} {pos p0 pv pos' apos cpos : Pos} {R : RdF} {k i : Nat} {f : Addr} {x : Str} {st : Stmt} {rest : List Stmt} {s1 s2 : RdS}
end
end Y
namespace Y
open PySem PySem.Spec PyProof.Rows L2 Z
/-! ### own things that are handed out -/
def moD : Mo → D
  | .lst ds => .lst ds
  | .dk kds => dicD kds
  | .dt _ _ => .non
  | .dct kvs => .dpl (kvs.map (·.1)) (kvs.map (·.2))
  | .ins _ c ns ds => .obj c ns ds
  | .exc _ => .non
  | .hot _ _ => .non
section
variable {ms : List Addr} {F H F2 H1 : Hp} {p : Addr} {u : HO}
theorem Rkd.told {K : Frg} {kvs : List (Key × V)} {kds : List (Key × D)} {o : Obj} (h : Rkd K ms F kvs kds) (e : F p = some (.frz o (.dK kvs))) : Rp K ms F (.ref p) (dicD kds) := by
  obtain ⟨vs, e1, e2, e3⟩ := h.zip
  rw [e1] at e
  exact .dic e e2 e3
end
def spM (K : Frg) (R : RdF) : Sp := fun vs H Q E => ∃ ms F ds Qd Ed, Tp K ms F H ∧ Rps K ms F vs ds ∧ R ds Qd Ed ∧ (∀ a F' H' m o, H a = none → F' a = none → H' a = some o → Go ms F H F' H' → Tp K ms F' H' → MoR K ms F' a m o → Qd (moD m) → Q (.ref a) H') ∧
  (∀ cls d F' H' x, Go ms F H F' H' → Tp K ms F' H' → XR K ms F' cls d x → Ed x → E cls d H')
section
variable {X : Cx} {B : Bs} {b e o : Expr} {es : List Expr} {rb r : Rd} {rm : Ev → (Mo → Prop) → Prop} {rl : RdA} {pos p0 pv pos' apos cpos : Pos} {R : RdF} {k i : Nat} {f : Addr} {x : Str} {st : Stmt} {rest : List Stmt} {s1 s2 : RdS}
end
end Y
namespace Y
open PySem PySem.Spec PyProof.Rows L2 Z
/-! ### a def that hands out an own thing -/
section
variable {P : Program} {w : World} {K : Frg} {mg : Str → Option Value} {base : Heap}
end
/-! ### list(d.items()) of an own dict -/
section
variable {X : Cx} {B : Bs} {b e o : Expr} {es : List Expr} {rb r : Rd} {rl : RdA} {pos p0 pv apos cpos : Pos} {R : RdF} {k i : Nat} {f : Addr} {x : Str}
end
/-! ### dict(..) of a list of pairs, told -/
/-! ### repr of a dict -/
def shK : Key → PyData
  | .inl i => .int i
  | .inr s => .str s
def flD : D → Prop
  | .non => True
  | .bl _ => True
  | .int i => Sz 1900 i
  | .str s => ∀ c ∈ s.cps.toList, c < 16 ^ 8
  | _ => False
theorem flD.sh {d : D} {n : Nat} (h : flD d) : shP n d := by cases d <;> first | exact h | exact h.elim
def flK : Key → Prop
  | .inl i => Sz 1900 i
  | .inr s => ∀ c ∈ s.cps.toList, c < 16 ^ 8
def kvPy (ks : List Key) (ds : List D) : PyData := .dict ((ks.zip ds).map fun q => (shK q.1, toP q.2))
section
variable {X : Cx} {pins : List (Addr × Obj)} {σ : L2.St} {H F : Hp} {s : Shared} {ms : List Addr}
theorem keys_read {P : Program} {w : World} {h : Heap} : ∀ {es : List DictEntry} {vs : List (Key × Value)}, Pairs (mixKind P w) es vs → ReadsAll h (es.map (·.key)) (vs.map fun q => shK q.1) []
  | _, _, .nil => .nil
  | _, _, @Pairs.cons _ _ _ _ _ e kv es kvs h1 h2 h3 => by
    have ih := keys_read (h := h) h3
    have rk : RelV (kV kv.1) e.key := relV_key (show keyIs kv.1 e.key = true from h1)
    rw [List.map_cons, List.map_cons]
    refine ReadsAll.cons (as := []) (bs := []) ?_ ih
    revert rk
    cases kv.1 with
    | inl i => intro rk; obtain ⟨t, e⟩ := (show ∃ t, _ = Value.int i t from rk); rw [e]; exact .int i t
    | inr x => intro rk; obtain ⟨t, e⟩ := (show ∃ t, _ = Value.str x t from rk); rw [e]; exact .str x t
theorem fl_read {h : Heap} {v : V} {d : D} {u : Value} (f : flD d) (r : Rp X.K ms F v d) (e : RelV v u) : Reads h u (toP d) [] := by
  cases d with
  | non =>
    cases r
    obtain rfl : u = Value.none := e
    exact .none
  | bl b =>
    cases r
    obtain rfl : u = Value.bool b := e
    exact .bool b
  | int i =>
    cases r
    obtain ⟨t, rfl⟩ := (show ∃ t, u = Value.int i t from e)
    exact .int i t
  | str x =>
    cases r
    obtain ⟨t, rfl⟩ := (show ∃ t, u = Value.str x t from e)
    exact .str x t
  | _ => exact f.elim
theorem vals_read {P : Program} {w : World} {h : Heap} {ks : List Key} : ∀ {es : List DictEntry} {vs : List (Key × Value)} {kvs : List (Key × V)} {ds : List D}, Pairs (mixKind P w) es vs → KV kvs vs → Rps X.K ms F (kvs.map (·.2)) ds → (∀ x ∈ ds, flD x) → ReadsAll h (es.map (·.val)) (ds.map toP) []
  | _, _, _, _, .nil, kv, r, f => by
    cases kv
    cases r
    exact .nil
  | _, _, _, _, @Pairs.cons _ _ _ _ _ e q es qs h1 h2 h3, kv, r, f => by
    cases kv with
    | cons k1 k2 =>
      cases r with
      | cons r1 r2 =>
        have ih := vals_read (h := h) (ks := ks) h3 k2 r2 fun x hx => f x (List.mem_cons_of_mem _ hx)
        rw [List.map_cons, List.map_cons]
        refine ReadsAll.cons (as := []) (bs := []) ?_ ih
        rw [h2]
        exact fl_read (f _ List.mem_cons_self) r1 k1.2
theorem kv_fst {kvs : List (Key × V)} {vs : List (Key × Value)} (h : KV kvs vs) : vs.map (·.1) = kvs.map (·.1) := by
  induction h with
  | nil => rfl
  | cons h _ ih => rw [List.map_cons, List.map_cons, ih, h.1]
theorem kv_short {ks : List Key} : ∀ {ds : List D}, (∀ k ∈ ks, flK k) → (∀ x ∈ ds, flD x) → PyData.leavesShort 1921 (kvPy ks ds) = true ∧ PyData.showable (kvPy ks ds) = true := by
  induction ks with
  | nil => intro ds _ _; exact ⟨rfl, rfl⟩
  | cons k ks ih =>
    intro ds hk hd
    cases ds with
    | nil => exact ⟨rfl, rfl⟩
    | cons d ds =>
      obtain ⟨a, b⟩ := ih (fun k' h => hk k' (List.mem_cons_of_mem _ h)) (fun x h => hd x (List.mem_cons_of_mem _ h))
      have f := hd d List.mem_cons_self
      have fk := hk k List.mem_cons_self
      have k1 : (shK k).leavesShort 1921 = true ∧ (shK k).showable = true := by
        cases k with
        | inl i => exact ⟨decide_eq_true (int_text_len_1921 (sz1900 fk)), decide_eq_true (sz1900 fk)⟩
        | inr s => exact ⟨List.all_eq_true.mpr fun c hc => decide_eq_true (fk c hc), rfl⟩
      have d1 := sh_short (n := 0) d f.sh
      have d2 := sh_able (n := 0) d f.sh
      refine ⟨?_, ?_⟩
      · show ((shK k).leavesShort 1921 && (toP d).leavesShort 1921 && PyData.leavesShortKv 1921 ((ks.zip ds).map fun q => (shK q.1, toP q.2))) = true
        rw [k1.1, d1]
        exact a
      · show ((shK k).showable && (toP d).showable && PyData.showableKv ((ks.zip ds).map fun q => (shK q.1, toP q.2))) = true
        rw [k1.2, d2]
        exact b
end
/-! ### == of two told dicts that are equal -/
section
variable {X : Cx} {pins : List (Addr × Obj)} {σ : L2.St} {H : Hp} {s : Shared}
end
/-! ### len of a told dict -/
end Y
namespace Y
open PySem PySem.Spec PyProof.Rows L2 Z
/-! ### own dicts whose keys are tuples of numbers and texts -/
def lookZ (kvs : List (List Key × D)) (k : List Key) : Option D := (kvs.find? fun kv => decide (kv.1 = k)).map (·.2)
def putZ (kvs : List (List Key × D)) (k : List Key) (d : D) : List (List Key × D) := if (lookZ kvs k).isSome then kvs.map (fun kv => if kv.1 = k then (kv.1, d) else kv) else kvs ++ [(k, d)]
section
variable {K : Frg} {ms : List Addr} {F : Hp}
theorem DRk.len {kvs : List (List Key × D)} {xs : List (List Key × Addr × Value)} (h : DRk K ms F kvs xs) : kvs.length = xs.length := by
  induction h with
  | nil => rfl
  | cons _ _ _ _ ih => rw [List.length_cons, List.length_cons, ih]
theorem DRk.look {kvs : List (List Key × D)} {xs : List (List Key × Addr × Value)} (h : DRk K ms F kvs xs) (k : List Key) : (lookZ kvs k = none ∧ atKey xs k = none) ∨ ∃ d p v, lookZ kvs k = some d ∧ atKey xs k = some p ∧ RelV v p.2 ∧ Rp K ms F v d := by
  induction h with
  | nil => exact .inl ⟨rfl, rfl⟩
  | @cons k' b u v d kvs xs h1 h2 h3 _ ih =>
    by_cases e : k' = k
    · refine .inr ⟨d, (b, u), v, ?_, ?_, h2, h3⟩
      · unfold lookZ; rw [List.find?_cons_of_pos (by exact decide_eq_true e)]; rfl
      · unfold atKey; rw [List.find?_cons_of_pos (by exact decide_eq_true e)]; rfl
    · have e1 : lookZ ((k', d) :: kvs) k = lookZ kvs k := by unfold lookZ; rw [List.find?_cons_of_neg (by simpa using e)]
      have e2 : atKey ((k', b, u) :: xs) k = atKey xs k := by unfold atKey; rw [List.find?_cons_of_neg (by simpa using e)]
      rw [e1, e2]
      exact ih
theorem DRk.some {kvs : List (List Key × D)} {xs : List (List Key × Addr × Value)} (h : DRk K ms F kvs xs) (k : List Key) : (lookZ kvs k).isSome = (atKey xs k).isSome := by
  rcases h.look k with ⟨e1, e2⟩ | ⟨d, x, v, e1, e2, _⟩
  · rw [e1, e2]; rfl
  · rw [e1, e2]; rfl
theorem DRk.app {kvs kvs' : List (List Key × D)} {xs xs' : List (List Key × Addr × Value)} (h : DRk K ms F kvs xs) (h' : DRk K ms F kvs' xs') : DRk K ms F (kvs ++ kvs') (xs ++ xs') := by
  induction h with
  | nil => exact h'
  | cons a b c _ ih => exact .cons a b c ih
theorem DRk.mapPut {kvs : List (List Key × D)} {xs : List (List Key × Addr × Value)} {k : List Key} {u : Value} {v : V} {d : D} (h : DRk K ms F kvs xs) (hu : RelV v u) (hd : Rp K ms F v d) : DRk K ms F (kvs.map fun kv => if kv.1 = k then (kv.1, d) else kv) (xs.map (putAt k u)) := by
  induction h with
  | nil => exact .nil
  | @cons k' b' u' v' d' kvs xs h1 h2 h3 _ ih =>
    rw [List.map_cons, List.map_cons]
    unfold putAt
    by_cases e : k' = k
    · rw [if_pos e, if_pos e]
      exact .cons h1 hu hd ih
    · rw [if_neg e, if_neg e]
      exact .cons h1 h2 h3 ih
theorem DRk.put {kvs : List (List Key × D)} {xs : List (List Key × Addr × Value)} (h : DRk K ms F kvs xs) {k : List Key} {b : Addr} {u : Value} {v : V} {d : D} (hb : SqT K F b (k.map kV)) (hu : RelV v u) (hd : Rp K ms F v d) : DRk K ms F (putZ kvs k d) (storedH xs k b u) := by
  unfold putZ storedH
  rw [h.some k]
  split
  · exact h.mapPut hu hd
  · exact h.app (.cons hb hu hd .nil)
end
section
variable {X : Cx} {B : Bs} {pins : List (Addr × Obj)} {σ : L2.St} {H F : Hp} {s : Shared}
end
/-! ### the rules -/
section
variable {X : Cx} {B : Bs} {e ev : Expr} {r rv : Rd} {pos p0 pv pos' tpos : Pos} {x : Str} {i k : Nat}
end
section
variable {X : Cx} {B : Bs} {b e f : Expr} {rb r rf : Rd} {pos p0 pv pos' tpos apos cpos p2 : Pos} {x : Str} {i k : Nat}
end
end Y
namespace MN
/-- what a list of shifts spans -/
inductive Sp (S : List (Int × Int)) : Int → Int → Prop
  | zero : Sp S 0 0
  | add {u v x y : Int} (k : Int) : (u, v) ∈ S → Sp S x y → Sp S (x + k * u) (y + k * v)
theorem Sp.cast {S : List (Int × Int)} {x y x' y' : Int} (h : Sp S x y) (e1 : x' = x) (e2 : y' = y) : Sp S x' y' := by rw [e1, e2]; exact h
theorem Sp.gen {S : List (Int × Int)} {u v : Int} (h : (u, v) ∈ S) : Sp S u v := (Sp.add 1 h .zero).cast (by omega) (by omega)
theorem Sp.sum {S : List (Int × Int)} {x y x' y' : Int} (h : Sp S x y) (h' : Sp S x' y') : Sp S (x + x') (y + y') := by
  induction h with
  | zero => exact h'.cast (by omega) (by omega)
  | add k m _ ih => exact (Sp.add k m ih).cast (by omega) (by omega)
theorem Sp.smul {S : List (Int × Int)} {x y : Int} (n : Int) (h : Sp S x y) : Sp S (n * x) (n * y) := by
  induction h with
  | zero => exact Sp.zero.cast (by omega) (by omega)
  | add k m _ ih => exact (Sp.add (n * k) m ih).cast (by grind) (by grind)
theorem Sp.sub {S : List (Int × Int)} {x y x' y' : Int} (h : Sp S x y) (h' : Sp S x' y') : Sp S (x - x') (y - y') := (h.sum (h'.smul (-1))).cast (by omega) (by omega)
theorem Sp.le {S S' : List (Int × Int)} (g : ∀ u v, (u, v) ∈ S → Sp S' u v) {x y : Int} (h : Sp S x y) : Sp S' x y := by
  induction h with
  | zero => exact .zero
  | add k m _ ih => exact ih.sum ((g _ _ m).smul k)
/-- two lists span the same -/
def Eqv (S S' : List (Int × Int)) : Prop := ∀ x y, Sp S x y ↔ Sp S' x y
theorem Eqv.refl (S : List (Int × Int)) : Eqv S S := fun _ _ => Iff.rfl
theorem Eqv.symm {S S' : List (Int × Int)} (h : Eqv S S') : Eqv S' S := fun x y => (h x y).symm
theorem Eqv.trans {S S' S'' : List (Int × Int)} (h : Eqv S S') (h' : Eqv S' S'') : Eqv S S'' := fun x y => (h x y).trans (h' x y)
theorem Eqv.of {S S' : List (Int × Int)} (g : ∀ u v, (u, v) ∈ S → Sp S' u v) (g' : ∀ u v, (u, v) ∈ S' → Sp S u v) : Eqv S S' := fun _ _ => ⟨Sp.le g, Sp.le g'⟩
theorem eqv_app {S S' : List (Int × Int)} (h : Eqv S S') (R : List (Int × Int)) : Eqv (S ++ R) (S' ++ R) := by
  refine .of (fun u v m => ?_) (fun u v m => ?_)
  · rcases List.mem_append.mp m with m | m
    · exact Sp.le (fun _ _ q => .gen (List.mem_append_left _ q)) ((h _ _).mp (.gen m))
    · exact .gen (List.mem_append_right _ m)
  · rcases List.mem_append.mp m with m | m
    · exact Sp.le (fun _ _ q => .gen (List.mem_append_left _ q)) ((h _ _).mpr (.gen m))
    · exact .gen (List.mem_append_right _ m)
theorem inN_sp {a b c x y : Int} : InN a b c x y ↔ Sp [(a, 0), (b, c)] x y := by
  constructor
  · rintro ⟨m, k, rfl, rfl⟩
    exact (((Sp.gen (u := a) (v := 0) (by simp)).smul m).sum ((Sp.gen (u := b) (v := c) (by simp)).smul k)).cast (by grind) (by grind)
  · intro h
    induction h with
    | zero => exact inN_zero
    | add k m _ ih =>
      obtain ⟨p, q, rfl, rfl⟩ := ih
      rcases List.mem_cons.mp m with e | m
      · cases e
        exact ⟨p + k, q, by grind, by grind⟩
      rcases List.mem_cons.mp m with e | m
      · cases e
        exact ⟨p, q + k, by grind, by grind⟩
      cases m
/-- numbers of a net -/
def Ok (a b c : Int) : Prop := 1 ≤ c ∧ 0 ≤ b ∧ b < a
theorem net_le {a b c a' b' c' : Int} (h : Ok a b c) (h' : Ok a' b' c') (e : ∀ x y, InN a b c x y → InN a' b' c' x y) : a' ∣ a ∧ c' ∣ c := by
  obtain ⟨h1, h2, h3⟩ := h
  obtain ⟨p1, p2, p3⟩ := h'
  have x1 := e a 0 ⟨1, 0, by omega, by omega⟩
  have x2 := e b c ⟨0, 1, by omega, by omega⟩
  rw [inN_iff (by omega)] at x1 x2
  refine ⟨?_, x2.1⟩
  have := x1.2
  simpa using this
theorem net_eq {a b c a' b' c' : Int} (h : Ok a b c) (h' : Ok a' b' c') (e : ∀ x y, InN a b c x y ↔ InN a' b' c' x y) : a = a' ∧ b = b' ∧ c = c' := by
  have l1 := net_le h h' fun x y => (e x y).mp
  have l2 := net_le h' h fun x y => (e x y).mpr
  have ea : a = a' := Int.dvd_antisymm (by have := h.2; omega) (by have := h'.2; omega) l2.1 l1.1
  have ec : c = c' := Int.dvd_antisymm (by have := h.1; omega) (by have := h'.1; omega) l2.2 l1.2
  subst ea ec
  refine ⟨rfl, ?_, rfl⟩
  have x1 := (e b c).mp ⟨0, 1, by omega, by omega⟩
  have x2 : InN a b' c b' c := ⟨0, 1, by omega, by omega⟩
  have x3 := inN_sub x1 x2
  have := (in_cell (by have := h.2; omega) (by have := h.1; omega) x3 ⟨by have := h.2; have := h'.2; omega, by have := h.2; have := h'.2; omega⟩ ⟨by have := h.1; omega, by have := h.1; omega⟩).1
  omega
/-- the answer about a list of shifts -/
def Form (S : List (Int × Int)) : Option (Int × Int × Int) → Prop
  | none => ∀ a b c, Ok a b c → ¬ (Sp S a 0 ∧ Sp S b c)
  | some (a, b, c) => Ok a b c ∧ ∀ x y, InN a b c x y ↔ Sp S x y
theorem form_uni {S : List (Int × Int)} {r r' : Option (Int × Int × Int)} (h : Form S r) (h' : Form S r') : r = r' := by
  rcases r with _ | ⟨a, b, c⟩ <;> rcases r' with _ | ⟨a', b', c'⟩
  · rfl
  · exact (h _ _ _ h'.1 ⟨(h'.2 _ _).mp ⟨1, 0, by omega, by omega⟩, (h'.2 _ _).mp ⟨0, 1, by omega, by omega⟩⟩).elim
  · exact (h' _ _ _ h.1 ⟨(h.2 _ _).mp ⟨1, 0, by omega, by omega⟩, (h.2 _ _).mp ⟨0, 1, by omega, by omega⟩⟩).elim
  · obtain ⟨rfl, rfl, rfl⟩ := net_eq h.1 h'.1 fun x y => (h.2 x y).trans (h'.2 x y).symm
    rfl
/-- a step of Euclid's way -/
theorem eqv_step {b c x y t : Int} {R : List (Int × Int)} {a : Int} : Eqv ((a, 0) :: (b, c) :: (x, y) :: R) ((a, 0) :: (x, y) :: (b - t * x, c - t * y) :: R) := by
  refine .of (fun u v m => ?_) (fun u v m => ?_)
  · simp only [List.mem_cons, Prod.mk.injEq] at m
    rcases m with ⟨rfl, rfl⟩ | ⟨rfl, rfl⟩ | ⟨rfl, rfl⟩ | m
    · exact .gen (by simp)
    · exact ((Sp.gen (u := u - t * x) (v := v - t * y) (by simp)).sum ((Sp.gen (u := x) (v := y) (by simp)).smul t)).cast (by grind) (by grind)
    · exact .gen (by simp)
    · exact .gen (by simp [m])
  · simp only [List.mem_cons, Prod.mk.injEq] at m
    rcases m with ⟨rfl, rfl⟩ | ⟨rfl, rfl⟩ | ⟨rfl, rfl⟩ | m
    · exact .gen (by simp)
    · exact .gen (by simp)
    · exact (Sp.gen (u := b) (v := c) (by simp)).sub ((Sp.gen (u := x) (v := y) (by simp)).smul t)
    · exact .gen (by simp [m])
theorem bezN : ∀ (n m : Nat), ∃ s t : Int, ((Nat.gcd n m : Nat) : Int) = s * n + t * m := by
  intro n m
  induction n, m using Nat.gcd.induction with
  | H0 n => exact ⟨0, 1, by simp⟩
  | H1 m n h ih =>
    obtain ⟨s, t, e⟩ := ih
    refine ⟨t - s * (n / m : Nat), s, ?_⟩
    rw [Nat.gcd_rec, e]
    have : (n : Int) = m * (n / m : Nat) + (n % m : Nat) := by exact_mod_cast (Nat.div_add_mod n m).symm
    grind
theorem bez (a x : Int) : ∃ s t : Int, ((Int.gcd a x : Nat) : Int) = s * a + t * x := by
  obtain ⟨s, t, e⟩ := bezN a.natAbs x.natAbs
  have h1 : Int.gcd a x = Nat.gcd a.natAbs x.natAbs := rfl
  rw [h1, e]
  rcases Int.natAbs_eq a with ha | ha <;> rcases Int.natAbs_eq x with hx | hx
  · exact ⟨s, t, by rw [← ha, ← hx]⟩
  · exact ⟨s, -t, by grind⟩
  · exact ⟨-s, t, by grind⟩
  · exact ⟨-s, -t, by grind⟩
theorem eqv_gcd {b c x a : Int} {R : List (Int × Int)} : Eqv ((a, 0) :: (b, c) :: (x, 0) :: R) (((Int.gcd a x : Int), 0) :: (b, c) :: R) := by
  refine .of (fun u v m => ?_) (fun u v m => ?_)
  · simp only [List.mem_cons, Prod.mk.injEq] at m
    rcases m with ⟨rfl, rfl⟩ | ⟨rfl, rfl⟩ | ⟨rfl, rfl⟩ | m
    · obtain ⟨k, hk⟩ := Int.gcd_dvd_left u x
      exact ((Sp.gen (u := (Int.gcd u x : Int)) (v := 0) (by simp)).smul k).cast (by grind) (by omega)
    · exact .gen (by simp)
    · obtain ⟨k, hk⟩ := Int.gcd_dvd_right a u
      exact ((Sp.gen (u := (Int.gcd a u : Int)) (v := 0) (by simp)).smul k).cast (by grind) (by omega)
    · exact .gen (by simp [m])
  · simp only [List.mem_cons, Prod.mk.injEq] at m
    rcases m with ⟨rfl, rfl⟩ | ⟨rfl, rfl⟩ | m
    · obtain ⟨s, t, e⟩ := bez a x
      exact (((Sp.gen (u := a) (v := 0) (by simp)).smul s).sum ((Sp.gen (u := x) (v := 0) (by simp)).smul t)).cast e (by omega)
    · exact .gen (by simp)
    · exact .gen (by simp [m])
end MN
namespace MN
/-! ### Euclid's way with shifts: sizes and spans -/
def wgt (c y : Int) : Nat := c.natAbs + (if c * y < 0 then 2 * y.natAbs else 0)
structure Eu (M Y : Nat) (b c x y : Int) : Prop where
  phi : b.natAbs * y.natAbs + x.natAbs * wgt c y ≤ M
  hb : b.natAbs ≤ M
  hx : x.natAbs ≤ M
  hc : c.natAbs ≤ Y
  hy : y.natAbs ≤ Y
theorem fdiv_facts {c y : Int} (h : y ≠ 0) : (c - c.fdiv y * y).natAbs < y.natAbs ∧ 0 ≤ y * (c - c.fdiv y * y) ∧ (c - c.fdiv y * y).natAbs + (c.fdiv y).natAbs * y.natAbs ≤ wgt c y := by
  have e := Int.fmod_add_mul_fdiv c y
  have er : c - c.fdiv y * y = c.fmod y := by rw [Int.mul_comm]; omega
  rw [er]
  generalize hr : c.fmod y = r at *
  generalize ht : c.fdiv y = t at *
  rcases Int.lt_or_gt_of_ne h with hy | hy
  · have h12 : y < r ∧ r ≤ 0 := by
      rw [← hr, Int.fmod_eq_emod]
      have e1 := Int.emod_nonneg c (show y ≠ 0 by omega)
      have e2 := Int.emod_lt_of_neg c hy
      split
      · rename_i q
        rcases q with q | q
        · omega
        · have := Int.emod_eq_zero_of_dvd q
          omega
      · rename_i q
        have : c % y ≠ 0 := fun z => q (.inr (Int.dvd_of_emod_eq_zero z))
        omega
    obtain ⟨h1, h2⟩ := h12
    have k1 : 0 ≤ y * r := by
      have := Int.mul_nonneg (a := -y) (b := -r) (by omega) (by omega)
      rwa [Int.neg_mul_neg] at this
    refine ⟨by omega, k1, ?_⟩
    unfold wgt
    have nt : t.natAbs * y.natAbs = (t * y).natAbs := (Int.natAbs_mul t y).symm
    rw [nt]
    have ec : t * y = c - r := by rw [Int.mul_comm]; omega
    rw [ec]
    by_cases hcy : c * y < 0
    · rw [if_pos hcy]
      omega
    · rw [if_neg hcy]
      have hc0 : c ≤ 0 := by
        rcases Int.lt_or_le 0 c with z | z
        · exact absurd (Int.mul_neg_of_pos_of_neg z hy) hcy
        · exact z
      have t0 : 0 ≤ t := by
        rcases Int.lt_or_le t 0 with z | z
        · have : y * t ≥ -y := by
            have := Int.mul_le_mul_of_nonneg_left (a := t) (b := -1) (c := -y) (by omega) (by omega)
            simp only [Int.neg_mul, Int.mul_neg, Int.mul_one] at this
            omega
          omega
        · exact z
      have : y * t ≤ 0 := by
        have := Int.mul_nonneg (a := -y) (b := t) (by omega) t0
        rw [Int.neg_mul] at this
        omega
      omega
  · have h1 : r < y := by rw [← hr]; exact Int.fmod_lt_of_pos c hy
    have h2 : 0 ≤ r := by rw [← hr]; exact Int.fmod_nonneg_of_pos c hy
    have k1 : 0 ≤ y * r := Int.mul_nonneg (by omega) h2
    refine ⟨by omega, k1, ?_⟩
    unfold wgt
    have nt : t.natAbs * y.natAbs = (t * y).natAbs := (Int.natAbs_mul t y).symm
    rw [nt]
    have ec : t * y = c - r := by rw [Int.mul_comm]; omega
    rw [ec]
    by_cases hcy : c * y < 0
    · rw [if_pos hcy]
      omega
    · rw [if_neg hcy]
      have hc0 : 0 ≤ c := by
        rcases Int.lt_or_le c 0 with z | z
        · exact absurd (Int.mul_neg_of_neg_of_pos z hy) hcy
        · exact z
      have t0 : 0 ≤ t := by
        rcases Int.lt_or_le t 0 with z | z
        · have : y * t ≤ -y := by
            have := Int.mul_le_mul_of_nonneg_left (a := t) (b := -1) (c := y) (by omega) (by omega)
            omega
          omega
        · exact z
      have : 0 ≤ y * t := Int.mul_nonneg (by omega) t0
      omega
theorem Eu.step {M Y : Nat} {b c x y : Int} (h : Eu M Y b c x y) (hy : y ≠ 0) : Eu M Y x y (b - c.fdiv y * x) (c - c.fdiv y * y) := by
  obtain ⟨f1, f2, f3⟩ := fdiv_facts (c := c) hy
  obtain ⟨p, hb, hx, hc, hyy⟩ := h
  have w' : wgt y (c - c.fdiv y * y) = y.natAbs := by unfold wgt; rw [if_neg (by omega)]; omega
  have ex : (b - c.fdiv y * x).natAbs ≤ b.natAbs + (c.fdiv y).natAbs * x.natAbs := by
    have := Int.natAbs_sub_le b (c.fdiv y * x)
    rw [Int.natAbs_mul] at this
    exact this
  have ph : x.natAbs * (c - c.fdiv y * y).natAbs + (b - c.fdiv y * x).natAbs * y.natAbs ≤ M := by
    have m1 : (b - c.fdiv y * x).natAbs * y.natAbs ≤ (b.natAbs + (c.fdiv y).natAbs * x.natAbs) * y.natAbs := Nat.mul_le_mul_right _ ex
    have m2 : x.natAbs * ((c - c.fdiv y * y).natAbs + (c.fdiv y).natAbs * y.natAbs) ≤ x.natAbs * wgt c y := Nat.mul_le_mul_left _ f3
    have m3 : (b.natAbs + (c.fdiv y).natAbs * x.natAbs) * y.natAbs = b.natAbs * y.natAbs + x.natAbs * ((c.fdiv y).natAbs * y.natAbs) := by
      rw [Nat.add_mul, Nat.mul_comm (c.fdiv y).natAbs x.natAbs, Nat.mul_assoc]
    have m4 : x.natAbs * ((c - c.fdiv y * y).natAbs + (c.fdiv y).natAbs * y.natAbs) = x.natAbs * (c - c.fdiv y * y).natAbs + x.natAbs * ((c.fdiv y).natAbs * y.natAbs) := Nat.mul_add _ _ _
    omega
  have y1 : 1 ≤ y.natAbs := by omega
  refine ⟨by rw [w']; exact ph, hx, ?_, hyy, by omega⟩
  have := Nat.le_mul_of_pos_right (b - c.fdiv y * x).natAbs (show 0 < y.natAbs by omega)
  omega
theorem Eu.start {m n : Nat} {b c x y : Int} (hm : n + 1 ≤ m) (hb : b.natAbs ≤ 2 ^ m) (hc : c.natAbs ≤ 2 ^ n) (hx : x.natAbs ≤ 2 ^ n) (hy : y.natAbs ≤ 2 ^ n) : Eu (2 ^ (m + n + 2)) (2 ^ n) b c x y := by
  have p1 : 2 ^ m ≤ 2 ^ (m + n + 2) := Nat.pow_le_pow_right (by decide) (by omega)
  have p2 : 2 ^ n ≤ 2 ^ (m + n + 2) := Nat.pow_le_pow_right (by decide) (by omega)
  have w : wgt c y ≤ 3 * 2 ^ n := by
    unfold wgt
    split <;> omega
  have q1 : b.natAbs * y.natAbs ≤ 2 ^ (m + n) := by
    rw [Nat.pow_add]
    exact Nat.mul_le_mul hb hy
  have q2 : x.natAbs * wgt c y ≤ 2 ^ n * (3 * 2 ^ n) := Nat.mul_le_mul hx w
  have q3 : 2 ^ n * (3 * 2 ^ n) ≤ 3 * 2 ^ (m + n) := by
    have : 2 ^ n * 2 ^ n ≤ 2 ^ (m + n) := by
      rw [← Nat.pow_add]
      exact Nat.pow_le_pow_right (by decide) (by omega)
    have e : 2 ^ n * (3 * 2 ^ n) = 3 * (2 ^ n * 2 ^ n) := by rw [Nat.mul_left_comm]
    omega
  have q4 : 2 ^ (m + n + 2) = 4 * 2 ^ (m + n) := by rw [Nat.pow_add, Nat.mul_comm]
  exact ⟨by omega, by omega, by omega, hc, hy⟩
theorem abs_fdiv_le (c y : Int) : (c.fdiv y).natAbs ≤ c.natAbs := by
  rcases Decidable.em (y = 0) with h | h
  · subst h; simp
  · obtain ⟨f1, f2, f3⟩ := fdiv_facts (c := c) h
    have y1 : 1 ≤ y.natAbs := by omega
    have e := Int.fmod_add_mul_fdiv c y
    have nt : (c.fdiv y).natAbs * y.natAbs = (y * c.fdiv y).natAbs := by rw [Nat.mul_comm]; exact (Int.natAbs_mul y _).symm
    have er : c - c.fdiv y * y = c.fmod y := by rw [Int.mul_comm]; omega
    rw [er] at f1 f2 f3
    have l1 := Nat.le_mul_of_pos_right (c.fdiv y).natAbs (show 0 < y.natAbs by omega)
    rcases Nat.lt_or_ge c.natAbs (c.fdiv y).natAbs with z | z
    · exfalso
      -- |t| ≥ |c| + 1, so |t y| ≥ |t| |y| ≥ (|c| + 1) |y| ≥ |c| + |y| > |c| + |r|
      have l2 : (c.natAbs + 1) * y.natAbs ≤ (c.fdiv y).natAbs * y.natAbs := Nat.mul_le_mul_right _ z
      have l3 : c.natAbs + y.natAbs ≤ (c.natAbs + 1) * y.natAbs := by
        rw [Nat.add_mul, Nat.one_mul]
        have := Nat.le_mul_of_pos_right c.natAbs (show 0 < y.natAbs by omega)
        omega
      omega
    · exact z
/-! ### the answer -/
theorem form_none {S : List (Int × Int)} {a b c : Int} (e : Eqv S [(a, 0), (b, c)]) (h : a = 0 ∨ c = 0) : Form S none := by
  intro a' b' c' ok ⟨h1, h2⟩
  have z : ∀ x y, Sp S x y → ∃ m k : Int, x = m * a + k * b ∧ y = k * c := fun x y q => inN_sp.mpr ((e x y).mp q)
  obtain ⟨m, k, e1, e2⟩ := z _ _ h1
  obtain ⟨m', k', e3, e4⟩ := z _ _ h2
  obtain ⟨o1, o2, o3⟩ := ok
  rcases h with rfl | rfl
  · by_cases hc : c = 0
    · subst hc; simp at e4; omega
    · have : k = 0 := by
        rcases Int.mul_eq_zero.mp e2.symm with q | q
        · exact q
        · exact absurd q hc
      subst this
      simp at e1
      omega
  · simp at e4; omega
theorem form_pos {S : List (Int × Int)} {a b c : Int} (e : Eqv S [(a, 0), (b, c)]) (ha : 0 < a) (hc : 0 < c) : Form S (some (a, b % a, c)) := by
  refine ⟨⟨by omega, Int.emod_nonneg b (by omega), Int.emod_lt_of_pos b ha⟩, fun x y => ?_⟩
  rw [e x y, ← inN_sp]
  have hb := Int.emod_add_mul_ediv b a
  constructor
  · rintro ⟨m, k, h1, h2⟩
    exact ⟨m - k * (b / a), k, by grind, h2⟩
  · rintro ⟨m, k, h1, h2⟩
    exact ⟨m + k * (b / a), k, by grind, h2⟩
theorem form_neg {S : List (Int × Int)} {a b c : Int} (e : Eqv S [(a, 0), (b, c)]) (ha : 0 < a) (hc : c < 0) : Form S (some (a, -b % a, -c)) := by
  have e2 : Eqv [(a, 0), (b, c)] [(a, 0), (-b, -c)] := by
    intro x y
    rw [← inN_sp, ← inN_sp]
    constructor
    · rintro ⟨m, k, h1, h2⟩
      exact ⟨m, -k, by grind, by grind⟩
    · rintro ⟨m, k, h1, h2⟩
      exact ⟨m, -k, by grind, by grind⟩
  exact form_pos (e.trans e2) ha (by omega)
theorem eqv_nil : Eqv [] [((0 : Int), (0 : Int)), (0, 0)] := .of (fun _ _ m => nomatch m) (fun u v m => by
  simp at m
  obtain ⟨rfl, rfl⟩ := m
  exact .zero)
/-- one more shift -/
theorem eqv_more {S : List (Int × Int)} {a b c x y : Int} (e : Eqv S [(a, 0), (b, c)]) : Eqv (S ++ [(x, y)]) [(a, 0), (b, c), (x, y)] := eqv_app e [(x, y)]
/-! ### sizes of nets -/
theorem fmod_gcd (x y : Int) : Int.gcd y (x.fmod y) = Int.gcd x y := by
  have e := Int.fmod_add_mul_fdiv x y
  have h := Int.gcd_add_mul_right_right y (x.fmod y) (x.fdiv y)
  rw [show x.fmod y + x.fdiv y * y = x by rw [Int.mul_comm]; exact e] at h
  rw [← h, Int.gcd_comm]
/-! ### nets and lists of shifts -/
end MN
namespace MN
/-- the numbers that the program finds, in parts -/
structure MP (a b c p q r : Int) (g c' r' m n D a' p' s t G D' d' u v : Int) : Prop where
  hg : 0 < g
  ec : c = g * c'
  er : r = g * r'
  e1 : m * c' + n * r' = 1
  hD : 0 < D
  ea : a = D * a'
  ep : p = D * p'
  e2 : s * a' + t * p' = 1
  hG : 0 < G
  eD : D = G * D'
  ed : b * r' - q * c' = G * d'
  e3 : u * D' + v * d' = 1
/-- Euclid's steps with factors -/
structure Bz (a p f0 f1 s0 s1 : Int) : Prop where
  f : ∃ t, f0 = f1 * a + t * p
  s : ∃ t, s0 = s1 * a + t * p
  g : Int.gcd f0 s0 = Int.gcd a p
  pos : 0 < f0
  nn : 0 ≤ s0
  sg : f1 * s1 ≤ 0
  sum : f0.natAbs * s1.natAbs + f1.natAbs * s0.natAbs = p.natAbs
  le : f1.natAbs ≤ p.natAbs
theorem Bz.start {a p : Int} (ha : 0 < a) (hp : 0 < p) : Bz a p a 1 p 0 := ⟨⟨0, by omega⟩, ⟨1, by omega⟩, rfl, ha, by omega, by omega, by simp, by simp; omega⟩
theorem Bz.step {a p f0 f1 s0 s1 : Int} (h : Bz a p f0 f1 s0 s1) (hs : 0 < s0) : Bz a p s0 s1 (f0 - f0 / s0 * s0) (f1 - f0 / s0 * s1) := by
  obtain ⟨⟨t, e1⟩, ⟨t', e2⟩, hg, hp, hn, sg, sm, le⟩ := h
  have hq : 0 ≤ f0 / s0 := Int.ediv_nonneg (by omega) (by omega)
  have e3 : f0 - f0 / s0 * s0 = f0 % s0 := by rw [Int.emod_def]; grind
  have hr := Int.emod_nonneg f0 (show s0 ≠ 0 by omega)
  have hr2 := Int.emod_lt_of_pos f0 hs
  have sq : 0 ≤ s1 * s1 := by
    rcases Int.le_total 0 s1 with z | z
    · exact Int.mul_nonneg z z
    · exact Int.mul_nonneg_of_nonpos_of_nonpos z z
  have abs : (f1 - f0 / s0 * s1).natAbs = f1.natAbs + (f0 / s0).natAbs * s1.natAbs := by
    rcases Int.le_total 0 s1 with z | z
    · have z2 : f1 ≤ 0 ∨ s1 = 0 := by
        rcases Int.lt_or_le 0 f1 with y | y
        · right
          rcases Int.lt_or_le 0 s1 with y' | y'
          · have := Int.mul_pos y y'; omega
          · omega
        · exact .inl y
      rcases z2 with z2 | z2
      · have : 0 ≤ f0 / s0 * s1 := Int.mul_nonneg hq z
        rw [← Int.natAbs_mul]
        omega
      · rw [z2]; simp
    · have z2 : 0 ≤ f1 ∨ s1 = 0 := by
        rcases Int.lt_or_le f1 0 with y | y
        · right
          rcases Int.lt_or_le s1 0 with y' | y'
          · have := Int.mul_pos_of_neg_of_neg y y'; omega
          · omega
        · exact .inl y
      rcases z2 with z2 | z2
      · have : f0 / s0 * s1 ≤ 0 := Int.mul_nonpos_of_nonneg_of_nonpos hq z
        rw [← Int.natAbs_mul]
        omega
      · rw [z2]; simp
  refine ⟨⟨t', e2⟩, ⟨t - f0 / s0 * t', ?_⟩, ?_, hs, by omega, ?_, ?_, ?_⟩
  · generalize f0 / s0 = k at *
    calc f0 - k * s0 = (f1 * a + t * p) - k * (s1 * a + t' * p) := by rw [← e1, ← e2]
      _ = _ := by grind
  · rw [e3, ← hg, ← fmod_gcd f0 s0, Int.fmod_eq_emod_of_nonneg _ (by omega)]
  · have : s1 * (f1 - f0 / s0 * s1) = f1 * s1 - f0 / s0 * (s1 * s1) := by grind
    rw [this]
    have := Int.mul_nonneg hq sq
    omega
  · rw [abs, ← sm]
    have e4 : f0.natAbs = (f0 / s0).natAbs * s0.natAbs + (f0 - f0 / s0 * s0).natAbs := by
      rw [← Int.natAbs_mul]
      have : 0 ≤ f0 / s0 * s0 := Int.mul_nonneg hq (by omega)
      omega
    rw [e4]
    grind
  · have h1 : 1 ≤ f0.natAbs := by omega
    have := Nat.mul_le_mul_right s1.natAbs h1
    omega
theorem Bz.fin {a p f0 f1 s1 : Int} (h : Bz a p f0 f1 0 s1) : f0 = (Int.gcd a p : Int) ∧ (∃ t, f0 = f1 * a + t * p) ∧ f1.natAbs ≤ p.natAbs := by
  refine ⟨?_, h.f, h.le⟩
  rw [← h.g]
  have := h.pos
  simp
  omega
end MN
namespace MN
/-! ### turns and mirror images -/
abbrev Mat := Int × Int × Int × Int
def turn (M : Mat) (p : Int × Int) : Int × Int := (M.1 * p.1 + M.2.1 * p.2, M.2.2.1 * p.1 + M.2.2.2 * p.2)
def tr (M : Mat) : Mat := (M.1, M.2.2.1, M.2.1, M.2.2.2)
def Orth (M : Mat) : Prop := M.1 * M.1 + M.2.2.1 * M.2.2.1 = 1 ∧ M.2.1 * M.2.1 + M.2.2.2 * M.2.2.2 = 1 ∧ M.1 * M.2.1 + M.2.2.1 * M.2.2.2 = 0 ∧ M.1 * M.1 + M.2.1 * M.2.1 = 1 ∧ M.2.2.1 * M.2.2.1 + M.2.2.2 * M.2.2.2 = 1 ∧ M.1 * M.2.2.1 + M.2.1 * M.2.2.2 = 0
instance (M : Mat) : Decidable (Orth M) := by unfold Orth; infer_instance
def Img (M : Mat) (a b c a' b' c' : Int) : Prop := Ok a' b' c' ∧ (∀ x y, InN a' b' c' (turn M (x, y)).1 (turn M (x, y)).2 ↔ InN a b c x y) ∧ a' * c' = a * c
/-! ### what is carried along -/
section
variable {M M' : Mat} {a b c a' b' c' p q r p' q' r' : Int}
/-- one motion behind another -/
def comp (M M' : Mat) : Mat := (M'.1 * M.1 + M'.2.1 * M.2.2.1, M'.1 * M.2.1 + M'.2.1 * M.2.2.2, M'.2.2.1 * M.1 + M'.2.2.2 * M.2.2.1, M'.2.2.1 * M.2.1 + M'.2.2.2 * M.2.2.2)
end
end MN
namespace MN
/-! ### the places of a cell -/
def rowL (a : Nat) (y : Int) : List (Int × Int) := (List.range a).map fun x => ((x : Nat), y)
def spotsL (a : Nat) : Nat → List (Int × Int)
  | 0 => []
  | c + 1 => spotsL a c ++ rowL a ((c : Nat) : Int)
theorem spotsL_len (a : Nat) : ∀ c, (spotsL a c).length = a * c
  | 0 => rfl
  | c + 1 => by simp [spotsL, rowL, spotsL_len a c, Nat.mul_succ]
theorem rowL_mem {a : Nat} {y : Int} {p : Int × Int} : p ∈ rowL a y ↔ 0 ≤ p.1 ∧ p.1 < a ∧ p.2 = y := by
  unfold rowL
  rw [List.mem_map]
  constructor
  · rintro ⟨x, hx, rfl⟩
    have := List.mem_range.mp hx
    exact ⟨by omega, by show (x : Int) < a; omega, rfl⟩
  · rintro ⟨h1, h2, h3⟩
    exact ⟨p.1.toNat, List.mem_range.mpr (by omega), Prod.ext (by show ((p.1.toNat : Nat) : Int) = p.1; omega) h3.symm⟩
theorem spotsL_mem {a : Nat} {p : Int × Int} : ∀ {c : Nat}, p ∈ spotsL a c ↔ 0 ≤ p.1 ∧ p.1 < a ∧ 0 ≤ p.2 ∧ p.2 < c
  | 0 => by
    constructor
    · intro h; cases h
    · rintro ⟨_, _, h1, h2⟩; exact absurd h1 (by omega)
  | c + 1 => by
    rw [spotsL, List.mem_append, spotsL_mem, rowL_mem]
    constructor
    · rintro (⟨h1, h2, h3, h4⟩ | ⟨h1, h2, h3⟩)
      · exact ⟨h1, h2, h3, by omega⟩
      · exact ⟨h1, h2, by omega, by omega⟩
    · rintro ⟨h1, h2, h3, h4⟩
      by_cases h : p.2 = (c : Int)
      · exact .inr ⟨h1, h2, h⟩
      · exact .inl ⟨h1, h2, h3, by omega⟩
theorem spotsL_get {a : Nat} : ∀ {c x y : Nat}, x < a → y < c → (spotsL a c)[y * a + x]? = some ((x : Int), (y : Int))
  | 0, _, _, _, h => absurd h (by omega)
  | c + 1, x, y, hx, hy => by
    unfold spotsL
    by_cases h : y < c
    · have hl : y * a + x < (spotsL a c).length := by
        rw [spotsL_len]
        have : (y + 1) * a ≤ c * a := Nat.mul_le_mul_right a h
        rw [Nat.add_mul, Nat.one_mul] at this
        rw [Nat.mul_comm a c]
        omega
      rw [List.getElem?_append_left hl]
      exact spotsL_get hx h
    · have e : y = c := by omega
      subst e
      have hl : (spotsL a y).length = y * a := by rw [spotsL_len, Nat.mul_comm]
      rw [List.getElem?_append_right (by omega), hl, show y * a + x - y * a = x by omega]
      unfold rowL
      rw [List.getElem?_map, List.getElem?_range hx]
      rfl
/-! ### colours -/
/-- the colour at a place: the text's letter at its place of the cell -/
def col (t : List Nat) (a b c : Int) (p : Int × Int) : Nat := t.getD ((low a b c p.1 p.2).2 * a + (low a b c p.1 p.2).1).toNat 0
theorem col_net {t : List Nat} {a b c : Int} (h : Ok a b c) {p q : Int × Int} (hn : InN a b c (p.1 - q.1) (p.2 - q.2)) : col t a b c p = col t a b c q := by
  unfold col
  rw [(low_eq (by have := h.2; omega) (by have := h.1; omega)).mpr hn]
/-- a shift keeps all colours -/
def Keeps (f : Int × Int → Nat) (x y : Int) : Prop := ∀ p : Int × Int, f (p.1 + x, p.2 + y) = f p
section
variable {f : Int × Int → Nat}
end
theorem keeps_net {t : List Nat} {a b c x y : Int} (h : Ok a b c) (hn : InN a b c x y) : Keeps (col t a b c) x y := fun p => col_net h (by rw [show p.1 + x - p.1 = x by omega, show p.2 + y - p.2 = y by omega]; exact hn)
/-- the net of all shifts that keep -/
def Exact (f : Int × Int → Nat) (w q r : Int) : Prop := Ok w q r ∧ ∀ x y, InN w q r x y ↔ Keeps f x y
/-! ### divisors, ascending -/
def upL (n : Nat) : List Int := (List.range n).map fun i => ((i : Nat) : Int) + 1
def divL (n : Int) : List Int := (upL n.toNat).filter fun d => decide (n % d = 0)
theorem upL_mem {n : Nat} {d : Int} : d ∈ upL n ↔ 1 ≤ d ∧ d ≤ n := by
  unfold upL
  rw [List.mem_map]
  constructor
  · rintro ⟨i, hi, rfl⟩
    have := List.mem_range.mp hi
    omega
  · rintro ⟨h1, h2⟩
    exact ⟨(d - 1).toNat, List.mem_range.mpr (by omega), by omega⟩
theorem divL_mem {n d : Int} (hn : 0 < n) : d ∈ divL n ↔ 0 < d ∧ d ∣ n := by
  unfold divL
  rw [List.mem_filter, upL_mem, decide_eq_true_eq]
  constructor
  · rintro ⟨⟨h1, h2⟩, h3⟩
    exact ⟨by omega, Int.dvd_of_emod_eq_zero h3⟩
  · rintro ⟨h1, h2⟩
    exact ⟨⟨by omega, by have := Int.le_of_dvd hn h2; omega⟩, Int.emod_eq_zero_of_dvd h2⟩
/-- in an ascending list what is less stands ahead -/
theorem ahead {l : List Int} (hs : l.Pairwise (· < ·)) {i : Nat} {r g : Int} (hr : l[i]? = some r) (hg : g ∈ l) (h : g < r) : g ∈ l.take i := by
  obtain ⟨j, hj⟩ := List.mem_iff_getElem?.mp hg
  have hji : j < i := by
    rcases Nat.lt_or_ge j i with z | z
    · exact z
    · exfalso
      have hjl : j < l.length := by
        rcases Nat.lt_or_ge j l.length with y | y
        · exact y
        · rw [List.getElem?_eq_none y] at hj; cases hj
      have hil : i < l.length := by omega
      rw [List.getElem?_eq_getElem hjl] at hj
      rw [List.getElem?_eq_getElem hil] at hr
      have e1 := Option.some.inj hj
      have e2 := Option.some.inj hr
      rcases Nat.eq_or_lt_of_le z with e | e
      · subst e
        omega
      · have := List.pairwise_iff_getElem.mp hs i j hil hjl e
        omega
  rw [List.mem_iff_getElem?]
  exact ⟨j, by rw [List.getElem?_take_of_lt hji]; exact hj⟩
/-! ### the least cell -/
/-- the text of the cell of a net, of what f tells -/
def cellT (f : Int × Int → Nat) (a c : Int) : List Nat := (spotsL a.toNat c.toNat).map f
theorem cellT_len {f : Int × Int → Nat} {a c : Int} : (cellT f a c).length = a.toNat * c.toNat := by rw [cellT, List.length_map, spotsL_len]
theorem cellT_col {f : Int × Int → Nat} {a b c : Int} (h : Ok a b c) (k : ∀ x y, InN a b c x y → Keeps f x y) (p : Int × Int) : col (cellT f a c) a b c p = f p := by
  have ha : 0 < a := by have := h.2; omega
  have hc : 0 < c := by have := h.1; omega
  obtain ⟨r1, r2, r3, r4⟩ := low_rng (a := a) (b := b) (c := c) (x := p.1) (y := p.2) ha hc
  unfold col cellT
  generalize hu : (low a b c p.1 p.2).1 = u at *
  generalize hv : (low a b c p.1 p.2).2 = v at *
  obtain ⟨u', rfl⟩ := Int.eq_ofNat_of_zero_le r1
  obtain ⟨v', rfl⟩ := Int.eq_ofNat_of_zero_le r3
  obtain ⟨a', rfl⟩ := Int.eq_ofNat_of_zero_le (Int.le_of_lt ha)
  obtain ⟨c', rfl⟩ := Int.eq_ofNat_of_zero_le (Int.le_of_lt hc)
  have e : ((v' : Int) * (a' : Int) + (u' : Int)).toNat = v' * a' + u' := by
    rw [← Int.natCast_mul, ← Int.natCast_add, Int.toNat_natCast]
  rw [e, List.getD_eq_getElem?_getD, List.getElem?_map, Int.toNat_natCast, Int.toNat_natCast, spotsL_get (by omega) (by omega)]
  show f ((u' : Int), (v' : Int)) = f p
  have kk := k _ _ (low_in (a' : Int) b (c' : Int) p.1 p.2) ((u' : Int), (v' : Int))
  rw [hu, hv] at kk
  dsimp only at kk
  rw [show (u' : Int) + (p.1 - (u' : Int)) = p.1 by omega, show (v' : Int) + (p.2 - (v' : Int)) = p.2 by omega] at kk
  exact kk.symm
end MN
namespace MN
/-! ### connected parts of one colour -/
abbrev Pt := Int × Int
def nbs (p : Pt) : List Pt := [(p.1 + 1, p.2), (p.1, p.2 + 1), (p.1 - 1, p.2), (p.1, p.2 - 1)]
theorem nbs_mem {p q : Pt} : q ∈ nbs p ↔ q = (p.1 + 1, p.2) ∨ q = (p.1, p.2 + 1) ∨ q = (p.1 - 1, p.2) ∨ q = (p.1, p.2 - 1) := by
  simp only [nbs, List.mem_cons, List.not_mem_nil, or_false]
theorem nbs_symm {p q : Pt} (h : q ∈ nbs p) : p ∈ nbs q := by
  obtain ⟨x, y⟩ := p
  rw [nbs_mem] at h ⊢
  dsimp only at h ⊢
  rcases h with rfl | rfl | rfl | rfl
  · exact .inr (.inr (.inl (Prod.ext (by first | omega | (dsimp only; omega)) rfl)))
  · exact .inr (.inr (.inr (Prod.ext rfl (by first | omega | (dsimp only; omega)))))
  · exact .inl (Prod.ext (by first | omega | (dsimp only; omega)) rfl)
  · exact .inr (.inl (Prod.ext rfl (by first | omega | (dsimp only; omega))))
theorem nbs_shift {p q : Pt} (u v : Int) (h : q ∈ nbs p) : (q.1 + u, q.2 + v) ∈ nbs (p.1 + u, p.2 + v) := by
  rw [nbs_mem] at h ⊢
  dsimp only
  rcases h with rfl | rfl | rfl | rfl
  · exact .inl (Prod.ext (by first | omega | (dsimp only; omega)) rfl)
  · exact .inr (.inl (Prod.ext rfl (by first | omega | (dsimp only; omega))))
  · exact .inr (.inr (.inl (Prod.ext (by first | omega | (dsimp only; omega)) rfl)))
  · exact .inr (.inr (.inr (Prod.ext rfl (by first | omega | (dsimp only; omega)))))
inductive Conn (F : Pt → Nat) (s : Pt) : Pt → Prop
  | refl : Conn F s s
  | step {q r : Pt} : Conn F s q → r ∈ nbs q → F r = F q → Conn F s r
section
variable {F : Pt → Nat} {a b c : Int}
theorem Conn.col {s q : Pt} (h : Conn F s q) : F q = F s := by
  induction h with
  | refl => rfl
  | step _ _ e ih => rw [e, ih]
theorem Conn.trans {s q r : Pt} (h : Conn F s q) (h' : Conn F q r) : Conn F s r := by
  induction h' with
  | refl => exact h
  | step _ n e ih => exact ih.step n e
theorem Conn.one {p q : Pt} (n : q ∈ nbs p) (e : F q = F p) : Conn F p q := Conn.refl.step n e
theorem Conn.symm {s q : Pt} (h : Conn F s q) : Conn F q s := by
  induction h with
  | refl => exact .refl
  | step _ n e ih => exact (Conn.one (nbs_symm n) e.symm).trans ih
theorem Conn.shift {s q : Pt} {x y : Int} (k : Keeps F x y) (h : Conn F s q) : Conn F (s.1 + x, s.2 + y) (q.1 + x, q.2 + y) := by
  induction h with
  | refl => exact .refl
  | step _ n e ih => exact ih.step (nbs_shift x y n) (by rw [k _, k _, e])
theorem pt_eq {p : Pt} {x y : Int} (h1 : x = p.1) (h2 : y = p.2) : (x, y) = p := Prod.ext h1 h2
/-- the shifts of a net that carry the part of a place to itself -/
def Stab (F : Pt → Nat) (a b c : Int) (s : Pt) (x y : Int) : Prop := InN a b c x y ∧ Conn F s (s.1 + x, s.2 + y)
variable (kp : ∀ x y, InN a b c x y → Keeps F x y)
include kp
/-- the same place, up to the net: the class of a part -/
def Cls (F : Pt → Nat) (a b c : Int) (s q : Pt) : Prop := ∃ x y, InN a b c x y ∧ Conn F s (q.1 + x, q.2 + y)
omit kp in
theorem cls_conn {s q : Pt} (h : Conn F s q) : Cls F a b c s q := ⟨0, 0, inN_zero, by rw [pt_eq (p := q) (by omega) (by omega)]; exact h⟩
omit kp in
theorem cls_net {s q : Pt} {x y : Int} (i : InN a b c x y) : Cls F a b c s (q.1 + x, q.2 + y) ↔ Cls F a b c s q := by
  constructor
  · rintro ⟨u, v, j, z⟩
    refine ⟨x + u, y + v, inN_add i j, ?_⟩
    rw [pt_eq (p := (q.1 + x + u, q.2 + y + v)) (by first | omega | (dsimp only; omega)) (by first | omega | (dsimp only; omega))]
    exact z
  · rintro ⟨u, v, j, z⟩
    refine ⟨u - x, v - y, inN_sub j i, ?_⟩
    rw [pt_eq (p := (q.1 + u, q.2 + v)) (by first | omega | (dsimp only; omega)) (by first | omega | (dsimp only; omega))]
    exact z
omit kp in
theorem cls_low {s q : Pt} : Cls F a b c s (low a b c q.1 q.2) ↔ Cls F a b c s q := by
  have := cls_net (F := F) (s := s) (q := low a b c q.1 q.2) (low_in a b c q.1 q.2)
  rw [pt_eq (p := q) (by omega) (by omega)] at this
  exact this.symm
end
/-! ### the search -/
def lkQ (kn : List (Pt × Pt)) (k : Pt) : Option Pt := (kn.find? fun x => decide (x.1 = k)).map (·.2)
theorem lkQ_mem {kn : List (Pt × Pt)} {k p : Pt} (h : lkQ kn k = some p) : (k, p) ∈ kn := by
  obtain ⟨x, hx, rfl⟩ := Option.map_eq_some_iff.mp h
  have e : x.1 = k := by simpa using List.find?_some hx
  have := List.mem_of_find?_eq_some hx
  rw [← e]
  exact this
theorem lkQ_app {kn ms : List (Pt × Pt)} {k p : Pt} (h : lkQ kn k = some p) : lkQ (kn ++ ms) k = some p := by
  unfold lkQ at h ⊢
  obtain ⟨x, hx, rfl⟩ := Option.map_eq_some_iff.mp h
  rw [List.find?_append, hx]
  rfl
def lowP (a b c : Int) (p : Pt) : Pt := low a b c p.1 p.2
/-- what the search has found out about some neighbours of a place -/
def Done (F : Pt → Nat) (a b c : Int) (kn : List (Pt × Pt)) (sh : List Pt) (p : Pt) (l : List Pt) : Prop := ∀ q ∈ l, F q = F p → ∃ r, lkQ kn (lowP a b c q) = some r ∧ Sp sh (q.1 - r.1) (q.2 - r.2)
/-- how many neighbours have another colour -/
def unl (F : Pt → Nat) (p : Pt) (l : List Pt) : Nat := (l.filter fun q => !decide (F q = F p)).length
def edg (F : Pt → Nat) (p : Pt) : Nat := unl F p (nbs p)
def sumE (F : Pt → Nat) (l : List Pt) : Nat := (l.map (edg F)).sum
structure Srch (F : Pt → Nat) (a b c : Int) (s : Pt) (kn : List (Pt × Pt)) (wt sh : List Pt) (X : Pt → Prop) : Prop where
  st : lkQ kn s = some s
  kw : ∀ k p, (k, p) ∈ kn → lowP a b c p = k ∧ Conn F s p
  nd : (kn.map (·.1)).Nodup
  wi : ∀ p ∈ wt, ∃ k, (k, p) ∈ kn
  si : ∀ x y, (x, y) ∈ sh → Stab F a b c s x y
  dn : ∀ k p, (k, p) ∈ kn → p ∈ wt ∨ X p ∨ Done F a b c kn sh p (nbs p)
  nr : ∀ k p, (k, p) ∈ kn → (p.1 - s.1).natAbs + (p.2 - s.2).natAbs + 1 ≤ kn.length
  sn : ∀ x y, (x, y) ∈ sh → x.natAbs ≤ 2 * kn.length ∧ y.natAbs ≤ 2 * kn.length
/-- the numbers that go with it: e: neighbours of another colour of the one that is looked at, j: its neighbours that are left -/
structure SrN (F : Pt → Nat) (kn : List (Pt × Pt)) (wt sh : List Pt) (bd e j : Nat) : Prop where
  bd : bd + sumE F wt + e = sumE F (kn.map (·.2))
  ls : sh.length + 4 * wt.length + j ≤ 4 * kn.length
section
variable {F : Pt → Nat} {a b c : Int} {s : Pt} {kn : List (Pt × Pt)} {wt sh : List Pt} {X : Pt → Prop} {bd e j : Nat}
theorem Done.up {ms : List (Pt × Pt)} {ts : List Pt} {p : Pt} {l : List Pt} (h : Done F a b c kn sh p l) : Done F a b c (kn ++ ms) (sh ++ ts) p l := fun q hq eq => by
  obtain ⟨r, h1, h2⟩ := h q hq eq
  exact ⟨r, lkQ_app h1, h2.le fun u v m => .gen (List.mem_append.mpr (.inl m))⟩
theorem unl_yes {p q : Pt} {l : List Pt} (n : F q ≠ F p) : unl F p (q :: l) = unl F p l + 1 := by
  unfold unl
  rw [List.filter_cons_of_pos (by simpa using n)]
  rfl
theorem unl_no {p q : Pt} {l : List Pt} (n : F q = F p) : unl F p (q :: l) = unl F p l := by
  unfold unl
  rw [List.filter_cons_of_neg (by simpa using n)]
/-! ### what the search has found at its end -/
structure Prt (F : Pt → Nat) (a b c : Int) (s : Pt) (kn : List (Pt × Pt)) : Prop where
  st : lkQ kn s = some s
  kw : ∀ k p, (k, p) ∈ kn → lowP a b c p = k ∧ Conn F s p
  nd : (kn.map (·.1)).Nodup
  all : ∀ q, Conn F s q → ∃ r, lkQ kn (lowP a b c q) = some r ∧ Stab F a b c s (q.1 - r.1) (q.2 - r.2)
  nr : ∀ k p, (k, p) ∈ kn → (p.1 - s.1).natAbs + (p.2 - s.2).natAbs + 1 ≤ kn.length
/-- the places of the cell that belong to the class -/
theorem Prt.key (kp : ∀ x y, InN a b c x y → Keeps F x y) (ha : 0 < a) (hc : 0 < c) (h : Prt F a b c s kn) (k : Pt) : k ∈ kn.map (·.1) ↔ k ∈ spotsL a.toNat c.toNat ∧ Cls F a b c s k := by
  constructor
  · intro m
    obtain ⟨⟨k', p⟩, hx, rfl⟩ := List.mem_map.mp m
    obtain ⟨e, z⟩ := h.kw _ _ hx
    dsimp only
    rw [← e]
    obtain ⟨r1, r2, r3, r4⟩ := low_rng (a := a) (b := b) (c := c) (x := p.1) (y := p.2) ha hc
    exact ⟨spotsL_mem.mpr ⟨r1, by rw [Int.toNat_of_nonneg (by omega)]; exact r2, r3, by rw [Int.toNat_of_nonneg (by omega)]; exact r4⟩, cls_low.mpr (cls_conn z)⟩
  · rintro ⟨m, x, y, i, z⟩
    obtain ⟨m1, m2, m3, m4⟩ := spotsL_mem.mp m
    obtain ⟨r, h1, _⟩ := h.all _ z
    have e : lowP a b c (k.1 + x, k.2 + y) = k := by
      have e1 : lowP a b c (k.1 + x, k.2 + y) = lowP a b c k := by
        refine (low_eq ha hc).mpr ?_
        dsimp only
        rw [show k.1 + x - k.1 = x by omega, show k.2 + y - k.2 = y by omega]
        exact i
      rw [e1]
      exact low_self ⟨m1, by omega⟩ ⟨m3, by omega⟩
    rw [e] at h1
    exact List.mem_map.mpr ⟨_, lkQ_mem h1, rfl⟩
end
/-- whether a place is of the class of another one -/
noncomputable def clsB (F : Pt → Nat) (a b c : Int) (s q : Pt) : Bool := @decide (Cls F a b c s q) (Classical.propDecidable _)
theorem clsB_iff {F : Pt → Nat} {a b c : Int} {s q : Pt} : clsB F a b c s q = true ↔ Cls F a b c s q := by unfold clsB; exact @decide_eq_true_iff _ (Classical.propDecidable _)
noncomputable def clsL (F : Pt → Nat) (a b c : Int) (s : Pt) : List Pt := (spotsL a.toNat c.toNat).filter (clsB F a b c s)
theorem spotsL_nd (a : Nat) : ∀ c, (spotsL a c).Nodup := by
  intro c
  unfold List.Nodup
  rw [List.pairwise_iff_getElem]
  intro i j hi hj hij e
  rw [spotsL_len] at hi hj
  have key : ∀ n, n < a * c → (spotsL a c)[n]? = some (((n % a : Nat) : Int), ((n / a : Nat) : Int)) := fun n hn => by
    have ha : 0 < a := Nat.pos_of_ne_zero fun z => by rw [z] at hn; omega
    have := spotsL_get (a := a) (c := c) (x := n % a) (y := n / a) (Nat.mod_lt _ ha) (Nat.div_lt_of_lt_mul hn)
    rw [Nat.div_add_mod' n a] at this
    exact this
  have e1 := key i hi
  have e2 := key j hj
  rw [List.getElem?_eq_getElem (by rw [spotsL_len]; exact hi)] at e1
  rw [List.getElem?_eq_getElem (by rw [spotsL_len]; exact hj)] at e2
  rw [e] at e1
  rw [e1] at e2
  have e3 := Option.some.inj e2
  have e4 : i % a = j % a := by
    have := congrArg Prod.fst e3
    dsimp only at this
    omega
  have e5 : i / a = j / a := by
    have := congrArg Prod.snd e3
    dsimp only at this
    omega
  have := Nat.div_add_mod i a
  have := Nat.div_add_mod j a
  rw [e4, e5] at *
  omega
section
variable {F : Pt → Nat} {a b c : Int} {s : Pt} {kn : List (Pt × Pt)}
theorem Prt.perm (kp : ∀ x y, InN a b c x y → Keeps F x y) (ha : 0 < a) (hc : 0 < c) (h : Prt F a b c s kn) : (kn.map (·.1)).Perm (clsL F a b c s) := by
  refine (List.perm_ext_iff_of_nodup h.nd ((spotsL_nd _ _).filter _)).mpr fun k => ?_
  rw [h.key kp ha hc k, List.mem_filter, clsB_iff]
theorem Prt.len (kp : ∀ x y, InN a b c x y → Keeps F x y) (ha : 0 < a) (hc : 0 < c) (h : Prt F a b c s kn) : kn.length = (clsL F a b c s).length := by
  have := (h.perm kp ha hc).length_eq
  rw [List.length_map] at this
  exact this
theorem unl_shift (kp : ∀ x y, InN a b c x y → Keeps F x y) {x y : Int} (i : InN a b c x y) (p : Pt) : ∀ l : List Pt, unl F (p.1 + x, p.2 + y) (l.map fun q => (q.1 + x, q.2 + y)) = unl F p l
  | [] => rfl
  | q :: l => by
    have ih := unl_shift kp i p l
    have e1 := kp _ _ i p
    have e2 := kp _ _ i q
    rw [List.map_cons]
    by_cases e : F q = F p
    · rw [unl_no e, unl_no (by rw [e1, e2, e]), ih]
    · rw [unl_yes e, unl_yes (by rw [e1, e2]; exact e), ih]
theorem edg_shift (kp : ∀ x y, InN a b c x y → Keeps F x y) {x y : Int} (i : InN a b c x y) (p : Pt) : edg F (p.1 + x, p.2 + y) = edg F p := by
  have := unl_shift kp i p (nbs p)
  have e : (nbs p).map (fun q => (q.1 + x, q.2 + y)) = nbs (p.1 + x, p.2 + y) := by
    simp only [nbs, List.map_cons, List.map_nil]
    congr 1
    · exact Prod.ext (by first | omega | (dsimp only; omega)) rfl
    congr 1
    · exact Prod.ext rfl (by first | omega | (dsimp only; omega))
    congr 1
    · exact Prod.ext (by first | omega | (dsimp only; omega)) rfl
    congr 1
    · exact Prod.ext rfl (by first | omega | (dsimp only; omega))
  rw [e] at this
  exact this
theorem edg_low (kp : ∀ x y, InN a b c x y → Keeps F x y) (p : Pt) : edg F (lowP a b c p) = edg F p := by
  have := edg_shift kp (low_in a b c p.1 p.2) (low a b c p.1 p.2)
  rw [pt_eq (p := p) (by omega) (by omega)] at this
  exact this.symm
theorem sumE_perm {l m : List Pt} (h : l.Perm m) : sumE F l = sumE F m := by
  unfold sumE
  exact (h.map _).sum_nat
/-- the border of a class -/
noncomputable def brd (F : Pt → Nat) (a b c : Int) (s : Pt) : Nat := sumE F (clsL F a b c s)
theorem Prt.brd (kp : ∀ x y, InN a b c x y → Keeps F x y) (ha : 0 < a) (hc : 0 < c) (h : Prt F a b c s kn) : sumE F (kn.map (·.2)) = MN.brd F a b c s := by
  unfold MN.brd
  rw [← sumE_perm (h.perm kp ha hc)]
  unfold sumE
  rw [List.map_map, List.map_map]
  congr 1
  refine List.map_congr_left fun x hx => ?_
  obtain ⟨e, _⟩ := h.kw x.1 x.2 hx
  show edg F x.2 = edg F x.1
  rw [← e, edg_low kp]
end
end MN
namespace MN
/-! ### the basis of a group of shifts -/
inductive Bas where
  | nil | one (x y : Int) | two (a b c : Int)
def BasOk (S : Int → Int → Prop) : Bas → Prop
  | .nil => ∀ x y, S x y → x = 0 ∧ y = 0
  | .one x y => (0 < y ∨ y = 0 ∧ 0 < x) ∧ ∀ u v, S u v ↔ ∃ n : Int, u = n * x ∧ v = n * y
  | .two a b c => Ok a b c ∧ ∀ u v, S u v ↔ InN a b c u v
theorem sp_one {x y u v : Int} : Sp [(x, y)] u v ↔ ∃ n : Int, u = n * x ∧ v = n * y := by
  constructor
  · intro h
    induction h with
    | zero => exact ⟨0, by omega, by omega⟩
    | add k m _ ih =>
      obtain ⟨n, e1, e2⟩ := ih
      rw [List.mem_singleton] at m
      cases m
      exact ⟨n + k, by rw [e1, Int.add_mul], by rw [e2, Int.add_mul]⟩
  · rintro ⟨n, rfl, rfl⟩
    exact (Sp.gen (by simp)).smul n
end MN
namespace Y
open PySem PySem.Spec PyProof.Rows L2 Z
/-! ### promises of carpets.integers and carpets.nets -/
def knD (d : D) : Prop := match d with
  | .obj _ _ _ | .ty _ | .glob _ | .tape | .fn _ | .dpl _ _ => False
  | _ => True
def isIntD (d : D) : Bool := match d with
  | .int _ => true
  | _ => false
def R_is_integer : RdF := ar1 fun d Q _ => knD d ∧ Q (.bl (isIntD d))
def knP (d : D) : Prop := match d with
  | .tup [a, b] => knD a ∧ knD b
  | d => knD d
def isPl (d : D) : Bool := match d with
  | .tup [a, b] => isIntD a && isIntD b
  | _ => false
def R_is_place : RdF := ar1 fun d Q _ => knP d ∧ Q (.bl (isPl d))
def R_check_place : RdF := ar1 fun d Q E => knP d ∧ (isPl d = true → Q .non) ∧ (isPl d = false → E ⟨.glob "InvalidPlace", ["value"], [d]⟩)
def R_greatest_divisor : RdF := ar2 fun x y Q _ => match x, y with
  | .int x, .int y => Q (.int ((Int.gcd x y : Nat) : Int))
  | _, _ => False
abbrev dNet (a b c : Int) : D := .obj "Net" ["own_numbers"] [.tup [.int a, .int b, .int c]]
abbrev dPl (x y : Int) : D := .tup [.int x, .int y]
def R_Net_UinitU : RdF := ar3 fun x y z Q _ => match x, y, z with
  | .int a, .int b, .int c => (1 ≤ c ∧ 0 ≤ b ∧ b < a) ∧ Q (dNet a b c)
  | _, _, _ => False
/-! ### nets of shifts -/
def plD (p : Int × Int) : D := .tup [.int p.1, .int p.2]
def optN : Option (Int × Int × Int) → D
  | none => .non
  | some (a, b, c) => .tup [.int a, .int b, .int c]
def SzF (r : Option (Int × Int × Int)) : Prop := ∀ a b c, r = some (a, b, c) → Sz 4000 a ∧ Sz 4000 c
def shOk (S : List (Int × Int)) : Prop := ∃ n, (∀ p ∈ S, Sz n p.1 ∧ Sz n p.2) ∧ (S.length + 2) * (n + 2) ≤ 4000
def R_form_of : RdF := ar1 fun d Q _ => match d with
  | .tup ds => ∃ S : List (Int × Int), ds = S.map plD ∧ shOk S ∧ ∀ r, MN.Form S r → SzF r → Q (optN r)
  | _ => False
theorem sz_le2 {n : Nat} {x : Int} (h : Sz n x) : x.natAbs ≤ 2 ^ n := Nat.le_of_lt h
theorem sz_of_le {n m : Nat} {x : Int} (h : x.natAbs ≤ 2 ^ n) (hm : n < m) : Sz m x := Nat.lt_of_le_of_lt h (Nat.pow_lt_pow_right (by decide) hm)
theorem map_get {α β : Type} {f : α → β} {S : List α} {i : Nat} {d : β} (h : (S.map f)[i]? = some d) : ∃ p, S[i]? = some p ∧ d = f p := by
  rw [List.getElem?_map] at h
  obtain ⟨p, h1, rfl⟩ := Option.map_eq_some_iff.mp h
  exact ⟨p, h1, rfl⟩
/-! ### methods of nets -/
def R_Net_size : RdF := ar1 fun d Q _ => ∃ a b c : Int, d = dNet a b c ∧ (Sz 4000 a ∧ Sz 4000 c) ∧ Q (.int (a * c))
def R_Net_spanning : RdF := ar1 fun d Q _ => ∃ a b c : Int, d = dNet a b c ∧ Q (.lst [dPl a 0, dPl b c])
def R_Net_place_in_cell : RdF := ar2 fun s p Q _ => ∃ a b c x y : Int, s = dNet a b c ∧ p = dPl x y ∧ (MN.Ok a b c ∧ Sz 4000 a ∧ Sz 4000 c ∧ Sz 4000 y) ∧ Q (dPl (MN.low a b c x y).1 (MN.low a b c x y).2)
def R_Net_UcontainsU : RdF := ar2 fun s v Q _ => ∃ a b c : Int, s = dNet a b c ∧ (MN.Ok a b c ∧ Sz 4000 a ∧ Sz 4000 c) ∧ ((∃ x y : Int, v = dPl x y ∧ Sz 4000 y ∧ Q (.bl (decide (MN.low a b c x y = (0, 0))))) ∨ (knP v ∧ isPl v = false ∧ Q (.bl false)))
theorem eqN2 {a b d e : Int} : eqD (.tup [.int a, .int b]) (.tup [.int d, .int e]) = decide (a = d ∧ b = e) := by
  simp only [eqD, eqDs, Bool.and_true]
  by_cases h1 : a = d <;> by_cases h2 : b = e <;> simp [h1, h2]
theorem leN {n : Nat} (h : Nat.ble n 100000 = true) : n ≤ 100000 := Nat.le_of_ble_eq_true h
/-! ### the law's own draws -/
def R__law_great : RdF := ar2 fun t n Q _ => match t, n with
  | .tape, .int n => (60 ≤ n ∧ Sz 1000 n) ∧ ∀ d, -n < d → d < n → Q (.int d)
  | _, _ => False
def R__law_place : RdF := ar1 fun t Q _ => match t with
  | .tape => ∀ x y, Sz 100 x → Sz 100 y → Q (dPl x y)
  | _ => False
def R__law_net : RdF := ar2 fun t n Q _ => match t, n with
  | .tape, .int n => (0 < n ∧ Sz 1000 n) ∧ ∀ a b c, MN.Ok a b c → a * c ≤ n → Q (.tup [.int a, .int b, .int c])
  | _, _ => False
theorem szP {n : Nat} {x : Int} (h : Nat.blt x.natAbs (2 ^ 100) = true) (hn : 100 ≤ n) : Sz n x := (sz_lit (n := 100) h).mono hn
theorem dIx_l {ds : List D} {i : Int} {d : D} {Q : D → Prop} (e : atI ds i = some d) (h : Q d) : dIx (.lst ds) (.int i) Q := by
  show (match atI ds i with | some d => Q d | none => False)
  rw [e]
  exact h
theorem atI_D {α : Type} {ds : List α} {k : Int} (h0 : 0 ≤ k) (h1 : k < ds.length) : ∃ d, atI ds k = some d ∧ d ∈ ds := by
  obtain ⟨j, rfl⟩ := Int.eq_ofNat_of_zero_le h0
  have hj : j < ds.length := by omega
  exact ⟨ds[j], atI_nat (List.getElem?_eq_getElem hj), List.getElem_mem hj⟩
theorem shOk_of {S : List (Int × Int)} {n : Nat} (h : ∀ p ∈ S, Sz n p.1 ∧ Sz n p.2) (hl : (S.length + 2) * (n + 2) ≤ 4000) : shOk S := ⟨n, h, hl⟩
theorem ltN {n m : Nat} (h : Nat.ble n m = true) : n ≤ m := Nat.le_of_ble_eq_true h
end Y
namespace MN
/-- both spanning shifts of (a, b, c) belong to (p, q, r) -/
def inside (a b c p q r : Int) : Bool := decide (low p q r a 0 = (0, 0)) && decide (low p q r b c = (0, 0))
end MN
namespace Y
open PySem PySem.Spec PyProof.Rows L2 Z
abbrev n3 (a b c : Int) : D := .tup [.int a, .int b, .int c]
def R_check_number_n : RdF := ar3 fun v lo hi Q _ => match v, lo, hi with
  | .int i, .int l, .non => l ≤ i ∧ Q .non
  | .int i, .int l, .int h => (l ≤ i ∧ i ≤ h) ∧ Q .non
  | _, _, _ => False
/-- two nets of moderate numbers -/
def okN (n : Nat) (a b c : Int) : Prop := MN.Ok a b c ∧ Sz n a ∧ Sz n c
theorem okN.mono {n m : Nat} {a b c : Int} (h : okN n a b c) (z : n ≤ m) : okN m a b c := ⟨h.1, h.2.1.mono z, h.2.2.mono z⟩
theorem okN.b {n : Nat} {a b c : Int} (h : okN n a b c) : Sz n b := sz_le h.1.2.1 (Int.le_of_lt h.1.2.2) h.2.1
def R_Net_is_within : RdF := ar2 fun x y Q _ => ∃ a b c p q r : Int, x = dNet a b c ∧ y = dNet p q r ∧ (okN 4000 p q r ∧ Sz 4000 c) ∧ Q (.bl (MN.inside a b c p q r))
/-! ### k04 -/
end Y
namespace Y
open PySem PySem.Spec PyProof.Rows L2 Z
open MN (Mat turn tr Orth comp Img)
/-! ### kinds of motions -/
def matL : List (Str × Mat) := [("none", (1, 0, 0, 1)), ("left", (0, -1, 1, 0)), ("half", (-1, 0, 0, -1)), ("right", (0, 1, -1, 0)), ("flip", (1, 0, 0, -1)), ("mirror", (-1, 0, 0, 1)), ("swap", (0, 1, 1, 0)), ("cross", (0, -1, -1, 0))]
def mat (k : Str) : Option Mat := matL.lookup k
theorem lookup_mem {α β : Type} [BEq α] [LawfulBEq α] {k : α} {v : β} : ∀ {l : List (α × β)}, l.lookup k = some v → (k, v) ∈ l
  | [], h => by cases h
  | (a, b) :: l, h => by
    rw [List.lookup_cons] at h
    cases e : k == a with
    | true =>
      rw [e] at h
      cases h
      rw [beq_iff_eq.mp e]
      exact List.mem_cons_self
    | false =>
      rw [e] at h
      exact List.mem_cons_of_mem _ (lookup_mem h)
theorem mat_mem {k : Str} {M : Mat} (h : mat k = some M) : (k, M) ∈ matL := lookup_mem h
theorem mat_cases {k : Str} {M : Mat} (h : mat k = some M) : (k = "none" ∧ M = (1, 0, 0, 1)) ∨ (k = "left" ∧ M = (0, -1, 1, 0)) ∨ (k = "half" ∧ M = (-1, 0, 0, -1)) ∨ (k = "right" ∧ M = (0, 1, -1, 0)) ∨ (k = "flip" ∧ M = (1, 0, 0, -1)) ∨ (k = "mirror" ∧ M = (-1, 0, 0, 1)) ∨ (k = "swap" ∧ M = (0, 1, 1, 0)) ∨ (k = "cross" ∧ M = (0, -1, -1, 0)) := by
  have h := mat_mem h
  unfold matL at h
  simpa only [List.mem_cons, List.not_mem_nil, or_false, Prod.mk.injEq] using h
/-- the kind of the way back -/
def backL : List (Str × D) := [("left", .str "right"), ("right", .str "left")]
theorem mat_back {k : Str} {M : Mat} (h : mat k = some M) : ∃ t, (backL.lookup k).getD (.str k) = .str t ∧ mat t = some (tr M) := by
  rcases mat_cases h with ⟨rfl, rfl⟩ | ⟨rfl, rfl⟩ | ⟨rfl, rfl⟩ | ⟨rfl, rfl⟩ | ⟨rfl, rfl⟩ | ⟨rfl, rfl⟩ | ⟨rfl, rfl⟩ | ⟨rfl, rfl⟩
  · exact ⟨"none", rfl, rfl⟩
  · exact ⟨"right", rfl, rfl⟩
  · exact ⟨"half", rfl, rfl⟩
  · exact ⟨"left", rfl, rfl⟩
  · exact ⟨"flip", rfl, rfl⟩
  · exact ⟨"mirror", rfl, rfl⟩
  · exact ⟨"swap", rfl, rfl⟩
  · exact ⟨"cross", rfl, rfl⟩
theorem sz1 {n : Nat} {x : Int} (h : x.natAbs ≤ 1) : Sz (n + 1) x := Nat.lt_of_le_of_lt h (Nat.one_lt_two_pow (by omega))
/-! ### promises of carpets.motions -/
/-! ### k09 -/
end Y
namespace Y
open PySem PySem.Spec PyProof.Rows L2 Z
theorem rngD_at {lo : Int} {n i : Nat} {d : D} (h : (rngD lo n)[i]? = some d) : i < n ∧ d = .int (lo + (i : Nat)) := by
  unfold rngD at h
  obtain ⟨j, h1, rfl⟩ := map_get h
  have hi := lt_of_get h1
  rw [List.length_range] at hi
  rw [List.getElem?_range hi] at h1
  cases h1
  exact ⟨hi, rfl⟩
end Y
namespace Y
open PySem PySem.Spec PyProof.Rows L2 Z
open MN (spotsL rowL upL Keeps Exact cellT)
/-! ### carpets -/
def chr1 (n : Nat) : Str := ⟨#[n]⟩
def ofL (l : List Nat) : Str := ⟨l.toArray⟩
/-- a net of moderate size and a text with a sign for each place of its cell -/
structure okT (t : Str) (a b c : Int) : Prop where
  ok : MN.Ok a b c
  mx : a * c ≤ 5000
  ln : (t.cps.toList.length : Int) = a * c
theorem okT.a {t : Str} {a b c : Int} (h : okT t a b c) : 0 < a := by have := h.ok.2; omega
theorem okT.c {t : Str} {a b c : Int} (h : okT t a b c) : 0 < c := by have := h.ok.1; omega
theorem okT.al {t : Str} {a b c : Int} (h : okT t a b c) : a ≤ 5000 := by
  have := h.mx
  have l1 : a * 1 ≤ a * c := Int.mul_le_mul_of_nonneg_left (by have := h.c; omega) (by have := h.a; omega)
  omega
theorem okT.cl {t : Str} {a b c : Int} (h : okT t a b c) : c ≤ 5000 := by
  have := h.mx
  have l2 : 1 * c ≤ a * c := Int.mul_le_mul_of_nonneg_right (by have := h.a; omega) (by have := h.c; omega)
  omega
theorem sz13 {x : Int} (h0 : 0 ≤ x) (h : x ≤ 8000) : Sz 13 x := by
  show x.natAbs < 2 ^ 13
  have : (2 : Nat) ^ 13 = 8192 := by decide
  omega
theorem okT.sa {t : Str} {a b c : Int} (h : okT t a b c) : Sz 13 a := sz13 (by have := h.a; omega) (by have := h.al; omega)
theorem okT.sc {t : Str} {a b c : Int} (h : okT t a b c) : Sz 13 c := sz13 (by have := h.c; omega) (by have := h.cl; omega)
def colF (t : Str) (a b c : Int) : Int × Int → Nat := MN.col t.cps.toList a b c
abbrev dCar (C : Str) (a b c : Int) (t : Str) : D := .obj C ["own_net", "own_text"] [dNet a b c, .str t]
def R_divisors : RdF := ar1 fun d Q _ => ∃ n : Int, d = .int n ∧ (1 ≤ n ∧ n ≤ 20000) ∧ Q (.lst ((MN.divL n).map D.int))
/-- the carpet of f: the least net and the text of its cell -/
structure Carp (f : Int × Int → Nat) (w q r : Int) (t : Str) : Prop where
  ex : Exact f w q r
  mx : w * r ≤ 5000
  tx : t = ofL (cellT f w r)
theorem Carp.okT {f : Int × Int → Nat} {w q r : Int} {t : Str} (h : Carp f w q r t) : okT t w q r := by
  refine ⟨h.ex.1, h.mx, ?_⟩
  rw [h.tx]
  have hw : 0 < w := by have := h.ex.1.2; omega
  have hr : 0 < r := by have := h.ex.1.1; omega
  show (((cellT f w r).toArray.toList.length : Nat) : Int) = _
  rw [List.toList_toArray, MN.cellT_len]
  obtain ⟨w', rfl⟩ := Int.eq_ofNat_of_zero_le (Int.le_of_lt hw)
  obtain ⟨r', rfl⟩ := Int.eq_ofNat_of_zero_le (Int.le_of_lt hr)
  simp
theorem Carp.col {f : Int × Int → Nat} {w q r : Int} {t : Str} (h : Carp f w q r t) (p : Int × Int) : colF t w q r p = f p := by
  unfold colF
  rw [h.tx]
  show MN.col ((cellT f w r).toArray.toList) w q r p = f p
  rw [List.toList_toArray]
  exact MN.cellT_col h.ex.1 (fun x y z => (h.ex.2 x y).mp z) p
end Y
namespace Y
open PySem PySem.Spec PyProof.Rows L2 Z
open MN (spotsL rowL upL Keeps Exact cellT)
/-! ### blocks of letters -/
def lowC (c : Nat) : Prop := 97 ≤ c ∧ c ≤ 122
def lowS (t : Str) : Prop := ∀ c ∈ t.cps.toList, lowC c
theorem lowS_sh {t : Str} (h : lowS t) : ∀ c ∈ t.cps.toList, c < 16 ^ 8 := fun c hc => by
  have := (h c hc).2
  have : (122 : Nat) < 16 ^ 8 := by decide
  omega
structure Blk (rs : List Str) (w : Nat) : Prop where
  n1 : 1 ≤ rs.length
  n2 : rs.length ≤ 100
  w1 : 1 ≤ w
  w2 : w ≤ 100
  mx : rs.length * w ≤ 1000
  row : ∀ r ∈ rs, r.cps.toList.length = w
  low : ∀ r ∈ rs, lowS r
def rowTxt (rs : List Str) : Str := ofL (rs.flatMap fun r => r.cps.toList)
theorem flat_len {w : Nat} : ∀ {rs : List Str}, (∀ r ∈ rs, r.cps.toList.length = w) → (rs.flatMap fun r => r.cps.toList).length = rs.length * w
  | [], _ => by simp
  | r :: rs, h => by
    rw [List.flatMap_cons, List.length_append, flat_len (fun x hx => h x (List.mem_cons_of_mem _ hx)), h r List.mem_cons_self, List.length_cons, Nat.add_mul]
    omega
theorem flat_get {w : Nat} : ∀ {rs : List Str} {y x : Nat} {r : Str}, (∀ r ∈ rs, r.cps.toList.length = w) → rs[y]? = some r → x < w → (rs.flatMap fun r => r.cps.toList)[y * w + x]? = r.cps.toList[x]?
  | [], y, x, r, h, e, hx => by cases e
  | q :: rs, 0, x, r, h, e, hx => by
    have e' : q = r := by simpa using e
    subst e'
    rw [List.flatMap_cons, Nat.zero_mul, Nat.zero_add, List.getElem?_append_left (by rw [h q List.mem_cons_self]; exact hx)]
  | q :: rs, y + 1, x, r, h, e, hx => by
    have hq := h q List.mem_cons_self
    rw [List.flatMap_cons, List.getElem?_append_right (by rw [hq, Nat.add_mul]; omega), hq, show (y + 1) * w + x - w = y * w + x by rw [Nat.add_mul]; omega]
    exact flat_get (fun x hx => h x (List.mem_cons_of_mem _ hx)) (by simpa using e) hx
theorem rowTxt_ln {rs : List Str} {w : Nat} (h : ∀ r ∈ rs, r.cps.toList.length = w) : (rowTxt rs).cps.toList.length = rs.length * w := by
  show ((rs.flatMap fun r => r.cps.toList).toArray.toList).length = _
  rw [List.toList_toArray, flat_len h]
theorem Blk.okT {rs : List Str} {w : Nat} (h : Blk rs w) (sh : Int) : okT (rowTxt rs) w (sh % w) rs.length := by
  have h1 := h.n1
  have h2 := h.w1
  refine ⟨⟨by omega, Int.emod_nonneg _ (by omega), Int.emod_lt_of_pos _ (by omega)⟩, ?_, ?_⟩
  · have := h.mx
    have e : ((w : Nat) : Int) * ((rs.length : Nat) : Int) = ((rs.length * w : Nat) : Int) := by rw [Int.natCast_mul, Int.mul_comm]
    omega
  · rw [rowTxt_ln h.row, Int.natCast_mul, Int.mul_comm]
/-- the colours of a block -/
def blkF (rs : List Str) (w : Nat) (sh : Int) : Int × Int → Nat := colF (rowTxt rs) w (sh % w) rs.length
theorem blkF_eq {rs : List Str} {w : Nat} (h : Blk rs w) (sh x y : Int) : ∃ r c, rs[(y - y / rs.length * rs.length).toNat]? = some r ∧ r.cps.toList[((x - sh * (y / rs.length)) % w).toNat]? = some c ∧ blkF rs w sh (x, y) = c ∧ r ∈ rs := by
  have h1 := h.n1
  have h2 := h.w1
  have hn : (0 : Int) < rs.length := by omega
  have hw : (0 : Int) < w := by omega
  have ey : y - y / rs.length * rs.length = y % rs.length := by
    have := Int.emod_add_mul_ediv y rs.length
    rw [Int.mul_comm] at this
    omega
  have y0 := Int.emod_nonneg y (show (rs.length : Int) ≠ 0 by omega)
  have y1 := Int.emod_lt_of_pos y hn
  have x0 := Int.emod_nonneg (x - sh * (y / rs.length)) (show (w : Int) ≠ 0 by omega)
  have x1 := Int.emod_lt_of_pos (x - sh * (y / rs.length)) hw
  have ex : (x - y / rs.length * (sh % w)) % w = (x - sh * (y / rs.length)) % w := by
    have e := Int.emod_add_mul_ediv sh w
    have : x - y / rs.length * (sh % w) = (x - sh * (y / rs.length)) + (w : Int) * (sh / w * (y / rs.length)) := by
      have e2 : sh * (y / rs.length) = (sh % w) * (y / rs.length) + (w : Int) * (sh / w) * (y / rs.length) := by rw [← Int.add_mul, e]
      rw [e2, Int.mul_comm (y / rs.length) (sh % w), Int.mul_assoc]
      omega
    rw [this, Int.add_mul_emod_self_left]
  have hy : (y - y / rs.length * rs.length).toNat < rs.length := by omega
  obtain ⟨r, hr⟩ : ∃ r, rs[(y - y / rs.length * rs.length).toNat]? = some r := ⟨_, List.getElem?_eq_getElem hy⟩
  have hm : r ∈ rs := List.mem_of_getElem? hr
  have hx : ((x - sh * (y / rs.length)) % w).toNat < w := by omega
  obtain ⟨c, hc⟩ : ∃ c, r.cps.toList[((x - sh * (y / rs.length)) % w).toNat]? = some c := ⟨_, List.getElem?_eq_getElem (by rw [h.row _ hm]; exact hx)⟩
  refine ⟨r, c, hr, hc, ?_, hm⟩
  unfold blkF colF MN.col MN.low rowTxt ofL
  dsimp only
  rw [ex]
  have et : ((y - y / rs.length * rs.length) * w + (x - sh * (y / rs.length)) % w).toNat = (y - y / rs.length * rs.length).toNat * w + ((x - sh * (y / rs.length)) % w).toNat := by
    have p0 : 0 ≤ (y - y / rs.length * rs.length) * (w : Int) := Int.mul_nonneg (by omega) (by omega)
    rw [Int.toNat_add p0 x0, Int.toNat_mul (by omega) (by omega), Int.toNat_natCast]
  rw [et, List.getD_eq_getElem?_getD, flat_get h.row hr hx, hc]
  rfl
theorem blkF_low {rs : List Str} {w : Nat} (h : Blk rs w) (sh : Int) (p : Int × Int) : lowC (blkF rs w sh p) := by
  obtain ⟨r, c, _, e2, e3, hm⟩ := blkF_eq h sh p.1 p.2
  rw [show blkF rs w sh p = c from e3]
  exact h.low r hm c (List.mem_of_getElem? e2)
/-! ### rows of a text -/
/-! ### contracts -/
theorem slen (t : Str) : t.length = t.cps.toList.length := by rw [Array.length_toList]; rfl
theorem strs_shP {n : Nat} : ∀ {l : List Str}, (∀ r ∈ l, lowS r) → shPs n (l.map D.str)
  | [], _ => trivial
  | x :: l, h => ⟨lowS_sh (h x List.mem_cons_self), strs_shP fun r hr => h r (List.mem_cons_of_mem _ hr)⟩
theorem strs_depth : ∀ {l : List Str}, PyData.depthAll (toPs (l.map D.str)) ≤ 1
  | [] => by simp [toPs, PyData.depthAll]
  | x :: l => by
    have := strs_depth (l := l)
    simp [toPs, toP, PyData.depthAll, PyData.depth] at this ⊢
    omega
end Y
namespace Y
open PySem PySem.Spec PyProof.Rows L2 Z
open MN (spotsL rowL upL Keeps Exact cellT)
theorem Carp.low {rs : List Str} {w0 : Nat} {sh w q r : Int} {t : Str} (hb : Blk rs w0) (h : Carp (blkF rs w0 sh) w q r t) : lowS t := by
  intro c hc
  rw [h.tx] at hc
  unfold ofL cellT at hc
  rw [List.toList_toArray] at hc
  obtain ⟨p, _, rfl⟩ := List.mem_map.mp hc
  exact blkF_low hb sh p
theorem bulk_strs {a : Nat} : ∀ l : List Str, (∀ r ∈ l, r.cps.toList.length = a) → PyData.bulkAll (toPs (l.map D.str)) = l.length * a + l.length := by
  intro l
  induction l with
  | nil => intro _; simp [toPs, PyData.bulkAll]
  | cons x l ih =>
    intro h
    show x.cps.size + 1 + PyData.bulkAll (toPs (l.map D.str)) = _
    rw [ih (fun r hr => h r (List.mem_cons_of_mem _ hr))]
    have := h x List.mem_cons_self
    rw [Array.length_toList] at this
    rw [this, List.length_cons, Nat.add_mul]
    omega
theorem Blk.sh {rs : List Str} {w : Nat} (h : Blk rs w) : shP 0 (.lst (rs.map D.str)) ∧ (toP (.lst (rs.map D.str))).bulk ≤ 8000 ∧ (toP (.lst (rs.map D.str))).depth ≤ 40 := by
  refine ⟨strs_shP h.low, ?_, ?_⟩
  · show PyData.bulkAll (toPs (rs.map D.str)) ≤ 8000
    rw [bulk_strs rs h.row]
    have := h.mx
    have := h.n2
    omega
  · show PyData.depthAll (toPs (rs.map D.str)) + 1 ≤ 40
    have := strs_depth (l := rs)
    omega
theorem Blk.zero {rs : List Str} {w : Nat} (h : Blk rs w) : ∃ r0 c, atI (rs.map D.str) 0 = some (.str r0) ∧ r0.length ≤ 100000 ∧ atI r0.cps.toList 0 = some c ∧ blkF rs w 0 (0, (rs.length : Int)) = c := by
  have n1 := h.n1
  have w1 := h.w1
  obtain ⟨r, c, e1, e2, e3, hm⟩ := blkF_eq h 0 0 rs.length
  have e : (rs.length : Int) / (rs.length : Int) = 1 := Int.ediv_self (by omega)
  rw [e] at e1 e2
  have i0 : ((rs.length : Int) - 1 * (rs.length : Int)).toNat = 0 := by omega
  have j0 : ((0 - 0 * 1 : Int) % (w : Int)).toNat = 0 := by simp
  rw [i0] at e1
  rw [j0] at e2
  refine ⟨r, c, atI_nat (j := 0) (by rw [List.getElem?_map, e1]; rfl), ?_, atI_nat (j := 0) e2, e3⟩
  rw [slen, h.row r hm]
  have := h.w2
  omega
end Y
namespace MN
/-! ### motions: a turn, then a shift -/
abbrev Mtn := Mat × Int × Int
def mmul (m n : Mtn) : Mtn := (comp m.1 n.1, (turn n.1 m.2).1 + n.2.1, (turn n.1 m.2).2 + n.2.2)
def mone : Mtn := ((1, 0, 0, 1), 0, 0)
def minv (m : Mtn) : Mtn := (tr m.1, -(turn (tr m.1) m.2).1, -(turn (tr m.1) m.2).2)
def mapp (m : Mtn) (p : Int × Int) : Int × Int := ((turn m.1 p).1 + m.2.1, (turn m.1 p).2 + m.2.2)
/-! ### powers -/
def npow (m : Mtn) : Nat → Mtn
  | 0 => mone
  | n + 1 => mmul (npow m n) m
def zpow (m : Mtn) (n : Int) : Mtn := if 0 ≤ n then npow m n.toNat else npow (minv m) n.natAbs
/-! ### sizes -/
def nrm (p : Int × Int) : Nat := p.1.natAbs + p.2.natAbs
end MN
namespace Y
open PySem PySem.Spec PyProof.Rows L2 Z
open MN (Mat Mtn turn tr Orth comp mmul mone minv mapp npow zpow nrm)
theorem nrm_turn {k : Str} {M : Mat} (h : mat k = some M) (p : Int × Int) : nrm (turn M p) = nrm p := by
  rcases mat_cases h with ⟨rfl, rfl⟩ | ⟨rfl, rfl⟩ | ⟨rfl, rfl⟩ | ⟨rfl, rfl⟩ | ⟨rfl, rfl⟩ | ⟨rfl, rfl⟩ | ⟨rfl, rfl⟩ | ⟨rfl, rfl⟩ <;> (simp only [nrm, turn]; omega)
/-- a motion of moderate shift, and its kind -/
structure okK (n : Nat) (k : Str) (m : Mtn) : Prop where
  mt : mat k = some m.1
  sz : nrm m.2 < 2 ^ n
theorem okK.mono {n n' : Nat} {k : Str} {m : Mtn} (h : okK n k m) (z : n ≤ n') : okK n' k m := ⟨h.mt, Nat.lt_of_lt_of_le h.sz (Nat.pow_le_pow_right (by decide) z)⟩
theorem okK.x {n : Nat} {k : Str} {m : Mtn} (h : okK n k m) : Sz n m.2.1 := Nat.lt_of_le_of_lt (Nat.le_add_right _ _) h.sz
theorem okK.y {n : Nat} {k : Str} {m : Mtn} (h : okK n k m) : Sz n m.2.2 := Nat.lt_of_le_of_lt (Nat.le_add_left _ _) h.sz
theorem mat_tr {k : Str} {M : Mat} (h : mat k = some M) : ∃ t, mat t = some (tr M) := by
  obtain ⟨t, _, ht⟩ := mat_back h
  exact ⟨t, ht⟩
theorem okK.inv {a : Nat} {k t : Str} {m : Mtn} (h : okK a k m) (ht : mat t = some (minv m).1) : okK a t (minv m) := ⟨ht, by
  obtain ⟨t', ht'⟩ := mat_tr h.mt
  have e : nrm (minv m).2 = nrm (turn (tr m.1) m.2) := by unfold nrm minv; dsimp only; omega
  rw [e, nrm_turn ht']
  exact h.sz⟩
/-! ### promises -/
/-! ### texts -/
theorem sh_pl {n : Nat} {x y : Int} (hx : Sz 1900 x) (hy : Sz 1900 y) : shP n (dPl x y) := ⟨hx, hy, trivial⟩
end Y
namespace MN
/-! ### motions that keep a net and colours -/
end MN
namespace Y
open PySem PySem.Spec PyProof.Rows L2 Z
open MN (spotsL rowL upL Keeps Exact cellT)
/-! ### helpers -/
/-! ### drawn carpets: a net and a text of its cell -/
def letSets : List Str := ["ab", "abc", "az", "qrb"]
def lets (t : Str) : Prop := ∃ s ∈ letSets, ∀ x ∈ t.cps.toList, x ∈ s.cps.toList
abbrev wovD (a b c : Int) (t : Str) : D := .tup [n3 a b c, .str t]
/-- a drawn carpet of at most n places -/
structure Wv (n : Int) (a b c : Int) (t : Str) : Prop where
  ok : MN.Ok a b c
  mx : a * c ≤ n
  ln : (t.cps.toList.length : Int) = a * c
  le : lets t
theorem Wv.okT {n a b c : Int} {t : Str} (h : Wv n a b c t) (hn : n ≤ 5000) : okT t a b c := ⟨h.ok, by have := h.mx; omega, h.ln⟩
def carCs : List Str := ["Carpet", "Woven"]
/-! ### carpets of both classes -/
end Y
namespace Y
open PySem PySem.Spec PyProof.Rows L2 Z
open MN (spotsL rowL upL Keeps Exact cellT)
/-! ### dicts from places to letters -/
theorem v_ {ρ : Ev} {i : Nat} {d : D} {Q : D → Prop} (e : ρ[i]? = some (.val d)) (h : Q d) : rVar i ρ Q := by
  unfold rVar
  rw [e]
  exact h
end Y
namespace Y
open PySem PySem.Spec PyProof.Rows L2 Z
open MN (spotsL rowL upL Keeps Exact cellT)
/-! ### equal carpets -/
/-- a drawn carpet and what the package made of it -/
abbrev Ent := (Int × Int × Int × Str) × (Str × Int × Int × Int × Str)
structure EntOk (n : Int) (e : Ent) : Prop where
  wv : Wv n e.1.1 e.1.2.1 e.1.2.2.1 e.1.2.2.2
  cl : e.2.1 ∈ carCs
  cp : Carp (colF e.1.2.2.2 e.1.1 e.1.2.1 e.1.2.2.1) e.2.2.1 e.2.2.2.1 e.2.2.2.2.1 e.2.2.2.2.2
theorem Wv.ac {n a b c : Int} {t : Str} (W : Wv n a b c t) : 0 < a ∧ 0 < c ∧ a ≤ n ∧ c ≤ n := by
  have a0 : 0 < a := by have := W.ok.2; omega
  have c0 : 0 < c := by have := W.ok.1; omega
  have := W.mx
  have l3 : a * 1 ≤ a * c := Int.mul_le_mul_of_nonneg_left (by omega) (by omega)
  have l4 : 1 * c ≤ a * c := Int.mul_le_mul_of_nonneg_right (by omega) (by omega)
  omega
theorem low_self {a b c x y : Int} (x0 : 0 ≤ x) (x1 : x < a) (y0 : 0 ≤ y) (y1 : y < c) : MN.low a b c x y = (x, y) := by
  unfold MN.low
  rw [Int.ediv_eq_zero_of_lt y0 y1]
  simp [Int.emod_eq_of_lt x0 x1]
end Y
namespace Y
open PySem PySem.Spec PyProof.Rows L2 Z
open MN (spotsL rowL upL Keeps Exact cellT Mtn mapp minv mmul turn tr Orth Img)
/-! ### carpets that are moved -/
theorem okT.keep {t : Str} {a b c x y : Int} (o : Y.okT t a b c) (z : MN.InN a b c x y) : Keeps (colF t a b c) x y := MN.keeps_net o.ok z
end Y
namespace GX
open PySem PySem.Spec PyProof.Rows L2 GenW Z Y
section
variable {P : Program} {w : World} {K : Frg} {mg : Str → Option Value} {base : Heap}
end
/-- the index of an item, its place -/
def spI (a C : Nat) (r : Nat) : Int × Int := ((((C * a - 1 - r) % a : Nat) : Int), (((C * a - 1 - r) / a : Nat) : Int))
theorem spI_of {a C : Nat} : ∀ r j q x y : Nat, r = j + q * a → x + (j + 1) = a → y + 1 + q = C → spI a C r = ((x : Int), (y : Int)) := fun r j q x y h1 h2 h3 => by
  have e : C * a - 1 - r = x + y * a := by
    subst h3
    rw [Nat.add_mul, Nat.add_mul, Nat.one_mul]
    omega
  have hx : x < a := by omega
  unfold spI
  rw [e, Nat.add_mul_mod_self_right, Nat.mod_eq_of_lt hx, Nat.add_mul_div_right _ _ (by omega), Nat.div_eq_of_lt hx, Nat.zero_add]
section
variable {X : Cx} {B : Bs} {o tg : Expr} {ro : Rd} {f : Addr} {qual : Str} {st : Stmt} {N : List Str} {k : Nat} {pos apos : Pos} {pl : Sem Bool}
end
/-! ### the pure rules -/
section
variable {X : Cx} {B : Bs} {pos : Pos} {rt : RdT} {rl : RdA} {s1 : RdS}
end
end GX
namespace MN
/-! ### the size of a meet -/
end MN
namespace MN
end MN
namespace Y
open PySem PySem.Spec PyProof.Rows L2 Z
open MN (spotsL Keeps Exact cellT)
/-! ### overlays -/
/-! ### the net of some nets -/
/-! ### carpets with a cell that is known -/
theorem c_ {d : D} {ρ : Ev} {Q : D → Prop} (h : Q d) : rC d ρ Q := h
theorem knD_of {d : D} (h : knB d = true) : knD d := by
  cases d <;> first | trivial | cases h
end Y
namespace Y
open PySem PySem.Spec PyProof.Rows L2 Z
open MN (spotsL Keeps Exact cellT)
/-! ### observations -/
structure Cw where
  C : Str
  a : Int
  b : Int
  c : Int
  t : Str
def Cw.d (x : Cw) : D := dCar x.C x.a x.b x.c x.t
def Cw.ok (x : Cw) : Prop := x.C ∈ carCs ∧ Y.okT x.t x.a x.b x.c
def Cw.col (x : Cw) : Int × Int → Nat := colF x.t x.a x.b x.c
/-! ### the law -/
structure Wq where
  a : Int
  b : Int
  c : Int
  t : Str
def Wq.d (w : Wq) : D := wovD w.a w.b w.c w.t
def Wq.ok (w : Wq) : Prop := Wv 12 w.a w.b w.c w.t
def Wq.col (w : Wq) : Int × Int → Nat := colF w.t w.a w.b w.c
theorem a_ {ra : Rd} {rl : RdA} {ρ : Ev} {Q : List D → Prop} (h : ra ρ fun x => rl ρ fun xs => Q (x :: xs)) : aCons ra rl ρ Q := h
end Y
namespace MN
end MN
namespace Y
open PySem PySem.Spec PyProof.Rows L2 Z
open MN (spotsL Keeps Exact cellT)
/-- the greatest number of times that something occurs in a list -/
def mxc (l : List Nat) : Nat := (l.map fun x => l.count x).foldl max 0
def grpC (cs : List Cw) (p : Int × Int) : Nat := mxc (cs.map fun c => c.col p)
/-- the first place with the least number -/
def least (cs : List Cw) (W U : Int) (p : Int × Int) : Prop := ∃ i : Nat, (spotsL W.toNat U.toNat)[i]? = some p ∧ ∀ (j : Nat) q, (spotsL W.toNat U.toNat)[j]? = some q → grpC cs p ≤ grpC cs q ∧ (j < i → grpC cs p < grpC cs q)
end Y
namespace MN
theorem pos_a {a b c : Int} (h : Ok a b c) : 0 < a := by have := h.2; omega
theorem pos_c {a b c : Int} (h : Ok a b c) : 0 < c := by have := h.1; omega
end MN
namespace Y
open PySem PySem.Spec PyProof.Rows L2 Z
open MN (spotsL Keeps Exact cellT)
/-! ### groups of doubled lists -/
/-- the carpets of the law: the last one may be a copy -/
structure okW (ws : List Wq) (k : Nat) : Prop where
  k1 : 1 ≤ k
  k3 : k ≤ 3
  kn : k ≤ ws.length
  n4 : ws.length ≤ 4
  ok : ∀ w ∈ ws, (Y.okT w.t w.a w.b w.c ∧ lowS w.t) ∧ w.a * w.c ≤ 16
  s8 : ∀ w ∈ ws.take k, w.a * w.c ≤ 8
  cp : ∀ w ∈ ws, ∃ w1 ∈ ws.take k, w1.col = w.col
/-! ### the fixed carpets -/
def w2 : List Str := List.replicate 2 ("ab" : Str) ++ [("bb" : Str)]
end Y
namespace GX
open PySem PySem.Spec PyProof.Rows L2 Z Y
section
variable {X : Cx} {B : Bs} {pos : Pos} {rt : RdT} {rl : RdA}
end
end GX
namespace Y
open PySem PySem.Spec PyProof.Rows L2 Z
open MN (spotsL Keeps Exact cellT)
section
variable {X : Cx} {B : Bs} {e : Expr} {r : Rd} {pos : Pos}
end
/-! ### what is known of a net's places -/
/-! ### promises -/
/-! ### lists of places -/
/-! ### the last one -/
end Y
namespace MN
section
variable {F : Pt → Nat} {a b c : Int} {s : Pt} {kn : List (Pt × Pt)} {wt sh : List Pt} {X : Pt → Prop}
theorem Srch.keys (h : Srch F a b c s kn wt sh X) (ha : 0 < a) (hc : 0 < c) : ∀ k ∈ kn.map (·.1), k ∈ spotsL a.toNat c.toNat := by
  intro k hk
  obtain ⟨⟨k', p⟩, hx, rfl⟩ := List.mem_map.mp hk
  obtain ⟨e, _⟩ := h.kw _ _ hx
  obtain ⟨r1, r2, r3, r4⟩ := low_rng (a := a) (b := b) (c := c) (x := p.1) (y := p.2) ha hc
  rw [show (k', p).1 = low a b c p.1 p.2 from e.symm]
  exact spotsL_mem.mpr ⟨r1, by omega, r3, by omega⟩
theorem nd_le {α : Type} [DecidableEq α] : ∀ (l m : List α), l.Nodup → (∀ x ∈ l, x ∈ m) → l.length ≤ m.length
  | [], _, _, _ => Nat.zero_le _
  | x :: l, m, nd, h => by
    obtain ⟨n1, n2⟩ := List.nodup_cons.mp nd
    have hx := h x List.mem_cons_self
    have := nd_le l (m.erase x) n2 fun y hy => (List.mem_erase_of_ne fun (e : y = x) => n1 (e ▸ hy)).mpr (h y (List.mem_cons_of_mem _ hy))
    rw [List.length_erase_of_mem hx] at this
    have h0 : 0 < m.length := List.length_pos_of_mem hx
    rw [List.length_cons]
    omega
theorem Srch.len (h : Srch F a b c s kn wt sh X) (ha : 0 < a) (hc : 0 < c) : kn.length ≤ (spotsL a.toNat c.toNat).length := by
  have := nd_le _ _ h.nd (h.keys ha hc)
  rwa [List.length_map] at this
/-- the first places of the classes -/
noncomputable def stq (F : Pt → Nat) (a b c : Int) (l : List Pt) : List Pt := l.foldl (fun acc k => if acc.any (fun s => clsB F a b c s k) then acc else acc ++ [k]) []
noncomputable def startsL (F : Pt → Nat) (a b c : Int) : List Pt := stq F a b c (spotsL a.toNat c.toNat)
end
end MN
namespace Y
open PySem PySem.Spec PyProof.Rows L2 Z
open MN (Pt nbs Conn Stab Cls lkQ lowP Srch SrN Prt Bas BasOk spotsL Keeps Sp Form clsB startsL)
/-! ### parts -/
def kvK (kn : List (Pt × Pt)) : List (List Int × D) := kn.map fun x => ([x.1.1, x.1.2], plD x.2)
def kpD (kn : List (Pt × Pt)) : D := .dpl ((kvK kn).map (·.1)) ((kvK kn).map (·.2))
def basD : Bas → D
  | .nil => .tup []
  | .one x y => .tup [dPl x y]
  | .two a b c => .tup [dPl a 0, dPl b c]
structure Pr where
  st : Pt
  kn : List (Pt × Pt)
  bas : Bas
  col : Nat
  bd : Nat
abbrev partD (k : Nat) (s : Pt) (kn : List (Pt × Pt)) (β : Bas) (bd : Nat) : D := .obj "Part" ["own_colour", "own_start", "known", "own_places", "own_basis", "own_border"] [.str (chr1 k), plD s, kpD kn, .int (kn.length : Nat), basD β, .int (bd : Nat)]
def Pr.d (x : Pr) : D := partD x.col x.st x.kn x.bas x.bd
/-- how great the numbers of a basis are -/
def basSz (n : Nat) : Bas → Prop
  | .nil => True
  | .one x y => Sz n x ∧ Sz n y
  | .two a _ c => Sz n a ∧ Sz n c
structure PrOk (F : Pt → Nat) (a b c : Int) (x : Pr) : Prop where
  prt : Prt F a b c x.st x.kn
  bs : BasOk (Stab F a b c x.st) x.bas
  cl : x.col = F x.st
  br : x.bd = MN.brd F a b c x.st
  cell : x.st ∈ spotsL a.toNat c.toNat
  sz : basSz 100 x.bas
def pMax : Int := 64
/-- a carpet whose parts are looked for -/
structure CarP (C : Str) (a b c : Int) (t : Str) : Prop where
  cs : C ∈ carCs
  o : okT t a b c
  mx : a * c ≤ pMax
/-! ### the search, as the programs do it -/
theorem CarP.N {C : Str} {a b c : Int} {t : Str} (h : CarP C a b c t) : (spotsL a.toNat c.toNat).length ≤ 64 := by
  have mx : a * c ≤ 64 := h.mx
  have a0 := h.o.a
  have c0 := h.o.c
  rw [MN.spotsL_len]
  obtain ⟨a', rfl⟩ := Int.eq_ofNat_of_zero_le (Int.le_of_lt a0)
  obtain ⟨c', rfl⟩ := Int.eq_ofNat_of_zero_le (Int.le_of_lt c0)
  rw [Int.toNat_natCast, Int.toNat_natCast]
  exact_mod_cast mx
theorem CarP.ac {C : Str} {a b c : Int} {t : Str} (h : CarP C a b c t) : a ≤ 64 ∧ c ≤ 64 := by
  have mx : a * c ≤ 64 := h.mx
  have a0 := h.o.a
  have c0 := h.o.c
  have l1 : a * 1 ≤ a * c := Int.mul_le_mul_of_nonneg_left (by omega) (by omega)
  have l2 : 1 * c ≤ a * c := Int.mul_le_mul_of_nonneg_right (by omega) (by omega)
  omega
/-- the state of the search -/
structure SrS (F : Pt → Nat) (a b c : Int) (s : Pt) (kn : List (Pt × Pt)) (wt sh : List Pt) (bd : Nat) : Prop where
  z : Srch F a b c s kn wt sh fun _ => False
  n : SrN F kn wt sh bd 0 0
/-- the state while the neighbours l of p are looked at, those of l1 are done -/
structure SrM (F : Pt → Nat) (a b c : Int) (s p : Pt) (l1 l2 : List Pt) (kn : List (Pt × Pt)) (wt sh : List Pt) (bd : Nat) : Prop where
  z : Srch F a b c s kn wt sh (· = p)
  k : ∃ k, (k, p) ∈ kn
  d : MN.Done F a b c kn sh p l1
  n : SrN F kn wt sh bd (MN.unl F p l2) l2.length
section
variable {F : Pt → Nat} {a b c : Int} {s p q : Pt} {l1 l2 : List Pt} {kn : List (Pt × Pt)} {wt sh : List Pt} {bd : Nat}
end
/-! ### the parts of a carpet -/
/-- what is known of the places when the parts of some starts were found -/
structure PtS (F : Pt → Nat) (a b c : Int) (l : List Pt) (xs : List Pr) (ks : List Pt) : Prop where
  ok : ∀ x ∈ xs, PrOk F a b c x
  st : xs.map Pr.st = MN.stq F a b c l
  sub : ∀ k ∈ ks, k ∈ spotsL a.toNat c.toNat
  nd : ks.Nodup
  iff : ∀ k ∈ spotsL a.toNat c.toNat, (k ∈ ks ↔ ∃ s ∈ MN.stq F a b c l, Cls F a b c s k)
section
variable {F : Pt → Nat} {a b c : Int} {l : List Pt} {xs : List Pr} {ks : List Pt} {k : Pt}
theorem PtS.len (h : PtS F a b c l xs ks) : ks.length ≤ (spotsL a.toNat c.toNat).length := MN.nd_le _ _ h.nd h.sub
end
end Y
namespace Y
open PySem PySem.Spec PyProof.Rows L2 Z
open MN (spotsL rowL upL Keeps Exact cellT Mtn mapp minv mmul turn tr Orth Img)
end Y
namespace Y
open PySem PySem.Spec PyProof.Rows L2 Z
open MN (spotsL rowL upL Keeps Exact cellT Mtn mapp minv mmul turn tr Orth Img)
/-! ### comparing carpets -/
/-- an exact carpet, its text small letters -/
structure Ex1 (n : Int) (a b c : Int) (t : Str) : Prop where
  cp : Carp (colF t a b c) a b c t
  mx : a * c ≤ n
  lo : lowS t
end Y
namespace Y
open PySem PySem.Spec PyProof.Rows L2 Z
/-! ### one letter of a text changed -/
end Y
namespace Y
open PySem PySem.Spec PyProof.Rows L2 Z
end Y
namespace Y
open PySem PySem.Spec PyProof.Rows L2 Z
open MN (spotsL rowL upL Keeps Exact cellT Mtn mapp minv mmul turn tr Orth Img InN)
/-! ### where carpets differ -/
end Y
namespace Y
open PySem PySem.Spec PyProof.Rows L2 Z
open MN (Pt nbs Conn Stab Cls lkQ lowP Srch SrN Prt Bas BasOk spotsL Keeps Sp Form clsB startsL)
/-! ### repainted parts -/
/-- a least cell with letters of its own -/
structure Lw (n : Int) (a b c : Int) (t : Str) : Prop where
  cp : Carp (colF t a b c) a b c t
  mx : a * c ≤ n
  le : lets t
section
variable {F : Pt → Nat} {a b c : Int} {p q s : Pt} {k : Nat}
end
end Y
namespace Y
open PySem PySem.Spec PyProof.Rows L2 Z
open MN (Pt nbs Conn Stab Cls lkQ lowP Srch SrN Prt Bas BasOk spotsL Keeps Sp Form clsB startsL)
/-! ### tuples put together, empty ones too -/
/-! ### joined places -/
section
variable {F : Pt → Nat} {a b c : Int} {s first second p1 q1 : Pt} {kn : List (Pt × Pt)}
end
/-! the starts differ -/
/-! ### promises -/
/-- what is told: a shown value, a truth -/
abbrev hr1 (d : D) : D := .lst [.str (shD d), .bl true]
end Y
namespace L2
open PySem PySem.Spec PyProof.Rows
/-! ### set(l) of a list of ints -/
section
variable {P : Program} {w : World} {A : Around} {E : Value → Shared → Prop} {s : Shared}
variable {a : Addr} {S : Int → Bool} {n : Nat}
end
end L2
namespace Y
open PySem PySem.Spec PyProof.Rows L2 Z
section
variable {X : Cx}
end
section
variable {X : Cx} {B : Bs} {e : Expr} {rl : RdA} {p0 p1 pos pos1 : Pos}
end
end Y
namespace TK
open PySem PySem.Spec PyProof.Rows L2
/-! ### sets of tuples of ints, texts and None -/
def flatN : NestedKey → Bool
  | .tup _ => false
  | _ => true
def flatT : NestedKey → Bool
  | .tup ks => ks.all flatN
  | _ => false
/-- the tuple k at b -/
def IsF (h : Heap) (k : NestedKey) (b : Addr) : Prop := NestedIs h k (.ref b) ∧ flatT k = true
theorem IsF.keep {h h' : Heap} {k : NestedKey} {b : Addr} (x : IsF h k b) (hk : ∀ c o, h.get? c = some o → h'.get? c = some o) : IsF h' k b := ⟨NestedIs.at (fun c o _ _ e _ => hk c o e) k _ x.1, x.2⟩
theorem IsF.items {h : Heap} {k : NestedKey} {b : Addr} (x : IsF h k b) : ∃ o vs n ks, h.get? b = some o ∧ o.cls = .type "tuple" ∧ o.data = .seq vs n ∧ NestedAll h ks vs.toList ∧ ks.all flatN = true ∧ k = .tup ks := by
  obtain ⟨x1, x2⟩ := x
  cases k with
  | tup ks => cases x1 with | tup h1 h2 h3 h4 => exact ⟨_, _, _, _, h1, h2, h3, h4, x2, rfl⟩
  | _ => cases x2
theorem IsF.same {h h' : Heap} {k : NestedKey} {a b : Addr} {o : Obj} {es : Array (Int × Value)} {ep : Nat} {t : SetTable} (x : IsF h k b) (ho : h.get? a = some o) (hd : o.data = .set es ep t) (hs : Heap.SameBut a h h') : IsF h' k b :=
  ⟨NestedIs.at (fun c u _ _ e1 e2 => by
    refine (hs.2 c fun e => ?_).trans e1
    subst e
    obtain rfl := Option.some.inj (ho.symm.trans e1)
    rw [hd] at e2
    cases e2) k _ x.1, x.2⟩
section
variable {P : Program} {w : World} {A : Around} {E : Value → Shared → Prop} {s : Shared}
end
/-! ### the set: its rows and its table -/
abbrev Row := Addr × NestedKey
def hv (w : World) (p : Row) : Int := p.2.hash w
def tabRows (w : World) (L : List Row) : List (Int × Value) := L.map fun p => (hv w p, Value.ref p.1)
theorem tabRows_len (w : World) (L : List Row) : (tabRows w L).length = L.length := by simp [tabRows]
structure SetK (w : World) (h : Heap) (a : Addr) (L : List Row) (es : Array (Int × Value)) (ep : Nat) (t : SetTable) : Prop where
  ob : ∃ o, h.get? a = some o ∧ o.ExactSet ∧ o.data = .set es ep t
  rw : es.toList = tabRows w L
  tb : TabOk t (L.map (hv w))
  nd : (L.map (·.2)).Nodup
  tp : ∀ p ∈ L, IsF h p.2 p.1
  ld : w.params.followText "set-order" = true ∨ t.led = true
  rm : L.length * 5 < t.mask * 3
  fw : L.length < 64
section
variable {P : Program} {w : World} {A : Around} {E : Value → Shared → Prop} {s : Shared} {a : Addr} {L : List Row} {es : Array (Int × Value)} {ep : Nat} {t : SetTable}
theorem SetK.sz {h : Heap} (R : SetK w h a L es ep t) : es.size = L.length := by
  rw [← Array.length_toList, R.rw, tabRows_len]
theorem SetK.fits {h : Heap} (R : SetK w h a L es ep t) : t.fits es.size = true := by
  have h1 := R.tb.sz
  have h2 := R.sz
  have h3 := R.rm
  rw [List.length_map] at h1
  simp only [SetTable.fits, SetTable.fill, R.tb.dm, Bool.and_eq_true, beq_iff_eq, decide_eq_true_eq]
  exact ⟨by omega, by show t.place.size + 0 ≤ t.mask; omega⟩
theorem SetK.entry {h : Heap} (R : SetK w h a L es ep t) {i : Nat} {p : Row} (hp : L[i]? = some p) : es[i]? = some (hv w p, Value.ref p.1) := by
  rw [← Array.getElem?_toList, R.rw, tabRows, List.getElem?_map, hp]
  rfl
theorem SetK.keep {h h' : Heap} (R : SetK w h a L es ep t) (hk : ∀ c o, h.get? c = some o → h'.get? c = some o) : SetK w h' a L es ep t :=
  let ⟨o, h1, h2⟩ := R.ob
  ⟨⟨o, hk a o h1, h2⟩, R.rw, R.tb, R.nd, fun p hp => (R.tp p hp).keep hk, R.ld, R.rm, R.fw⟩
/-! ### adding -/
end
end TK
namespace TK
open PySem PySem.Spec PyProof.Rows L2
/-- the rows that are in, when i rows of ks have been put in -/
structure InI (ks : List Row) (i : Nat) (L : List Row) : Prop where
  sub : ∀ p ∈ L, p ∈ ks.take i
  all : ∀ p ∈ ks.take i, p.2 ∈ L.map (·.2)
theorem take1 {α : Type} {l : List α} {i : Nat} {x : α} (h : l[i]? = some x) : l.take (i + 1) = l.take i ++ [x] := by
  rw [List.take_succ, h]
  rfl
theorem InI.old {ks L : List Row} {i : Nat} {x : Row} (g : InI ks i L) (h : ks[i]? = some x) (m : x.2 ∈ L.map (·.2)) : InI ks (i + 1) L := by
  refine ⟨fun p hp => ?_, fun p hp => ?_⟩ <;> rw [take1 h] at *
  · exact List.mem_append_left _ (g.sub p hp)
  · rcases List.mem_append.mp hp with z | z
    · exact g.all p z
    · exact List.mem_singleton.mp z ▸ m
theorem InI.new {ks L L' : List Row} {i : Nat} {x : Row} (g : InI ks i L) (h : ks[i]? = some x) (pm : L'.Perm (x :: L)) : InI ks (i + 1) L' := by
  refine ⟨fun p hp => ?_, fun p hp => ?_⟩ <;> rw [take1 h] at *
  · rcases List.mem_cons.mp (pm.mem_iff.mp hp) with z | z
    · exact List.mem_append_right _ (List.mem_singleton.mpr z)
    · exact List.mem_append_left _ (g.sub p z)
  · rw [(pm.map (·.2)).mem_iff]
    rcases List.mem_append.mp hp with z | z
    · exact .tail _ (g.all p z)
    · rw [List.mem_singleton.mp z]
      exact .head _
abbrev set0 (w : World) : Obj := { cls := .type "set", dict := none, data := .set #[] 0 (.fresh 0 0 (!w.params.followText "set-order")) }
section
variable {P : Program} {w : World} {A : Around} {E : Value → Shared → Prop} {s : Shared}
end
end TK
namespace Y
open PySem PySem.Spec PyProof.Rows L2 Z TK
/-! ### sorted(set(l)) of a list of flat tuples -/
section
variable {X : Cx} {pins : List (Addr × Obj)} {σ : L2.St} {H F : Hp} {s : Shared} {ms : List Addr}
end
section
variable {X : Cx}
end
section
variable {X : Cx} {B : Bs} {e : Expr} {rl : RdA} {p0 p1 pos pos1 : Pos}
end
end Y
namespace MN
/-! ### colours that touch -/
def Tou (F : Pt → Nat) (i j : Nat) : Prop := ∃ p q, q ∈ nbs p ∧ F p = i ∧ F q = j
end MN
namespace Y
open PySem PySem.Spec PyProof.Rows L2 Z
open MN (Pt nbs spotsL Tou)
/-! ### pairs of colours, sorted -/
structure TouM (F : Pt → Nat) (L : List (Nat × Nat)) : Prop where
  nd : L.Nodup
  mem : ∀ x, x ∈ L ↔ x.1 < x.2 ∧ Tou F x.1 x.2
/-! ### < of texts -/
/-! ### pairs that are gathered -/
structure AccP (F : Pt → Nat) (PL : List (Pt × Pt)) (A : List (Nat × Nat)) (k : Nat) : Prop where
  nd : A.Nodup
  mem : ∀ x, x ∈ A ↔ x.1 < x.2 ∧ ∃ z ∈ PL, F z.1 = x.1 ∧ F z.2 = x.2
  len : A.length ≤ k
theorem AccP.new {F : Pt → Nat} {PL : List (Pt × Pt)} {A : List (Nat × Nat)} {k : Nat} (h : AccP F PL A k) {p q : Pt} (l : F p < F q) (n : (F p, F q) ∉ A) : AccP F (PL ++ [(p, q)]) (A ++ [(F p, F q)]) (k + 1) := by
  refine ⟨List.nodup_append.mpr ⟨h.nd, List.nodup_cons.mpr ⟨(fun z => nomatch z), .nil⟩, fun a ha b hb e => n ?_⟩, fun x => ?_, by rw [List.length_append]; exact Nat.succ_le_succ h.len⟩
  · rw [← List.mem_singleton.mp hb, ← e]
    exact ha
  · rw [List.mem_append, List.mem_singleton, h.mem]
    constructor
    · rintro (⟨h1, z, hz, h2⟩ | rfl)
      · exact ⟨h1, z, List.mem_append_left _ hz, h2⟩
      · exact ⟨l, (p, q), List.mem_append_right _ (.head _), rfl, rfl⟩
    · rintro ⟨h1, z, hz, h2, h3⟩
      rcases List.mem_append.mp hz with hz | hz
      · exact .inl ⟨h1, z, hz, h2, h3⟩
      · rw [List.mem_singleton.mp hz] at h2 h3
        exact .inr (Prod.ext h2.symm h3.symm)
theorem AccP.old {F : Pt → Nat} {PL : List (Pt × Pt)} {A : List (Nat × Nat)} {k : Nat} (h : AccP F PL A k) {p q : Pt} (n : F p < F q → (F p, F q) ∈ A) : AccP F (PL ++ [(p, q)]) A (k + 1) := by
  refine ⟨h.nd, fun x => ?_, Nat.le_succ_of_le h.len⟩
  rw [h.mem]
  constructor
  · rintro ⟨h1, z, hz, h2⟩
    exact ⟨h1, z, List.mem_append_left _ hz, h2⟩
  · rintro ⟨h1, z, hz, h2, h3⟩
    rcases List.mem_append.mp hz with hz | hz
    · exact ⟨h1, z, hz, h2, h3⟩
    · rw [List.mem_singleton.mp hz] at h2 h3
      have := (h.mem _).mp (n (by dsimp only at h2 h3; omega))
      dsimp only at this h2 h3
      rw [h2, h3] at this
      exact this
/-! ### two carpets of the last rows -/
/-! ### contracts -/
end Y
namespace Y
open PySem PySem.Spec PyProof.Rows L2 Z
/-! ### sorted(d.items()) of an own dict -/
section
variable {X : Cx} {pins : List (Addr × Obj)} {σ : L2.St} {H F : Hp} {s : Shared} {ms : List Addr}
mutual
theorem reads_adr {h : Heap} : ∀ {v : Value} {d : PyData} {A : List Addr}, Reads h v d A → ∀ b ∈ A, ∃ o, h.get? b = Option.some o
  | _, _, _, .none, b, hb => nomatch hb
  | _, _, _, .bool _, b, hb => nomatch hb
  | _, _, _, .int _ _, b, hb => nomatch hb
  | _, _, _, .str _ _, b, hb => nomatch hb
  | _, _, _, .list h1 _ _ r, b, hb => by
    rcases List.mem_cons.mp hb with rfl | hb
    · exact ⟨_, h1⟩
    · exact readsAll_adr r b hb
  | _, _, _, .tuple h1 _ _ r, b, hb => readsAll_adr r b hb
  | _, _, _, .dict h1 _ _ r1 r2, b, hb => by
    rcases List.mem_append.mp hb with hb | hb
    · rcases List.mem_cons.mp hb with rfl | hb
      · exact ⟨_, h1⟩
      · exact readsAll_adr r1 b hb
    · exact readsAll_adr r2 b hb
theorem readsAll_adr {h : Heap} : ∀ {v : List Value} {d : List PyData} {A : List Addr}, ReadsAll h v d A → ∀ b ∈ A, ∃ o, h.get? b = Option.some o
  | _, _, _, .nil, b, hb => nomatch hb
  | _, _, _, .cons r1 r2, b, hb => by
    rcases List.mem_append.mp hb with hb | hb
    · exact reads_adr r1 b hb
    · exact readsAll_adr r2 b hb
end
end
section
variable {X : Cx} {pins : List (Addr × Obj)} {σ : L2.St} {H F : Hp} {s : Shared}
end
section
variable {X : Cx} {B : Bs} {x : Str} {i k : Nat} {pv p0 apos cpos pos : Pos}
end
end Y
namespace Y
open PySem PySem.Spec PyProof.Rows L2 Z
/-! ### l.count(x) of a list of data -/
section
variable {X : Cx} {B : Bs} {o e : Expr} {ro r : Rd} {pos apos cpos : Pos}
end
end Y
/-! tuple * number -/
namespace Y
open PySem PySem.Spec PyProof.Rows L2 Z
end Y
/-! told dicts with place keys: items(), values() -/
namespace Y
open PySem PySem.Spec PyProof.Rows L2 Z
theorem DKs.get {K : Frg} {F : Hp} {ks : List (List Int)} {xs : List (List Int × Addr × Value)} {vs : List V} (h : DKs K F ks xs vs) : ∀ {i : Nat} {x : List Int × Addr × Value}, xs[i]? = some x → ∃ v, ks[i]? = some x.1 ∧ vs[i]? = some v ∧ SqT K F x.2.1 (x.1.map V.int) ∧ RelV v x.2.2 := by
  induction h with
  | nil => intro i x hx; cases hx
  | cons h1 h2 _ ih =>
    intro i x hx
    cases i with
    | zero => cases hx; exact ⟨_, rfl, rfl, h1, h2⟩
    | succ i => exact ih hx
theorem DKs.len {K : Frg} {F : Hp} {ks : List (List Int)} {xs : List (List Int × Addr × Value)} {vs : List V} (h : DKs K F ks xs vs) : ks.length = xs.length ∧ vs.length = xs.length := by
  induction h with
  | nil => exact ⟨rfl, rfl⟩
  | cons _ _ _ ih => exact ⟨by simp [ih.1], by simp [ih.2]⟩
section
variable {X : Cx} {B : Bs} {e o : Expr} {r ro : Rd} {pos apos cpos tpos : Pos}
end
end Y
/-! set comprehensions -/
namespace Y
open PySem PySem.Spec PyProof.Rows L2 Z
/-- sets that a comprehension fills -/
structure SFam (T : Type) where
  O : World → Addr → T → HO
  z : T
  cap : Nat
  el : D → Bool
  Nx : V × D → T → T → Prop
inductive SFam.Fills {T : Type} (S : SFam T) : List (V × D) → T → Prop
  | nil : S.Fills [] S.z
  | snoc {zs : List (V × D)} {p : V × D} {st st' : T} : S.Fills zs st → S.Nx p st st' → S.Fills (zs ++ [p]) st'
def SFam.Put {T : Type} (S : SFam T) (K : Frg) (H : Hp) (y : V) (st : T) (P : T → Prop) : Prop := ∃ (d : D) (zs : List (V × D)) (ms : List Addr) (F : Hp) (U : List D), Same F H ∧ (∀ z ∈ zs, Rp K ms F z.1 z.2 ∧ S.el z.2 = true) ∧ Rp K ms F y d ∧ S.el d = true ∧ S.Fills zs st ∧ (∀ z ∈ zs, z.2 ∈ U) ∧ d ∈ U ∧ U.length ≤ S.cap ∧ ∀ st', S.Nx (y, d) st st' → P st'
structure SFam.Good {T : Type} (S : SFam T) : Prop where
  new : ∀ {P : Program} {w : World} {H : Hp} {h : Heap}, ObjOk P w H (h.push (TK.set0 w)) h.objs.size (S.O w h.objs.size S.z)
  add : ∀ {X : Cx} {pins : List (Addr × Obj)} {σ : L2.St} {H : Hp} {s : Shared} {E : Value → Shared → Prop} {D : Addr} {st : T} {y : V} {u : Value} {P : T → Prop} {Q : Value → Shared → Prop}, X.A.units + 64 < cLine → L2.Inv X pins σ H s → H D = some (S.O X.w D st) → RelV y u → S.Put X.K H y st P →
    (∀ st' s', P st' → L2.Inv X pins σ (upd H D (S.O X.w D st')) s' → Q .none s') → wpAny (model X.prog X.w) X.A (call (.builtin "set.add") [.ref D, u]) Q E s
section
variable {T : Type} {S : SFam T} {X : Cx}
/-- what differs from one sort of comprehension to the next: the new thing, what a turn does with an item, the kit's rules of the loop and of its start -/
structure CSort (X : Cx) (ex tg : Expr) (ifs : List Expr) where
  nw : Sem Value
  ob : Obj
  step : Env → Addr → (Shared → Prop) → (Value → Shared → Prop) → Shared → Prop
  made : ∀ {s : Shared} {E : Value → Shared → Prop} {Q : Value → Shared → Prop}, Q (.ref s.heap.objs.size) { s with heap := s.heap.push ob } → wpAny (model X.prog X.w) X.A nw Q E s
  loop : ∀ {R : Result → Shared → Prop} {it : Value} {D : Addr} {env : Env} (J : Nat → Shared → Prop),
    (∀ n s, J n s → wpAny (model X.prog X.w) X.A (pyNext it) (fun r s1 => match r with
      | none => R (.ok .next) s1
      | some v => wpAny (model X.prog X.w) X.A (letOwnedTupleGo tg it v) (fun _ s2 => wpAny (model X.prog X.w) X.A (assign tg env v) (fun _ s3 =>
          wpAny (model X.prog X.w) X.A (forIn ifs true fun c r => if r = true then do let ok ← isTrue c env (eval c env); pure (ForInStep.yield ok) else pure (ForInStep.yield r)) (fun ok s4 =>
            if ok = true then step env D (fun s' => ∃ m, m < n ∧ J m s') (notedBy (model X.prog X.w) X.A env fun e s' => R (.error e) s') s4 else ∃ m, m < n ∧ J m s4)
            (notedBy (model X.prog X.w) X.A env fun e s' => R (.error e) s') s3) (notedBy (model X.prog X.w) X.A env fun e s' => R (.error e) s') s2) (notedBy (model X.prog X.w) X.A env fun e s' => R (.error e) s') s1)
      (notedBy (model X.prog X.w) X.A env fun e s' => R (.error e) s') s) → ∀ n s, J n s → codeAny (model X.prog X.w) X.A (.compLoop ex 0 it (.ref D) env) R s
  start : ∀ {R : Result → Shared → Prop} {it : Value} {D : Addr} {env : Env} {s : Shared}, codeAny (model X.prog X.w) X.A (.compLoop ex 0 it (.ref D) env) R s →
    wpAny (model X.prog X.w) X.A (pyIter it) (fun jt s' => codeAny (model X.prog X.w) X.A (.compLoop ex 0 jt (.ref D) env) R s') (notedBy (model X.prog X.w) X.A env fun e s' => R (.error e) s') s → codeAny (model X.prog X.w) X.A (.compStart ex 0 it (.ref D) env) R s
end
/-! ### sets -/
section
variable {T : Type} {S : SFam T} {X : Cx}
end
/-! ### in the pure layer -/
section
variable {T : Type} {S : SFam T}
variable {X : Cx} {B : Bs} {rt : RdT} {rl : RdA} {pos : Pos}
end
end Y
/-! sets of numbers, sets of tuples from a comprehension: len, sorted -/
namespace Y
open PySem PySem.Spec PyProof.Rows L2 Z
open TK (SetK IsF)
/-! ### tuples -/
end Y
/-! len and sorted of a set comprehension -/
namespace Y
open PySem PySem.Spec PyProof.Rows L2 Z
section
variable {X : Cx}
end
section
variable {X : Cx} {B : Bs} {rt : RdT} {rl : RdA} {p0 pos pos1 : Pos}
end
end Y
/-! dict comprehensions whose keys are tuples of numbers -/
namespace Y
open PySem PySem.Spec PyProof.Rows L2 Z
section
variable {X : Cx}
end
section
variable {X : Cx} {B : Bs} {rt : RdT} {rl : RdA} {pos : Pos}
end
end Y
namespace TX
open PySem PySem.Spec PyProof.Rows L2
/-! ### sets of texts -/
def txOf (e : Int × Value) : Str := match e.2 with
  | .str x _ => x
  | _ => Str.empty
def IsTx (w : World) (e : Int × Value) : Prop := ∃ x u, e.2 = Value.str x u ∧ e.1 = hashStr w x
structure SetS (w : World) (h : Heap) (a : Addr) (L : List Str) (es : Array (Int × Value)) (ep : Nat) (t : SetTable) : Prop where
  ob : ∃ o, h.get? a = some o ∧ o.ExactSet ∧ o.data = .set es ep t
  tx : ∀ e ∈ es.toList, IsTx w e
  ls : es.toList.map txOf = L
  nd : L.Nodup
  ft : t.fits es.size = true
  rs : Ris t.place.toList
  ld : w.params.followText "set-order" = true ∨ t.led = true
section
variable {P : Program} {w : World} {A : Around} {E : Value → Shared → Prop} {s : Shared} {a : Addr} {L : List Str} {es : Array (Int × Value)} {ep : Nat} {t : SetTable}
theorem SetS.sz {h : Heap} (R : SetS w h a L es ep t) : es.size = L.length := by
  rw [← R.ls, List.length_map, Array.length_toList]
theorem SetS.keep {h h' : Heap} (R : SetS w h a L es ep t) (hk : ∀ o, h.get? a = some o → h'.get? a = some o) : SetS w h' a L es ep t :=
  let ⟨o, h1, h2⟩ := R.ob
  ⟨⟨o, hk o h1, h2⟩, R.tx, R.ls, R.nd, R.ft, R.rs, R.ld⟩
/-- the texts that are in, when i of ks have been put in -/
structure InS (ks : List Str) (i : Nat) (L : List Str) : Prop where
  mem : ∀ k, k ∈ L ↔ k ∈ ks.take i
end
end TX
namespace Y
open PySem PySem.Spec PyProof.Rows L2 Z TX
/-! ### sorted(set(x)) of a text -/
section
variable {X : Cx}
end
section
variable {X : Cx} {B : Bs} {e : Expr} {rl : RdA} {p0 p1 pos pos1 : Pos}
end
end Y
namespace Y
open PySem PySem.Spec PyProof.Rows L2 Z Builtin Builtin.Float
/-! ### f"{n:>w}" of ints that are not below 0 -/
section
variable {prog : Program} {w : World} {A : Around} {E : Value → Shared → Prop} {s : Shared}
end
end Y
namespace Y
open PySem PySem.Spec PyProof.Rows L2 Z Builtin Builtin.Float
section
variable {X : Cx} {B : Bs} {e : Expr} {r : Rd}
end
end Y
namespace Y
open PySem PySem.Spec PyProof.Rows L2 Z
open MN (spotsL Keeps Exact cellT)
/-! ### carpets of other sizes -/
def numOk : D → Int → D → Bool
  | .int i, l, .non => decide (l ≤ i)
  | .int i, l, .int u => decide (l ≤ i) && decide (i ≤ u)
  | _, _, _ => false
abbrev pos1 (v : D) : Bool := numOk v 1 .non
theorem numOk_int {v : D} {l : Int} {h : D} (e : numOk v l h = true) : ∃ i, v = .int i ∧ l ≤ i := by
  unfold numOk at e
  split at e
  · exact ⟨_, rfl, of_decide_eq_true e⟩
  · exact ⟨_, rfl, of_decide_eq_true (He.ba e).1⟩
  · cases e
def R_check_number : RdF := ar3 fun v lo hi Q E => knD v ∧ ∃ l, lo = .int l ∧ (hi = .non ∨ ∃ u, hi = .int u) ∧ ((numOk v l hi = false ∧ E (exV "InvalidNumber" v)) ∨ (numOk v l hi = true ∧ Q .non))
/-! ### what is refused -/
def knPB' : D → Bool
  | .tup [a, b] => knB a && knB b
  | d => knB d
theorem knPB'_P {d : D} (h : knPB' d = true) : knP d := by
  unfold knPB' at h
  split at h
  · obtain ⟨h1, h2⟩ := He.ba h
    exact ⟨knD_of h1, knD_of h2⟩
  · rename_i hn
    unfold knP
    split
    · exact (hn _ _ rfl).elim
    · exact knD_of h
end Y
namespace Y
open PySem PySem.Spec PyProof.Rows L2 Z
/-! ### text.count(sign), rows[::-1] -/
section
variable {X : Cx} {B : Bs} {o e : Expr} {ro r : Rd} {apos cpos : Pos}
end
end Y
namespace Y
open PySem PySem.Spec PyProof.Rows L2 Z
/-! ### contracts of pictures -/
end Y
namespace Y
open PySem PySem.Spec PyProof.Rows L2 Z
/-! ### s * n for any n -/
end Y
namespace Y
open PySem PySem.Spec PyProof.Rows L2 Z
end Y
namespace Y
open PySem PySem.Spec PyProof.Rows L2 Z
/-! ### lists of texts, compared -/
end Y
namespace Y
open PySem PySem.Spec PyProof.Rows L2 Z
end Y
namespace Y
open PySem PySem.Spec PyProof.Rows L2 Z
end Y
/-! new dicts with tuple keys, their len, d[e] = x.setdefault(..), xs[::-1] -/
namespace Y
open PySem PySem.Spec PyProof.Rows L2 Z
section
variable {X : Cx} {B : Bs} {e ev : Expr} {r : Rd} {pos pv pos' p0 p1 p2 p3 : Pos} {x : Str} {i k : Nat}
end
end Y
/-! set and dict comprehensions over a generator -/
namespace GX
open PySem PySem.Spec PyProof.Rows L2 Z Y
section
variable {X : Cx}
variable {B : Bs} {rt : RdT} {rl : RdA} {pos : Pos}
end
end GX
namespace Y
open PySem PySem.Spec PyProof.Rows L2 Z
/-! ### try: body, except C as n: suite, except (C1, C2, C3, C4) as n: suite, .. -/
/-- a clause's test, once the error lies in a suite's state -/
def TestM (X : Cx) (te : Expr) (cs : List Value) : Prop := ∀ {a : Addr} {pn : List (Addr × Obj)} {σ : L2.St} {H : Hp} {s : Shared} {cls : Value} {b : Bool} {Q : Bool → Shared → Prop} {E : Value → Shared → Prop},
  Inv (X.suite a pn) [] σ H s → PySem.W.Looks (model X.prog X.w) s.heap (typeOf (.ref a)) cls → PySem.W.exmAny X.K cls cs = some b →
  (∀ h', (∀ q o, s.heap.get? q = some o → h'.get? q = some o) → Q b { s with heap := h' }) →
  wpAny (model X.prog X.w) (X.A.mark (some (.ref a))) (eval te X.env) (fun c s1 => wpAny (model X.prog X.w) (X.A.mark (some (.ref a))) (excMatches (.ref a) c) Q E s1) E s
section
variable {X : Cx} {x x1 x2 x3 x4 : Str} {c c1 c2 c3 c4 : Value} {p p1 p2 p3 p4 : Pos}
end
/-- .. by the classes' names -/
structure TestQ (X : Cx) (te : Expr) (cs : List Str) : Prop where
  t : TestM X te (cs.map fun C => .ref (He.ga X.K C))
inductive HdsM (X : Cx) : List ExceptHandler → List (List Value × Nat × TS) → Prop
  | nil : HdsM X [] []
  | cons {te : Expr} {n : Str} {cs : List Value} {i : Nat} {ts : TS} {b₀ : Stmt} {suite : List Stmt} {pos' : Pos} {hds : List ExceptHandler} {l : List (List Value × Nat × TS)} (hc : TestM X te cs) (hi : X.N[i]? = some n) (hln : X.env.kindOf n = some .local)
      (hsu : ∀ (a : Addr) (pn : List (Addr × Obj)), PSs (X.suite a pn) (b₀ :: suite) ts) (r : HdsM X hds l) :
      HdsM X (.ExceptHandler (some te) (some n) (b₀ :: suite) pos' :: hds) ((cs, i, ts) :: l)
section
variable {X : Cx} {body : List Stmt} {h₀ : ExceptHandler} {hds : List ExceptHandler} {l : List (List Value × Nat × TS)} {pos : Pos} {tb : WX → TS} {Wout : WX}
end
section
variable {X : Cx} {B : Bs} {e : Expr} {pos p1 : Pos}
inductive HdsQ (X : Cx) (B : Bs) : List ExceptHandler → List (List Str × Nat × RdS) → Prop
  | nil : HdsQ X B [] []
  | cons {te : Expr} {n : Str} {cs : List Str} {i : Nat} {rs : RdS} {b₀ : Stmt} {suite : List Stmt} {pos' : Pos} {hds : List ExceptHandler} {l : List (List Str × Nat × RdS)} (hc : TestQ X te cs) (hi : X.N[i]? = some n) (hln : X.env.kindOf n = some .local)
      (hsu : ∀ (a : Addr) (pn : List (Addr × Obj)), PSsp (X.suite a pn) B.nox (b₀ :: suite) rs) (r : HdsQ X B hds l) :
      HdsQ X B (.ExceptHandler (some te) (some n) (b₀ :: suite) pos' :: hds) ((cs, i, rs) :: l)
def hdM (K : Frg) (B : Bs) (q : List Str × Nat × RdS) : List Value × Nat × TS := (q.1.map fun C => .ref (He.ga K C), q.2.1, tS K B.nox q.2.2)
theorem HdsQ.n {hds : List ExceptHandler} {l : List (List Str × Nat × RdS)} (h : HdsQ X B hds l) : HdsM X hds (l.map (hdM X.K B)) := by
  induction h with
  | nil => exact .nil
  | cons hc hi hln hsu _ ih => exact .cons hc.t hi hln hsu ih
end
/-! ### o.m(..), m a class method of o's class -/
section
variable {X : Cx} {B : Bs} {o e : Expr} {es : List Expr} {ro : Rd} {rl : RdA} {pos apos : Pos} {R : RdF} {k : Nat} {g p : Addr} {m : Str}
end
/-! ### isinstance(x, (list, tuple)), x any plain value -/
section
variable {X : Cx} {B : Bs} {a : Expr} {ra : Rd} {pos p0 : Pos}
end
theorem any_cons {K : Frg} {cls c : Value} {l : List Value} {b d : Bool} (h : PySem.W.exmOne K cls c = some b) (h' : PySem.W.exmAny K cls l = some d) : PySem.W.exmAny K cls (c :: l) = some (b || d) := by
  rw [PySem.W.exmAny, h, h']
section
variable {X : Cx} {B : Bs} {o e : Expr} {ro r : Rd} {pos apos cpos : Pos} {k : Nat}
end
section
variable {X : Cx} {B : Bs} {e2 : Expr} {r2 : Rd} {pos apos kpos cp : Pos} {R : RdF} {k : Nat} {g p : Addr} {m kn : Str}
end
end Y
namespace Y
open PySem PySem.Spec PyProof.Rows L2 Z
/-! ### a heap of changing things beside the slots -/
/-- what stands at an address: an instance, a list, a dict whose keys are tuples; a changing thing is told as D.fn of its address -/
inductive Gc where
  | obj (C : Str) (ns : List Str) (ds : List D) | lst (ds : List D) | dt (w : World) (kds : List (List Key × D)) | exc (x : Ex)
def GcR (K : Frg) (ms : List Addr) (F : Hp) (a : Addr) : Gc → HO → Prop
  | .obj C ns ds, o => ∃ dx vs, o = .ins (He.ga K C) dx (ns.zip vs) ∧ ns.length = vs.length ∧ Rps K ms F vs ds
  | .lst ds, o => MoR K ms F a (.lst ds) o
  | .dt w kds, o => MoR K ms F a (.dt w kds) o
  | .exc x, o => MoR K ms F a (.exc x) o
theorem GcR.up {K : Frg} {ms : List Addr} {F F' : Hp} {a : Addr} {c : Gc} {o : HO} (h : GcR K ms F a c o) (s : Same F F') : GcR K ms F' a c o := by
  cases c with
  | obj C ns ds => obtain ⟨dx, vs, e, l, r⟩ := h; exact ⟨dx, vs, e, l, r.up s⟩
  | lst ds => exact MoR.up (a := a) (m := .lst ds) h s
  | dt w kds => exact MoR.up (a := a) (m := .dt w kds) h s
  | exc x => exact MoR.up (a := a) (m := .exc x) h s
abbrev Gh := List (Addr × Gc)
def GR (K : Frg) (ms : List Addr) (F H : Hp) (γ : Gh) : Prop := ∀ x ∈ γ, ∃ o, F x.1 = none ∧ x.1 ∉ ms ∧ H x.1 = some o ∧ GcR K ms F x.1 x.2 o
theorem GR.go {K : Frg} {ms : List Addr} {F H F' H' : Hp} {γ : Gh} (h : GR K ms F H γ) (g : Go ms F H F' H') : GR K ms F' H' γ := fun x hx => by
  obtain ⟨o, h1, h2, h3, h4⟩ := h x hx
  obtain ⟨g1, g2⟩ := g.mu _ _ h2 h1 h3
  exact ⟨o, g1, h2, g2, h4.up g.ff⟩
def oA (σ : L2.St) (ρ : Ev) (a : Addr) : Prop := ∃ (i : Nat) (m : Mo), ρ[i]? = some (Sl.mu m) ∧ σ[i]? = some (some (V.ref a))
noncomputable def cutH (H : Hp) (S : Addr → Prop) : Hp := fun a => @ite _ (S a) (Classical.propDecidable _) none (H a)
theorem cut_in {H : Hp} {S : Addr → Prop} {a : Addr} (h : S a) : cutH H S a = none := by
  unfold cutH
  rw [if_pos h]
theorem cut_out {H : Hp} {S : Addr → Prop} {a : Addr} (h : ¬ S a) : cutH H S a = H a := by
  unfold cutH
  rw [if_neg h]
/-- the base of a def that changes things: the things that it was handed -/
structure Bg where
  ms : List Addr
  S : List Addr
  F0 : Hp
  H0 : Hp
  Ed : Ex → Gh → Prop
def Bg.to (G : Bg) : List Addr := G.S ++ G.ms
/-- the base of a plain row, run in such a def -/
noncomputable def Bg.pl (G : Bg) (F H : Hp) (σ : L2.St) (ρ : Ev) (γ : Gh) : Bs := ⟨G.ms, F, cutH H (oA σ ρ), fun x => G.Ed x γ⟩
structure IvG (K : Frg) (G : Bg) (F H : Hp) (σ : L2.St) (ρ : Ev) (γ : Gh) : Prop where
  go : Go G.to G.F0 G.H0 F H
  iv : Iv K (G.pl F H σ ρ γ) F H σ ρ
  gr : GR K G.ms F H γ
  dis : ∀ x ∈ γ, ¬ oA σ ρ x.1
  onew : ∀ a, oA σ ρ a → G.H0 a = none
  gnew : ∀ x ∈ γ, x.1 ∈ G.S ∨ G.H0 x.1 = none
  sin : ∀ a ∈ G.S, ∃ c, (a, c) ∈ γ
section
variable {K : Frg} {G : Bg} {F H F' H' : Hp} {σ σ' : L2.St} {ρ ρ' : Ev} {γ γ' : Gh}
theorem Iv.re {B B' : Bs} (I : Iv K B F H σ ρ) (hm : B'.ms = B.ms) (g : Go B'.ms B'.F0 B'.H0 F H) (hn : ∀ a, oA σ ρ a → B'.H0 a = none) : Iv K B' F H σ ρ where
  go := g
  tp := by rw [hm]; exact I.tp
  len := I.len
  val := fun i d h => by rw [hm]; exact I.val i d h
  own := fun i m h => by
    obtain ⟨a, o, h1, h2, h3, h4, h5, h6⟩ := I.own i m h
    exact ⟨a, o, h1, h2, by rw [hm]; exact h3, hn a ⟨i, m, h, h1⟩, h5, by rw [hm]; exact h6⟩
  sep := I.sep
theorem go_cut {ms : List Addr} {S : Addr → Prop} (s : Same F H) : Go ms F (cutH H S) F H := by
  refine ⟨Same.refl _, s, fun a o _ h1 h2 => ⟨h1, ?_⟩⟩
  by_cases z : S a
  · rw [cut_in z] at h2; cases h2
  · rw [cut_out z] at h2; exact h2
/-- what was new stays new -/
theorem go_stay {T : List Addr} {F0 H0 : Hp} {a : Addr} (g : Go T F0 H0 F H) (s : Same F0 H0) (ht : a ∉ T) (h : H a = none) : H0 a = none := go_none g s h ht
/-- a run from the present, seen from the start -/
theorem go_from {T ms : List Addr} {S : Addr → Prop} {F0 H0 : Hp} (g : Go T F0 H0 F H) (g2 : Go ms F (cutH H S) F' H') (hs : ∀ a, S a → H0 a = none) (hm : ∀ a ∈ ms, a ∈ T) : Go T F0 H0 F' H' := by
  refine ⟨g.ff.trans g2.ff, g2.fh, fun a o ha h1 h2 => ?_⟩
  obtain ⟨q1, q2⟩ := g.mu a o ha h1 h2
  refine g2.mu a o (fun z => ha (hm a z)) q1 ?_
  by_cases z : S a
  · have := hs a z; rw [this] at h2; cases h2
  · rw [cut_out z]; exact q2
theorem IvG.same (I : IvG K G F H σ ρ γ) : Same F H := I.iv.same
theorem to_ms : ∀ a ∈ G.ms, a ∈ G.to := fun a h => List.mem_append_right _ h
/-- plain rows lead on -/
theorem IvG.next (I : IvG K G F H σ ρ γ) (s0 : Same G.F0 G.H0) (J : Iv K (G.pl F H σ ρ γ) F' H' σ' ρ') : IvG K G F' H' σ' ρ' γ := by
  have gg : Go G.to G.F0 G.H0 F' H' := go_from I.go J.go I.onew to_ms
  have o0 : ∀ a, oA σ' ρ' a → cutH H (oA σ ρ) a = none := fun a ⟨i, m, h1, h2⟩ => by
    obtain ⟨b, o, q1, _, _, q4, _⟩ := J.own i m h1
    rw [h2] at q1
    cases q1
    exact q4
  have tG : ∀ a, oA σ' ρ' a → a ∉ G.ms := fun a ⟨i, m, h1, h2⟩ => by
    obtain ⟨b, o, q1, _, q3, _⟩ := J.own i m h1
    rw [h2] at q1
    cases q1
    exact q3
  have ghn : ∀ x ∈ γ, cutH H (oA σ ρ) x.1 ≠ none := fun x hx => by
    obtain ⟨o, _, _, h3, _⟩ := I.gr x hx
    rw [cut_out (I.dis x hx), h3]
    exact fun z => nomatch z
  refine ⟨gg, J.re rfl (go_cut J.same) fun a h => cut_in h, fun x hx => ?_, fun x hx z => ghn x hx (o0 _ z), fun a h => ?_, I.gnew, I.sin⟩
  · obtain ⟨o, h1, h2, h3, h4⟩ := I.gr x hx
    obtain ⟨g1, g2⟩ := J.go.mu x.1 o h2 h1 (by show cutH H (oA σ ρ) x.1 = _; rw [cut_out (I.dis x hx)]; exact h3)
    exact ⟨o, g1, h2, g2, h4.up J.go.ff⟩
  · by_cases z : oA σ ρ a
    · exact I.onew a z
    · have q := o0 a h
      rw [cut_out z] at q
      by_cases y : a ∈ G.S
      · obtain ⟨c, hc⟩ := I.sin a y
        exact absurd (o0 a h) (ghn _ hc)
      · exact go_stay I.go s0 (fun w => by
          rcases List.mem_append.mp w with w | w
          · exact y w
          · exact tG a h w) q
theorem IvG.step (I : IvG K G F H σ ρ γ) (s0 : Same G.F0 G.H0) (g : Go G.ms F H F' H') (t : Tp K G.ms F' H') : IvG K G F' H' σ ρ γ := I.next s0 (I.iv.step g t)
theorem IvG.set (I : IvG K G F H σ ρ γ) (s0 : Same G.F0 G.H0) {v : V} {d : D} (i : Nat) (r : Rp K G.ms F v d) : IvG K G F H (σ.set i (some v)) (ρ.set i (.val d)) γ := I.next s0 (I.iv.set i r)
/-- the things that there are at an end -/
def GhE (K : Frg) (G : Bg) (F H : Hp) (γ : Gh) : Prop := GR K G.ms F H γ ∧ (∀ x ∈ γ, x.1 ∈ G.S ∨ G.H0 x.1 = none) ∧ ∀ a ∈ G.S, ∃ c, (a, c) ∈ γ
theorem IvG.ends (I : IvG K G F H σ ρ γ) : GhE K G F H γ := ⟨I.gr, I.gnew, I.sin⟩
theorem IvG.base (I : IvG K G F H σ ρ γ) : Same F (cutH H (oA σ ρ)) := fun a o e => by
  have no : ¬ oA σ ρ a := fun ⟨i, m, h1, h2⟩ => by
    obtain ⟨b, u, q1, q2, _⟩ := I.iv.own i m h1
    rw [h2] at q1
    cases q1
    rw [e] at q2
    cases q2
  rw [cut_out no]
  exact I.same a o e
theorem IvG.grs (I : IvG K G F H σ ρ γ) : GR K G.ms F (cutH H (oA σ ρ)) γ := fun x hx => by
  obtain ⟨o, h1, h2, h3, h4⟩ := I.gr x hx
  exact ⟨o, h1, h2, by rw [cut_out (I.dis x hx)]; exact h3, h4⟩
/-- an end that plain rows reach -/
theorem IvG.endp (I : IvG K G F H σ ρ γ) (g : Go G.ms F (cutH H (oA σ ρ)) F' H') : Go G.to G.F0 G.H0 F' H' ∧ GhE K G F' H' γ := ⟨go_from I.go g I.onew to_ms, I.grs.go g, I.gnew, I.sin⟩
end
/-! ### judgements -/
structure EnG where
  nx : Ev → Gh → Prop
  rt : D → Gh → Prop
  bk : Ev → Gh → Prop := fun _ _ => False
  ct : Ev → Gh → Prop := fun _ _ => False
def EnG.at (E : EnG) (γ : Gh) : En := { nx := fun ρ => E.nx ρ γ, rt := fun d => E.rt d γ, bk := fun ρ => E.bk ρ γ, ct := fun ρ => E.ct ρ γ }
abbrev RdG := Ev → Gh → EnG → Prop
abbrev RdTG := Ev → Gh → (Bool → Gh → Prop) → Prop
abbrev RdEG := Ev → Gh → (D → Gh → Prop) → Prop
def tSg (K : Frg) (G : Bg) (r : RdG) : TS := fun Dd σ H => ∃ F ρ γ E, IvG K G F H σ ρ γ ∧ r ρ γ E ∧ (∀ σ' ρ' γ' F' H', Same F F' → IvG K G F' H' σ' ρ' γ' → E.nx ρ' γ' → Dd.nx σ' H') ∧
  (∀ v d γ' F' H', Go G.to G.F0 G.H0 F' H' → Tp K G.ms F' H' → Rp K G.ms F' v d → GhE K G F' H' γ' → E.rt d γ' → Dd.rt v H') ∧
  (∀ σ' ρ' γ' F' H', Same F F' → IvG K G F' H' σ' ρ' γ' → E.bk ρ' γ' → Dd.bk σ' H') ∧ (∀ σ' ρ' γ' F' H', Same F F' → IvG K G F' H' σ' ρ' γ' → E.ct ρ' γ' → Dd.ct σ' H')
def PSsg (X : Cx) (G : Bg) (st : List Stmt) (r : RdG) : Prop := PSs X st (tSg X.K G r)
def EEg (K : Frg) (G : Bg) : XK := fun cls d H' => ∃ F' x γ', Go G.to G.F0 G.H0 F' H' ∧ Tp K G.ms F' H' ∧ XR K G.ms F' cls d x ∧ GhE K G F' H' γ' ∧ G.Ed x γ'
abbrev PxG (X : Cx) (G : Bg) : Prop := Passes (L2N.CX X.prog X.w) X (EEg X.K G)
abbrev TkG (X : Cx) (G : Bg) : Prop := L2N.Takes X (fun cls d _ H => EEg X.K G cls d H)
section
variable {K : Frg} {G : Bg} {F H F' H' : Hp} {σ σ' : L2.St} {ρ ρ' : Ev} {γ γ' : Gh} {X : Cx}
theorem IvG.err (I : IvG K G F H σ ρ γ) {cls : Value} {d : Option Addr} (z : EE K (G.pl F H σ ρ γ) cls d H') : EEg K G cls d H' := by
  obtain ⟨F', x, g, t, xr, q⟩ := z
  obtain ⟨h1, h2⟩ := I.endp g
  exact ⟨F', x, γ, h1, t, xr, h2, q⟩
theorem IvG.px (I : IvG X.K G F H σ ρ γ) (hx : PxG X G) : Px X (G.pl F H σ ρ γ) := fun pins σ1 H1 s e s' I1 ⟨a, B, H2, cls, d, h1, h2, h3, h4, h5, h6, h7, h8⟩ => hx pins σ1 H1 s e s' I1 ⟨a, B, H2, cls, d, h1, h2, h3, h4, h5, h6, h7, I.err h8⟩
theorem IvG.tk (I : IvG X.K G F H σ ρ γ) (tk : TkG X G) : Tk X (G.pl F H σ ρ γ) := tk.imp fun _ _ _ _ z => I.err z
/-! ### plain rows in such a def -/
variable {st : Stmt} {rest bs cs : List Stmt} {e c tg iter : Expr} {pos : Pos}
/-! ### rows -/
variable {s1 s2 : RdG} {rt : RdTG} {re : RdEG}
end
end Y
namespace Y
open PySem PySem.Spec PyProof.Rows L2 Z
section
variable {K : Frg} {G : Bg} {F H F' H' : Hp} {σ σ' : L2.St} {ρ ρ' : Ev} {γ γ' : Gh}
theorem go_more {T U : List Addr} {F0 H0 : Hp} (g : Go T F0 H0 F H) (g2 : Go U F H F' H') (hU : ∀ a ∈ U, a ∈ T ∨ H0 a = none) : Go T F0 H0 F' H' := by
  refine ⟨g.ff.trans g2.ff, g2.fh, fun a o ha h1 h2 => ?_⟩
  obtain ⟨q1, q2⟩ := g.mu a o ha h1 h2
  refine g2.mu a o (fun z => ?_) q1 q2
  rcases hU a z with y | y
  · exact ha y
  · rw [y] at h2; cases h2
/-- changing things are changed -/
theorem IvG.jump (I : IvG K G F H σ ρ γ) {U : List Addr} (g : Go U F H F' H') (hU : ∀ a ∈ U, a ∈ G.to ∨ G.H0 a = none) (hO : ∀ a ∈ U, ¬ oA σ ρ a) (tp : Tp K G.ms F' H') (e : GhE K G F' H' γ') (dis : ∀ x ∈ γ', ¬ oA σ ρ x.1) : IvG K G F' H' σ ρ γ' := by
  refine ⟨go_more I.go g hU, ⟨go_cut tp.1, tp, I.iv.len, fun i d h => ?_, fun i m h => ?_, I.iv.sep⟩, e.1, dis, I.onew, e.2.1, e.2.2⟩
  · obtain ⟨v, h1, h2⟩ := I.iv.val i d h
    exact ⟨v, h1, h2.up g.ff⟩
  · obtain ⟨a, o, h1, h2, h3, h4, h5, h6⟩ := I.iv.own i m h
    have oa : oA σ ρ a := ⟨i, m, h, h1⟩
    obtain ⟨g1, g2⟩ := g.mu a o (fun z => hO a z oa) h2 h5
    exact ⟨a, o, h1, g1, h3, cut_in oa, g2, h6.up g.ff⟩
theorem IvG.ownH (I : IvG K G F H σ ρ γ) {a : Addr} (h : oA σ ρ a) : H a ≠ none ∧ a ∉ G.ms := by
  obtain ⟨i, m, h1, h2⟩ := h
  obtain ⟨b, o, q1, q2, q3, q4, q5, _⟩ := I.iv.own i m h1
  rw [h2] at q1
  cases q1
  exact ⟨(by rw [q5]; exact fun z => nomatch z), q3⟩
/-- a def that was handed all things has run -/
theorem IvG.call (I : IvG K G F H σ ρ γ) (s0 : Same G.F0 G.H0) {Ed : Ex → Gh → Prop} (g : Go (γ.map (·.1) ++ G.ms) F H F' H') (e : GhE K ⟨G.ms, γ.map (·.1), F, H, Ed⟩ F' H' γ') : (∀ a ∈ γ.map (·.1) ++ G.ms, a ∈ G.to ∨ G.H0 a = none) ∧ GhE K G F' H' γ' := by
  have hd : ∀ a ∈ γ.map (·.1), a ∈ G.S ∨ G.H0 a = none := fun a ha => by
    obtain ⟨x, hx, rfl⟩ := List.mem_map.mp ha
    exact I.gnew x hx
  refine ⟨fun a ha => ?_, e.1, fun x hx => ?_, fun a ha => ?_⟩
  · rcases List.mem_append.mp ha with ha | ha
    · rcases hd a ha with z | z
      · exact .inl (List.mem_append_left _ z)
      · exact .inr z
    · exact .inl (List.mem_append_right _ ha)
  · rcases e.2.1 x hx with z | z
    · exact hd x.1 z
    · by_cases y : x.1 ∈ G.S
      · exact .inl y
      · obtain ⟨o, _, nm, _⟩ := e.1 x hx
        exact .inr (go_stay I.go s0 (fun w => by
          rcases List.mem_append.mp w with w | w
          · exact y w
          · exact nm w) z)
  · obtain ⟨c, hc⟩ := I.sin a ha
    exact e.2.2 a (List.mem_map.mpr ⟨_, hc, rfl⟩)
theorem IvG.called (I : IvG K G F H σ ρ γ) (s0 : Same G.F0 G.H0) {Ed : Ex → Gh → Prop} (g : Go (γ.map (·.1) ++ G.ms) F H F' H') (t : Tp K G.ms F' H') (e : GhE K ⟨G.ms, γ.map (·.1), F, H, Ed⟩ F' H' γ') : IvG K G F' H' σ ρ γ' := by
  obtain ⟨h1, h2⟩ := I.call s0 g e
  refine I.jump g h1 (fun a ha z => ?_) t h2 fun x hx z => ?_
  · rcases List.mem_append.mp ha with ha | ha
    · obtain ⟨x, hx, rfl⟩ := List.mem_map.mp ha
      exact I.dis x hx z
    · exact (I.ownH z).2 ha
  · rcases e.2.1 x hx with y | y
    · obtain ⟨x', hx', e'⟩ := List.mem_map.mp y
      exact I.dis x' hx' (by rw [e']; exact z)
    · exact (I.ownH z).1 y
def gPut (γ : Gh) (a : Addr) (c : Gc) : Gh := γ.map fun x => if x.1 = a then (a, c) else x
theorem gPut_dom {a : Addr} {c : Gc} {x : Addr × Gc} (h : x ∈ gPut γ a c) : ∃ y ∈ γ, y.1 = x.1 := by
  obtain ⟨y, hy, rfl⟩ := List.mem_map.mp h
  refine ⟨y, hy, ?_⟩
  by_cases e : y.1 = a
  · rw [if_pos e]; exact e
  · rw [if_neg e]
/-- one thing is written -/
theorem IvG.put (I : IvG K G F H σ ρ γ) {a : Addr} {c c' : Gc} {o' : HO} (hm : (a, c) ∈ γ) (r : GcR K G.ms F a c' o') : IvG K G F (upd H a o') σ ρ (gPut γ a c') := by
  obtain ⟨o, f0, nm, ha, _⟩ := I.gr _ hm
  have gp : Go [a] F H F (upd H a o') := Go.put I.same f0
  have tp : Tp K G.ms F (upd H a o') := I.iv.tp.gox gp nm
  refine I.jump gp (fun b hb => ?_) (fun b hb z => ?_) tp ⟨fun x hx => ?_, fun x hx => ?_, fun b hb => ?_⟩ fun x hx => ?_
  · obtain rfl : b = a := by simpa using hb
    rcases I.gnew _ hm with z | z
    · exact .inl (List.mem_append_left _ z)
    · exact .inr z
  · obtain rfl : b = a := by simpa using hb
    exact I.dis _ hm z
  · obtain ⟨y, hy, rfl⟩ := List.mem_map.mp hx
    by_cases e : y.1 = a
    · rw [if_pos e]
      exact ⟨o', f0, nm, upd_same, r⟩
    · rw [if_neg e]
      obtain ⟨u, h1, h2, h3, h4⟩ := I.gr y hy
      exact ⟨u, h1, h2, by rw [upd_ne e]; exact h3, h4⟩
  · obtain ⟨y, hy, e⟩ := gPut_dom hx
    rw [← e]
    exact I.gnew y hy
  · obtain ⟨d, hd⟩ := I.sin b hb
    by_cases e : b = a
    · exact ⟨c', List.mem_map.mpr ⟨_, hd, by rw [if_pos e, e]⟩⟩
    · exact ⟨d, List.mem_map.mpr ⟨_, hd, by rw [if_neg e]⟩⟩
  · obtain ⟨y, hy, e⟩ := gPut_dom hx
    rw [← e]
    exact I.dis y hy
end
/-! ### contracts -/
abbrev RdFG := List D → Gh → (D → Gh → Prop) → (Ex → Gh → Prop) → Prop
/-- a def that changes the things that it is handed -/
def spG (K : Frg) (R : RdFG) : Sp := fun vs H Q E => ∃ ms F γ ds Qd Ed, Tp K ms F H ∧ Rps K ms F vs ds ∧ GR K ms F H γ ∧ R ds γ Qd Ed ∧
  (∀ v d γ' F' H', Go (γ.map (·.1) ++ ms) F H F' H' → Tp K ms F' H' → Rp K ms F' v d → GhE K ⟨ms, γ.map (·.1), F, H, Ed⟩ F' H' γ' → Qd d γ' → Q v H') ∧
  (∀ cls d F' H' x γ', Go (γ.map (·.1) ++ ms) F H F' H' → Tp K ms F' H' → XR K ms F' cls d x → GhE K ⟨ms, γ.map (·.1), F, H, Ed⟩ F' H' γ' → Ed x γ' → E cls d H')
section
variable {P : Program} {w : World} {K : Frg} {mg : Str → Option Value} {base : Heap}
end
end Y
namespace Y
open PySem PySem.Spec PyProof.Rows L2 Z
/-! ### changing things are read -/
section
variable {X : Cx} {B : Bs} {γ : Gh} {o e : Expr} {es : List Expr} {r ro : Rd} {rl : RdA} {pos apos p0 : Pos} {k : Nat} {f : Addr} {m fl : Str}
end
/-! ### changing things are changed -/
section
variable {X : Cx} {G : Bg} {o e ev : Expr} {es : List Expr} {r ro rv : Bs → Gh → Rd} {rl : Bs → Gh → RdA} {re : RdEG} {pos apos p0 pos' : Pos} {k i : Nat} {f : Addr} {m fl x : Str}
abbrev Bg.at (G : Bg) (F0 H0 : Hp) (γ : Gh) : Bs := ⟨G.ms, F0, H0, fun x => G.Ed x γ⟩
end
end Y
namespace Y
open PySem PySem.Spec PyProof.Rows L2 Z
/-! ### new things -/
section
variable {K : Frg} {G : Bg} {F H H' : Hp} {σ : L2.St} {ρ : Ev} {γ : Gh}
theorem IvG.add (I : IvG K G F H σ ρ γ) (s0 : Same G.F0 G.H0) {p : Addr} {o : HO} {c : Gc} (g : Go [] F H F H') (hp : H p = none) (hp' : H' p = some o) (r : GcR K G.ms F p c o) : IvG K G F H' σ ρ ((p, c) :: γ) := by
  have fp : F p = none := same_none I.same hp
  have nm := I.iv.tp.nms hp
  refine I.jump g (fun _ h => nomatch h) (fun _ h => nomatch h) (I.iv.tp.go0 g) ⟨fun x hx => ?_, fun x hx => ?_, fun a ha => ?_⟩ fun x hx => ?_
  · rcases List.mem_cons.mp hx with rfl | hx
    · exact ⟨o, fp, nm, hp', r⟩
    · exact (I.gr.go (ms := G.ms) (γ := γ) g.nil) x hx
  · rcases List.mem_cons.mp hx with rfl | hx
    · by_cases y : p ∈ G.S
      · exact .inl y
      · exact .inr (go_stay I.go s0 (fun w => by
          rcases List.mem_append.mp w with w | w
          · exact y w
          · exact nm w) hp)
    · exact I.gnew x hx
  · obtain ⟨d, hd⟩ := I.sin a ha
    exact ⟨d, List.mem_cons_of_mem _ hd⟩
  · rcases List.mem_cons.mp hx with rfl | hx
    · exact fun z => (I.ownH z).1 hp
    · exact I.dis x hx
theorem IvG.fresh (I : IvG K G F H σ ρ γ) {p : Addr} (hp : H p = none) : ∀ x ∈ γ, x.1 ≠ p := fun x hx e => by
  obtain ⟨o, _, _, h, _⟩ := I.gr x hx
  rw [e, hp] at h
  cases h
end
section
variable {X : Cx} {G : Bg} {o e ev : Expr} {es : List Expr} {re : RdEG} {rl : Bs → Gh → RdA} {pos apos p0 pos' op : Pos} {k i j : Nat} {f : Addr} {m fl x C ox : Str} {ns : List Str}
end
end Y
namespace Y
open PySem PySem.Spec PyProof.Rows L2 Z
/-! ### max and min of a list of shown data -/
section
variable {X : Cx}
end
/-! ### contracts of a given number of values -/
section
variable {α β : Type}
variable {ds : List D} {γ : Gh} {Q : α} {E : β}
end
end Y
namespace Y
open PySem PySem.Spec PyProof.Rows L2 Z
/-! ### defs that make changing things for themselves -/
section
variable {P : Program} {w : World} {K : Frg} {mg : Str → Option Value} {base : Heap}
end
end Y
namespace Y
open PySem PySem.Spec PyProof.Rows L2 Z
/-! ### own dicts with text keys: {}, setdefault, told at the end -/
section
variable {K : Frg} {B : Bs} {F H : Hp} {σ : L2.St} {ρ : Ev}
end
section
variable {X : Cx} {B : Bs} {a b c e f o : Expr} {es : List Expr} {ra rb rc r rf ro : Rd} {rt ru : RdT} {rl : RdA} {pos pos' p0 p2 pv apos cpos : Pos} {k i : Nat} {x : Str} {s1 s2 : RdS}
end
end Y
namespace GX
open PySem PySem.Spec PyProof.Rows L2 Z Y
/-! ### a loop over a generator whose body changes things -/
section
variable {X : Cx} {G : Bg} {pos : Pos} {iter tg : Expr} {s1 : RdG}
end
end GX
namespace Y
open PySem PySem.Spec PyProof.Rows L2 Z
/-! ### expressions that change things: values in a row, lists, tests -/
abbrev RdAG := Ev → Gh → (List D → Gh → Prop) → Prop
section
variable {X : Cx} {G : Bg} {a b o e : Expr} {es : List Expr} {ra rb ro re : RdEG} {rl : RdAG} {pos apos cpos p0 pos' : Pos} {k i j : Nat} {f : Addr} {x y : Str}
/-! ### lists that are things -/
def gLst (γ : Gh) (d : D) (k : Addr → List D → Prop) : Prop := ∃ q ds, d = .fn q ∧ (q, Gc.lst ds) ∈ γ ∧ k q ds
end
end Y
namespace Y
open PySem PySem.Spec PyProof.Rows L2 Z
/-! ### lists that are things, read -/
section
variable {K : Frg} {ms : List Addr} {F H F' H' : Hp} {γ : Gh}
end
section
variable {X : Cx} {B : Bs} {γ : Gh} {a b o e : Expr} {es : List Expr} {ra rb r ro : Rd} {rl : RdA} {pos apos p0 : Pos} {k : Nat} {f : Addr} {m x : Str}
/-! ### properties and len of things, reading alone -/
/-! ### a list beside the empty one, whatever is in it -/
end
/-! ### calls that change things, with arguments that change things -/
section
variable {K : Frg} {G : Bg} {F F2 H2 : Hp} {σ : L2.St} {ρ : Ev} {γ2 : Gh} {R : RdFG}
theorem IvG.sp (J : IvG K G F2 H2 σ ρ γ2) (s0 : Same G.F0 G.H0) {vs : List V} {ds : List D} {Qd : D → Gh → Prop} {Q : VK} (r : Rps K G.ms F2 vs ds) (z : R ds γ2 Qd G.Ed) (kk : ∀ v d γ' F' H', Same F2 F' → IvG K G F' H' σ ρ γ' → Rp K G.ms F' v d → Qd d γ' → Q v H') : spG K R vs H2 Q (EEg K G) :=
  ⟨G.ms, F2, γ2, ds, Qd, G.Ed, J.iv.tp, r, J.gr, z, fun v d γ' F3 H3 g3 t3 r3 e3 q3 => kk v d γ' F3 H3 g3.ff (J.called s0 g3 t3 e3) r3 q3, fun cls d F3 H3 x γ' g3 t3 xr e3 q => ⟨F3, x, γ', go_more J.go g3 (J.call s0 g3 e3).1, t3, xr, (J.call s0 g3 e3).2, q⟩⟩
end
section
variable {X : Cx} {G : Bg} {a b o e e2 : Expr} {es : List Expr} {ra rb ro re r2 : RdEG} {rl : RdAG} {pos apos cpos p0 pos' kpos : Pos} {k i j : Nat} {f : Addr} {x y m C kn : Str} {R : RdFG}
section
variable {cs ns : List Str} {pl : Sem Bool}
end
end
end Y
namespace Y
open PySem PySem.Spec PyProof.Rows L2 Z
/-! ### raise C(), C an own class of errors without __init__ -/
structure XnB (K : Frg) (C : Addr) : Prop where
  q : PySem.W.excIn K C bsRun "RuntimeError.__new__" = true
  kC : PySem.W.keepIn K (.ref C) = true
  exC : PySem.W.subIn K (.ref C) (.type "BaseException") = some true
  tyC : PySem.W.typeIn K (.ref C) = some (.type "type")
section
variable {X : Cx} {B : Bs} {G : Bg} {x : Str} {p pos pos2 : Pos}
end
/-! ### contracts: a last parameter by name -/
section
variable {P : Program} {w : World} {K : Frg} {mg : Str → Option Value} {base : Heap}
end
/-! ### try around what changes things -/
def Bg.nox (G : Bg) : Bg := { G with Ed := fun _ _ => False }
section
variable {K : Frg} {G : Bg} {F H F' H' : Hp} {σ σ' : L2.St} {ρ ρ' : Ev} {γ γ' : Gh}
theorem IvG.nox (I : IvG K G F H σ ρ γ) : IvG K G.nox F H σ ρ γ := ⟨I.go, ⟨I.iv.go, I.iv.tp, I.iv.len, I.iv.val, I.iv.own, I.iv.sep⟩, I.gr, I.dis, I.onew, I.gnew, I.sin⟩
theorem IvG.unnox (I : IvG K G.nox F H σ ρ γ) : IvG K G F H σ ρ γ := ⟨I.go, ⟨I.iv.go, I.iv.tp, I.iv.len, I.iv.val, I.iv.own, I.iv.sep⟩, I.gr, I.dis, I.onew, I.gnew, I.sin⟩
end
section
variable {X : Cx} {G : Bg}
end
abbrev RdX := Ev → Gh → EnG → (Ex → Ev → Gh → Prop) → Prop
abbrev RdEX := Ev → Gh → (D → Gh → Prop) → (Ex → Gh → Prop) → Prop
section
variable {X : Cx} {G : Bg} {st : Stmt} {rest bs cs : List Stmt} {e o c : Expr} {es : List Expr} {s1 s2 : RdX} {rt : RdTG} {re ro : RdEG} {rx : RdEX} {rl : RdAG} {pos p1 apos p0 : Pos} {k : Nat} {f : Addr} {m x : Str} {R : RdFG}
section
variable {cs ns : List Str} {pl : Sem Bool}
end
/-! ### the clauses -/
inductive HdsG (X : Cx) (G : Bg) : List ExceptHandler → List (Str × Nat × RdG) → Prop
  | nil : HdsG X G [] []
  | cons {x n : Str} {i : Nat} {rs : RdG} {b₀ : Stmt} {suite : List Stmt} {np pos' : Pos} {hds : List ExceptHandler} {l : List (Str × Nat × RdG)} (hc : Names X x (.ref (He.ga X.K x))) (hi : X.N[i]? = some n) (hln : X.env.kindOf n = some .local)
      (hsu : ∀ (a : Addr) (pn : List (Addr × Obj)), PSsg (X.suite a pn) G.nox (b₀ :: suite) rs) (r : HdsG X G hds l) :
      HdsG X G (.ExceptHandler (some (.Name x np)) (some n) (b₀ :: suite) pos' :: hds) ((x, i, rs) :: l)
def hdG (K : Frg) (G : Bg) (q : Str × Nat × RdG) : Value × Nat × (Addr → TS) := (.ref (He.ga K q.1), q.2.1, fun _ => tSg K G.nox q.2.2)
theorem HdsG.n {hds : List ExceptHandler} {l : List (Str × Nat × RdG)} (h : HdsG X G hds l) : HdsN X hds (l.map (hdG X.K G)) := by
  induction h with
  | nil => exact .nil
  | cons hc hi hln hsu _ ih => exact .cons hc hi hln hsu ih
theorem IvG.newM {K : Frg} {F H : Hp} {σ : L2.St} {ρ : Ev} {γ : Gh} (I : IvG K G F H σ ρ γ) (s0 : Same G.F0 G.H0) {p : Addr} {o : HO} {m : Mo} {H2 : Hp} (i : Nat) (hp : H p = none) (e : H2 = upd H p o) (r : MoR K G.ms F p m o) : IvG K G F H2 (σ.set i (some (.ref p))) (ρ.set i (.mu m)) γ :=
  I.next s0 (I.iv.newM I.base i hp e r)
theorem IvG.wipe {K : Frg} {F H : Hp} {σ : L2.St} {ρ : Ev} {γ : Gh} (I : IvG K G F H σ ρ γ) (s0 : Same G.F0 G.H0) (i : Nat) : IvG K G F H (σ.set i none) (ρ.set i .no) γ := I.next s0 (I.iv.wipe i)
end
/-! ### a plain state goes on to change things -/
/-! ### isinstance(e, T), T a built-in class -/
end Y
namespace Y
open PySem PySem.Spec PyProof.Rows L2 Z
/-! ### a list that is a thing, lent to a def that knows nothing of things -/
section
variable {K : Frg} {ms : List Addr} {F H : Hp}
end
section
variable {X : Cx} {B : Bs} {γ : Gh} {a b o e : Expr} {es : List Expr} {ra rb r ro : Rd} {rl : RdA} {pos apos p0 : Pos} {k : Nat} {f : Addr} {m x : Str} {R : RdF}
end
section
variable {X : Cx} {B : Bs} {e : Expr} {es : List Expr} {rl : RdA} {pos p0 : Pos}
end
/-! ### an own list that a def hands out becomes a thing -/
section
variable {K : Frg} {G : Bg} {F H : Hp} {σ : L2.St} {ρ : Ev} {γ : Gh}
theorem IvG.take (I : IvG K G F H σ ρ γ) {a : Addr} {vs : List V} {ds : List D} (fa : F a = none) (ha : H a = some (.lst vs)) (nm : a ∉ G.ms) (no : ¬ oA σ ρ a) (n0 : G.H0 a = none) (r : Rps K G.ms F vs ds) : IvG K G F H σ ρ ((a, .lst ds) :: γ) := by
  refine ⟨I.go, ⟨I.iv.go, I.iv.tp, I.iv.len, I.iv.val, I.iv.own, I.iv.sep⟩, fun x hx => ?_, fun x hx => ?_, I.onew, fun x hx => ?_, fun b hb => ?_⟩
  · rcases List.mem_cons.mp hx with rfl | hx
    · exact ⟨_, fa, nm, ha, vs, rfl, r⟩
    · exact I.gr x hx
  · rcases List.mem_cons.mp hx with rfl | hx
    · exact no
    · exact I.dis x hx
  · rcases List.mem_cons.mp hx with rfl | hx
    · exact .inr n0
    · exact I.gnew x hx
  · obtain ⟨c, hc⟩ := I.sin b hb
    exact ⟨c, List.mem_cons_of_mem _ hc⟩
def dropG (γ : Gh) (q : Addr) : Gh := γ.filter fun x => decide (x.1 ≠ q)
theorem drop_mem {q : Addr} {x : Addr × Gc} : x ∈ dropG γ q ↔ x ∈ γ ∧ x.1 ≠ q := by
  unfold dropG
  rw [List.mem_filter, decide_eq_true_iff]
/-- a new thing is frozen: told data from now on -/
theorem IvG.frz (I : IvG K G F H σ ρ γ) {q : Addr} {C : Str} {ns : List Str} {ds : List D} (hm : (q, Gc.obj C ns ds) ∈ γ) (n0 : G.H0 q = none) (nS : q ∉ G.S) : ∃ F', Same F F' ∧ IvG K G F' H σ ρ (dropG γ q) ∧ Rp K G.ms F' (.ref q) (.obj C ns ds) := by
  obtain ⟨o, f0, nm, h0, dx, vs, rfl, hl, rs⟩ := I.gr _ hm
  have gp : Go [q] F H (upd F q (.ins (He.ga K C) dx (ns.zip vs))) H := Go.freeze I.same f0 h0
  refine ⟨_, gp.ff, I.jump gp (fun a ha => ?_) (fun a ha => ?_) (I.iv.tp.gox gp nm) ⟨fun x hx => ?_, fun x hx => ?_, fun a ha => ?_⟩ fun x hx => ?_, .obj upd_same hl (rs.up gp.ff)⟩
  · obtain rfl : a = q := by simpa using ha
    exact .inr n0
  · obtain rfl : a = q := by simpa using ha
    exact I.dis _ hm
  · obtain ⟨h1, h2⟩ := drop_mem.mp hx
    obtain ⟨u, k1, k2, k3, k4⟩ := I.gr x h1
    exact ⟨u, by rw [upd_ne h2]; exact k1, k2, k3, k4.up gp.ff⟩
  · exact I.gnew x (drop_mem.mp hx).1
  · obtain ⟨c, hc⟩ := I.sin a ha
    exact ⟨c, drop_mem.mpr ⟨hc, fun z => nS (z ▸ ha)⟩⟩
  · exact I.dis x (drop_mem.mp hx).1
end
section
variable {X : Cx} {G : Bg} {a b o e e2 : Expr} {es rest : List Expr} {ra rb ro re r2 : RdEG} {rt ru : RdTG} {rl : RdAG} {pos apos cpos p0 pos' kpos : Pos} {k i j : Nat} {f : Addr} {x y m C kn : Str} {R : RdFG}
end
section
variable {P : Program} {w : World} {K : Frg} {mg : Str → Option Value} {base : Heap}
end
end Y
namespace Y
end Y
namespace Y
open PySem PySem.Spec PyProof.Rows L2 Z
/-! ### repr of data that holds dicts beside lists: the dict of the modules is no list -/
def SysD (K : Frg) : Prop := ∃ o, K.lookup sysModules = some o ∧ o.cls = .type "dict"
def bSys : Frg → Bool := fun K => match K.lookup sysModules with
  | some o => decide (o.cls = .type "dict")
  | none => false
theorem sys_of {K : Frg} (h : bSys K = true) : SysD K := by
  unfold bSys at h
  split at h
  · exact ⟨_, by assumption, of_decide_eq_true h⟩
  · cases h
mutual
def toN : D → PyData
  | .lst ds => .list (toNs ds)
  | .tup ds => .tuple (toNs ds)
  | .dic ks ds => kvPy ks ds
  | d => toP d
def toNs : List D → List PyData
  | [] => []
  | d :: ds => toN d :: toNs ds
end
mutual
def shN : D → Prop
  | .lst ds => shNs ds
  | .tup ds => shNs ds
  | .dic ks ds => (∀ k ∈ ks, flK k) ∧ (∀ x ∈ ds, flD x) ∧ ks.length = ds.length
  | d => shP 0 d
def shNs : List D → Prop
  | [] => True
  | d :: ds => shN d ∧ shNs ds
end
mutual
theorem n_short : ∀ d : D, shN d → (toN d).leavesShort 1921 = true
  | .lst ds, h => n_shorts ds h
  | .tup ds, h => n_shorts ds h
  | .dic ks ds, h => (kv_short h.1 h.2.1).1
  | .non, h => sh_short (n := 0) _ h
  | .bl _, h => sh_short (n := 0) _ h
  | .int _, h => sh_short (n := 0) _ h
  | .str _, h => sh_short (n := 0) _ h
  | .obj _ _ _, h => h.elim
  | .ty _, h => h.elim
  | .glob _, h => h.elim
  | .tape, h => h.elim
  | .fn _, h => h.elim
  | .dpl _ _, h => h.elim
theorem n_shorts : ∀ ds : List D, shNs ds → PyData.leavesShortAll 1921 (toNs ds) = true
  | [], _ => rfl
  | d :: ds, h => by
    show ((toN d).leavesShort 1921 && PyData.leavesShortAll 1921 (toNs ds)) = true
    rw [n_short d h.1, n_shorts ds h.2]
    rfl
end
mutual
theorem n_able : ∀ d : D, shN d → (toN d).showable = true
  | .lst ds, h => n_ables ds h
  | .tup ds, h => n_ables ds h
  | .dic ks ds, h => (kv_short h.1 h.2.1).2
  | .non, h => sh_able (n := 0) _ h
  | .bl _, h => sh_able (n := 0) _ h
  | .int _, h => sh_able (n := 0) _ h
  | .str _, h => sh_able (n := 0) _ h
  | .obj _ _ _, h => h.elim
  | .ty _, h => h.elim
  | .glob _, h => h.elim
  | .tape, h => h.elim
  | .fn _, h => h.elim
  | .dpl _ _, h => h.elim
theorem n_ables : ∀ ds : List D, shNs ds → PyData.showableAll (toNs ds) = true
  | [], _ => rfl
  | d :: ds, h => by
    show ((toN d).showable && PyData.showableAll (toNs ds)) = true
    rw [n_able d h.1, n_ables ds h.2]
    rfl
end
section
variable {X : Cx} {B : Bs} {pins : List (Addr × Obj)} {σ : L2.St} {H F : Hp} {s : Shared} {ms : List Addr}
theorem no_sys {a : Addr} {o : Obj} (hy : SysD X.K) (I : L2.Inv X pins σ H s) (hg : s.heap.get? a = some o) (hc : o.cls = .type "list") : sysModules ≠ a := fun e => by
  obtain ⟨o', h1, h2⟩ := hy
  have h3 := I.kIn _ _ h1
  rw [e, hg] at h3
  have e2 : o = o' := Option.some.inj h3
  rw [← e2, hc] at h2
  exact absurd h2 (by decide)
mutual
theorem n_reads (hy : SysD X.K) (I : L2.Inv X pins σ H s) (hs : Same F H) : ∀ (d : D) (v : V) (u : Value), shN d → Rp X.K ms F v d → RelV v u → ∃ as, Reads s.heap u (toN d) as ∧ sysModules ∉ as
  | .non, _, u, _, r, e => by
    cases r
    obtain rfl : u = Value.none := e
    exact ⟨_, .none, List.not_mem_nil⟩
  | .bl b, _, u, _, r, e => by
    cases r
    obtain rfl : u = Value.bool b := e
    exact ⟨_, .bool b, List.not_mem_nil⟩
  | .int i, _, u, _, r, e => by
    cases r
    obtain ⟨t, rfl⟩ := (show ∃ t, u = Value.int i t from e)
    exact ⟨_, .int i t, List.not_mem_nil⟩
  | .str x, _, u, _, r, e => by
    cases r
    obtain ⟨t, rfl⟩ := (show ∃ t, u = Value.str x t from e)
    exact ⟨_, .str x t, List.not_mem_nil⟩
  | .lst ds, _, u, h, r, e => by
    cases r with
    | @lst a vs _ h1 h2 =>
      obtain rfl : u = Value.ref a := e
      obtain ⟨_, its, n, rv, hg⟩ := I.hok a _ (hs _ _ h1)
      obtain ⟨as, q, nq⟩ := n_readss hy I hs ds vs its h h2 rv
      exact ⟨_, .list hg rfl rfl (by simpa using q), fun m => (List.mem_cons.mp m).elim (no_sys hy I hg rfl) nq⟩
  | .tup ds, _, u, h, r, e => by
    cases r with
    | @tup a vs _ h1 h2 =>
      obtain rfl : u = Value.ref a := e
      obtain ⟨its, rv, ⟨o, hg, hc, n, hd⟩, _⟩ := I.tuple (sqT hs h1)
      obtain ⟨as, q, nq⟩ := n_readss hy I hs ds vs its h h2 rv
      exact ⟨_, .tuple hg hc hd (by simpa using q), nq⟩
  | .dic ks ds, _, u, h, r, e => by
    obtain ⟨fk, fd, hl⟩ := h
    cases r with
    | @dic a o0 _ vs _ h1 h2 h3 =>
    obtain rfl : u = Value.ref a := e
    obtain ⟨_, hz, vs', rel, o, es, ep, e1, e2, e3, e4, e5⟩ := dk_rd I.hok (.inr ⟨_, hs _ _ h1⟩)
    have m1 : (ks.zip vs).map (·.2) = vs := List.map_snd_zip (by omega)
    have m2 : (ks.zip vs).map (·.1) = ks := List.map_fst_zip (by omega)
    have kr := keys_read (h := s.heap) e5.1
    have vr := vals_read (X := X) (ms := ms) (F := F) (h := s.heap) (ks := ks) (ds := ds) e5.1 rel (by rw [m1]; exact h3) fd
    have ek : vs'.map (fun q => shK q.1) = ks.map shK := by
      have := kv_fst rel
      rw [m2] at this
      rw [← this, List.map_map]
      rfl
    rw [ek] at kr
    have z1 : ((ks.zip ds).map fun q => (shK q.1, toP q.2)).map (·.1) = ks.map shK := by
      rw [List.map_map]
      have := List.map_fst_zip (l₁ := ks) (l₂ := ds) (by omega)
      rw [show ks.map shK = ((ks.zip ds).map (·.1)).map shK by rw [this], List.map_map]
      rfl
    have z2 : ((ks.zip ds).map fun q => (shK q.1, toP q.2)).map (·.2) = ds.map toP := by
      rw [List.map_map]
      have := List.map_snd_zip (l₁ := ks) (l₂ := ds) (by omega)
      rw [show ds.map toP = ((ks.zip ds).map (·.2)).map toP by rw [this], List.map_map]
      rfl
    refine ⟨_, Reads.dict (as := []) (bs := []) e1 e2.1 e3 (by rw [z1]; exact kr) (by rw [z2]; exact vr), fun m => ?_⟩
    have ea : sysModules = a := by simpa using m
    rw [ea] at hz
    simp at hz
  | .obj _ _ _, _, _, h, _, _ => h.elim
  | .ty _, _, _, h, _, _ => h.elim
  | .glob _, _, _, h, _, _ => h.elim
  | .tape, _, _, h, _, _ => h.elim
  | .fn _, _, _, h, _, _ => h.elim
  | .dpl _ _, _, _, h, _, _ => h.elim
theorem n_readss (hy : SysD X.K) (I : L2.Inv X pins σ H s) (hs : Same F H) : ∀ (ds : List D) (vs : List V) (us : List Value), shNs ds → Rps X.K ms F vs ds → Vals vs us → ∃ as, ReadsAll s.heap us (toNs ds) as ∧ sysModules ∉ as
  | [], _, _, _, r, e => by
    cases r
    cases e
    exact ⟨_, .nil, List.not_mem_nil⟩
  | d :: ds, _, _, h, r, e => by
    cases r with
    | cons r1 r2 =>
      cases e with
      | cons e1 e2 =>
        obtain ⟨as, q1, n1⟩ := n_reads hy I hs d _ _ h.1 r1 e1
        obtain ⟨bs, q2, n2⟩ := n_readss hy I hs ds _ _ h.2 r2 e2
        exact ⟨_, .cons q1 q2, fun m => (List.mem_append.mp m).elim n1 n2⟩
end
def shM (d : D) : Str := (toN d).shown
def shMP (d : D) : Prop := shN d ∧ (toN d).bulk ≤ 8000 ∧ (toN d).depth ≤ 40
theorem n_len {d : D} (h : shN d) (hb : (toN d).bulk ≤ 8000) : (toN d).shown.length ≤ sizeLine := by
  have z := PyData.shown_le_bulk 1921 (by decide) (toN d) (n_short d h)
  have : (2 : Nat) ^ 24 = 16777216 := by decide
  show _ ≤ 2 ^ 24
  omega
def rReprN (K : Frg) (xs : List V) (H : Hp) (Q : VK) : Prop := ∃ (ms : List Addr) (F : Hp) (v : V) (d : D), xs = [v] ∧ Same F H ∧ Rp K ms F v d ∧ shMP d ∧ Q (.str (shM d)) H
theorem call_reprN (hy : SysD X.K) (hu : X.A.units + 64 < cLine) (hgd : X.A.guards = some []) : CallR X (.builtin "repr") (rReprN X.K) := by
  intro pins s σ H xs us Q I r h
  obtain ⟨ms, F, v, d, rfl, hs, rd, ⟨hp, hb, hd⟩, q⟩ := h
  obtain ⟨u, rfl, ru⟩ := vals1 r
  have hl := n_len hp hb
  obtain ⟨as, rr, ns⟩ := n_reads hy I hs d v u hp rd ru
  have fin : ∀ h' u' tk, (∀ b o, s.heap.get? b = some o → h'.get? b = some o) → EP X pins σ Q (.str (toN d).shown u') { s with heap := h', toks := tk } := fun h' u' tk hk => ⟨.str _, H, I.kept hk, ⟨_, rfl⟩, q⟩
  have ab := n_able d hp
  cases rd with
  | non =>
    obtain rfl : u = Value.none := ru
    exact PySem.P.repr_of_none (fin _ _ _ fun _ _ e => e)
  | bl b =>
    obtain rfl : u = Value.bool b := ru
    exact PySem.P.repr_of_bool (fin _ _ _ fun _ _ e => e)
  | int i =>
    obtain ⟨t, rfl⟩ := (show ∃ t, u = Value.int i t from ru)
    exact PySem.P.repr_of_int (sz1900 hp) (fin _ _ _ fun _ _ e => e)
  | str x =>
    obtain ⟨t, rfl⟩ := (show ∃ t, u = Value.str x t from ru)
    exact PySem.P.repr_of_str (fin _ _ _ fun _ _ e => e) hl
  | ty _ => exact hp.elim
  | glob _ => exact hp.elim
  | tape _ => exact hp.elim
  | fn _ => exact hp.elim
  | dpl _ _ _ _ _ _ _ => exact hp.elim
  | obj _ _ _ => exact hp.elim
  | dic h1 h2 h3 =>
    obtain rfl : u = Value.ref _ := ru
    exact repr_of_reads' rr ab (fun _ => ns) hgd (by omega) (fun _ _ e => e) fin hl
  | lst h1 h2 =>
    obtain rfl : u = Value.ref _ := ru
    exact repr_of_reads' rr ab (fun _ => ns) hgd (by omega) (fun _ _ e => e) fin hl
  | tup h1 h2 =>
    obtain rfl : u = Value.ref _ := ru
    exact repr_of_reads' rr ab (fun _ => ns) hgd (by omega) (fun _ _ e => e) fin hl
def dReprN (ds : List D) (Q : D → Prop) : Prop := match ds with
  | [d] => shMP d ∧ Q (.str (shM d))
  | _ => False
theorem reprNL {K : Frg} : CalL K ms (rReprN K) dReprN := by
  intro F H xs ds Qd Q hs r h k
  unfold dReprN at h
  split at h
  · obtain ⟨x, rfl, r1⟩ := rps1 r
    exact ⟨ms, F, x, _, rfl, hs, r1, h.1, k _ F H _ (Go.refl hs) (.str _) h.2⟩
  · exact h.elim
end
end Y
namespace K02
open PySem PySem.Spec PyProof.Rows L2 Z Y
def topS (i : Nat) : Stmt := PySem.Challenge.pw_carpets_k02_invalid_nets_and_numbers.main.body.getD i (.Pass ⟨0, 0, 0, 0⟩)
abbrev s_InvalidNet_UinitU : Stmt := (inClass (topS 3) 0)
abbrev s_InvalidPlace_UinitU : Stmt := (inClass (topS 4) 0)
abbrev s_InvalidNumber_UinitU : Stmt := (inClass (topS 5) 0)
abbrev s_LimitExceeded_UinitU : Stmt := (inClass (topS 6) 0)
abbrev s_is_integer : Stmt := (topS 8)
abbrev N_is_integer : List Str := ["value"]
abbrev ps_is_integer : List Str := ["value"]
theorem sc_is_integer : FnScope N_is_integer ps_is_integer (defScope s_is_integer) := ⟨rfl, rfl, rfl, by decide +kernel, rfl, by decide +kernel, by decide +kernel⟩
abbrev s_is_place : Stmt := (topS 9)
abbrev N_is_place : List Str := ["value", "number"]
abbrev ps_is_place : List Str := ["value"]
theorem sc_is_place : FnScope N_is_place ps_is_place (defScope s_is_place) := ⟨rfl, rfl, rfl, by decide +kernel, rfl, by decide +kernel, by decide +kernel⟩
abbrev s_check_place : Stmt := (topS 10)
abbrev N_check_place : List Str := ["value"]
abbrev ps_check_place : List Str := ["value"]
theorem sc_check_place : FnScope N_check_place ps_check_place (defScope s_check_place) := ⟨rfl, rfl, rfl, by decide +kernel, rfl, by decide +kernel, by decide +kernel⟩
abbrev s_check_number : Stmt := (topS 11)
abbrev N_check_number : List Str := ["value", "low", "high"]
abbrev ps_check_number : List Str := ["value", "low", "high"]
theorem sc_check_number : FnScope N_check_number ps_check_number (defScope s_check_number) := ⟨rfl, rfl, rfl, by decide +kernel, rfl, by decide +kernel, by decide +kernel⟩
abbrev s_greatest_divisor : Stmt := (topS 12)
abbrev N_greatest_divisor : List Str := ["one", "other"]
abbrev ps_greatest_divisor : List Str := ["one", "other"]
theorem sc_greatest_divisor : FnScope N_greatest_divisor ps_greatest_divisor (defScope s_greatest_divisor) := ⟨rfl, rfl, rfl, by decide +kernel, rfl, by decide +kernel, by decide +kernel⟩
abbrev s_divisors : Stmt := (topS 14)
abbrev N_divisors : List Str := ["number", "divisor"]
abbrev ps_divisors : List Str := ["number"]
theorem sc_divisors : FnScope N_divisors ps_divisors (defScope s_divisors) := ⟨rfl, rfl, rfl, by decide +kernel, rfl, by decide +kernel, by decide +kernel⟩
abbrev s_are_numbers : Stmt := (topS 22)
abbrev N_are_numbers : List Str := ["numbers", "a", "b", "c", "number"]
abbrev ps_are_numbers : List Str := ["numbers"]
theorem sc_are_numbers : FnScope N_are_numbers ps_are_numbers (defScope s_are_numbers) := ⟨rfl, rfl, rfl, by decide +kernel, rfl, by decide +kernel, by decide +kernel⟩
abbrev s_Net_UinitU : Stmt := (inClass (topS 24) 0)
abbrev N_Net_UinitU : List Str := ["self", "a", "b", "c"]
abbrev ps_Net_UinitU : List Str := ["self", "a", "b", "c"]
theorem sc_Net_UinitU : FnScope N_Net_UinitU ps_Net_UinitU (defScope s_Net_UinitU) := ⟨rfl, rfl, rfl, by decide +kernel, rfl, by decide +kernel, by decide +kernel⟩
abbrev s_form_of : Stmt := (topS 21)
abbrev N_form_of : List Str := ["shifts", "a", "b", "c", "x", "y", "times"]
abbrev ps_form_of : List Str := ["shifts"]
theorem sc_form_of : FnScope N_form_of ps_form_of (defScope s_form_of) := ⟨rfl, rfl, rfl, by decide +kernel, rfl, by decide +kernel, by decide +kernel⟩
abbrev s_Net_of : Stmt := (inClass (topS 24) 1)
abbrev N_Net_of : List Str := ["shifts", "shift", "numbers"]
abbrev ps_Net_of : List Str := ["shifts"]
theorem sc_Net_of : FnScope N_Net_of ps_Net_of (defScope s_Net_of) := ⟨rfl, rfl, rfl, by decide +kernel, rfl, by decide +kernel, by decide +kernel⟩
abbrev s_Net_size : Stmt := (inClass (topS 24) 4)
abbrev N_Net_size : List Str := ["self"]
abbrev ps_Net_size : List Str := ["self"]
theorem sc_Net_size : FnScope N_Net_size ps_Net_size (defScope s_Net_size) := ⟨rfl, rfl, rfl, by decide +kernel, rfl, by decide +kernel, by decide +kernel⟩
abbrev s_Net_spanning : Stmt := (inClass (topS 24) 5)
abbrev N_Net_spanning : List Str := ["self", "a", "b", "c"]
abbrev ps_Net_spanning : List Str := ["self"]
theorem sc_Net_spanning : FnScope N_Net_spanning ps_Net_spanning (defScope s_Net_spanning) := ⟨rfl, rfl, rfl, by decide +kernel, rfl, by decide +kernel, by decide +kernel⟩
abbrev s_Net_place_in_cell : Stmt := (inClass (topS 24) 6)
abbrev N_Net_place_in_cell : List Str := ["self", "place", "a", "b", "c", "rows"]
abbrev ps_Net_place_in_cell : List Str := ["self", "place"]
theorem sc_Net_place_in_cell : FnScope N_Net_place_in_cell ps_Net_place_in_cell (defScope s_Net_place_in_cell) := ⟨rfl, rfl, rfl, by decide +kernel, rfl, by decide +kernel, by decide +kernel⟩
abbrev s_Net_UcontainsU : Stmt := (inClass (topS 24) 7)
abbrev N_Net_UcontainsU : List Str := ["self", "value"]
abbrev ps_Net_UcontainsU : List Str := ["self", "value"]
theorem sc_Net_UcontainsU : FnScope N_Net_UcontainsU ps_Net_UcontainsU (defScope s_Net_UcontainsU) := ⟨rfl, rfl, rfl, by decide +kernel, rfl, by decide +kernel, by decide +kernel⟩
abbrev s_Net_is_within : Stmt := (inClass (topS 24) 17)
abbrev N_Net_is_within : List Str := ["self", "other", "one", "two"]
abbrev ps_Net_is_within : List Str := ["self", "other"]
theorem sc_Net_is_within : FnScope N_Net_is_within ps_Net_is_within (defScope s_Net_is_within) := ⟨rfl, rfl, rfl, by decide +kernel, rfl, by decide +kernel, by decide +kernel⟩
abbrev s_Net_scaled : Stmt := (inClass (topS 24) 18)
abbrev N_Net_scaled : List Str := ["self", "factor", "a", "b", "c"]
abbrev ps_Net_scaled : List Str := ["self", "factor"]
theorem sc_Net_scaled : FnScope N_Net_scaled ps_Net_scaled (defScope s_Net_scaled) := ⟨rfl, rfl, rfl, by decide +kernel, rfl, by decide +kernel, by decide +kernel⟩
abbrev s_nets_with : Stmt := (topS 25)
abbrev N_nets_with : List Str := ["size", "c", "b"]
abbrev ps_nets_with : List Str := ["size"]
theorem sc_nets_with : FnScope N_nets_with ps_nets_with (defScope s_nets_with) := ⟨rfl, rfl, rfl, by decide +kernel, rfl, by decide +kernel, by decide +kernel⟩
abbrev s_nets_of_size : Stmt := (topS 26)
abbrev N_nets_of_size : List Str := ["size", "c", "b"]
abbrev s_nets_above : Stmt := (topS 27)
abbrev N_nets_above : List Str := ["net", "size", "other"]
abbrev ps_nets_above : List Str := ["net"]
theorem sc_nets_above : FnScope N_nets_above ps_nets_above (defScope s_nets_above) := ⟨rfl, rfl, rfl, by decide +kernel, rfl, by decide +kernel, by decide +kernel⟩
abbrev s__law_tape : Stmt := (topS 29)
abbrev N__law_tape : List Str := ["_law_script"]
abbrev ps__law_tape : List Str := ["_law_script"]
theorem sc__law_tape : FnScope N__law_tape ps__law_tape (defScope s__law_tape) := ⟨rfl, rfl, rfl, by decide +kernel, rfl, by decide +kernel, by decide +kernel⟩
abbrev s__law_draw : Stmt := (topS 30)
abbrev N__law_draw : List Str := ["_law_tape_here", "_law_many", "_law_digit", "_law_cell", "_law_near"]
abbrev ps__law_draw : List Str := ["_law_tape_here", "_law_many"]
theorem sc__law_draw : FnScope N__law_draw ps__law_draw (defScope s__law_draw) := ⟨rfl, rfl, rfl, by decide +kernel, rfl, by decide +kernel, by decide +kernel⟩
abbrev s__law_great : Stmt := (topS 31)
abbrev N__law_great : List Str := ["_law_tape_here", "_law_size", "_law_high", "_law_value"]
abbrev ps__law_great : List Str := ["_law_tape_here", "_law_size"]
theorem sc__law_great : FnScope N__law_great ps__law_great (defScope s__law_great) := ⟨rfl, rfl, rfl, by decide +kernel, rfl, by decide +kernel, by decide +kernel⟩
abbrev s__law_place : Stmt := (topS 32)
abbrev N__law_place : List Str := ["_law_tape_here"]
abbrev ps__law_place : List Str := ["_law_tape_here"]
theorem sc__law_place : FnScope N__law_place ps__law_place (defScope s__law_place) := ⟨rfl, rfl, rfl, by decide +kernel, rfl, by decide +kernel, by decide +kernel⟩
abbrev s__law_net : Stmt := (topS 33)
abbrev N__law_net : List Str := ["_law_tape_here", "_law_most", "_law_wide"]
abbrev ps__law_net : List Str := ["_law_tape_here", "_law_most"]
theorem sc__law_net : FnScope N__law_net ps__law_net (defScope s__law_net) := ⟨rfl, rfl, rfl, by decide +kernel, rfl, by decide +kernel, by decide +kernel⟩
abbrev s__law_heard : Stmt := (topS 34)
abbrev N__law_heard : List Str := ["_law_call", "e"]
abbrev ps__law_heard : List Str := ["_law_call"]
theorem sc__law_heard : FnScope N__law_heard ps__law_heard (defScope s__law_heard) := ⟨rfl, rfl, rfl, by decide +kernel, rfl, by decide +kernel, by decide +kernel⟩
abbrev s__law_is_whole : Stmt := (topS 35)
abbrev N__law_is_whole : List Str := ["_law_value"]
abbrev ps__law_is_whole : List Str := ["_law_value"]
theorem sc__law_is_whole : FnScope N__law_is_whole ps__law_is_whole (defScope s__law_is_whole) := ⟨rfl, rfl, rfl, by decide +kernel, rfl, by decide +kernel, by decide +kernel⟩
abbrev s__law_is_triple : Stmt := (topS 36)
abbrev N__law_is_triple : List Str := ["_law_a", "_law_b", "_law_c"]
abbrev ps__law_is_triple : List Str := ["_law_a", "_law_b", "_law_c"]
theorem sc__law_is_triple : FnScope N__law_is_triple ps__law_is_triple (defScope s__law_is_triple) := ⟨rfl, rfl, rfl, by decide +kernel, rfl, by decide +kernel, by decide +kernel⟩
abbrev s__law_triples_right : Stmt := (topS 37)
abbrev N__law_triples_right : List Str := ["_law_tape_here", "_law_odds", "_law_turn", "_law_a", "_law_b", "_law_c", "_law_due", "_law_k"]
abbrev ps__law_triples_right : List Str := ["_law_tape_here"]
theorem sc__law_triples_right : FnScope N__law_triples_right ps__law_triples_right (defScope s__law_triples_right) := ⟨rfl, rfl, rfl, by decide +kernel, rfl, by decide +kernel, by decide +kernel⟩
abbrev s__law_shifts_right : Stmt := (topS 38)
abbrev N__law_shifts_right : List Str := ["_law_tape_here", "_law_one", "_law_far", "_law_more", "_law_odd"]
abbrev ps__law_shifts_right : List Str := ["_law_tape_here"]
theorem sc__law_shifts_right : FnScope N__law_shifts_right ps__law_shifts_right (defScope s__law_shifts_right) := ⟨rfl, rfl, rfl, by decide +kernel, rfl, by decide +kernel, by decide +kernel⟩
abbrev s_law : Stmt := (topS 39)
abbrev N_law : List Str := ["_law_script", "_law_tape_here", "_law_net_here", "_law_made", "_law_odd", "_law_wide", "_law_large"]
abbrev ps_law : List Str := ["_law_script"]
theorem sc_law : FnScope N_law ps_law (defScope s_law) := ⟨rfl, rfl, rfl, by decide +kernel, rfl, by decide +kernel, by decide +kernel⟩
structure Tx (w : World) (K : Frg) (mg : Str → Option Value) : Prop where
  b_abs : mg "abs" = none
  b_all : mg "all" = none
  b_bool : mg "bool" = none
  b_int : mg "int" = none
  b_isinstance : mg "isinstance" = none
  b_len : mg "len" = none
  b_list : mg "list" = none
  b_range : mg "range" = none
  b_repr : mg "repr" = none
  b_tuple : mg "tuple" = none
  b_zip : mg "zip" = none
  cl_Net : Cls K (He.ga K "Net")
  ec_InvalidNet : ExcC K (He.ga K "InvalidNet")
  ec_InvalidNumber : ExcC K (He.ga K "InvalidNumber")
  ec_InvalidPlace : ExcC K (He.ga K "InvalidPlace")
  ec_LimitExceeded : ExcC K (He.ga K "LimitExceeded")
  exf_InvalidNumber_InvalidNet : PySem.W.exmOne K (.ref (He.ga K "InvalidNumber")) (.ref (He.ga K "InvalidNet")) = some false
  exf_InvalidNumber_InvalidPlace : PySem.W.exmOne K (.ref (He.ga K "InvalidNumber")) (.ref (He.ga K "InvalidPlace")) = some false
  exf_InvalidPlace_InvalidNet : PySem.W.exmOne K (.ref (He.ga K "InvalidPlace")) (.ref (He.ga K "InvalidNet")) = some false
  exf_LimitExceeded_InvalidNet : PySem.W.exmOne K (.ref (He.ga K "LimitExceeded")) (.ref (He.ga K "InvalidNet")) = some false
  exf_LimitExceeded_InvalidNumber : PySem.W.exmOne K (.ref (He.ga K "LimitExceeded")) (.ref (He.ga K "InvalidNumber")) = some false
  exf_LimitExceeded_InvalidPlace : PySem.W.exmOne K (.ref (He.ga K "LimitExceeded")) (.ref (He.ga K "InvalidPlace")) = some false
  ext_InvalidNet_InvalidNet : PySem.W.exmOne K (.ref (He.ga K "InvalidNet")) (.ref (He.ga K "InvalidNet")) = some true
  ext_InvalidNumber_InvalidNumber : PySem.W.exmOne K (.ref (He.ga K "InvalidNumber")) (.ref (He.ga K "InvalidNumber")) = some true
  ext_InvalidPlace_InvalidPlace : PySem.W.exmOne K (.ref (He.ga K "InvalidPlace")) (.ref (He.ga K "InvalidPlace")) = some true
  ext_LimitExceeded_LimitExceeded : PySem.W.exmOne K (.ref (He.ga K "LimitExceeded")) (.ref (He.ga K "LimitExceeded")) = some true
  g_CarpetError : mg "CarpetError" = some (.ref (He.ga K "CarpetError"))
  g_InvalidNet : mg "InvalidNet" = some (.ref (He.ga K "InvalidNet"))
  g_InvalidNumber : mg "InvalidNumber" = some (.ref (He.ga K "InvalidNumber"))
  g_InvalidPlace : mg "InvalidPlace" = some (.ref (He.ga K "InvalidPlace"))
  g_LimitExceeded : mg "LimitExceeded" = some (.ref (He.ga K "LimitExceeded"))
  g_MOST_ABOVE : ∃ t, mg "MOST_ABOVE" = some (.int 2000 t)
  g_MOST_SIZE : ∃ t, mg "MOST_SIZE" = some (.int 10000 t)
  g_Net : mg "Net" = some (.ref (He.ga K "Net"))
  g__law_draw : mg "_law_draw" = some (.ref (He.ga K "_law_draw"))
  g__law_great : mg "_law_great" = some (.ref (He.ga K "_law_great"))
  g__law_heard : mg "_law_heard" = some (.ref (He.ga K "_law_heard"))
  g__law_is_triple : mg "_law_is_triple" = some (.ref (He.ga K "_law_is_triple"))
  g__law_is_whole : mg "_law_is_whole" = some (.ref (He.ga K "_law_is_whole"))
  g__law_net : mg "_law_net" = some (.ref (He.ga K "_law_net"))
  g__law_place : mg "_law_place" = some (.ref (He.ga K "_law_place"))
  g__law_shifts_right : mg "_law_shifts_right" = some (.ref (He.ga K "_law_shifts_right"))
  g__law_tape : mg "_law_tape" = some (.ref (He.ga K "_law_tape"))
  g__law_triples_right : mg "_law_triples_right" = some (.ref (He.ga K "_law_triples_right"))
  g_are_numbers : mg "are_numbers" = some (.ref (He.ga K "are_numbers"))
  g_check_number : mg "check_number" = some (.ref (He.ga K "check_number"))
  g_check_place : mg "check_place" = some (.ref (He.ga K "check_place"))
  g_divisors : mg "divisors" = some (.ref (He.ga K "divisors"))
  g_form_of : mg "form_of" = some (.ref (He.ga K "form_of"))
  g_greatest_divisor : mg "greatest_divisor" = some (.ref (He.ga K "greatest_divisor"))
  g_is_integer : mg "is_integer" = some (.ref (He.ga K "is_integer"))
  g_is_place : mg "is_place" = some (.ref (He.ga K "is_place"))
  g_law : mg "law" = some (.ref (He.ga K "law"))
  g_nets_above : mg "nets_above" = some (.ref (He.ga K "nets_above"))
  g_nets_of_size : mg "nets_of_size" = some (.ref (He.ga K "nets_of_size"))
  g_nets_with : mg "nets_with" = some (.ref (He.ga K "nets_with"))
  k__law_draw : PySem.W.keepIn K (.ref (He.ga K "_law_draw")) = true
  k__law_great : PySem.W.keepIn K (.ref (He.ga K "_law_great")) = true
  k__law_heard : PySem.W.keepIn K (.ref (He.ga K "_law_heard")) = true
  k__law_is_triple : PySem.W.keepIn K (.ref (He.ga K "_law_is_triple")) = true
  k__law_is_whole : PySem.W.keepIn K (.ref (He.ga K "_law_is_whole")) = true
  k__law_net : PySem.W.keepIn K (.ref (He.ga K "_law_net")) = true
  k__law_place : PySem.W.keepIn K (.ref (He.ga K "_law_place")) = true
  k__law_shifts_right : PySem.W.keepIn K (.ref (He.ga K "_law_shifts_right")) = true
  k__law_tape : PySem.W.keepIn K (.ref (He.ga K "_law_tape")) = true
  k__law_triples_right : PySem.W.keepIn K (.ref (He.ga K "_law_triples_right")) = true
  k_are_numbers : PySem.W.keepIn K (.ref (He.ga K "are_numbers")) = true
  k_check_number : PySem.W.keepIn K (.ref (He.ga K "check_number")) = true
  k_check_place : PySem.W.keepIn K (.ref (He.ga K "check_place")) = true
  k_divisors : PySem.W.keepIn K (.ref (He.ga K "divisors")) = true
  k_form_of : PySem.W.keepIn K (.ref (He.ga K "form_of")) = true
  k_greatest_divisor : PySem.W.keepIn K (.ref (He.ga K "greatest_divisor")) = true
  k_is_integer : PySem.W.keepIn K (.ref (He.ga K "is_integer")) = true
  k_is_place : PySem.W.keepIn K (.ref (He.ga K "is_place")) = true
  k_nets_above : PySem.W.keepIn K (.ref (He.ga K "nets_above")) = true
  k_nets_of_size : PySem.W.keepIn K (.ref (He.ga K "nets_of_size")) = true
  k_nets_with : PySem.W.keepIn K (.ref (He.ga K "nets_with")) = true
  kf_LimitExceeded_CarpetError : PySem.W.kitOne K (.ref (He.ga K "LimitExceeded")) (.ref (He.ga K "CarpetError")) = some false
  kt_InvalidNet_CarpetError : PySem.W.kitOne K (.ref (He.ga K "InvalidNet")) (.ref (He.ga K "CarpetError")) = some true
  kt_InvalidNumber_CarpetError : PySem.W.kitOne K (.ref (He.ga K "InvalidNumber")) (.ref (He.ga K "CarpetError")) = some true
  kt_InvalidPlace_CarpetError : PySem.W.kitOne K (.ref (He.ga K "InvalidPlace")) (.ref (He.ga K "CarpetError")) = some true
  lf__law_shifts_right : LamF K mg "_law_shifts_right"
  lf__law_triples_right : LamF K mg "_law_triples_right"
  lf_law : LamF K mg "law"
  m_Net_UcontainsU : Meth K (He.ga K "Net") "__contains__" (He.ma K (He.ga K "Net") "__contains__")
  m_Net_is_within : Meth K (He.ga K "Net") "is_within" (He.ma K (He.ga K "Net") "is_within")
  m_Net_place_in_cell : Meth K (He.ga K "Net") "place_in_cell" (He.ma K (He.ga K "Net") "place_in_cell")
  m_Net_scaled : Meth K (He.ga K "Net") "scaled" (He.ma K (He.ga K "Net") "scaled")
  m_Net_spanning : Meth K (He.ga K "Net") "spanning" (He.ma K (He.ga K "Net") "spanning")
  mk_Net : Mk K (He.ga K "Net") (He.ma K (He.ga K "Net") "__init__")
  na_Net_own_numbers : NoAttr K (He.ga K "Net") "own_numbers"
  ns_InvalidNumber : PySem.W.subIn K (.ref (He.ga K "InvalidNumber")) (.type "StopIteration") = some false
  p_Net_size : PropOf K (He.ga K "Net") "size" (He.ma K (He.ga K "Net") "size") (He5.wf K (He.ga K "Net") "property" "size")
  sm_Net_of : SMet K (He.ga K "Net") "of" (He.ma K (He.ga K "Net") "of") (He5.wf K (He.ga K "Net") "staticmethod" "of")
  sy : SysD K
  xc_InvalidNet : XcB K (He.ga K "InvalidNet") (He.ma K (He.ga K "InvalidNet") "__init__") "value"
  xc_InvalidNumber : XcB K (He.ga K "InvalidNumber") (He.ma K (He.ga K "InvalidNumber") "__init__") "value"
  xc_InvalidPlace : XcB K (He.ga K "InvalidPlace") (He.ma K (He.ga K "InvalidPlace") "__init__") "value"
  xc_LimitExceeded : XcB K (He.ga K "LimitExceeded") (He.ma K (He.ga K "LimitExceeded") "__init__") "limit"
  d_InvalidNet_UinitU : DefAt K "__init__" "InvalidNet.__init__" s_InvalidNet_UinitU (He.ma K (He.ga K "InvalidNet") "__init__")
  d_InvalidPlace_UinitU : DefAt K "__init__" "InvalidPlace.__init__" s_InvalidPlace_UinitU (He.ma K (He.ga K "InvalidPlace") "__init__")
  d_InvalidNumber_UinitU : DefAt K "__init__" "InvalidNumber.__init__" s_InvalidNumber_UinitU (He.ma K (He.ga K "InvalidNumber") "__init__")
  d_LimitExceeded_UinitU : DefAt K "__init__" "LimitExceeded.__init__" s_LimitExceeded_UinitU (He.ma K (He.ga K "LimitExceeded") "__init__")
  d_is_integer : DefAt K "is_integer" "is_integer" s_is_integer (He.ga K "is_integer")
  d_is_place : DefAt K "is_place" "is_place" s_is_place (He.ga K "is_place")
  d_check_place : DefAt K "check_place" "check_place" s_check_place (He.ga K "check_place")
  d_check_number : DefAt K "check_number" "check_number" s_check_number (He.ga K "check_number")
  d_greatest_divisor : DefAt K "greatest_divisor" "greatest_divisor" s_greatest_divisor (He.ga K "greatest_divisor")
  d_divisors : DefAt K "divisors" "divisors" s_divisors (He.ga K "divisors")
  d_are_numbers : DefAt K "are_numbers" "are_numbers" s_are_numbers (He.ga K "are_numbers")
  d_Net_UinitU : DefAt K "__init__" "Net.__init__" s_Net_UinitU (He.ma K (He.ga K "Net") "__init__")
  d_form_of : DefAt K "form_of" "form_of" s_form_of (He.ga K "form_of")
  d_Net_of : DefAt K "of" "Net.of" s_Net_of (He5.wf K (He.ga K "Net") "staticmethod" "of")
  d_Net_size : DefAt K "size" "Net.size" s_Net_size (He5.wf K (He.ga K "Net") "property" "size")
  d_Net_spanning : DefAt K "spanning" "Net.spanning" s_Net_spanning (He.ma K (He.ga K "Net") "spanning")
  d_Net_place_in_cell : DefAt K "place_in_cell" "Net.place_in_cell" s_Net_place_in_cell (He.ma K (He.ga K "Net") "place_in_cell")
  d_Net_UcontainsU : DefAt K "__contains__" "Net.__contains__" s_Net_UcontainsU (He.ma K (He.ga K "Net") "__contains__")
  d_Net_is_within : DefAt K "is_within" "Net.is_within" s_Net_is_within (He.ma K (He.ga K "Net") "is_within")
  d_Net_scaled : DefAt K "scaled" "Net.scaled" s_Net_scaled (He.ma K (He.ga K "Net") "scaled")
  d_nets_with : DefAt K "nets_with" "nets_with" s_nets_with (He.ga K "nets_with")
  d_nets_of_size : DefAt K "nets_of_size" "nets_of_size" s_nets_of_size (He.ga K "nets_of_size")
  d_nets_above : DefAt K "nets_above" "nets_above" s_nets_above (He.ga K "nets_above")
  d__law_tape : DefAt K "_law_tape" "_law_tape" s__law_tape (He.ga K "_law_tape")
  d__law_draw : DefAt K "_law_draw" "_law_draw" s__law_draw (He.ga K "_law_draw")
  d__law_great : DefAt K "_law_great" "_law_great" s__law_great (He.ga K "_law_great")
  d__law_place : DefAt K "_law_place" "_law_place" s__law_place (He.ga K "_law_place")
  d__law_net : DefAt K "_law_net" "_law_net" s__law_net (He.ga K "_law_net")
  d__law_heard : DefAt K "_law_heard" "_law_heard" s__law_heard (He.ga K "_law_heard")
  d__law_is_whole : DefAt K "_law_is_whole" "_law_is_whole" s__law_is_whole (He.ga K "_law_is_whole")
  d__law_is_triple : DefAt K "_law_is_triple" "_law_is_triple" s__law_is_triple (He.ga K "_law_is_triple")
  d__law_triples_right : DefAt K "_law_triples_right" "_law_triples_right" s__law_triples_right (He.ga K "_law_triples_right")
  d__law_shifts_right : DefAt K "_law_shifts_right" "_law_shifts_right" s__law_shifts_right (He.ga K "_law_shifts_right")
  d_law : DefAt K "law" "law" s_law (He.ga K "law")
end K02
namespace K02
open PySem PySem.Spec PyProof.Rows L2 Z Y
def fs : List (Frg → Bool) := [bFree "abs", bFree "all", bFree "bool", bFree "int", bFree "isinstance", bFree "len", bFree "list", bFree "range", bFree "repr", bFree "tuple", bFree "zip", bCls "Net", bExC "InvalidNet", bExC "InvalidNumber", bExC "InvalidPlace", bExC "LimitExceeded", bEx "InvalidNumber" "InvalidNet" false, bEx "InvalidNumber" "InvalidPlace" false, bEx "InvalidPlace" "InvalidNet" false, bEx "LimitExceeded" "InvalidNet" false, bEx "LimitExceeded" "InvalidNumber" false, bEx "LimitExceeded" "InvalidPlace" false, bEx "InvalidNet" "InvalidNet" true, bEx "InvalidNumber" "InvalidNumber" true, bEx "InvalidPlace" "InvalidPlace" true, bEx "LimitExceeded" "LimitExceeded" true, bGlo "CarpetError", bGlo "InvalidNet", bGlo "InvalidNumber", bGlo "InvalidPlace", bGlo "LimitExceeded", bInt "MOST_ABOVE" 2000, bInt "MOST_SIZE" 10000, bGlo "Net", bGlo "_law_draw", bGlo "_law_great", bGlo "_law_heard", bGlo "_law_is_triple", bGlo "_law_is_whole", bGlo "_law_net", bGlo "_law_place", bGlo "_law_shifts_right", bGlo "_law_tape", bGlo "_law_triples_right", bGlo "are_numbers", bGlo "check_number", bGlo "check_place", bGlo "divisors", bGlo "form_of", bGlo "greatest_divisor", bGlo "is_integer", bGlo "is_place", bGlo "law", bGlo "nets_above", bGlo "nets_of_size", bGlo "nets_with", bKeep "_law_draw", bKeep "_law_great", bKeep "_law_heard", bKeep "_law_is_triple", bKeep "_law_is_whole", bKeep "_law_net", bKeep "_law_place", bKeep "_law_shifts_right", bKeep "_law_tape", bKeep "_law_triples_right", bKeep "are_numbers", bKeep "check_number", bKeep "check_place", bKeep "divisors", bKeep "form_of", bKeep "greatest_divisor", bKeep "is_integer", bKeep "is_place", bKeep "nets_above", bKeep "nets_of_size", bKeep "nets_with", bKt "LimitExceeded" "CarpetError" false, bKt "InvalidNet" "CarpetError" true, bKt "InvalidNumber" "CarpetError" true, bKt "InvalidPlace" "CarpetError" true, bLamG "_law_shifts_right", bLamG "_law_triples_right", bLamG "law", bMeth "Net" "__contains__", bMeth "Net" "is_within", bMeth "Net" "place_in_cell", bMeth "Net" "scaled", bMeth "Net" "spanning", bMk "Net", bNo "Net" "own_numbers", bNs "InvalidNumber", bProp "Net" "size", bSM "Net" "of", bSys, bXc "InvalidNet" "value" 0, bXc "InvalidNumber" "value" 0, bXc "InvalidPlace" "value" 0, bXc "LimitExceeded" "limit" 1]
def fn : List He5.DefA := [⟨fun K => (He.ma K (He.ga K "InvalidNet") "__init__"), "__init__", "InvalidNet.__init__", defArgs s_InvalidNet_UinitU, defBody s_InvalidNet_UinitU, defScope s_InvalidNet_UinitU, [], []⟩, ⟨fun K => (He.ma K (He.ga K "InvalidPlace") "__init__"), "__init__", "InvalidPlace.__init__", defArgs s_InvalidPlace_UinitU, defBody s_InvalidPlace_UinitU, defScope s_InvalidPlace_UinitU, [], []⟩, ⟨fun K => (He.ma K (He.ga K "InvalidNumber") "__init__"), "__init__", "InvalidNumber.__init__", defArgs s_InvalidNumber_UinitU, defBody s_InvalidNumber_UinitU, defScope s_InvalidNumber_UinitU, [], []⟩, ⟨fun K => (He.ma K (He.ga K "LimitExceeded") "__init__"), "__init__", "LimitExceeded.__init__", defArgs s_LimitExceeded_UinitU, defBody s_LimitExceeded_UinitU, defScope s_LimitExceeded_UinitU, [], []⟩, ⟨fun K => (He.ga K "is_integer"), "is_integer", "is_integer", defArgs s_is_integer, defBody s_is_integer, defScope s_is_integer, [], []⟩, ⟨fun K => (He.ga K "is_place"), "is_place", "is_place", defArgs s_is_place, defBody s_is_place, defScope s_is_place, [], []⟩, ⟨fun K => (He.ga K "check_place"), "check_place", "check_place", defArgs s_check_place, defBody s_check_place, defScope s_check_place, [], []⟩, ⟨fun K => (He.ga K "check_number"), "check_number", "check_number", defArgs s_check_number, defBody s_check_number, defScope s_check_number, [], []⟩, ⟨fun K => (He.ga K "greatest_divisor"), "greatest_divisor", "greatest_divisor", defArgs s_greatest_divisor, defBody s_greatest_divisor, defScope s_greatest_divisor, [], []⟩, ⟨fun K => (He.ga K "divisors"), "divisors", "divisors", defArgs s_divisors, defBody s_divisors, defScope s_divisors, [], []⟩, ⟨fun K => (He.ga K "are_numbers"), "are_numbers", "are_numbers", defArgs s_are_numbers, defBody s_are_numbers, defScope s_are_numbers, [], []⟩, ⟨fun K => (He.ma K (He.ga K "Net") "__init__"), "__init__", "Net.__init__", defArgs s_Net_UinitU, defBody s_Net_UinitU, defScope s_Net_UinitU, [], []⟩, ⟨fun K => (He.ga K "form_of"), "form_of", "form_of", defArgs s_form_of, defBody s_form_of, defScope s_form_of, [], []⟩, ⟨fun K => (He5.wf K (He.ga K "Net") "staticmethod" "of"), "of", "Net.of", defArgs s_Net_of, defBody s_Net_of, defScope s_Net_of, [], []⟩, ⟨fun K => (He5.wf K (He.ga K "Net") "property" "size"), "size", "Net.size", defArgs s_Net_size, defBody s_Net_size, defScope s_Net_size, [], []⟩, ⟨fun K => (He.ma K (He.ga K "Net") "spanning"), "spanning", "Net.spanning", defArgs s_Net_spanning, defBody s_Net_spanning, defScope s_Net_spanning, [], []⟩, ⟨fun K => (He.ma K (He.ga K "Net") "place_in_cell"), "place_in_cell", "Net.place_in_cell", defArgs s_Net_place_in_cell, defBody s_Net_place_in_cell, defScope s_Net_place_in_cell, [], []⟩, ⟨fun K => (He.ma K (He.ga K "Net") "__contains__"), "__contains__", "Net.__contains__", defArgs s_Net_UcontainsU, defBody s_Net_UcontainsU, defScope s_Net_UcontainsU, [], []⟩, ⟨fun K => (He.ma K (He.ga K "Net") "is_within"), "is_within", "Net.is_within", defArgs s_Net_is_within, defBody s_Net_is_within, defScope s_Net_is_within, [], []⟩, ⟨fun K => (He.ma K (He.ga K "Net") "scaled"), "scaled", "Net.scaled", defArgs s_Net_scaled, defBody s_Net_scaled, defScope s_Net_scaled, [], []⟩, ⟨fun K => (He.ga K "nets_with"), "nets_with", "nets_with", defArgs s_nets_with, defBody s_nets_with, defScope s_nets_with, [], []⟩, ⟨fun K => (He.ga K "nets_of_size"), "nets_of_size", "nets_of_size", defArgs s_nets_of_size, defBody s_nets_of_size, defScope s_nets_of_size, [], []⟩, ⟨fun K => (He.ga K "nets_above"), "nets_above", "nets_above", defArgs s_nets_above, defBody s_nets_above, defScope s_nets_above, [], []⟩, ⟨fun K => (He.ga K "_law_tape"), "_law_tape", "_law_tape", defArgs s__law_tape, defBody s__law_tape, defScope s__law_tape, [], []⟩, ⟨fun K => (He.ga K "_law_draw"), "_law_draw", "_law_draw", defArgs s__law_draw, defBody s__law_draw, defScope s__law_draw, [], []⟩, ⟨fun K => (He.ga K "_law_great"), "_law_great", "_law_great", defArgs s__law_great, defBody s__law_great, defScope s__law_great, [], []⟩, ⟨fun K => (He.ga K "_law_place"), "_law_place", "_law_place", defArgs s__law_place, defBody s__law_place, defScope s__law_place, [], []⟩, ⟨fun K => (He.ga K "_law_net"), "_law_net", "_law_net", defArgs s__law_net, defBody s__law_net, defScope s__law_net, [], []⟩, ⟨fun K => (He.ga K "_law_heard"), "_law_heard", "_law_heard", defArgs s__law_heard, defBody s__law_heard, defScope s__law_heard, [], []⟩, ⟨fun K => (He.ga K "_law_is_whole"), "_law_is_whole", "_law_is_whole", defArgs s__law_is_whole, defBody s__law_is_whole, defScope s__law_is_whole, [], []⟩, ⟨fun K => (He.ga K "_law_is_triple"), "_law_is_triple", "_law_is_triple", defArgs s__law_is_triple, defBody s__law_is_triple, defScope s__law_is_triple, [], []⟩, ⟨fun K => (He.ga K "_law_triples_right"), "_law_triples_right", "_law_triples_right", defArgs s__law_triples_right, defBody s__law_triples_right, defScope s__law_triples_right, [], []⟩, ⟨fun K => (He.ga K "_law_shifts_right"), "_law_shifts_right", "_law_shifts_right", defArgs s__law_shifts_right, defBody s__law_shifts_right, defScope s__law_shifts_right, [], []⟩, ⟨fun K => (He.ga K "law"), "law", "law", defArgs s_law, defBody s_law, defScope s_law, [], []⟩]
def ask : Ask := ⟨fs, fn, [], tfAll⟩
def fs0 : List (Frg → Bool) := [bFree "abs", bFree "all", bFree "bool", bFree "int", bFree "isinstance", bFree "len", bFree "list", bFree "range", bFree "repr", bFree "tuple", bFree "zip", bCls "Net", bExC "InvalidNet", bExC "InvalidNumber", bExC "InvalidPlace", bExC "LimitExceeded", bEx "InvalidNumber" "InvalidNet" false, bEx "InvalidNumber" "InvalidPlace" false, bEx "InvalidPlace" "InvalidNet" false, bEx "LimitExceeded" "InvalidNet" false, bEx "LimitExceeded" "InvalidNumber" false, bEx "LimitExceeded" "InvalidPlace" false, bEx "InvalidNet" "InvalidNet" true, bEx "InvalidNumber" "InvalidNumber" true, bEx "InvalidPlace" "InvalidPlace" true, bEx "LimitExceeded" "LimitExceeded" true, bGlo "CarpetError", bGlo "InvalidNet", bGlo "InvalidNumber", bGlo "InvalidPlace", bGlo "LimitExceeded", bInt "MOST_ABOVE" 2000, bInt "MOST_SIZE" 10000, bGlo "Net", bGlo "_law_draw", bGlo "_law_great", bGlo "_law_heard", bGlo "_law_is_triple", bGlo "_law_is_whole", bGlo "_law_net", bGlo "_law_place", bGlo "_law_shifts_right", bGlo "_law_tape", bGlo "_law_triples_right", bGlo "are_numbers", bGlo "check_number", bGlo "check_place", bGlo "divisors", bGlo "form_of", bGlo "greatest_divisor", bGlo "is_integer", bGlo "is_place", bGlo "law", bGlo "nets_above", bGlo "nets_of_size", bGlo "nets_with", bKeep "_law_draw", bKeep "_law_great", bKeep "_law_heard", bKeep "_law_is_triple", bKeep "_law_is_whole", bKeep "_law_net", bKeep "_law_place", bKeep "_law_shifts_right", bKeep "_law_tape", bKeep "_law_triples_right", bKeep "are_numbers", bKeep "check_number", bKeep "check_place", bKeep "divisors", bKeep "form_of", bKeep "greatest_divisor", bKeep "is_integer", bKeep "is_place", bKeep "nets_above", bKeep "nets_of_size", bKeep "nets_with", bKt "LimitExceeded" "CarpetError" false, bKt "InvalidNet" "CarpetError" true, bKt "InvalidNumber" "CarpetError" true, bKt "InvalidPlace" "CarpetError" true, bLamG "_law_shifts_right", bLamG "_law_triples_right", bLamG "law", bMeth "Net" "__contains__", bMeth "Net" "is_within", bMeth "Net" "place_in_cell", bMeth "Net" "scaled", bMeth "Net" "spanning", bMk "Net", bNo "Net" "own_numbers", bNs "InvalidNumber", bProp "Net" "size", bSM "Net" "of", bSys, bXc "InvalidNet" "value" 0, bXc "InvalidNumber" "value" 0, bXc "InvalidPlace" "value" 0, bXc "LimitExceeded" "limit" 1]
def fn0 : List He5.DefA := [⟨fun K => (He.ma K (He.ga K "InvalidNet") "__init__"), "__init__", "InvalidNet.__init__", defArgs s_InvalidNet_UinitU, defBody s_InvalidNet_UinitU, defScope s_InvalidNet_UinitU, [], []⟩, ⟨fun K => (He.ma K (He.ga K "InvalidPlace") "__init__"), "__init__", "InvalidPlace.__init__", defArgs s_InvalidPlace_UinitU, defBody s_InvalidPlace_UinitU, defScope s_InvalidPlace_UinitU, [], []⟩, ⟨fun K => (He.ma K (He.ga K "InvalidNumber") "__init__"), "__init__", "InvalidNumber.__init__", defArgs s_InvalidNumber_UinitU, defBody s_InvalidNumber_UinitU, defScope s_InvalidNumber_UinitU, [], []⟩, ⟨fun K => (He.ma K (He.ga K "LimitExceeded") "__init__"), "__init__", "LimitExceeded.__init__", defArgs s_LimitExceeded_UinitU, defBody s_LimitExceeded_UinitU, defScope s_LimitExceeded_UinitU, [], []⟩, ⟨fun K => (He.ga K "is_integer"), "is_integer", "is_integer", defArgs s_is_integer, defBody s_is_integer, defScope s_is_integer, [], []⟩, ⟨fun K => (He.ga K "is_place"), "is_place", "is_place", defArgs s_is_place, defBody s_is_place, defScope s_is_place, [], []⟩, ⟨fun K => (He.ga K "check_place"), "check_place", "check_place", defArgs s_check_place, defBody s_check_place, defScope s_check_place, [], []⟩, ⟨fun K => (He.ga K "check_number"), "check_number", "check_number", defArgs s_check_number, defBody s_check_number, defScope s_check_number, [], []⟩, ⟨fun K => (He.ga K "greatest_divisor"), "greatest_divisor", "greatest_divisor", defArgs s_greatest_divisor, defBody s_greatest_divisor, defScope s_greatest_divisor, [], []⟩, ⟨fun K => (He.ga K "divisors"), "divisors", "divisors", defArgs s_divisors, defBody s_divisors, defScope s_divisors, [], []⟩, ⟨fun K => (He.ga K "are_numbers"), "are_numbers", "are_numbers", defArgs s_are_numbers, defBody s_are_numbers, defScope s_are_numbers, [], []⟩, ⟨fun K => (He.ma K (He.ga K "Net") "__init__"), "__init__", "Net.__init__", defArgs s_Net_UinitU, defBody s_Net_UinitU, defScope s_Net_UinitU, [], []⟩, ⟨fun K => (He.ga K "form_of"), "form_of", "form_of", defArgs s_form_of, defBody s_form_of, defScope s_form_of, [], []⟩, ⟨fun K => (He5.wf K (He.ga K "Net") "staticmethod" "of"), "of", "Net.of", defArgs s_Net_of, defBody s_Net_of, defScope s_Net_of, [], []⟩, ⟨fun K => (He5.wf K (He.ga K "Net") "property" "size"), "size", "Net.size", defArgs s_Net_size, defBody s_Net_size, defScope s_Net_size, [], []⟩, ⟨fun K => (He.ma K (He.ga K "Net") "spanning"), "spanning", "Net.spanning", defArgs s_Net_spanning, defBody s_Net_spanning, defScope s_Net_spanning, [], []⟩, ⟨fun K => (He.ma K (He.ga K "Net") "place_in_cell"), "place_in_cell", "Net.place_in_cell", defArgs s_Net_place_in_cell, defBody s_Net_place_in_cell, defScope s_Net_place_in_cell, [], []⟩, ⟨fun K => (He.ma K (He.ga K "Net") "__contains__"), "__contains__", "Net.__contains__", defArgs s_Net_UcontainsU, defBody s_Net_UcontainsU, defScope s_Net_UcontainsU, [], []⟩, ⟨fun K => (He.ma K (He.ga K "Net") "is_within"), "is_within", "Net.is_within", defArgs s_Net_is_within, defBody s_Net_is_within, defScope s_Net_is_within, [], []⟩, ⟨fun K => (He.ma K (He.ga K "Net") "scaled"), "scaled", "Net.scaled", defArgs s_Net_scaled, defBody s_Net_scaled, defScope s_Net_scaled, [], []⟩, ⟨fun K => (He.ga K "nets_with"), "nets_with", "nets_with", defArgs s_nets_with, defBody s_nets_with, defScope s_nets_with, [], []⟩, ⟨fun K => (He.ga K "nets_of_size"), "nets_of_size", "nets_of_size", defArgs s_nets_of_size, defBody s_nets_of_size, defScope s_nets_of_size, [], []⟩, ⟨fun K => (He.ga K "nets_above"), "nets_above", "nets_above", defArgs s_nets_above, defBody s_nets_above, defScope s_nets_above, [], []⟩, ⟨fun K => (He.ga K "_law_tape"), "_law_tape", "_law_tape", defArgs s__law_tape, defBody s__law_tape, defScope s__law_tape, [], []⟩, ⟨fun K => (He.ga K "_law_draw"), "_law_draw", "_law_draw", defArgs s__law_draw, defBody s__law_draw, defScope s__law_draw, [], []⟩, ⟨fun K => (He.ga K "_law_great"), "_law_great", "_law_great", defArgs s__law_great, defBody s__law_great, defScope s__law_great, [], []⟩, ⟨fun K => (He.ga K "_law_place"), "_law_place", "_law_place", defArgs s__law_place, defBody s__law_place, defScope s__law_place, [], []⟩, ⟨fun K => (He.ga K "_law_net"), "_law_net", "_law_net", defArgs s__law_net, defBody s__law_net, defScope s__law_net, [], []⟩, ⟨fun K => (He.ga K "_law_heard"), "_law_heard", "_law_heard", defArgs s__law_heard, defBody s__law_heard, defScope s__law_heard, [], []⟩, ⟨fun K => (He.ga K "_law_is_whole"), "_law_is_whole", "_law_is_whole", defArgs s__law_is_whole, defBody s__law_is_whole, defScope s__law_is_whole, [], []⟩, ⟨fun K => (He.ga K "_law_is_triple"), "_law_is_triple", "_law_is_triple", defArgs s__law_is_triple, defBody s__law_is_triple, defScope s__law_is_triple, [], []⟩, ⟨fun K => (He.ga K "_law_triples_right"), "_law_triples_right", "_law_triples_right", defArgs s__law_triples_right, defBody s__law_triples_right, defScope s__law_triples_right, [], []⟩, ⟨fun K => (He.ga K "_law_shifts_right"), "_law_shifts_right", "_law_shifts_right", defArgs s__law_shifts_right, defBody s__law_shifts_right, defScope s__law_shifts_right, [], []⟩, ⟨fun K => (He.ga K "law"), "law", "law", defArgs s_law, defBody s_law, defScope s_law, [], []⟩]
def ts : List He.Tab := []
abbrev askC : Ask := ⟨fs0, fn0, ts, tfAll⟩
theorem askC_eq : askC = ask := by kernel_rfl
theorem tx_of {w : World} {h : Heap} {K : Frg} {mg : Str → Option Value} (X : K.In h) (G : h.Ns mainGlobals mg) (c : Says ask w h K) : Tx w K mg where
  b_abs := free_of X G (c.at 0)
  b_all := free_of X G (c.at 1)
  b_bool := free_of X G (c.at 2)
  b_int := free_of X G (c.at 3)
  b_isinstance := free_of X G (c.at 4)
  b_len := free_of X G (c.at 5)
  b_list := free_of X G (c.at 6)
  b_range := free_of X G (c.at 7)
  b_repr := free_of X G (c.at 8)
  b_tuple := free_of X G (c.at 9)
  b_zip := free_of X G (c.at 10)
  cl_Net := cls_of (c.at 11)
  ec_InvalidNet := exc_of (c.at 12)
  ec_InvalidNumber := exc_of (c.at 13)
  ec_InvalidPlace := exc_of (c.at 14)
  ec_LimitExceeded := exc_of (c.at 15)
  exf_InvalidNumber_InvalidNet := ex_of (c.at 16)
  exf_InvalidNumber_InvalidPlace := ex_of (c.at 17)
  exf_InvalidPlace_InvalidNet := ex_of (c.at 18)
  exf_LimitExceeded_InvalidNet := ex_of (c.at 19)
  exf_LimitExceeded_InvalidNumber := ex_of (c.at 20)
  exf_LimitExceeded_InvalidPlace := ex_of (c.at 21)
  ext_InvalidNet_InvalidNet := ex_of (c.at 22)
  ext_InvalidNumber_InvalidNumber := ex_of (c.at 23)
  ext_InvalidPlace_InvalidPlace := ex_of (c.at 24)
  ext_LimitExceeded_LimitExceeded := ex_of (c.at 25)
  g_CarpetError := glo_of X G (c.at 26)
  g_InvalidNet := glo_of X G (c.at 27)
  g_InvalidNumber := glo_of X G (c.at 28)
  g_InvalidPlace := glo_of X G (c.at 29)
  g_LimitExceeded := glo_of X G (c.at 30)
  g_MOST_ABOVE := int_of X G (c.at 31)
  g_MOST_SIZE := int_of X G (c.at 32)
  g_Net := glo_of X G (c.at 33)
  g__law_draw := glo_of X G (c.at 34)
  g__law_great := glo_of X G (c.at 35)
  g__law_heard := glo_of X G (c.at 36)
  g__law_is_triple := glo_of X G (c.at 37)
  g__law_is_whole := glo_of X G (c.at 38)
  g__law_net := glo_of X G (c.at 39)
  g__law_place := glo_of X G (c.at 40)
  g__law_shifts_right := glo_of X G (c.at 41)
  g__law_tape := glo_of X G (c.at 42)
  g__law_triples_right := glo_of X G (c.at 43)
  g_are_numbers := glo_of X G (c.at 44)
  g_check_number := glo_of X G (c.at 45)
  g_check_place := glo_of X G (c.at 46)
  g_divisors := glo_of X G (c.at 47)
  g_form_of := glo_of X G (c.at 48)
  g_greatest_divisor := glo_of X G (c.at 49)
  g_is_integer := glo_of X G (c.at 50)
  g_is_place := glo_of X G (c.at 51)
  g_law := glo_of X G (c.at 52)
  g_nets_above := glo_of X G (c.at 53)
  g_nets_of_size := glo_of X G (c.at 54)
  g_nets_with := glo_of X G (c.at 55)
  k__law_draw := keep_of (c.at 56)
  k__law_great := keep_of (c.at 57)
  k__law_heard := keep_of (c.at 58)
  k__law_is_triple := keep_of (c.at 59)
  k__law_is_whole := keep_of (c.at 60)
  k__law_net := keep_of (c.at 61)
  k__law_place := keep_of (c.at 62)
  k__law_shifts_right := keep_of (c.at 63)
  k__law_tape := keep_of (c.at 64)
  k__law_triples_right := keep_of (c.at 65)
  k_are_numbers := keep_of (c.at 66)
  k_check_number := keep_of (c.at 67)
  k_check_place := keep_of (c.at 68)
  k_divisors := keep_of (c.at 69)
  k_form_of := keep_of (c.at 70)
  k_greatest_divisor := keep_of (c.at 71)
  k_is_integer := keep_of (c.at 72)
  k_is_place := keep_of (c.at 73)
  k_nets_above := keep_of (c.at 74)
  k_nets_of_size := keep_of (c.at 75)
  k_nets_with := keep_of (c.at 76)
  kf_LimitExceeded_CarpetError := kt_of (c.at 77)
  kt_InvalidNet_CarpetError := kt_of (c.at 78)
  kt_InvalidNumber_CarpetError := kt_of (c.at 79)
  kt_InvalidPlace_CarpetError := kt_of (c.at 80)
  lf__law_shifts_right := lamG_of X G (c.at 81)
  lf__law_triples_right := lamG_of X G (c.at 82)
  lf_law := lamG_of X G (c.at 83)
  m_Net_UcontainsU := meth_of (c.at 84)
  m_Net_is_within := meth_of (c.at 85)
  m_Net_place_in_cell := meth_of (c.at 86)
  m_Net_scaled := meth_of (c.at 87)
  m_Net_spanning := meth_of (c.at 88)
  mk_Net := mk_of (c.at 89)
  na_Net_own_numbers := no_of (c.at 90)
  ns_InvalidNumber := ns_of (c.at 91)
  p_Net_size := prop_of (c.at 92)
  sm_Net_of := sm_of (c.at 93)
  sy := sys_of (c.at 94)
  xc_InvalidNet := xcb_of (c.at 95)
  xc_InvalidNumber := xcb_of (c.at 96)
  xc_InvalidPlace := xcb_of (c.at 97)
  xc_LimitExceeded := xcb_of (c.at 98)
  d_InvalidNet_UinitU := c.df 0
  d_InvalidPlace_UinitU := c.df 1
  d_InvalidNumber_UinitU := c.df 2
  d_LimitExceeded_UinitU := c.df 3
  d_is_integer := c.df 4
  d_is_place := c.df 5
  d_check_place := c.df 6
  d_check_number := c.df 7
  d_greatest_divisor := c.df 8
  d_divisors := c.df 9
  d_are_numbers := c.df 10
  d_Net_UinitU := c.df 11
  d_form_of := c.df 12
  d_Net_of := c.df 13
  d_Net_size := c.df 14
  d_Net_spanning := c.df 15
  d_Net_place_in_cell := c.df 16
  d_Net_UcontainsU := c.df 17
  d_Net_is_within := c.df 18
  d_Net_scaled := c.df 19
  d_nets_with := c.df 20
  d_nets_of_size := c.df 21
  d_nets_above := c.df 22
  d__law_tape := c.df 23
  d__law_draw := c.df 24
  d__law_great := c.df 25
  d__law_place := c.df 26
  d__law_net := c.df 27
  d__law_heard := c.df 28
  d__law_is_whole := c.df 29
  d__law_is_triple := c.df 30
  d__law_triples_right := c.df 31
  d__law_shifts_right := c.df 32
  d_law := c.df 33
abbrev R : PySem.W.OpenRow := PySem.W.OpenLaw.row PySem.Challenge.rw_carpets_k02_invalid_nets_and_numbers
abbrev hk : PySem.W.Hook := hookZ 2000 ask
def ob (s : PySem.W.SharedT) : AlZ := obsG 2000 ask (HandSHeadRun.getT s)
theorem ob_eq (s : PySem.W.SharedT) : ob s = hk.obs s.abs := obsG_eq (HandSHeadRun.getT_eq s)
def loose : List Str := (["_wall", "CarpetError", "InvalidNet", "InvalidPlace", "InvalidNumber", "LimitExceeded", "is_integer", "is_place", "check_place", "check_number", "greatest_divisor", "bezout", "divisors", "MATRICES", "turned", "MOST_ABOVE", "MOST_SIZE", "form_of", "are_numbers", "common_numbers"] : List Str) ++ (["Net", "nets_with", "nets_of_size", "nets_above", "_law_tape", "_law_draw", "_law_great", "_law_place", "_law_net", "_law_heard", "_law_is_whole", "_law_is_triple", "_law_triples_right", "_law_shifts_right"] : List Str)
abbrev qv : Program := PySem.W.view R.prog [39]
theorem run0_0 (w : World) : HandSHeadRun.RunEq R qv (hookZ 2000 ⟨fs0, fn0, ts, tfAll⟩) (fun s => obsG 2000 ⟨fs0, fn0, ts, tfAll⟩ (HandSHeadRun.getT s)) 12000 loose (w.withFollow "special-get-raises" false) := by
  intro os; kernel_rfl
theorem run0 (w : World) : HandSHeadRun.RunEq R qv hk ob 12000 loose (w.withFollow "special-get-raises" false) := by
  have h := run0_0 w
  have e : ∀ a : Ask, a = ask → HandSHeadRun.RunEq R qv (hookZ 2000 a) (fun s => obsG 2000 a (HandSHeadRun.getT s)) 12000 loose (w.withFollow "special-get-raises" false) → HandSHeadRun.RunEq R qv (hookZ 2000 ask) (fun s => obsG 2000 ask (HandSHeadRun.getT s)) 12000 loose (w.withFollow "special-get-raises" false) := fun a e h => e ▸ h
  exact e askC askC_eq h
theorem run1_0 (w : World) : HandSHeadRun.RunEq R qv (hookZ 2000 ⟨fs0, fn0, ts, tfAll⟩) (fun s => obsG 2000 ⟨fs0, fn0, ts, tfAll⟩ (HandSHeadRun.getT s)) 12000 loose (w.withFollow "special-get-raises" true) := by
  intro os; kernel_rfl
theorem run1 (w : World) : HandSHeadRun.RunEq R qv hk ob 12000 loose (w.withFollow "special-get-raises" true) := by
  have h := run1_0 w
  have e : ∀ a : Ask, a = ask → HandSHeadRun.RunEq R qv (hookZ 2000 a) (fun s => obsG 2000 a (HandSHeadRun.getT s)) 12000 loose (w.withFollow "special-get-raises" true) → HandSHeadRun.RunEq R qv (hookZ 2000 ask) (fun s => obsG 2000 ask (HandSHeadRun.getT s)) 12000 loose (w.withFollow "special-get-raises" true) := fun a e h => e ▸ h
  exact e askC askC_eq h
theorem run (w : World) : HandSHeadRun.RunEq R qv hk ob 12000 loose w := PySem.W.byRow2 "special-get-raises" (P := fun w => HandSHeadRun.RunEq R qv hk ob 12000 loose w) run0 run1 w
end K02
/-! nets_of_size(size): a generator whose code calls defs and makes nets -/
namespace GX
open PySem PySem.Spec PyProof.Rows L2 GenW Z Y
/-! ### frozen parts, joined -/
open Classical in
/-- the code objects that the tables tell -/
noncomputable def Ft (K : Frg) (H : Hp) : Hp := fun c => if (∃ p ∈ tabsOf K, ∃ ps : Array Value, H p.1 = some (.tbl ps) ∧ ∃ pos : Pos, PySem.codeAmong pos ps.toList = some (.ref c)) then H c else none
section
variable {K : Frg} {ms : List Addr} {F G H H' H0 : Hp}
theorem Ft.le : Same (Ft K H) H := fun a o e => by
  unfold Ft at e
  split at e
  · exact e
  · cases e
theorem Ft.sub (t : Tp K ms F H) : Same (Ft K H) F := fun a o e => by
  have e1 := Ft.le _ _ e
  unfold Ft at e
  split at e
  · rename_i hp
    obtain ⟨p, hp, ps, h1, pos, h2⟩ := hp
    obtain ⟨_, ps', e2, _, e3⟩ := (t.tabs p hp).2
    rw [h1] at e2
    cases e2
    obtain ⟨c, z, e4⟩ := e3 pos _ h2
    cases z
    have e5 := t.sm _ _ e4
    rw [e1] at e5
    cases e5
    exact e4
  · cases e
theorem Tp.nt (t : Tp K ms F H) {a : Addr} (h : a ∈ tabA K) : F a = none := by
  obtain ⟨p, hp, rfl⟩ := List.mem_map.mp h
  exact (t.tabs p hp).2.1
theorem Ft.tp (t : Tp K ms F H) : Tp K (tabA K) (Ft K H) H where
  sm := Ft.le
  tape := fun a h n => (n h).elim
  tabs := fun p hp => by
    refine ⟨List.mem_map.mpr ⟨p, hp, rfl⟩, ?_, ?_⟩
    · cases q : Ft K H p.1 with
      | none => rfl
      | some o =>
        have := Ft.sub t _ _ q
        rw [(t.tabs p hp).2.1] at this
        cases this
    · obtain ⟨_, ps, e1, e2, e3⟩ := (t.tabs p hp).2
      refine ⟨ps, e1, e2, fun pos cv hc => ?_⟩
      obtain ⟨c, rfl, e4⟩ := e3 pos cv hc
      refine ⟨c, rfl, ?_⟩
      unfold Ft
      rw [if_pos ⟨p, hp, ps, e1, pos, hc⟩]
      exact t.sm _ _ e4
def orF (F G : Hp) : Hp := fun a => match F a with
  | some o => some o
  | none => G a
theorem orF.l {a : Addr} {o : HO} (e : F a = some o) : orF F G a = some o := by unfold orF; rw [e]
theorem orF.r {a : Addr} (e : F a = none) : orF F G a = G a := by unfold orF; rw [e]
theorem join (t : Tp K ms F H) (g : Go (tabA K) (Ft K H) H G H') (t1 : Tp K (tabA K) G H') : (∀ ns, (∀ a ∈ tabA K, a ∈ ns) → Go ns F H (orF F G) H') ∧ Tp K ms (orF F G) H' ∧ Same G (orF F G) := by
  have hF : ∀ a o, F a = some o → H' a = some o := fun a o e => by
    have e1 := t.sm _ _ e
    have na : a ∉ tabA K := fun z => by rw [Tp.nt t z] at e; cases e
    cases q : Ft K H a with
    | some u =>
      have := Ft.le _ _ q
      rw [e1] at this
      cases this
      exact g.fh _ _ (g.ff _ _ q)
    | none => exact (g.mu a o na q e1).2
  have sG : Same G (orF F G) := fun a o e => by
    cases q : F a with
    | some u =>
      have h1 := hF a u q
      rw [g.fh _ _ e] at h1
      cases h1
      exact orF.l q
    | none => rw [orF.r q]; exact e
  have gg : ∀ ns, (∀ a ∈ tabA K, a ∈ ns) → Go ns F H (orF F G) H' := fun ns hs => by
    refine ⟨fun a o e => orF.l e, fun a o e => ?_, fun a o hm h1 h2 => ?_⟩
    · cases q : F a with
      | some u => rw [orF.l q] at e; cases e; exact hF a _ q
      | none => rw [orF.r q] at e; exact g.fh _ _ e
    · have na : a ∉ tabA K := fun z => hm (hs a z)
      have q : Ft K H a = none := by
        cases q : Ft K H a with
        | none => rfl
        | some u =>
          have := Ft.sub t _ _ q
          rw [h1] at this
          cases this
      obtain ⟨m1, m2⟩ := g.mu a o na q h2
      exact ⟨by rw [orF.r h1]; exact m1, m2⟩
  refine ⟨gg, ⟨(gg _ fun _ z => z).fh, fun x hx nx => (t.tape x hx nx).go (gg (tabA K) fun _ z => z) nx, fun p hp => ⟨(t.tabs p hp).1, ?_, ?_⟩⟩, sG⟩
  · rw [orF.r (t.tabs p hp).2.1]
    exact (t1.tabs p hp).2.1
  · obtain ⟨_, ps, e1, e2, e3⟩ := (t1.tabs p hp).2
    exact ⟨ps, e1, e2, fun pos cv hc => let ⟨c, q1, q2⟩ := e3 pos cv hc; ⟨c, q1, sG _ _ q2⟩⟩
/-- a list is no longer held -/
theorem drop {F0 : Hp} {a : Addr} {vs : List V} (s0 : Same F0 H0) (g : Go (tabA K) F0 H0 G H) (t : Tp K (tabA K) G H) (h0 : H0 a = none) (ha : H a = some (.lst vs)) : Go (tabA K) F0 H0 (lessF G a) (lessF H a) ∧ Tp K (tabA K) (lessF G a) (lessF H a) := by
  have ne : ∀ b o, H0 b = some o → b ≠ a := fun b o e z => by rw [z, h0] at e; cases e
  have le : ∀ (J : Hp) b, b ≠ a → lessF J a b = J b := fun J b n => if_neg n
  have sm : Same (lessF G a) (lessF H a) := fun b o e => by
    by_cases hb : b = a
    · subst hb
      unfold lessF at e
      rw [if_pos rfl] at e
      cases e
    · rw [le _ _ hb] at e ⊢
      exact g.fh _ _ e
  refine ⟨⟨fun b o e => ?_, sm, fun b o hm h1 h2 => ?_⟩, sm, fun x hx nx => (nx hx).elim, fun p hp => ⟨(t.tabs p hp).1, ?_, ?_⟩⟩
  · rw [le _ _ (ne b o (s0 _ _ e))]
    exact g.ff _ _ e
  · obtain ⟨m1, m2⟩ := g.mu b o hm h1 h2
    rw [le _ _ (ne b o h2), le _ _ (ne b o h2)]
    exact ⟨m1, m2⟩
  · unfold lessF
    split
    · rfl
    · exact (t.tabs p hp).2.1
  · obtain ⟨_, ps, e1, e2, e3⟩ := (t.tabs p hp).2
    refine ⟨ps, ?_, e2, fun pos cv hc => ?_⟩
    · rw [le]
      · exact e1
      · intro z
        rw [z, ha] at e1
        cases e1
    · obtain ⟨c, q1, q2⟩ := e3 pos cv hc
      refine ⟨c, q1, ?_⟩
      rw [le]
      · exact q2
      · intro z
        have := t.sm _ _ q2
        rw [z, ha] at this
        unfold LamX.CodeO at this
        cases this
end
/-! ### within a turn -/
section
variable {X : Cx} {pins : List (Addr × Obj)} {σ : L2.St} {H H' G : Hp} {s s' : Shared} {env : Env} {A' : Around} {fp : List Addr}
theorem fp_base (I : L2.Inv X pins σ H s) {b : Addr} (f : FpOk X pins H b) : X.base.get? b = none := by
  cases q : X.base.get? b with
  | none => rfl
  | some o =>
    rcases f.2.2.2.1 with z | z
    · exact absurd z (I.ok.noex b o q)
    · exact absurd (Nat.lt_of_lt_of_le (Heap.lt_size (I.ok.bs b o q).1) z) (Nat.lt_irrefl _)
theorem fp_stk (I : L2.Inv X pins σ H s) {b : Addr} (f : FpOk X pins H b) : b ∉ frs X.stack := fun z => by
  rcases List.mem_cons.mp (I.stkSub b z) with e | e
  · exact f.2.1 e
  · exact f.2.2.1 e
theorem frs_env (fr : env.frame = some env.locals) : frs (env :: X.stack) = env.locals :: frs X.stack := by
  unfold frs
  rw [List.filterMap_cons, fr]
theorem genv0 (I : L2.Inv X pins σ H s) (fL : FpOk X pins H env.locals) (fr : env.frame = some env.locals) (kd : env.scope.kind = .function) {m : Str → Option Value} (hn : s.heap.Ns env.locals m) (hA : A'.frames = some (env :: X.stack)) :
    Env0 X.prog X.w X.K X.mg X.base A' (env :: X.stack) s H :=
  ⟨hA, I.ok.mod, I.bs, Nat.le_trans I.ok.bsz I.sz, .cons (by rw [kd]; decide) fr hn (fp_base I fL) I.stack, fun b hb => by
    rw [frs_env fr] at hb
    rcases List.mem_cons.mp hb with e | e
    · rw [e]; exact fL.1
    · exact I.stkFree b e, I.hok, I.bare⟩
theorem un_of {h h' : Heap} (fr : env.frame = some env.locals) (u : Un (frs (env :: X.stack)) [] H H' h h') : Un (frs X.stack) [env.locals] H H' h h' := by
  have e := frs_env (X := X) fr
  rw [e] at u
  refine ⟨fun b o q n hf hx => u.keep b o q n (fun z => ?_) (by simp), fun b o q n hf hx => u.slot b o q n (List.mem_cons_of_mem _ hf) (by simp), fun b o q n hx => u.free b o q n (by simp), fun b o q hx => u.there b o q (by simp), u.tups, u.frzs, u.tbls⟩
  rcases List.mem_cons.mp z with z | z
  · exact hx (by simp [z])
  · exact hf z
/-- behind a call -/
theorem gafter (I : L2.Inv X pins σ H s) (fo : ∀ b ∈ fp, FpOk X pins H b) (lm : env.locals ∈ fp) (fr : env.frame = some env.locals) {Q : VK} {u : Value} (h : CE (env :: X.stack) X.prog X.w H s Q u s') :
    ∃ v H', L2.Inv X pins σ H' s' ∧ RelV v u ∧ Q v H' ∧ (∀ m, s.heap.Ns env.locals m → s'.heap.Ns env.locals m) ∧ (∀ b ∈ fp, b ≠ env.locals → ∀ o, s.heap.get? b = some o → s'.heap.get? b = some o) ∧ (∀ b o, s.heap.get? b = some o → H b = none → H' b = none) ∧ ∀ o, s.heap.get? env.locals = some o → ∃ sl, s'.heap.get? env.locals = some { o with slots := sl } := by
  obtain ⟨v, H', os, bare, un, hok, r, q⟩ := h
  obtain ⟨hh, g, d, t, os'⟩ := s'
  obtain rfl : os' = s.os := os
  have fL := fo _ lm
  have sl : ∀ o, s.heap.get? env.locals = some o → ∃ sl, hh.get? env.locals = some { o with slots := sl } := fun o e => un.slot _ o e fL.1 (by rw [frs_env fr]; simp) (by simp)
  refine ⟨v, H', I.call (h' := hh) (g' := g) (d' := d) (t' := t) (ch := [env.locals]) (un_of fr un) hok bare (fun b hb => ?_), r, q, fun m hm => ?_, fun b hb ne o e => ?_, fun b o e n => un.free b o e n (by simp), sl⟩
  · have e : b = env.locals := by simpa using hb
    subst e
    exact ⟨fL.2.2.2.1, fL.2.1, fL.2.2.2.2.1, fL.2.2.2.2.2⟩
  · obtain ⟨o', es', ep', ho', r'⟩ := hm
    obtain ⟨sl', e⟩ := sl _ ho'
    exact ⟨_, es', ep', e, r'⟩
  · refine un.keep b o e (fo b hb).1 (fun z => ?_) (by simp)
    rw [frs_env fr] at z
    rcases List.mem_cons.mp z with z | z
    · exact ne z
    · exact fp_stk I (fo b hb) z
end
structure EnvN (env : Env) : Prop where
  kind : env.scope.kind = .function
  glob : env.globals = mainGlobals
  blt : env.builtins = builtinsNs
  cn : env.kindOf "check_number" = some .globalImplicit
  dv : env.kindOf "divisors" = some .globalImplicit
  nt : env.kindOf "Net" = some .globalImplicit
  rg : env.kindOf "range" = some .globalImplicit
  ms : env.kindOf "MOST_SIZE" = some .globalImplicit
  ks : env.kindOf "size" = some .local
  kb : env.kindOf "b" = some .local
  kc : env.kindOf "c" = some .local
  co : env.scope.isCoroutine = false
  hi : interactive env = false
  fr : env.frame = some env.locals
theorem EnvN.hp {env : Env} (e : EnvN env) : (env.scope.kind == .class || (env.scope.kind == .module && env.locals != env.globals)) = false := by rw [e.kind]; rfl
/-- within a turn that began at H0 -/
structure Tn (X : Cx) (pins : List (Addr × Obj)) (σ : L2.St) (env : Env) (gobj : Addr) (gno : Nat) (H0 : Hp) (fp : List Addr) (G H : Hp) (s : Shared) : Prop where
  inv : L2.Inv X pins σ H s
  go : Go (tabA X.K) (Ft X.K H0) H0 G H
  tp : Tp X.K (tabA X.K) G H
  fo : ∀ b ∈ fp, FpOk X pins H b
  ob : ∀ b ∈ fp, ∃ o, s.heap.get? b = some o ∧ ∀ v, o.data ≠ .cell v
  gm : gobj ∈ fp
  lm : env.locals ∈ fp
  gn : s.heap.IsGen gobj gno
  gL : gobj ≠ env.locals
section
variable {X : Cx} {pins : List (Addr × Obj)} {σ : L2.St} {H H' G H0 : Hp} {s s' : Shared} {env : Env} {A' : Around} {fp fq : List Addr} {gobj : Addr} {gno : Nat}
/-- only the generator's own things change -/
theorem Tn.step (T : Tn X pins σ env gobj gno H0 fp G H s) (sub : ∀ b ∈ fq, b ∈ fp ∨ s.heap.objs.size ≤ b) (kp : Kp fp s.heap s'.heap) (os : s'.os = s.os) (ba : s'.gens = s.gens)
    (ob : ∀ b ∈ fq, ∃ o, s'.heap.get? b = some o ∧ ∀ v, o.data ≠ .cell v) (gm : gobj ∈ fq) (lm : env.locals ∈ fq) (gn : s'.heap.IsGen gobj gno) : Tn X pins σ env gobj gno H0 fq G H s' :=
  ⟨inv_turn T.inv T.fo kp os (by rw [ba]; exact T.inv.bare) rfl, T.go, T.tp, fun b hb => by
    rcases sub b hb with z | z
    · exact T.fo b z
    · exact T.inv.fpOk z (T.inv.hok.fresh z), ob, gm, lm, gn, T.gL⟩
/-- a def is called -/
theorem Tn.run {f : Addr} {k : Nat} {R : RdF} {us : List Value} {vs : List V} {ds : List D} {Qd : D → Prop} (T : Tn X pins σ env gobj gno H0 fp G H s) (en : EnvN env) {m : Str → Option Value} (hn : s.heap.Ns env.locals m) (hA : A'.frames = some (env :: X.stack))
    (F : FnG X.prog X.w X.K X.mg X.base (L2N.CX X.prog X.w) k f (spP X.K R)) (hr : RoomG k A') (rv : Vals vs us) (rp : Rps X.K (tabA X.K) (Ft X.K H) vs ds) (hR : R ds Qd fun _ => False) :
    codeAny (model X.prog X.w) A' (.call (.ref f) ⟨us, []⟩) (fun r s' => ∃ u v d G' H', r = .ok (.ret u) ∧ RelV v u ∧ Qd d ∧ Rp X.K (tabA X.K) (orF G G') v d ∧ Same G' (orF G G') ∧ (Rp X.K (tabA X.K) G' v d ∧ Go (tabA X.K) (Ft X.K H) H G' H') ∧ Tn X pins σ env gobj gno H0 fp (orF G G') H' s' ∧
      s'.heap.Ns env.locals m ∧ (∀ b ∈ fp, b ≠ env.locals → ∀ o, s.heap.get? b = some o → s'.heap.get? b = some o) ∧ ∀ b o, s.heap.get? b = some o → H b = none → H' b = none) s := by
  have e0 := genv0 T.inv (T.fo _ T.lm) en.fr en.kind hn hA
  refine codeAny_mono (F A' (env :: X.stack) s H us vs (fun v H' => ∃ G' d, Go (tabA X.K) (Ft X.K H) H G' H' ∧ Tp X.K (tabA X.K) G' H' ∧ Rp X.K (tabA X.K) G' v d ∧ Qd d) (fun _ _ _ => False) hr e0 rv ⟨tabA X.K, Ft X.K H, ds, Qd, fun _ => False, Ft.tp T.tp, rp, hR, fun v F' H' d g t r q => ⟨F', d, g, t, r, q⟩, fun _ _ _ _ _ _ _ _ z => z⟩) fun r s' hq => ?_
  match r, hq with
  | .error e, hq =>
    obtain ⟨_, _, _, _, _, _, _, _, _, _, _, _, z⟩ := hq
    exact z.elim
  | .ok (.ret u), hq =>
    obtain ⟨v, H', I', rv', ⟨G', d, g, t, rp', qd⟩, ns, kp, fr, sl⟩ := gafter T.inv T.fo T.lm en.fr hq
    obtain ⟨j1, j2, j3⟩ := join T.tp g t
    refine ⟨u, v, d, G', H', rfl, rv', qd, rp'.up j3, j3, ⟨rp', g⟩, ⟨I', T.go.trans (j1 _ fun _ z => z), j2, fun b hb => ?_, fun b hb => ?_, T.gm, T.lm, isgen_at T.gn (kp _ T.gm T.gL), T.gL⟩, ns m hn, kp, fr⟩
    · obtain ⟨o, e, _⟩ := T.ob b hb
      exact ⟨fr b o e (T.fo b hb).1, (T.fo b hb).2⟩
    · obtain ⟨o, e, nc⟩ := T.ob b hb
      by_cases hL : b = env.locals
      · subst hL
        obtain ⟨sl', e'⟩ := sl o e
        exact ⟨_, e', nc⟩
      · exact ⟨o, kp b hb hL o e, nc⟩
  | .ok .next, hq => exact False.elim hq
  | .ok .brk, hq => exact False.elim hq
  | .ok .cont, hq => exact False.elim hq
/-- an instance is made -/
theorem Tn.make {f : Addr} {k : Nat} {R : RdF} {C : Str} {us : List Value} {vs : List V} {ds : List D} {Qd : D → Prop} (T : Tn X pins σ env gobj gno H0 fp G H s) (en : EnvN env) {m : Str → Option Value} (hn : s.heap.Ns env.locals m) (hA : A'.frames = some (env :: X.stack))
    (M : Mk X.K (He.ga X.K C) f) (F : FnG X.prog X.w X.K X.mg X.base (L2N.CX X.prog X.w) k f (Y.spI X.K C R)) (hr : RoomG (k + 1) A') (rv : Vals vs us) (rp : Rps X.K (tabA X.K) (Ft X.K H) vs ds) (hR : R ds Qd fun _ => False) :
    codeAny (model X.prog X.w) A' (.call (.ref (He.ga X.K C)) ⟨us, []⟩) (fun r s' => ∃ x d G' H', r = .ok (.ret (.ref x)) ∧ Qd d ∧ Rp X.K (tabA X.K) (orF G G') (.ref x) d ∧ Tn X pins σ env gobj gno H0 fp (orF G G') H' s' ∧
      s'.heap.Ns env.locals m ∧ (∀ b ∈ fp, b ≠ env.locals → ∀ o, s.heap.get? b = some o → s'.heap.get? b = some o)) s := by
  have hsz : ∀ b o, s.heap.get? b = some o → b ≠ s.heap.objs.size ∧ b ≠ s.heap.objs.size + 1 := fun b o e => ⟨Nat.ne_of_lt (Heap.lt_size e), Nat.ne_of_lt (Nat.lt_succ_of_lt (Heap.lt_size e))⟩
  have I2 := Inv.made (C := He.ga X.K C) T.inv
  have up : ∀ b o, s.heap.get? b = some o → ((s.heap.push PySem.W.emptyDict).push (PySem.W.instObj (He.ga X.K C) s.heap.objs.size)).get? b = some o := fun b o e => Heap.get?_push_of_some _ (Heap.get?_push_of_some _ e)
  have fo2 : ∀ b ∈ fp, FpOk X pins (upd (upd H s.heap.objs.size (.own (s.heap.objs.size + 1))) (s.heap.objs.size + 1) (.ins (He.ga X.K C) s.heap.objs.size [])) b := fun b hb => by
    obtain ⟨o, e, _⟩ := T.ob b hb
    obtain ⟨n1, n2⟩ := hsz b o e
    exact ⟨by rw [upd_ne n2, upd_ne n1]; exact (T.fo b hb).1, (T.fo b hb).2⟩
  have hn2 := hn.at' (up env.locals)
  have e0 := genv0 (A' := A') I2 (fo2 _ T.lm) en.fr en.kind hn2 hA
  have hsp : Y.spP X.K R vs H (fun v H' => ∃ G' d, Go (tabA X.K) (Ft X.K H) H G' H' ∧ Tp X.K (tabA X.K) G' H' ∧ Rp X.K (tabA X.K) G' v d ∧ Qd d) (fun _ _ _ => False) := ⟨tabA X.K, Ft X.K H, ds, Qd, fun _ => False, Ft.tp T.tp, rp, hR, fun v F' H' d g t r q => ⟨F', d, g, t, r, q⟩, fun _ _ _ _ _ _ _ _ z => z⟩
  have hs2 := Y.spI_of (C := C) vs H _ hsp (s.heap.objs.size + 1) s.heap.objs.size (T.inv.hok.fresh (Nat.le_succ _)) (T.inv.hok.fresh (Nat.le_refl _)) (Nat.ne_of_lt (Nat.lt_succ_self _))
  refine make_map (f := f) T.inv.kIn M.makes M.init (beq_iff_eq.mp M.fn) (codeAny_mono (F _ (env :: X.stack) _ _ (Value.ref (s.heap.objs.size + 1) :: us) (V.ref (s.heap.objs.size + 1) :: vs) _ _ (hr.make (He.ga X.K C) us) (e0.make (He.ga X.K C) us []) (.cons rfl rv) hs2) fun r s' hq => ?_)
  match r, hq with
  | .error e, hq =>
    obtain ⟨_, _, _, _, _, _, _, _, _, _, _, _, z⟩ := hq
    exact z.elim
  | .ok (.ret u), hq =>
    obtain ⟨v, H', I', rv', ⟨ev, G', d, g, t, rp', qd⟩, ns, kp, fr, sl⟩ := gafter I2 fo2 T.lm en.fr hq
    subst ev
    obtain ⟨j1, j2, j3⟩ := join T.tp g t
    refine ⟨rv', s.heap.objs.size + 1, d, G', H', rfl, qd, rp'.up j3, ⟨I', T.go.trans (j1 _ fun _ z => z), j2, fun b hb => ?_, fun b hb => ?_, T.gm, T.lm, isgen_at T.gn fun o e => kp _ T.gm T.gL o (up _ _ e), T.gL⟩, ns m hn2, fun b hb ne o e => kp b hb ne o (up _ _ e)⟩
    · obtain ⟨o, e, _⟩ := T.ob b hb
      exact ⟨fr b o (up _ _ e) (fo2 b hb).1, (T.fo b hb).2⟩
    · obtain ⟨o, e, nc⟩ := T.ob b hb
      by_cases hL : b = env.locals
      · subst hL
        obtain ⟨sl', e'⟩ := sl o (up _ _ e)
        exact ⟨_, e', nc⟩
      · exact ⟨o, kp b hb hL o (up _ _ e), nc⟩
  | .ok .next, hq => exact False.elim hq
  | .ok .brk, hq => exact False.elim hq
  | .ok .cont, hq => exact False.elim hq
end
end GX
/-! nets_of_size: its loops -/
namespace GX
open PySem PySem.Spec PyProof.Rows L2 GenW Z Y
abbrev It3 := Int × Int × Int
def netOf (t : It3) : D := dNet t.1 t.2.1 t.2.2
def rowI (n c b : Int) (j : Nat) : List It3 := (List.range j).map fun (t : Nat) => (n / c, b + (t : Int), c)
def restL (n : Int) (ds : List Int) : List It3 := ds.flatMap fun c => rowI n c 0 (n / c).toNat
/-- which run this is -/
def XO (X : Cx) (P : Program) (w : World) (K : Frg) (mg : Str → Option Value) (A0 : Around) : Prop := X.prog = P ∧ X.w = w ∧ X.K = K ∧ X.mg = mg ∧ X.A = A0
section
variable (P : Program) (w : World) (K : Frg) (mg : Str → Option Value) (A0 : Around) (gobj : Addr) (gno : Nat)
end
section
variable {P : Program} {w : World} {K : Frg} {mg : Str → Option Value} {A0 : Around} {gobj : Addr} {gno : Nat}
end
/-- what the code calls -/
structure NFs (P : Program) (w : World) (K : Frg) (mg : Str → Option Value) (fc fd fi : Addr) (kk : Nat) : Prop where
  mc : mg "check_number" = some (.ref fc)
  kc : PySem.W.keepIn K (.ref fc) = true
  oc : ∀ base, FnG P w K mg base (L2N.CX P w) kk fc (spP K R_check_number_n)
  md : mg "divisors" = some (.ref fd)
  kd : PySem.W.keepIn K (.ref fd) = true
  od : ∀ base, FnG P w K mg base (L2N.CX P w) kk fd (spP K R_divisors)
  mn : mg "Net" = some (.ref (He.ga K "Net"))
  mkc : Mk K (He.ga K "Net") fi
  oi : ∀ base, FnG P w K mg base (L2N.CX P w) kk fi (Y.spI K "Net" R_Net_UinitU)
  mm : ∃ t, mg "MOST_SIZE" = some (.int 10000 t)
  mr : mg "range" = none
section
variable {X : Cx} {pins : List (Addr × Obj)} {σ : L2.St} {H H' G H0 : Hp} {s s' : Shared} {env : Env} {A' : Around} {fp fq : List Addr} {gobj : Addr} {gno : Nat}
theorem ldgN {E : Value → Shared → Prop} {x : Str} {u : Value} {pos : Pos} {Q : Value → Shared → Prop} (I : L2.Inv X pins σ H s) (en : EnvN env) (hg : env.kindOf x = some .globalImplicit) (hm : X.mg x = some u) (h : Q u s)
    (hd : (x == ("__debug__" : Str)) = false := by decide) : wpAny (model X.prog X.w) A' (eval (.Name x pos) env) Q E s :=
  Calls.Name_function_global en.kind hg (Calls.loadGlobal_global (by rw [en.glob]; exact I.mod.glob.keeps I.bk) hm h) hd
theorem ldlN {P : Program} {w : World} {E : Value → Shared → Prop} {x : Str} {u : Value} {pos : Pos} {Q : Value → Shared → Prop} {m : Str → Option Value} (en : EnvN env) (hk : env.kindOf x = some .local) (hn : s.heap.Ns env.locals m) (hv : m x = some u) (h : Q u s)
    (hd : (x == ("__debug__" : Str)) = false := by decide) : wpAny (model P w) A' (eval (.Name x pos) env) Q E s :=
  wpAny_Name (wpAny_loadName_local en.kind hk hn hv h) hd
theorem Tn.tok (T : Tn X pins σ env gobj gno H0 fp G H s) {t : Nat} : Tn X pins σ env gobj gno H0 fp G H { s with toks := t } :=
  T.step (fun b hb => .inl hb) .refl rfl rfl T.ob T.gm T.lm T.gn
end
end GX
namespace GX
open PySem PySem.Spec PyProof.Rows L2 GenW Z Y
structure Ps where
  (a1 a2 a3 a4 a5 a6 a7 a8 a9 b1 b2 b3 b4 b5 b6 b7 c1 c2 c3 c4 c5 c6 c7 c8 c9 c10 c11 : Pos)
abbrev nI (ps : Ps) : List Stmt := [.Expr (.Yield (some (.Call (.Name "Net" ps.a1) [.BinOp (.Name "size" ps.a2) .FloorDiv (.Name "c" ps.a3) ps.a4, .Name "b" ps.a5, .Name "c" ps.a6] [] ps.a7)) ps.a8) ps.a9]
abbrev nO (ps : Ps) : List Stmt := [.For (.Name "b" ps.b1) (.Call (.Name "range" ps.b2) [.BinOp (.Name "size" ps.b3) .FloorDiv (.Name "c" ps.b4) ps.b5] [] ps.b6) (nI ps) [] ps.b7]
/-- the list that is walked, from where on -/
def Lw (h : Heap) (lst I1 : Addr) (ds : List Int) : Prop := ∃ (its : List Value) (i : Nat), h.IsList lst its.toArray ∧ h.IsListIter I1 lst i ∧ Vals (ds.map V.int) (its.drop i)
theorem Lw.at {h h' : Heap} {lst I1 : Addr} {ds : List Int} (x : Lw h lst I1 ds) (e1 : ∀ o, h.get? lst = some o → h'.get? lst = some o) (e2 : ∀ o, h.get? I1 = some o → h'.get? I1 = some o) : Lw h' lst I1 ds := by
  obtain ⟨its, i, ⟨o, q, r⟩, ⟨o', q', r'⟩, v⟩ := x
  exact ⟨its, i, ⟨o, e1 _ q, r⟩, ⟨o', e2 _ q', r'⟩, v⟩
structure Po (X : Cx) (pins : List (Addr × Obj)) (σ : L2.St) (env : Env) (gobj : Addr) (gno : Nat) (H0 : Hp) (fp : List Addr) (G H : Hp) (s : Shared) (n : Int) (I1 lst : Addr) (ds : List Int) : Prop where
  tn : Tn X pins σ env gobj gno H0 fp G H s
  fr : ∃ m t, s.heap.Ns env.locals m ∧ m "size" = some (.int n t)
  ls : Lw s.heap lst I1 ds
  m1 : I1 ∈ fp
  ml : lst ∈ fp
  n1 : I1 ≠ env.locals
  n4 : lst ≠ env.locals
  n6 : lst ≠ I1
  g1 : gobj ≠ I1
structure Pt (X : Cx) (pins : List (Addr × Obj)) (σ : L2.St) (env : Env) (gobj : Addr) (gno : Nat) (H0 : Hp) (fp : List Addr) (G H : Hp) (s : Shared) (n c b : Int) (I1 I2 lst : Addr) (ds : List Int) (j : Nat) : Prop where
  po : Po X pins σ env gobj gno H0 fp G H s n I1 lst ds
  fc : ∃ m t u, s.heap.Ns env.locals m ∧ m "size" = some (.int n t) ∧ m "c" = some (.int c u)
  i2 : IsRangeIter s.heap I2 b j 1
  m2 : I2 ∈ fp
  n2 : I2 ≠ env.locals
  n3 : I1 ≠ I2
  n5 : lst ≠ I2
  g2 : gobj ≠ I2
section
variable {X : Cx} {pins : List (Addr × Obj)} {σ : L2.St} {H H' G H0 : Hp} {s s' : Shared} {env : Env} {A' : Around} {fp fq : List Addr} {gobj fc fd fi I1 I2 lst : Addr} {gno kk : Nat} {ps : Ps} {n c b : Int} {ds : List Int} {fs fsO : List Frame}
end
section
variable {P : Program} {w : World} {K : Frg} {mg : Str → Option Value} {A0 A' : Around} {env : Env} {gobj fc fd fi I1 lst : Addr} {gno kk : Nat} {ps : Ps} {n : Int} {fsO : List Frame} {stk : List Env}
end
end GX
namespace GX
open PySem
/-! ### what is dead stays dead -/
def Dd (h h' : Heap) : Prop := h.objs.size ≤ h'.objs.size ∧ ∀ a, a < h.objs.size → h.get? a = none → h'.get? a = none
theorem Dd.refl {h : Heap} : Dd h h := ⟨Nat.le_refl _, fun _ _ e => e⟩
theorem Dd.trans {h h1 h2 : Heap} (a : Dd h h1) (b : Dd h1 h2) : Dd h h2 := ⟨Nat.le_trans a.1 b.1, fun c l e => b.2 c (Nat.lt_of_lt_of_le l a.1) (a.2 c l e)⟩
theorem Dd.push {h : Heap} {o : Obj} : Dd h (h.push o) := ⟨by rw [Heap.size_push]; omega, fun a l e => by rw [Heap.get?_push_ne h a o (Nat.ne_of_lt l)]; exact e⟩
theorem Dd.upd {h : Heap} {a : Addr} {f : Obj → Obj} (q : (h.get? a).isSome) : Dd h (h.update a f) := ⟨by rw [Heap.size_update]; omega, fun b _ e => by
  by_cases hb : b = a
  · subst hb; rw [e] at q; cases q
  · rw [(Heap.SameBut.update h a f).2 b hb]; exact e⟩
open PySem.Spec PyProof.Rows L2 GenW Z Y
/-! ### the first turn -/
theorem Ft.code {K : Frg} {ms : List Addr} {F H : Hp} (t : Tp K ms F H) {c : Addr} {o : HO} (e : Ft K H c = some o) : ∃ q, o = LamX.CodeO c q := by
  have e1 := Ft.le _ _ e
  unfold Ft at e
  split at e
  · rename_i hp
    obtain ⟨p, hp, ps, h1, pos, h2⟩ := hp
    obtain ⟨_, ps', e2, _, e3⟩ := (t.tabs p hp).2
    rw [h1] at e2
    cases e2
    obtain ⟨c', z, e4⟩ := e3 pos _ h2
    cases z
    have e5 := t.sm _ _ e4
    rw [e1] at e5
    exact ⟨p.2, Option.some.inj e5⟩
  · cases e
abbrev nBody (ps : Ps) (kd : Nat) : List Stmt := [.Expr (.Call (.Name "check_number" ps.c1) [.Name "size" ps.c2, .Constant (.int 1) kd ps.c3, .Name "MOST_SIZE" ps.c4] [] ps.c5) ps.c6, .For (.Name "c" ps.c7) (.Call (.Name "divisors" ps.c8) [.Name "size" ps.c9] [] ps.c10) (nO ps) [] ps.c11]
section
variable {X : Cx} {pins : List (Addr × Obj)} {σ : L2.St} {H : Hp} {s : Shared} {env : Env} {gobj fc fd fi : Addr} {gno kk kd : Nat} {ps : Ps} {n : Int}
end
end GX
namespace GX
open PySem PySem.Spec PyProof.Rows L2 GenW Z Y
section
variable {P : Program} {w : World} {K : Frg} {mg : Str → Option Value} {A0 : Around} {env : Env} {gobj fc fd fi : Addr} {gno kk kd : Nat} {ps : Ps} {n : Int}
/-- the call gives a generator that has not begun -/
theorem call_genN {K : Frg} {mg : Str → Option Value} {base : Heap} {x qual p : Str} {st : Stmt} {f : Addr} {u : Value} {N : List Str} {A : Around} {outer : List Env} {s : Shared} {H : Hp} (F : DefAt K x qual st f) (S : GScope N [p] (defScope st)) (ks : (defScope st).names.lookup p = some .local)
    (hb : ∀ (kV doc pm : Value) (an : Option Addr) (cdv ct : Value) (us : List Value), us.length = 1 → bindArgs (PySem.W.fnOf x qual (defArgs st) (defBody st) (defScope st) .none kV doc pm an cdv ct) ⟨us, []⟩ = pure (([p] : List Str).zip us))
    (hr : A.depth < recursionLimit) (e0 : Env0 P w K mg base A outer s H) :
    codeAny (model P w) A (.call (.ref f) ⟨[u], []⟩) (fun r s' => ∃ gobj gno cdv, r = .ok (.ret (.ref gobj)) ∧ (∀ b o, s.heap.get? b = some o → s'.heap.get? b = some o) ∧ s'.os = s.os ∧ AllBare s'.gens ∧
      s'.gens[gno]? = some (.fresh (.func (defBody st) (envOfC qual (defScope st) s.heap.objs.size f cdv))) ∧ s'.heap.IsGen gobj gno ∧ (∃ m, s'.heap.Ns s.heap.objs.size m ∧ m p = some u) ∧ s.heap.objs.size < gobj) s := by
  obtain ⟨fd, F⟩ := F
  obtain ⟨oc, od, dV, kV, doc, pm, an, cdv, ct, osl, rfl, lk, hcd, hD, hK⟩ := F.ex
  have hD' : dV = .none := by
    rcases hD with ⟨_, z⟩ | ⟨z, _⟩
    · exact z
    · exact absurd rfl z
  subst hD'
  have KX : K.In s.heap := e0.mod.kin.keeps fun b o e => (e0.bs b o e).1
  have lim : s.heap.NoLimit := e0.mod.nolimit.keeps fun b o e => (e0.bs b o e).1
  have hkind : ∀ y ∈ ([p] : List Str).zip [u], (defScope st).names.lookup y.1 = some .local ∨ ((defScope st).names.lookup y.1 = some .cell ∧ ((cellsFrom (s.heap.objs.size + 1) (defScope st).names []).lookup y.1).isSome = true) := fun y hy => by
    have e : y = (p, u) := by simpa using hy
    subst e
    exact .inl ks
  refine codeAny_call_generator hr (KX _ _ lk) rfl S.co S.gen rfl (PySem.W.codeRec_of KX hcd) ?_
  rw [hb kV doc pm an cdv ct [u] rfl]
  refine wpAny_pure ?_
  refine wpAny_newFunctionEnv_cells (s := s) S.kind hkind fun env he s1 x => ?_
  subst he
  refine ⟨lim.keeps x.toInCall.keep, ?_⟩
  obtain ⟨h1, tk, rfl, hk⟩ := x.done
  have lt1 := x.toInCall.ns.lt
  refine ⟨_, s.gens.size, cdv, rfl, fun b o e => Heap.get?_push_of_some _ (hk b o e), rfl, AllBare.push e0.bare rfl, Array.getElem?_push_size .., ⟨_, _, _, Heap.get?_push_size _ rfl, rfl, rfl, rfl⟩, ⟨_, x.toInCall.ns.push _, bindL_get (i := 0) (by simp) rfl rfl ks⟩, lt1⟩
end
structure ScN (sc : Scope) : Prop where
  cn : sc.names.lookup ("check_number" : Str) = some .globalImplicit
  dv : sc.names.lookup ("divisors" : Str) = some .globalImplicit
  nt : sc.names.lookup ("Net" : Str) = some .globalImplicit
  rg : sc.names.lookup ("range" : Str) = some .globalImplicit
  ms : sc.names.lookup ("MOST_SIZE" : Str) = some .globalImplicit
  ks : sc.names.lookup ("size" : Str) = some .local
  kb : sc.names.lookup ("b" : Str) = some .local
  kc : sc.names.lookup ("c" : Str) = some .local
theorem envN_of {qual : Str} {sc : Scope} {L f : Addr} {cd : Value} (kd : sc.kind = .function) (co : sc.isCoroutine = false) (o : ScN sc) : EnvN (envOfC qual sc L f cd) :=
  ⟨kd, rfl, rfl, o.cn, o.dv, o.nt, o.rg, o.ms, o.ks, o.kb, o.kc, co, by unfold interactive; show (sc.kind == .module && _) = false; rw [kd]; rfl, rfl⟩
/-! ### what walks it -/
def bdN (st : Stmt) : Prop := ∃ (ps : Ps) (kd : Nat), defBody st = nBody ps kd
section
variable {X : Cx} {B : Bs} {e tg : Expr} {es : List Expr} {rl : RdA} {f fc fd fi : Addr} {qual : Str} {st : Stmt} {N : List Str} {k kk : Nat} {p0 pos : Pos}
end
/-! ### the pure rules -/
section
variable {X : Cx} {B : Bs} {pos : Pos} {rt : RdT} {rl : RdA} {s1 : RdS}
end
end GX
namespace GX
open PySem PySem.Spec PyProof.Rows L2 Z Y
theorem fnLv {P : Program} {w : World} {K : Frg} {mg : Str → Option Value} {base : Heap} {CX : CXT} {j k : Nat} {f : Addr} {sp : Sp} (h : j ≤ k) (F : FnG P w K mg base CX j f sp) : FnG P w K mg base CX k f sp :=
  fun A outer s H us vs Q E hr => F A outer s H us vs Q E (hr.mono h)
end GX
namespace Y
open PySem PySem.Spec PyProof.Rows L2 Z
open GX (restL rowI netOf It3)
/-! ### a list beside the empty one, whatever is in it -/
/-! ### observed twice -/
/-! ### the nets of a size -/
theorem restL_mem {n : Int} (h : 1 ≤ n) {t : It3} (ht : t ∈ restL n (MN.divL n)) : MN.Ok t.1 t.2.1 t.2.2 ∧ t.1 ≤ n ∧ t.2.2 ≤ n ∧ t.1 * t.2.2 = n := by
  obtain ⟨c, hc, ht⟩ := List.mem_flatMap.mp ht
  obtain ⟨j, hj, rfl⟩ := List.mem_map.mp ht
  obtain ⟨c0, cd⟩ := (MN.divL_mem (by omega)).mp hc
  have hj := List.mem_range.mp hj
  have cl := Int.le_of_dvd (by omega) cd
  have em := Int.ediv_mul_cancel cd
  have l1 : n / c * 1 ≤ n / c * c := Int.mul_le_mul_of_nonneg_left (by omega) (Int.ediv_nonneg (by omega) (by omega))
  dsimp only
  exact ⟨⟨by omega, by omega, by omega⟩, by omega, by omega, em⟩
theorem upL_len (n : Nat) : (MN.upL n).length = n := by unfold MN.upL; simp
theorem divL_len (n : Int) : (MN.divL n).length ≤ n.toNat := by
  unfold MN.divL
  exact Nat.le_trans (List.length_filter_le _ _) (by rw [upL_len]; exact Nat.le_refl _)
theorem restL_len_aux (n : Int) (h : 0 ≤ n) : ∀ ds : List Int, (∀ d ∈ ds, 1 ≤ d) → (restL n ds).length ≤ ds.length * n.toNat
  | [], _ => Nat.zero_le _
  | d :: ds, hd => by
    have e : restL n (d :: ds) = rowI n d 0 (n / d).toNat ++ restL n ds := by
      show (d :: ds).flatMap _ = _
      rw [List.flatMap_cons]
      rfl
    have d1 := hd d List.mem_cons_self
    have h5 := Int.ediv_mul_le n (show d ≠ 0 by omega)
    have h0 : 0 ≤ n / d := Int.ediv_nonneg h (by omega)
    have h6 : n / d * 1 ≤ n / d * d := Int.mul_le_mul_of_nonneg_left (by omega) h0
    have ih := restL_len_aux n h ds fun d' hd' => hd d' (List.mem_cons_of_mem _ hd')
    have l1 : (rowI n d 0 (n / d).toNat).length = (n / d).toNat := by unfold rowI; simp
    rw [e, List.length_append, l1, List.length_cons, Nat.add_mul, Nat.one_mul]
    omega
/-! ### promises -/
theorem restL_app (n : Int) (l m : List Int) : restL n (l ++ m) = restL n l ++ restL n m := List.flatMap_append
theorem restL_one (n d : Int) : restL n [d] = rowI n d 0 (n / d).toNat := by
  show [d].flatMap _ = _
  simp [restL]
end Y
namespace GX
open PySem PySem.Spec PyProof.Rows L2 Z Y
end GX
namespace Y
open PySem
end Y
namespace Y
open PySem PySem.Spec PyProof.Rows L2 Z
end Y
namespace Y
open PySem PySem.Spec PyProof.Rows L2 Z
open GX (restL rowI netOf It3)
/-! ### the nets above a net -/
theorem perm_sum {l m : List Int} (h : l.Perm m) : l.sum = m.sum := by
  induction h with
  | nil => rfl
  | cons x _ ih => rw [List.sum_cons, List.sum_cons, ih]
  | swap x y l => simp only [List.sum_cons]; omega
  | trans _ _ h1 h2 => exact h1.trans h2
theorem upL_nodup (n : Nat) : (MN.upL n).Nodup := by
  unfold MN.upL
  rw [List.nodup_iff_pairwise_ne, List.pairwise_map]
  exact List.Pairwise.imp (fun h e => h (by omega)) (List.nodup_iff_pairwise_ne.mp List.nodup_range)
theorem divL_nodup (n : Int) : (MN.divL n).Nodup := (upL_nodup _).filter _
theorem div_sum {n : Int} (h : 1 ≤ n) : ((MN.divL n).map fun c => n / c).sum = (MN.divL n).sum := by
  refine perm_sum ((List.perm_ext_iff_of_nodup ?_ (divL_nodup n)).mpr fun x => ?_)
  · rw [List.nodup_iff_pairwise_ne, List.pairwise_map]
    refine List.Pairwise.imp_of_mem ?_ (List.nodup_iff_pairwise_ne.mp (divL_nodup n))
    intro c d hc hd ne e
    obtain ⟨c0, c1⟩ := (MN.divL_mem (by omega)).mp hc
    obtain ⟨d0, d1⟩ := (MN.divL_mem (by omega)).mp hd
    have e1 := Int.ediv_mul_cancel c1
    have e2 := Int.ediv_mul_cancel d1
    rw [← e] at e2
    have q0 : 0 < n / c := by
      have := Int.le_of_dvd (by omega) c1
      exact Int.ediv_pos_of_pos_of_dvd (by omega) (by omega) c1
    exact ne (Int.eq_of_mul_eq_mul_left (by omega) (e1.trans e2.symm))
  · rw [List.mem_map]
    constructor
    · rintro ⟨c, hc, rfl⟩
      obtain ⟨c0, c1⟩ := (MN.divL_mem (by omega)).mp hc
      exact (MN.divL_mem (by omega)).mpr ⟨Int.ediv_pos_of_pos_of_dvd (by omega) (by omega) c1, ⟨c, (Int.ediv_mul_cancel c1).symm⟩⟩
    · intro hx
      obtain ⟨x0, x1⟩ := (MN.divL_mem (by omega)).mp hx
      have e := Int.ediv_mul_cancel x1
      have q0 : 0 < n / x := Int.ediv_pos_of_pos_of_dvd (by omega) (by omega) x1
      refine ⟨n / x, (MN.divL_mem (by omega)).mpr ⟨q0, ⟨x, e.symm⟩⟩, ?_⟩
      have e3 : n / (n / x) = (n / x * x) / (n / x) := by rw [e]
      rw [e3, Int.mul_ediv_cancel_left _ (by omega)]
theorem restL_count_aux (n : Int) (h : 1 ≤ n) : ∀ ds : List Int, (∀ d ∈ ds, 1 ≤ d) → ((restL n ds).length : Int) = (ds.map fun c => n / c).sum
  | [], _ => rfl
  | d :: ds, hd => by
    have ih := restL_count_aux n h ds fun d' hd' => hd d' (List.mem_cons_of_mem _ hd')
    have e : restL n (d :: ds) = rowI n d 0 (n / d).toNat ++ restL n ds := restL_app n [d] ds |>.trans (by rw [restL_one])
    have l1 : (rowI n d 0 (n / d).toNat).length = (n / d).toNat := by unfold rowI; simp
    have d1 := hd d List.mem_cons_self
    have d0 : 0 ≤ n / d := Int.ediv_nonneg (by omega) (by omega)
    rw [e, List.length_append, l1, List.map_cons, List.sum_cons, ← ih]
    push_cast
    omega
theorem restL_count {n : Int} (h : 1 ≤ n) : ((restL n (MN.divL n)).length : Int) = (MN.divL n).sum := by
  rw [restL_count_aux n h _ fun d hd => by have := ((MN.divL_mem (by omega)).mp hd).1; omega, div_sum h]
end Y
namespace Y
open PySem PySem.Spec PyProof.Rows L2 Z
open GX (restL rowI netOf It3)
end Y
namespace Y
open PySem PySem.Spec PyProof.Rows L2 Z
open GX (restL rowI netOf It3)
end Y
namespace Y
open PySem PySem.Spec PyProof.Rows L2 Z
open GX (restL rowI netOf It3)
end Y
/-! a generator that raises in its first turn, in a comprehension -/
namespace GX
open PySem PySem.Spec PyProof.Rows L2 GenW Z Y
section
variable {P : Program} {w : World} {A : Around} {E : Value → Shared → Prop} {s : Shared}
theorem pyNext_genX {a : Addr} {g : Nat} {c : Code} {Q : Option Value → Shared → Prop} {Ψ : Addr → Shared → Prop} (hl : s.heap.NoLimit) (hroom : A.depth < recursionLimit) (hg : s.heap.IsGen a g) (hgs : s.gens[g]? = some (.fresh c))
    (h : Sg (model P w) A.in1 (fun e s' => ∃ x, e = .ret (.error (.ref x)) ∧ Ψ x s') c ((model P w).den c) [] (s.setGen g .running))
    (hR : ∀ x s1, Ψ x s1 → s1.heap.IsGen a g ∧ PySem.W.Looks (model P w) s1.heap (isInstance (.ref x) (.type "StopIteration")) false ∧ E (.ref x) (s1.setGen g .finished)) :
    wpAny (model P w) A (pyNext (.ref a)) Q E s := by
  unfold pyNext
  refine wpAny_bind (wpAny_attempt (wpAny_callSpecial?_slot (name := Str.ofString "__next__") hg.typeIs slot_gen_next
    (wpAny_call_entry slot_gen_next hg.typeIs entry_gen_next ?_ (args_gen_next _))))
  show wpAny _ A.in1 (Builtin.Generator.genWake (.ref a) (.send .none)) _ _ s
  unfold Builtin.Generator.genWake
  refine wpAny_bind (wpAny_holding (wpAny_genNumber hg (wpAny_bind (wpAny_genState hgs ?_))))
  refine wpAny_bind (wpAny_roomToWake hl hroom ?_)
  show wpAny _ A.in1 (.resume g (.send .none) [] _) _ _ s
  refine wpAny_resumeF (y := .fresh c) hgs h (fun e s' q => ?_) fun e s₁ q => ?_
  · obtain ⟨x, rfl, _⟩ := q
    rfl
  · obtain ⟨x, rfl, q⟩ := q
    obtain ⟨hg1, L, q⟩ := hR x s₁ q
    have hres : End.result (.ret (.error (.ref x))) = .raised (.ref x) := rfl
    rw [hres]
    show wpAny _ A.in1 (Builtin.Generator.genLeft (.ref a) (.ref x)) _ _ (s₁.setGen g .finished)
    unfold Builtin.Generator.genLeft Builtin.Generator.madeByALambda Builtin.Generator.genEscaped
    obtain ⟨o, nm, qn, ho, hc, hd, hs⟩ := hg1
    have ho' : (s₁.setGen g .finished).heap.get? a = some o := ho
    refine wpAny_bind (wpAny_bind (wpAny_load ho' ?_))
    rw [hd]
    refine wpAny_pure ?_
    refine wpAny_bind (L.at ?_)
    simp only [Bool.and_false, Bool.false_eq_true, if_false]
    refine wpAny_bind (L.at ?_)
    simp only [Bool.not_false, if_true]
    refine wpAny_bind (wpAny_throw ?_)
    refine wpAny_bind (L.at ?_)
    simp only [Bool.false_eq_true, if_false]
    exact wpAny_throw q
end
/-- in the air, behind the generator's frame -/
def Air (X : Cx) (B : Bs) (env : Env) (H : Hp) (s : Shared) (x : Addr) (s' : Shared) : Prop :=
  ∃ (B0 : Heap) (H' : Hp) (cls : Value) (d : Option Addr), HandSPX.FlyingZ B0 X.stack x (L2N.Zn cls d) s'.heap ∧ HOk X.prog X.w H' B0 ∧ UB (frs (env :: X.stack)) H H' s.heap B0 s'.heap ∧ H' x = none ∧ s'.os = s.os ∧ AllBare s'.gens ∧ EE X.K B cls d H'
theorem ub_up {fs : List Addr} {H H' : Hp} {h B h1 h2 : Heap} (u : UB fs H H' h B h1) (up : h1.UpToSlots h2) (nf : ∀ b ∈ fs, ∀ o, h.get? b = some o → ∀ vs, o.data ≠ .fields vs) : UB fs H H' h B h2 :=
  ⟨u.keep, fun b o e hb => by
    obtain ⟨sl, e1⟩ := u.slot b o e hb
    obtain ⟨sl2, e2⟩ := up b _ e1 (nf b hb o e)
    exact ⟨sl2, e2⟩, u.free, u.there, u.tups, u.frzs, u.tbls⟩
section
variable {X : Cx} {pins : List (Addr × Obj)} {σ : L2.St} {H : Hp} {s : Shared} {env : Env} {fc : Addr} {kk kd : Nat} {ps : Ps} {d : D} {v : V} {u : Value} {R : RdF} {B : Bs} {F1 : Hp} {m : Str → Option Value}
theorem first_x (en : EnvN env) (mc : X.mg "check_number" = some (.ref fc)) (kc : PySem.W.keepIn X.K (.ref fc) = true) (mm : ∃ t, X.mg "MOST_SIZE" = some (.int 10000 t)) (oc : FnG X.prog X.w X.K X.mg X.base (L2N.CX X.prog X.w) kk fc (spP X.K R))
    (hr : RoomG kk (X.A.in1.deeper env)) (I : L2.Inv X pins σ H s) (hgo : Go B.ms B.F0 B.H0 F1 H) (t : Tp X.K B.ms F1 H) (fL : FpOk X pins H env.locals) (hn : s.heap.Ns env.locals m) (hs : m "size" = some u) (rv : RelV v u) (rp : Rp X.K B.ms F1 v d)
    (hR : R [d, .int 1, .int 10000] (fun _ => False) B.Ed) :
    Sg (model X.prog X.w) X.A.in1 (fun e s' => ∃ x, e = .ret (.error (.ref x)) ∧ Air X B env H s x s') (.func (nBody ps kd) env) ((model X.prog X.w).den (.func (nBody ps kd) env)) [] s := by
  have hfr : (X.A.in1.deeper env).frames = some (env :: X.stack) := Around.frames_deeper I.ok.frames
  obtain ⟨tm, hmm⟩ := mm
  refine sg_func ?_
  refine sg_cons (sg_wrap ?_)
  rw [over_func]
  refine wpAny_Expr_any ?_ en.hi rfl
  refine wpAny_Call_Name_kw (ldgN I en en.cn mc ?_)
  refine PySem.W.callWith_K (h₀ := X.base) I.ok.mod.kin kc (args_cons (ldlN en en.ks hn hs ?_) rfl) (by rfl) (by rfl)
  refine args_cons (wpAny_Constant_int ?_) rfl
  refine args_cons (ldgN (s := { s with toks := s.toks + 1 }) (I.tok _) en en.ms hmm ?_) rfl
  refine args_nil ⟨I.kIn, ?_⟩
  have e0 := genv0 (s := { s with toks := s.toks + 1 }) (I.tok _) fL en.fr en.kind hn hfr
  refine wpAny_call (codeAny_mono (oc (X.A.in1.deeper env) (env :: X.stack) { s with toks := s.toks + 1 } H [u, .int 1 s.toks, .int 10000 tm] [v, .int 1, .int 10000] (fun _ _ => False) (EE X.K B) hr e0 (.cons rv (.cons ⟨_, rfl⟩ (.cons ⟨_, rfl⟩ .nil)))
    ⟨B.ms, F1, [d, .int 1, .int 10000], fun _ => False, B.Ed, t, .cons rp (.cons (.int _) (.cons (.int _) .nil)), hR, fun _ _ _ _ _ _ _ z => z.elim, fun cls d F' H' x g t' xr z => ⟨F', x, hgo.trans g, t', xr, z⟩⟩) fun r s1 hq => ?_)
  match r, hq with
  | .ok (.ret u), hq =>
    obtain ⟨_, _, _, _, _, _, _, z⟩ := hq
    exact z.elim
  | .ok .next, hq => exact False.elim hq
  | .ok .brk, hq => exact False.elim hq
  | .ok .cont, hq => exact False.elim hq
  | .error e, hq =>
    obtain ⟨a, B0, H', cls, d, rfl, fl, hok, ub, na, os, ag, hE⟩ := hq
    show Sg _ _ _ _ (funcH env (.ref a)) _ _
    unfold funcH
    rw [Sem.bind_eq_wrap]
    refine sg_wrap ?_
    rw [over_func]
    refine PXN.leaves_onZ L2N.Zn.steady hfr en.fr fl fun h' fl' up => ?_
    refine sg_end (.error (.ref a)) ⟨a, rfl, B0, H', cls, d, fl', hok, ub_up ub up fun b hb o e => ?_, na, os, ag, hE⟩
    obtain ⟨_, o', e', nf⟩ := e0.funs.mem hb
    rw [e] at e'
    cases e'
    exact nf
end
/-! ### back at the consumer -/
theorem flying_hide {B h : Heap} {l : List Env} {a : Addr} {Z : Obj → Prop} {cs : List Addr} (fl : HandSPX.FlyingZ B l a Z h) : HandSPX.FlyingZ (PySem.W.hideAll B cs) l a Z h := by
  have nn : ∀ b, B.get? b = none → (PySem.W.hideAll B cs).get? b = none := fun b e => by
    cases q : (PySem.W.hideAll B cs).get? b with
    | none => rfl
    | some o =>
      have z := PySem.W.of_hideAll _ q
      rw [e] at z
      cases z
  obtain ⟨f1, f2, f3, oe, vs, T, oT, ts, g1, g2, g3, g4, g5, g6⟩ := fl
  exact ⟨fun b o e => f1 b o (PySem.W.of_hideAll _ e), nn _ f2, funFrames_none f3 fun L hL => nn _ (f3.mem hL).1, oe, vs, T, oT, ts, g1, g2, g3, g4, nn _ g5, g6⟩
section
variable {X : Cx} {pins : List (Addr × Obj)} {σ : L2.St} {H H' : Hp} {s s1 s6 s7 s' : Shared} {env : Env} {B : Bs} {B0 : Heap} {a x C : Addr} {cls : Value} {d : Option Addr} {W : WX}
theorem air_cx (A : Air X B env H s6 x s7) (kp : ∀ b o, s1.heap.get? b = some o → s6.heap.get? b = some o) (fr : env.frame = some env.locals) (hL : s1.heap.objs.size ≤ env.locals) (hC : s1.heap.objs.size ≤ C) (HC : H C = none) (C6 : ∃ o, s6.heap.get? C = some o) (os : s6.os = s1.os) :
    ∃ B' H' cls d, B'.get? C = none ∧ HandSPX.FlyingZ B' X.stack x (L2N.Zn cls d) s7.heap ∧ HOk X.prog X.w H' B' ∧ UB (frs X.stack) H H' s1.heap B' s7.heap ∧ H' x = none ∧ s7.os = s1.os ∧ AllBare s7.gens ∧ EE X.K B cls d H' := by
  obtain ⟨B0, H', cls, d, fl, hok, ub, na, os', ag, hE⟩ := A
  have nC : H' C = none := by
    obtain ⟨o, e⟩ := C6
    exact ub.free C o e HC
  have hh : ∀ b o, B0.get? b = some o → b ≠ C → (PySem.W.hideAll B0 [C]).get? b = some o := fun b o e n => PySem.W.hideAll_get _ e (by simpa using n)
  have lt : ∀ b o, s1.heap.get? b = some o → b < s1.heap.objs.size := fun b o e => Heap.lt_size e
  have nf : ∀ b o, s1.heap.get? b = some o → b ∉ frs X.stack → b ∉ frs (env :: X.stack) := fun b o e n z => by
    rw [frs_env fr] at z
    rcases List.mem_cons.mp z with z | z
    · have := lt b o e
      rw [z] at this
      exact absurd (Nat.lt_of_lt_of_le this hL) (Nat.lt_irrefl _)
    · exact n z
  have nc : ∀ b o, s1.heap.get? b = some o → b ≠ C := fun b o e z => by
    have := lt b o e
    rw [z] at this
    exact absurd (Nat.lt_of_lt_of_le this hC) (Nat.lt_irrefl _)
  refine ⟨PySem.W.hideAll B0 [C], H', cls, d, PySem.W.hideAll_none _ (by simp), flying_hide fl, fun b o e => ?_, ⟨fun b o e n hb => hh b o (ub.keep b o (kp b o e) n (nf b o e hb)) (nc b o e), fun b o e hb => ub.slot b o (kp b o e) (by rw [frs_env fr]; exact List.mem_cons_of_mem _ hb),
    fun b o e n => ub.free b o (kp b o e) n, fun b o e hb => ?_, ub.tups, ub.frzs, ub.tbls⟩, na, os'.trans os, ag, hE⟩
  · refine (hok b o e).stay (fun c u hc r => hh c u r fun z => ?_) (fun _ r => r) fun _ _ r => r
    rcases hc with hc | hc
    · rw [← hc, z, nC] at e
      cases e
    · rw [z, nC] at hc
      cases hc
  · obtain ⟨o', q⟩ := ub.there b o (kp b o e) (nf b o e hb)
    exact ⟨o', hh b o' q (nc b o e)⟩
end
section
variable {X : Cx} {B : Bs} {e elt tg : Expr} {es : List Expr} {ifs : List Expr} {rl : RdA} {f fc : Addr} {qual : Str} {st : Stmt} {N : List Str} {k kk : Nat} {p0 pos pos' : Pos} {scope : Scope} {own : List (Str × Nat)} {R : RdF}
end
end GX
namespace Y
open PySem PySem.Spec PyProof.Rows L2 Z
end Y
namespace Y
open PySem PySem.Spec PyProof.Rows L2 Z
end Y
/-! list(a generator that raises in its first turn) -/
namespace GX
open PySem PySem.Spec PyProof.Rows L2 GenW Z Y
section
variable {P : Program} {w : World} {A : Around} {s : Shared} {R : Result → Shared → Prop}
theorem ext_genX {I S g : Addr} {c₀ : Nat} {res : Value} (hg : s.heap.IsGen I g) (n : S ≠ I) (hS : s.heap.get? S = some { cls := .type "list", data := .seq #[] c₀ })
    (hN : ∀ h', (∀ b o, b ≠ S → s.heap.get? b = some o → h'.get? b = some o) → (∃ o, h'.get? S = some o) → wpAny (model P w) A.in1 (pyNext (.ref I)) (fun _ _ => False) (fun e s' => R (.error e) s') { s with heap := h' }) :
    wpAny (model P w) A.in1 (Builtin.List.listExtendWith (.ref S) (.ref I) res)
      (fun fin s' => match fin with | .done f => R (.ok f) s' | .again c' => c'.quiet = true ∧ codeAny (model P w) A c' R s') (fun e s' => R (.error e) s') s := by
  have hT := hg.typeIs
  have n2 : Builtin.List.listSameRef (.ref S) (.ref I) = false := by simp [Builtin.List.listSameRef, n]
  have n3 : (Value.type "generator" == Value.type "list") = false := by decide
  have n4 : (Value.type "generator" == Value.type "tuple") = false := by decide
  unfold Builtin.List.listExtendWith; refine wpAny_bind (wpAny_typeOf hT ?_)
  simp only [n2, n3, n4, Bool.or_false, Bool.false_eq_true, if_false]
  refine wpAny_bind (wpAny_pyIter_gen hg (wpAny_bind (wpAny_holding ?_)))
  unfold Builtin.List.listLengthHint; refine wpAny_bind (wpAny_specialOf hT F.gen_no_len ?_)
  show wpAny (model P w) A.in1 (specialOf (Value.ref I) (Str.ofString "__length_hint__") >>= _) _ _ _
  refine wpAny_bind (wpAny_specialOf hT F.gen_no_hint (wpAny_pure ?_))
  show wpAny (model P w) A.in1 (rule "list.extend.makes-room" >>= fun _ => Builtin.List.listTouch (.ref S) >>= fun _ => again (.builtin "list.extend.loop" ⟨[.ref S, .ref I, res], []⟩)) _ _ _
  refine wpAny_bind (wpAny_rule (wpAny_bind ?_))
  show wpAny (model P w) A.in1 (updateSeq S (·.push .none) >>= fun _ => updateSeq S (·.pop)) _ _ _
  refine wpAny_bind (wpAny_updateSeq hS rfl ?_)
  have S2 := Heap.get?_update_self (Obj.mapSeq (·.push Value.none)) hS rfl
  refine wpAny_updateSeq (hz := by seq_fits) S2 rfl ?_
  have S3 := Heap.get?_update_self (Obj.mapSeq (·.pop)) S2 rfl
  refine wpAny_pure ⟨plainId_quiet F.plain_extend_loop _, codeAny_builtin F.entry_extend_loop ?_⟩
  rw [Around.under_plainId F.plain_extend_loop _]; show wpAny (model P w) A.in1 (pyNext (.ref I) >>= _) _ _ _
  exact wpAny_bind (wpAny_mono (hN _ (fun b o hb e => (Heap.get?_update_other _ _ (Ne.symm hb)).trans ((Heap.get?_update_other _ _ (Ne.symm hb)).trans e)) ⟨_, S3⟩) (fun _ _ z => z.elim) fun _ _ z => z)
end
section
variable {P : Program} {w : World} {A : Around} {s : Shared} {E : Value → Shared → Prop} {Q : Value → Shared → Prop}
theorem call_list_genX {I g : Addr} (hg : s.heap.IsGen I g)
    (hN : ∀ h', (∀ b o, b ≠ s.heap.objs.size → s.heap.get? b = some o → h'.get? b = some o) → (∃ o, h'.get? s.heap.objs.size = some o) → wpAny (model P w) A.in1.in1 (pyNext (.ref I)) (fun _ _ => False) E { s with heap := h' }) :
    wpAny (model P w) A (call (.type "list") [.ref I]) Q E s := by
  have nI : s.heap.objs.size ≠ I := let ⟨_, _, _, e, _⟩ := hg; Nat.ne_of_gt (Heap.lt_size e)
  refine callType_codes (Q₁ := fun obj s₁ => obj = .ref s.heap.objs.size ∧ s₁ = { s with heap := s.heap.push { cls := .type "list", data := .seq #[] } }) F.called_list (F.typeCall_list_1 _) F.entry_list_init (code_list_new _ ⟨rfl, rfl⟩) fun obj s₁ h₁ => ?_
  obtain ⟨rfl, rfl⟩ := h₁
  have hS : (s.heap.push { cls := .type "list", data := .seq #[] }).get? s.heap.objs.size = some { cls := .type "list", data := .seq #[] } := Heap.get?_push_size _ rfl
  refine ⟨⟨_, hS, rfl⟩, F.args_list_init_2 _ _, ?_⟩
  show wpAny (model P w) A.in1.in1 (do let old ← Builtin.List.listItems (.ref s.heap.objs.size); Builtin.List.listUpdate (.ref s.heap.objs.size) (fun _ => #[]); letGo old.toList.reverse; Builtin.List.listExtendWith (.ref s.heap.objs.size) (.ref I) .none) _ _ _
  refine wpAny_bind ?_; unfold Builtin.List.listItems; refine wpAny_bind (wpAny_seqItems hS rfl (wpAny_pure ?_))
  show wpAny (model P w) A.in1.in1 (updateSeq s.heap.objs.size (fun _ => #[]) >>= fun _ => letGo (#[] : Array Value).toList.reverse >>= fun _ => Builtin.List.listExtendWith (.ref s.heap.objs.size) (.ref I) .none) _ _ _
  refine wpAny_bind (wpAny_updateSeq hS rfl ?_)
  have S2 := Heap.get?_update_self (Obj.mapSeq (fun _ => (#[] : Array Value))) hS rfl
  have oth : ∀ b o, b ≠ s.heap.objs.size → s.heap.get? b = some o → ((s.heap.push { cls := .type "list", data := .seq #[] }).update s.heap.objs.size (Obj.mapSeq (fun _ => (#[] : Array Value)))).get? b = some o :=
    fun b o hb e => (Heap.get?_update_other _ _ (Ne.symm hb)).trans (Heap.get?_push_of_some _ e)
  refine wpAny_bind (wpAny_letGo (ext_genX (g := g) (A := A.in1) ?_ nI S2 fun h' k ex => hN h' (fun b o hb e => k b o hb (oth b o hb e)) ex))
  obtain ⟨o, nm, qn, e, r⟩ := hg
  exact ⟨o, nm, qn, oth I o (Ne.symm nI) e, r⟩
end
theorem inv_at {X : Cx} {pins : List (Addr × Obj)} {σ : L2.St} {H : Hp} {s : Shared} {A' : Around} (I : L2.Inv X pins σ H s) (hf : A'.frames = X.A.frames) (hh : A'.handled = X.A.handled) : L2.Inv { X with A := A' } pins σ H s := by
  obtain ⟨ok, j1, j2, j3, j4, j5, j6, j7, j8, j9, j10⟩ := I
  exact ⟨⟨ok.mod, ok.kind, ok.glob, ok.blt, ok.above, ok.inj, ok.has, ok.cab, fun z => hh.trans (ok.hd z), hf.trans ok.frames, ok.stk, ok.exf, ok.bs, ok.bsz, ok.noex, ok.exfs, ok.funs, ok.frf⟩, j1, j2, j3, j4, j5, j6, j7, j8, j9, j10⟩
section
variable {X : Cx} {B : Bs} {e : Expr} {es : List Expr} {rl : RdA} {f fc : Addr} {qual : Str} {st : Stmt} {N : List Str} {k kk : Nat} {p0 p1 pos pos' : Pos} {R : RdF}
/-- list(nets_of_size(e)) where the number is refused -/
theorem y_listNX (hx : Px X B) (ha : PAp X B (e :: es) rl) (F : DefAt X.K "nets_of_size" qual st f) (S : GScope N ["size"] (defScope st)) (sk : ScN (defScope st)) (bd : bdN st)
    (hb : ∀ (kV doc pm : Value) (an : Option Addr) (cdv ct : Value) (us : List Value), us.length = 1 → bindArgs (PySem.W.fnOf "nets_of_size" qual (defArgs st) (defBody st) (defScope st) .none kV doc pm an cdv ct) ⟨us, []⟩ = pure ((["size"] : List Str).zip us))
    (hg : Gl X "nets_of_size") (hm : X.mg "nets_of_size" = some (.ref f)) (hk : PySem.W.keepIn X.K (.ref f) = true) (mc : X.mg "check_number" = some (.ref fc)) (kc : PySem.W.keepIn X.K (.ref fc) = true) (mm : ∃ t, X.mg "MOST_SIZE" = some (.int 10000 t))
    (oc : FnG X.prog X.w X.K X.mg X.base (L2N.CX X.prog X.w) kk fc (spP X.K R)) {Cx : Str} (hX : PySem.W.subIn X.K (.ref (He.ga X.K Cx)) (.type "StopIteration") = some false)
    (hr : RoomG (kk + 4) X.A) (hgl : Gl X "list") (hml : X.mg "list" = none)
    (he : starEach (e :: es) X.env = (false, eval e X.env) :: starEach es X.env := by rfl) (hpl : (backTo pos (starEach es X.env)).any (·.1) = false := by rfl)
    (na : starEach [.Call (.Name "nets_of_size" p0) (e :: es) [] pos] X.env = (false, eval (.Call (.Name "nets_of_size" p0) (e :: es) [] pos) X.env) :: starEach [] X.env := by rfl) :
    PEp X B (.Call (.Name "list" p1) [.Call (.Name "nets_of_size" p0) (e :: es) [] pos] [] pos') (fun ρ _ => rl ρ fun ds => match ds with | [d] => R [d, .int 1, .int 10000] (fun _ => False) (fun x => x.c = .glob Cx ∧ B.Ed x) | _ => False) := by
  obtain ⟨ps, kd, bd⟩ := bd
  refine ⟨fun pins s σ H Q I h => ?_⟩
  obtain ⟨F0, ρ, Qd, J, z, kk'⟩ := h
  refine Call_ (ld_blt I hgl hml boot_list (PyProof.Rows.callWith_type1 (args_cons ?_ na) na))
  refine wpAny_Call_Name_kw (ld_glob I hg hm ?_ (by decide))
  refine PySem.W.callWith_K (h₀ := X.base) I.ok.mod.kin hk (thn (ha.run pos pins s σ H (fun vs H1 => ∃ F1 ds, Go B.ms F0 H F1 H1 ∧ Tp X.K B.ms F1 H1 ∧ Rps X.K B.ms F1 vs ds ∧ _) I ⟨F0, ρ, _, J, z, fun vs F1 H1 ds g1 t1 r1 z1 => ⟨F1, ds, g1, t1, r1, z1⟩⟩) fun us s1 ⟨vs, H1, I1, rx, F1, ds, g1, t1, r1, q⟩ => ⟨I1.kIn, ?_⟩) he hpl
  split at q
  · rename_i d
    obtain ⟨v, rfl, r2⟩ : ∃ v, vs = [v] ∧ Rp X.K B.ms F1 v d := by
      cases r1 with
      | cons r2 r3 =>
      cases r3
      exact ⟨_, rfl, r2⟩
    obtain ⟨u, rfl, ru⟩ := vals1 rx
    refine wpAny_call (codeAny_mono (call_genN (u := u) F S sk.ks hb hr.rm.depth I1.env0) fun r s2 hq => ?_)
    obtain ⟨gobj, gno, cdv, rfl, kp, os, ba, gy, gg, ⟨m, hn, hsz⟩, lt⟩ := hq
    rw [bd] at gy
    have en : EnvN (envOfC qual (defScope st) s1.heap.objs.size f cdv) := envN_of S.kind S.co sk
    generalize hen : envOfC qual (defScope st) s1.heap.objs.size f cdv = env at gy en
    have hel : env.locals = s1.heap.objs.size := by rw [← hen]; rfl
    refine args_nil (call_list_genX gg fun h' kh exS => ?_)
    have gl2 : gobj < s2.heap.objs.size := let ⟨_, _, _, e, _⟩ := gg; Heap.lt_size e
    have nb : ∀ b o, s1.heap.get? b = some o → b ≠ s2.heap.objs.size := fun b o e => Nat.ne_of_lt (Heap.lt_size (kp b o e))
    have k15 : ∀ b o, s1.heap.get? b = some o → h'.get? b = some o := fun b o e => kh b o (nb b o e) (kp b o e)
    generalize hs5 : ({ s2 with heap := h' } : Shared) = s5
    have h5 : s5.heap = h' := by rw [← hs5]
    have g5 : s5.gens = s2.gens := by rw [← hs5]
    have os5 : s5.os = s1.os := by rw [← hs5]; exact os
    have k5 : ∀ b o, s1.heap.get? b = some o → s5.heap.get? b = some o := fun b o e => by rw [h5]; exact k15 b o e
    have I5 : L2.Inv X pins σ H1 s5 := I1.call' (ch := []) os5 (Un.kept k5) (I1.hok.kept k5) (by rw [g5]; exact ba) fun b hb => by cases hb
    have gg5 : s5.heap.IsGen gobj gno := by
      obtain ⟨o, nm, qn, e, r⟩ := gg
      exact ⟨o, nm, qn, by rw [h5]; exact kh gobj o (Nat.ne_of_lt gl2) e, r⟩
    have fG : FpOk X pins H1 gobj := I1.fpOk (Nat.le_of_lt lt) (I1.hok.fresh (Nat.le_of_lt lt))
    have fL : FpOk X pins H1 env.locals := by rw [hel]; exact I1.fpOk (Nat.le_refl _) (I1.hok.fresh (Nat.le_refl _))
    have sS : s1.heap.objs.size ≤ s2.heap.objs.size := Nat.le_of_lt (Nat.lt_trans lt gl2)
    have I6 : L2.Inv { X with A := X.A.in1.in1 } pins σ H1 (s5.setGen gno .running) := inv_at (inv_regen I5 (allBare_setGen I5.bare rfl)) rfl rfl
    refine pyNext_genX I5.nolimit hr.rm.depth gg5 (by rw [g5]; exact gy) (first_x (X := { X with A := X.A.in1.in1 }) (B := { B with Ed := fun x => x.c = .glob Cx ∧ B.Ed x }) (R := R) (F1 := F1) (d := d) (v := v) (u := u) (m := m) en mc kc mm oc ?_ I6 (J.go.trans g1) t1 fL ?_ hsz ru r2 q) ?_
    · exact (((RoomG.in1 (k := kk + 3) hr).in1 (k := kk + 2)).in1 (k := kk + 1)).deeper _
    · rw [hel]
      exact hn.at' fun o e => by
        show s5.heap.get? _ = some o
        rw [h5]
        exact kh _ o (Nat.ne_of_lt (Heap.lt_size e)) e
    · rintro x s7 A7
      obtain ⟨B', H', cls, dd, nC, fl, hok, ub, na, os7, ag, hE⟩ := air_cx (X := X) (s1 := s1) (C := s2.heap.objs.size) A7 k5 en.fr (Nat.le_of_eq hel.symm) sS (I1.hok.fresh sS) (by show ∃ o, s5.heap.get? _ = some o; rw [h5]; exact exS) os5
      obtain ⟨B0, H0', _, _, fl0, _, ub0, _⟩ := A7
      have frE : frs (env :: X.stack) = env.locals :: frs X.stack := frs_env en.fr
      have nG' : gobj ≠ env.locals := by rw [hel]; exact Nat.ne_of_gt lt
      have k7 : ∀ b o, FpOk X pins H1 b → b ≠ env.locals → s5.heap.get? b = some o → s7.heap.get? b = some o := fun b o fb n e => fl0.1 b o (ub0.keep b o e fb.1 fun z => by
        rw [frE] at z
        rcases List.mem_cons.mp z with z | z
        · exact n z
        · exact fp_stk I1 fb z)
      have KX7 : X.K.In s7.heap := I1.ok.mod.kin.keeps fun b o e => fl0.1 b o (ub0.keep b o (I5.bs b o e).1 (I5.bs b o e).2 fun z => by
        rw [frE] at z
        rcases List.mem_cons.mp z with z | z
        · have := fp_base I1 fL
          rw [← z, e] at this
          cases this
        · have := (I1.stack.mem z).1
          rw [e] at this
          cases this)
      obtain ⟨F', xx, _, _, xr, hEd⟩ := id hE
      have ec : clsV X.K xx.c = some (.ref (He.ga X.K Cx)) := by rw [hEd.1]; rfl
      obtain rfl : .ref (He.ga X.K Cx) = cls := Option.some.inj (ec.symm.trans xr.1)
      have hE' : EE X.K B (.ref (He.ga X.K Cx)) dd H' := let ⟨F2, x2, g2, t2, xr2, ed2⟩ := hE; ⟨F2, x2, g2, t2, xr2, ed2.2⟩
      have LT : PySem.W.Looks (model X.prog X.w) s7.heap (typeOf (.ref x)) (.ref (He.ga X.K Cx)) := by
        obtain ⟨oe, vs, T, oT, ts, he, hz, hd, h1, hnT, hTe, hT, hdT, h3⟩ := fl.2.2.2
        exact fun A Q E s k q => wpAny_typeOf_ref (k _ _ he) (by rw [hz.1]; exact q)
      refine ⟨isgen_at gg5 fun o e => k7 gobj o fG nG' e, LT.andThen (PySem.W.looks_subIn KX7 hX), ?_⟩
      exact hx pins σ H1 s1 (.ref x) (s7.setGen gno .finished) I1 ⟨x, B', H', _, dd, rfl, fl, hok, ub, na, os7, allBare_setGen ag rfl, hE'⟩
  · exact q.elim
end
end GX
namespace Y
open PySem PySem.Spec PyProof.Rows L2 Z
section
variable {X : Cx} {B : Bs} {pos apos : Pos} {R : RdF} {k : Nat} {g p : Addr} {m : Str}
/-- C.m() of a static method -/
theorem y_smeth0 {C : Str} {pl : Sem Bool} {cp : Pos} (hg : Gl X C) (hm : X.mg C = some (.ref (He.ga X.K C))) (k0 : SMet X.K (He.ga X.K C) m p g) (F : FnG X.prog X.w X.K X.mg X.base (L2N.CX X.prog X.w) k g (spP X.K R)) (hr : RoomG k X.A) (hx : Px X B) (hdb : (C == ("__debug__" : Str)) = false := by decide)
    (ht : eval (.Call (.Attribute (.Name C cp) m apos) [] [] pos) X.env = (do
      let ov ← eval (.Name C cp) X.env
      standAt apos.atName
      let (f, first) ← holding [ov] (getMethod ov m pl)
      callWith pos f first (backTo pos (starEach [] X.env)) (backToKw pos (keywordEach [] X.env))) := by rfl) :
    PEp X B (.Call (.Attribute (.Name C cp) m apos) [] [] pos) (fun ρ Q => R [] Q B.Ed) := by
  refine ⟨fun pins s σ H Q I ⟨F0, ρ, Qd, J, z, kk⟩ => ?_⟩
  refine PySem.W.methodCall_KW (pl := pl) (ld_glob I hg hm ?_ hdb) ht
  refine getsm I k0 fun s1 I1 => ?_
  refine PySem.W.callWith_K0 I1.kIn k0.kp ?_
  exact wpAny_call (run_fnA (us := []) (vs := []) (F.at hr) hx I1 .nil (sp_call J kk (Go.refl J.same) J.tp .nil z))
end
end Y
/-! list(zip([], a generator)): the generator never begins -/
namespace GX
open PySem PySem.Spec PyProof.Rows L2 GenW Z Y
theorem zip_len0 : typeLookup (.type "zip") "__len__" = pure none := by rw [typeLookup_type, builtinLookup_eq_fast]; kernel_rfl
theorem zip_hint0 : typeLookup (.type "zip") "__length_hint__" = pure none := by rw [typeLookup_type, builtinLookup_eq_fast]; kernel_rfl
abbrev zg1 (h : Heap) (l : Addr) : Heap := h.push { cls := .type "list_iterator", data := .fields #[.ref l, .int 0 0] }
abbrev zg2 (h : Heap) (l g : Addr) : Heap := (zg1 h l).push { cls := .type "tuple", data := .seq #[.ref h.objs.size, .ref g] }
abbrev zg3 (h : Heap) (l g : Addr) : Heap := (zg2 h l g).push { cls := .type "tuple", data := .seq #[.none, .none] }
abbrev zg4 (h : Heap) (l g : Addr) : Heap := (zg3 h l g).push { cls := .type "zip", data := .fields #[.none, .bool false, .bool false, .ref (zg1 h l).objs.size, .ref (zg2 h l g).objs.size] }
theorem meets_zipG (l g gno : Addr) (xs : Array Value) :
    Meets (Builtin.«zip.__new__» ⟨[.type "zip", .ref l, .ref g], []⟩) (fun _ R s => s.heap.IsList l xs ∧ s.heap.IsGen g gno ∧ R (.ok (.ret (.ref (zg3 s.heap l g).objs.size))) { s with heap := zg4 s.heap l g }) :=
  .of_wp fun prog w A R s h => by
    obtain ⟨hp, gs, d, tk, os⟩ := s; obtain ⟨h1, h2, h⟩ := h
    have hsub := sub_zip
    have q1 : Heap.IsList (Shared.heap ⟨hp, gs, d, tk, os⟩) l xs := h1
    have q2 : Heap.IsGen (Shared.heap ⟨hp.push { cls := .type "list_iterator", data := .fields #[.ref l, .int 0 0] }, gs, d, tk, os⟩) g gno := by
      obtain ⟨o, nm, qn, e, r⟩ := h2
      exact ⟨o, nm, qn, Heap.get?_push_of_some _ e, r⟩
    wp_walk using wpAny_pyIter_list q1, wpAny_pyIter_gen q2
    exact ⟨_, rfl, h⟩
section
variable {P : Program} {w : World} {A : Around} {s : Shared} {E : Value → Shared → Prop} {Q : Value → Shared → Prop} {R : Result → Shared → Prop}
theorem call_zipG {l g gno : Addr} {xs : Array Value} (h1 : s.heap.IsList l xs) (h2 : s.heap.IsGen g gno)
    (h : ∀ h', IsZip h' (s.heap.objs.size + 3) (s.heap.objs.size + 1) (s.heap.objs.size + 2) .none → IsPair h' (s.heap.objs.size + 1) (.ref s.heap.objs.size) (.ref g) → h'.IsListIter s.heap.objs.size l 0 → h'.objs.size = s.heap.objs.size + 4 →
      (∀ c o, s.heap.get? c = some o → h'.get? c = some o) → Q (.ref (s.heap.objs.size + 3)) { s with heap := h' }) : wpAny (model P w) A (call (.type "zip") [.ref l, .ref g]) Q E s := by
  refine callType_new F.called_zip (by decide) (F.typeCall_zip_2 _ _) (F.newCall_zip_2 _ _) (fun obj => F.args_object_init_3 obj _ _) F.entry_zip_new (meets_zipG l g gno xs) ⟨h1, h2, ?_⟩
  have z1 : (zg1 s.heap l).objs.size = s.heap.objs.size + 1 := Heap.size_push ..
  have z2 : (zg2 s.heap l g).objs.size = s.heap.objs.size + 2 := by rw [Heap.size_push, z1]
  have z3 : (zg3 s.heap l g).objs.size = s.heap.objs.size + 3 := by rw [Heap.size_push, z2]
  have z4 : (zg4 s.heap l g).objs.size = s.heap.objs.size + 4 := by rw [Heap.size_push, z3]
  have g4 : (zg4 s.heap l g).get? (zg3 s.heap l g).objs.size = some _ := Heap.get?_push_size _ rfl
  have g2 : (zg4 s.heap l g).get? (zg1 s.heap l).objs.size = some _ := Heap.get?_push_of_some _ (Heap.get?_push_of_some _ (Heap.get?_push_size _ rfl))
  have g1 : (zg4 s.heap l g).get? s.heap.objs.size = some _ := Heap.get?_push_of_some _ (Heap.get?_push_of_some _ (Heap.get?_push_of_some _ (Heap.get?_push_size _ rfl)))
  show _ ∧ _
  rw [z1, z2, z3] at g4
  rw [z1] at g2
  rw [z3]
  exact ⟨⟨_, g4, rfl⟩, h _ g4 g2 ⟨_, g1, rfl, rfl⟩ z4 fun c o x => Heap.get?_push_of_some _ (Heap.get?_push_of_some _ (Heap.get?_push_of_some _ (Heap.get?_push_of_some _ x)))⟩
theorem zip_end0 {z TI TO i1 l : Addr} {a2 : Value} {k1 : Nat} {xs : Array Value} {Q : Option Value → Shared → Prop} (hh : A.handled = none) (n1 : i1 ≠ z) (n2 : l ≠ z)
    (hz : IsZip s.heap z TI TO .none) (hTI : IsPair s.heap TI (.ref i1) a2) (h1 : s.heap.IsListIter i1 l k1) (hl1 : s.heap.IsList l xs) (hend : xs[k1]? = none)
    (hQ : ∀ h', (∀ c o, c ≠ z → c ≠ i1 → s.heap.get? c = some o → h'.get? c = some o) → Q none { s with heap := h' }) : wpAny (model P w) A (pyNext (.ref z)) Q E s := by
  have hT : s.TypeIs (.ref z) "zip" := ⟨_, hz, rfl⟩
  unfold pyNext
  refine wpAny_bind (wpAny_attempt (wpAny_callSpecial?_slot (name := Str.ofString "__next__") hT F.slot_zip_next (wpAny_call_entry F.slot_zip_next hT F.entry_zip_next ?_ (F.args_zip_next_1 _))))
  show wpAny _ _ (field (Value.ref z) 2 >>= _) _ _ _; refine wpAny_bind (wpAny_field hz rfl (x := .bool false) rfl ?_)
  show wpAny _ _ (field (Value.ref z) 3 >>= _) _ _ _; refine wpAny_bind (wpAny_field hz rfl (x := .ref TI) rfl (wpAny_bind (wpAny_seqItems hTI rfl ?_)))
  show wpAny _ _ (Builtin.SmallTypes.ownedTupleIsFree (Value.ref z) >>= _) _ _ _; refine wpAny_bind ?_; unfold Builtin.SmallTypes.ownedTupleIsFree
  refine wpAny_bind (wpAny_field hz rfl (x := .none) rfl (wpAny_pure ?_)); simp only [if_true]
  refine wpAny_bind (wpAny_rule (wpAny_bind (wpAny_field hz rfl (x := .ref TO) rfl (wpAny_bind (wpAny_setField_rec hz (by simp) fun p hp sp => ?_)))))
  replace hp : IsZip p z TI TO .ellipsis := hp
  refine wpAny_bind ?_; simp only [List.zipIdx_cons, List.zipIdx_nil, List.forIn_cons, List.forIn_nil]
  refine wpAny_bind (wpAny_bind (wpAny_onRaise ?_)); show wpAny _ _ (Builtin.SmallTypes.nextOf (Value.ref i1) >>= _) _ _ _
  refine wpAny_bind (wpAny_nextOf_list_end hh (h1.extBut sp.extBut n1) (hl1.extBut sp.extBut n2) hend fun q e sq he => ?_)
  obtain ⟨oe, hoe, hce⟩ := he
  have hq : IsZip q z TI TO .ellipsis := sq _ _ (Ne.symm n1) hp
  have hez : e ≠ z := fun x => by subst x; rw [hq] at hoe; cases hoe; simp at hce
  refine wpAny_setField_rec hq (by simp) fun r _ sr => ?_
  refine wpAny_bind (wpAny_isInstance (T := "StopIteration") (b := true) ⟨oe, sr.extBut _ _ hez hoe, hce⟩ isSubtype_stop (wpAny_pure (hQ _ fun c o c1 c2 x => sr.extBut _ _ c1 (sq _ _ c2 (sp.extBut _ _ c1 x)))))
theorem ext_zip0 {z TI TO i1 l S : Addr} {a2 res : Value} {k1 c₀ : Nat} {xs : Array Value} (hh : A.handled = none) (n1 : i1 ≠ z) (n2 : l ≠ z) (nz : S ≠ z) (nT : S ≠ TI) (ni : S ≠ i1) (nl : S ≠ l)
    (hz : IsZip s.heap z TI TO .none) (hTI : IsPair s.heap TI (.ref i1) a2) (h1 : s.heap.IsListIter i1 l k1) (hl1 : s.heap.IsList l xs) (hend : xs[k1]? = none) (hS : s.heap.get? S = some { cls := .type "list", data := .seq #[] c₀ })
    (hR : ∀ h' c', (∀ c o, c ≠ z → c ≠ i1 → c ≠ S → s.heap.get? c = some o → h'.get? c = some o) → h'.get? S = some { cls := .type "list", data := .seq #[] c' } → R (.ok (.ret res)) { s with heap := h' }) :
    wpAny (model P w) A.in1 (Builtin.List.listExtendWith (.ref S) (.ref z) res)
      (fun fin s' => match fin with | .done f => R (.ok f) s' | .again c' => c'.quiet = true ∧ codeAny (model P w) A c' R s') (fun e s' => R (.error e) s') s := by
  have hT : s.TypeIs (.ref z) "zip" := ⟨_, hz, rfl⟩
  have m2 : Builtin.List.listSameRef (.ref S) (.ref z) = false := by simp [Builtin.List.listSameRef, nz]
  have m3 : (Value.type "zip" == Value.type "list") = false := by decide
  have m4 : (Value.type "zip" == Value.type "tuple") = false := by decide
  unfold Builtin.List.listExtendWith; refine wpAny_bind (wpAny_typeOf hT ?_)
  simp only [m2, m3, m4, Bool.or_false, Bool.false_eq_true, if_false]
  refine wpAny_bind (wpAny_pyIter_zip hz (wpAny_bind (wpAny_holding ?_)))
  unfold Builtin.List.listLengthHint; refine wpAny_bind (wpAny_specialOf hT zip_len0 ?_)
  show wpAny (model P w) A.in1 (specialOf (Value.ref z) (Str.ofString "__length_hint__") >>= _) _ _ _
  refine wpAny_bind (wpAny_specialOf hT zip_hint0 (wpAny_pure ?_))
  show wpAny (model P w) A.in1 (rule "list.extend.makes-room" >>= fun _ => Builtin.List.listTouch (.ref S) >>= fun _ => again (.builtin "list.extend.loop" ⟨[.ref S, .ref z, res], []⟩)) _ _ _
  refine wpAny_bind (wpAny_rule (wpAny_bind ?_))
  show wpAny (model P w) A.in1 (updateSeq S (·.push .none) >>= fun _ => updateSeq S (·.pop)) _ _ _
  refine wpAny_bind (wpAny_updateSeq hS rfl ?_)
  have S2 := Heap.get?_update_self (Obj.mapSeq (·.push Value.none)) hS rfl
  refine wpAny_updateSeq (hz := by seq_fits) S2 rfl ?_
  have S3 := Heap.get?_update_self (Obj.mapSeq (·.pop)) S2 rfl
  have oth : ∀ b o, b ≠ S → s.heap.get? b = some o → ((s.heap.update S (Obj.mapSeq (·.push Value.none))).update S (Obj.mapSeq (·.pop))).get? b = some o := fun b o hb e => (Heap.get?_update_other _ _ (Ne.symm hb)).trans ((Heap.get?_update_other _ _ (Ne.symm hb)).trans e)
  refine wpAny_pure ⟨plainId_quiet F.plain_extend_loop _, codeAny_builtin F.entry_extend_loop ?_⟩
  rw [Around.under_plainId F.plain_extend_loop _]; show wpAny (model P w) A.in1 (pyNext (.ref z) >>= _) _ _ _
  refine wpAny_bind (zip_end0 (TO := TO) (k1 := k1) (xs := xs) (l := l) hh n1 n2 (oth _ _ (Ne.symm nz) hz) (oth _ _ (Ne.symm nT) hTI) ?_ ?_ hend fun h' k => ?_)
  · obtain ⟨o, e, r⟩ := h1
    exact ⟨o, oth _ _ (Ne.symm ni) e, r⟩
  · obtain ⟨o, e, r⟩ := hl1
    exact ⟨o, oth _ _ (Ne.symm nl) e, r⟩
  · exact wpAny_pure (hR h' _ (fun c o c1 c2 c3 e => k c o c1 c2 (oth c o c3 e)) (k S _ nz ni S3))
theorem call_list_zip0 {z TI TO i1 l : Addr} {a2 : Value} {k1 : Nat} {xs : Array Value} (hh : A.handled = none) (n1 : i1 ≠ z) (n2 : l ≠ z)
    (hz : IsZip s.heap z TI TO .none) (hTI : IsPair s.heap TI (.ref i1) a2) (h1 : s.heap.IsListIter i1 l k1) (hl1 : s.heap.IsList l xs) (hend : xs[k1]? = none)
    (hQ : ∀ h' c', (∀ c o, c ≠ z → c ≠ i1 → c ≠ s.heap.objs.size → s.heap.get? c = some o → h'.get? c = some o) → h'.get? s.heap.objs.size = some { cls := .type "list", data := .seq #[] c' } → Q (.ref s.heap.objs.size) { s with heap := h' }) :
    wpAny (model P w) A (call (.type "list") [.ref z]) Q E s := by
  have lt : ∀ {b o}, s.heap.get? b = some o → s.heap.objs.size ≠ b := fun e => Nat.ne_of_gt (Heap.lt_size e)
  have nz := lt hz
  have nT := lt hTI
  have ni : s.heap.objs.size ≠ i1 := let ⟨_, e, _⟩ := h1; lt e
  have nl : s.heap.objs.size ≠ l := let ⟨_, e, _⟩ := hl1; lt e
  refine callType_codes (Q₁ := fun obj s₁ => obj = .ref s.heap.objs.size ∧ s₁ = { s with heap := s.heap.push { cls := .type "list", data := .seq #[] } }) F.called_list (F.typeCall_list_1 _) F.entry_list_init (code_list_new _ ⟨rfl, rfl⟩) fun obj s₁ h₁ => ?_
  obtain ⟨rfl, rfl⟩ := h₁
  have hS : (s.heap.push { cls := .type "list", data := .seq #[] }).get? s.heap.objs.size = some { cls := .type "list", data := .seq #[] } := Heap.get?_push_size _ rfl
  refine ⟨⟨_, hS, rfl⟩, F.args_list_init_2 _ _, ?_⟩
  show wpAny (model P w) A.in1.in1 (do let old ← Builtin.List.listItems (.ref s.heap.objs.size); Builtin.List.listUpdate (.ref s.heap.objs.size) (fun _ => #[]); letGo old.toList.reverse; Builtin.List.listExtendWith (.ref s.heap.objs.size) (.ref z) .none) _ _ _
  refine wpAny_bind ?_; unfold Builtin.List.listItems; refine wpAny_bind (wpAny_seqItems hS rfl (wpAny_pure ?_))
  show wpAny (model P w) A.in1.in1 (updateSeq s.heap.objs.size (fun _ => #[]) >>= fun _ => letGo (#[] : Array Value).toList.reverse >>= fun _ => Builtin.List.listExtendWith (.ref s.heap.objs.size) (.ref z) .none) _ _ _
  refine wpAny_bind (wpAny_updateSeq hS rfl ?_)
  have S2 := Heap.get?_update_self (Obj.mapSeq (fun _ => (#[] : Array Value))) hS rfl
  have oth : ∀ b o, b ≠ s.heap.objs.size → s.heap.get? b = some o → ((s.heap.push { cls := .type "list", data := .seq #[] }).update s.heap.objs.size (Obj.mapSeq (fun _ => (#[] : Array Value)))).get? b = some o :=
    fun b o hb e => (Heap.get?_update_other _ _ (Ne.symm hb)).trans (Heap.get?_push_of_some _ e)
  refine wpAny_bind (wpAny_letGo (ext_zip0 (A := A.in1) (TO := TO) (k1 := k1) (xs := xs) (l := l) hh n1 n2 nz nT ni nl (oth _ _ (Ne.symm nz) hz) (oth _ _ (Ne.symm nT) hTI) ?_ ?_ hend S2 fun h' c' k e => ⟨rfl, hQ h' c' (fun c o c1 c2 c3 x => k c o c1 c2 c3 (oth c o c3 x)) e⟩))
  · obtain ⟨o, e, r⟩ := h1
    exact ⟨o, oth _ _ (Ne.symm ni) e, r⟩
  · obtain ⟨o, e, r⟩ := hl1
    exact ⟨o, oth _ _ (Ne.symm nl) e, r⟩
end
section
variable {X : Cx} {B : Bs} {e : Expr} {es : List Expr} {rl : RdA} {f : Addr} {qual : Str} {st : Stmt} {N : List Str} {p0 p1 p2 p3 pos pos2 pos3 : Pos}
/-- list(zip([], nets_of_size(e))) -/
theorem y_listZip0 (ha : PAp X B (e :: es) rl) (F : DefAt X.K "nets_of_size" qual st f) (S : GScope N ["size"] (defScope st)) (sk : ScN (defScope st))
    (hb : ∀ (kV doc pm : Value) (an : Option Addr) (cdv ct : Value) (us : List Value), us.length = 1 → bindArgs (PySem.W.fnOf "nets_of_size" qual (defArgs st) (defBody st) (defScope st) .none kV doc pm an cdv ct) ⟨us, []⟩ = pure ((["size"] : List Str).zip us))
    (hg : Gl X "nets_of_size") (hm : X.mg "nets_of_size" = some (.ref f)) (hk : PySem.W.keepIn X.K (.ref f) = true) (hr : RoomG 1 X.A) (hc : X.calm = true) (hgl : Gl X "list") (hml : X.mg "list" = none) (hgz : Gl X "zip") (hmz : X.mg "zip" = none)
    (he : starEach (e :: es) X.env = (false, eval e X.env) :: starEach es X.env := by rfl) (hpl : (backTo pos (starEach es X.env)).any (·.1) = false := by rfl)
    (na : starEach [.List [] p3, .Call (.Name "nets_of_size" p0) (e :: es) [] pos] X.env = (false, eval (.List [] p3) X.env) :: starEach [.Call (.Name "nets_of_size" p0) (e :: es) [] pos] X.env := by rfl)
    (nb : starEach [.Call (.Name "nets_of_size" p0) (e :: es) [] pos] X.env = (false, eval (.Call (.Name "nets_of_size" p0) (e :: es) [] pos) X.env) :: starEach [] X.env := by rfl)
    (nz : starEach [.Call (.Name "zip" p2) [.List [] p3, .Call (.Name "nets_of_size" p0) (e :: es) [] pos] [] pos2] X.env = (false, eval (.Call (.Name "zip" p2) [.List [] p3, .Call (.Name "nets_of_size" p0) (e :: es) [] pos] [] pos2) X.env) :: starEach [] X.env := by rfl) :
    PEp X B (.Call (.Name "list" p1) [.Call (.Name "zip" p2) [.List [] p3, .Call (.Name "nets_of_size" p0) (e :: es) [] pos] [] pos2] [] pos3) (fun ρ Q => rl ρ fun ds => (∃ d, ds = [d]) ∧ Q (.lst [])) := by
  refine ⟨fun pins s σ H Q I h => ?_⟩
  obtain ⟨F0, ρ, Qd, J, z, kk⟩ := h
  refine Call_ (ld_blt I hgl hml boot_list (PyProof.Rows.callWith_type1 (args_cons ?_ nz) nz))
  refine Call_ (ld_blt I hgz hmz boot_zip (PyProof.Rows.callWith_type1 (args_cons ?_ na) na))
  refine thn ((y_lst (B := B) (a_nil (X := X) (B := B)) (pos := p3)).run pins s σ H (fun v H1 => ∃ F1, Go B.ms F0 H F1 H1 ∧ Tp X.K B.ms F1 H1 ∧ Rp X.K B.ms F1 v (.lst [])) I ⟨F0, ρ, fun d => d = .lst [], J, ⟨Nat.zero_le _, rfl⟩, fun v F1 H1 d g1 t1 r1 z1 => ⟨F1, g1, t1, by rw [← z1]; exact r1⟩⟩) fun u1 s1 ⟨v1, H1, I1, ru1, F1, g1, t1, r1⟩ => ?_
  cases r1 with
  | lst a1 a2 =>
  rename_i p vs
  cases a2
  obtain rfl : u1 = Value.ref p := ru1
  obtain ⟨its, rv, hl, _⟩ := I1.list (SqL.of (t1.1 _ _ a1))
  cases rv
  refine args_cons ?_ nb
  refine wpAny_Call_Name_kw (ld_glob I1 hg hm ?_ (by decide))
  refine PySem.W.callWith_K (h₀ := X.base) I1.ok.mod.kin hk (thn (ha.run pos pins s1 σ H1 (fun vs H2 => ∃ F2 ds, Go B.ms F1 H1 F2 H2 ∧ Tp X.K B.ms F2 H2 ∧ Rps X.K B.ms F2 vs ds ∧ _) I1 ⟨F1, ρ, _, J.step g1 t1, z, fun vs F2 H2 ds g2 t2 r2 z2 => ⟨F2, ds, g2, t2, r2, z2⟩⟩) fun us s2 ⟨vs, H2, I2, rx, F2, ds, g2, t2, r2, ⟨d, ed⟩, q⟩ => ⟨I2.kIn, ?_⟩) he hpl
  subst ed
  obtain ⟨v, rfl, r3⟩ : ∃ v, vs = [v] ∧ Rp X.K B.ms F2 v d := by
    cases r2 with
    | cons r2 r3 =>
    cases r3
    exact ⟨_, rfl, r2⟩
  obtain ⟨u, rfl, ru⟩ := vals1 rx
  refine wpAny_call (codeAny_mono (call_genN (u := u) F S sk.ks hb hr.rm.depth I2.env0) fun r s3 hq => ?_)
  obtain ⟨gobj, gno, cdv, rfl, kp, os, ba, gy, gg, ⟨m, hn, hsz⟩, lt⟩ := hq
  refine args_nil ?_
  have I3 : L2.Inv X pins σ H2 s3 := I2.call' (ch := []) os (Un.kept kp) (I2.hok.kept kp) ba fun b hb => by cases hb
  obtain ⟨its', rv', hl3, _⟩ := I3.list (SqL.of (t2.1 _ _ (g2.ff _ _ a1)))
  cases rv'
  refine call_zipG (gno := gno) hl3.isList gg fun h4 hz4 hp4 hi4 hs4 k4 => ?_
  generalize hs : ({ s3 with heap := h4 } : Shared) = s4
  have e4 : s4.heap = h4 := by rw [← hs]
  have lp : p < s3.heap.objs.size := let ⟨_, e, _⟩ := hl3.isList; Heap.lt_size e
  have k34 : ∀ b o, s3.heap.get? b = some o → s4.heap.get? b = some o := fun b o e => by rw [e4]; exact k4 b o e
  have I4 : L2.Inv X pins σ H2 s4 := I3.call' (ch := []) (by rw [← hs]) (Un.kept k34) (I3.hok.kept k34) (by rw [← hs]; exact I3.bare) fun b hb => by cases hb
  obtain ⟨its4, rv4, hl4, _⟩ := I4.list (SqL.of (t2.1 _ _ (g2.ff _ _ a1)))
  cases rv4
  refine args_nil (call_list_zip0 (z := s3.heap.objs.size + 3) (TI := s3.heap.objs.size + 1) (TO := s3.heap.objs.size + 2) (i1 := s3.heap.objs.size) (l := p) (a2 := .ref gobj) (k1 := 0) (xs := #[]) (I4.ok.hd hc) (Nat.ne_of_lt (Nat.lt_add_of_pos_right (by decide))) (Nat.ne_of_lt (Nat.lt_of_lt_of_le lp (Nat.le_add_right _ _))) (by rw [e4]; exact hz4) (by rw [e4]; exact hp4) (by rw [e4]; exact hi4) hl4.isList rfl fun h5 c5 k5 e5 => ?_)
  have sz4 : s4.heap.objs.size = s3.heap.objs.size + 4 := by rw [e4]; exact hs4
  have k35 : ∀ b o, s3.heap.get? b = some o → h5.get? b = some o := fun b o e => by
    have := Heap.lt_size e
    exact k5 b o (Nat.ne_of_lt (Nat.lt_of_lt_of_le this (Nat.le_add_right _ _))) (Nat.ne_of_lt this) (Nat.ne_of_lt (by rw [sz4]; exact Nat.lt_of_lt_of_le this (Nat.le_add_right _ _))) (k34 b o e)
  have e5' : ({ s4 with heap := h5 } : Shared) = { s3 with heap := h5 } := by rw [← hs]
  rw [e5']
  have fr : H2 s4.heap.objs.size = none := I3.hok.fresh (by omega)
  have new : ObjOk X.prog X.w (upd H2 s4.heap.objs.size (.lst [])) h5 s4.heap.objs.size (.lst []) := ⟨Nat.zero_le _, [], c5, .nil, e5⟩
  have I6 : L2.Inv X pins σ (upd H2 s4.heap.objs.size (.lst [])) { s3 with heap := h5 } := I3.laid (t' := s3.toks) k35 (by omega) new
  obtain ⟨F3, g3, q3, _⟩ := newE t2.1 fr rfl
  exact ⟨.ref s4.heap.objs.size, _, I6, rfl, kk _ F3 _ _ (g1.trans (g2.trans g3.nil)) (t2.go0 g3) (.lst q3 .nil) q⟩
end
end GX
namespace Y
open PySem PySem.Spec PyProof.Rows L2 Z
open GX (It3 netOf restL rowI)
/-! ### nets that fit, the numbers refused -/
/-- what is told: a word and a shown value -/
abbrev hr2 (l : Str) (d : D) : D := .lst [.str l, .str (shD d)]
end Y
namespace Y
open PySem PySem.Spec PyProof.Rows L2 Z GX
/-! ### k02: what is refused -/
def tri (x y z : D) : Bool := match x, y, z with
  | .int a, .int b, .int c => decide (1 ≤ c) && (decide (0 ≤ b) && decide (b < a))
  | _, _, _ => false
def R_are_numbers02 : RdF := ar1 fun d Q _ => ∃ x y z, d = .tup [x, y, z] ∧ (knD x ∧ knD y ∧ knD z) ∧ Q (.bl (tri x y z))
def R_Net_init02 : RdF := ar3 fun x y z Q E => (knD x ∧ knD y ∧ knD z) ∧ (tri x y z = true → Q (.obj "Net" ["own_numbers"] [.tup [x, y, z]])) ∧ (tri x y z = false → E (exV "InvalidNet" (.tup [x, y, z])))
theorem net02_w : ∀ ds Q E, R_Net_UinitU ds Q E → R_Net_init02 ds Q E := by
  intro ds Q E h
  obtain ⟨x, y, z, e0, hh⟩ := ar3E h
  clear h
  subst e0
  split at hh
  · rename_i a b c
    obtain ⟨⟨h1, h2, h3⟩, h⟩ := hh
    refine ⟨⟨trivial, trivial, trivial⟩, fun _ => h, fun e => ?_⟩
    have : tri (.int a) (.int b) (.int c) = true := by simp [tri, h1, h2, h3]
    exact Bool.noConfusion (e.symm.trans this)
  · exact hh.elim
def R_Net_of02 : RdF := fun ds Q E => (∃ (pre : List (Int × Int)) (odd : D) (rest : List D), ds = pre.map plD ++ odd :: rest ∧ ds.length ≤ 1000 ∧ knP odd ∧ isPl odd = false ∧ E (exV "InvalidPlace" odd)) ∨ ∃ S : List (Int × Int), ds = S.map plD ∧ shOk S ∧ MN.Form S none ∧ E (exV "InvalidNet" (.tup ds))
theorem R_Net_of02_len : ∀ ds Q E, R_Net_of02 ds Q E → ds.length ≤ 100000 := by
  rintro ds Q E (⟨pre, odd, rest, _, h, _⟩ | ⟨S, rfl, ⟨n, _, h⟩, _⟩)
  · omega
  · rw [List.length_map]
    have : (S.length + 2) * 2 ≤ (S.length + 2) * (n + 2) := Nat.mul_le_mul_left _ (by omega)
    omega
def R_Net_scaled02 : RdF := ar2 fun x y Q E => ∃ a b c : Int, x = dNet a b c ∧ knD y ∧ numOk y 1 .non = false ∧ E (exV "InvalidNumber" y)
def R_nets_with02 : RdF := ar1 fun n Q _ => ∃ k : Int, n = .int k ∧ (1 ≤ k ∧ k ≤ 2000 ∧ (MN.divL k).length ≤ 20) ∧ Q (.lst ((restL k (MN.divL k)).map netOf))
def R_nets_above02 : RdF := ar1 fun d Q E => ∃ a b c : Int, d = dNet a b c ∧ (((Sz 4000 a ∧ Sz 4000 c) ∧ 2000 < a * c ∧ E (exL 2000)) ∨ (a = 2000 ∧ b = 3 ∧ c = 1 ∧ ∀ l, Q (.lst l)))
def R_heard02 (fa : Addr) (Rc : RdF) : RdF := ar1 fun f Q _ => f = .fn fa ∧ Rc [] (fun _ => Q (.str "none")) fun x =>
  (∃ d, shMP d ∧ ((x = exV "InvalidNet" d ∧ Q (.lst [.str "net", .str (shM d), .bl true])) ∨ (x = exV "InvalidPlace" d ∧ Q (.lst [.str "place", .str (shM d), .bl true])) ∨ (x = exV "InvalidNumber" d ∧ Q (.lst [.str "number", .str (shM d), .bl true])))) ∨
  ∃ n : Int, x = exL n ∧ Q (.lst [.str "limit", .int n, .bl false])
def R__law_is_whole : RdF := ar1 fun d Q _ => knD d ∧ Q (.bl (isIntD d))
def R__law_is_triple : RdF := ar3 fun x y z Q _ => (knD x ∧ knD y ∧ knD z) ∧ Q (.bl (tri x y z))
def R__law_triples_right : RdF := ar1 fun t Q _ => t = .tape ∧ Q (.bl true)
def R__law_shifts_right : RdF := ar1 fun t Q _ => t = .tape ∧ Q (.bl true)
theorem int_of {x : D} (h : isIntD x = true) : ∃ a, x = .int a := by
  cases x <;> first | exact ⟨_, rfl⟩ | cases h
theorem tri_cases (x y z : D) : (∃ a b c, x = .int a ∧ y = .int b ∧ z = .int c) ∨ ((isIntD x && (isIntD y && isIntD z)) = false ∧ tri x y z = false) := by
  have no : (isIntD x && (isIntD y && isIntD z)) = false → tri x y z = false := fun h => by
    unfold tri
    split
    · cases h
    · rfl
  cases hx : isIntD x with
  | false => rw [hx] at no; exact .inr ⟨rfl, no rfl⟩
  | true =>
    cases hy : isIntD y with
    | false => rw [hx, hy] at no; exact .inr ⟨rfl, no rfl⟩
    | true =>
      cases hz : isIntD z with
      | false => rw [hx, hy, hz] at no; exact .inr ⟨rfl, no rfl⟩
      | true =>
        obtain ⟨a, rfl⟩ := int_of hx
        obtain ⟨b, rfl⟩ := int_of hy
        obtain ⟨c, rfl⟩ := int_of hz
        exact .inl ⟨a, b, c, rfl, rfl, rfl⟩
/-! the numbers that are drawn -/
def okO (d : D) : Prop := knD d ∧ shN d ∧ (toN d).bulk ≤ 100 ∧ (toN d).depth ≤ 5 ∧ okU (shM d)
def odds02 : List D := [.non, .bl true, .bl false, .str "1", .tup [.int 1], .lst [.int 1], .dic [] [], .int (-1), .int 0, .int 1, .int 2, .int 5, .int (10 ^ (30 : Int).toNat)]
theorem odds02_ok : ∀ d ∈ odds02, okO d := by
  intro d hd
  have o : ∀ d, PyData.strOk (shM d) = true → okU (shM d) := fun d h => okU_iff.mpr h
  unfold odds02 at hd
  simp only [List.mem_cons, List.not_mem_nil, or_false] at hd
  rcases hd with rfl | rfl | rfl | rfl | rfl | rfl | rfl | rfl | rfl | rfl | rfl | rfl | rfl
  · exact ⟨trivial, trivial, by decide +kernel, by decide +kernel, o _ (by decide +kernel)⟩
  · exact ⟨trivial, trivial, by decide +kernel, by decide +kernel, o _ (by decide +kernel)⟩
  · exact ⟨trivial, trivial, by decide +kernel, by decide +kernel, o _ (by decide +kernel)⟩
  · exact ⟨trivial, (fun c hc => by rw [show ("1" : Str).cps.toList = [49] by decide +kernel, List.mem_singleton] at hc; rw [hc]; decide), by decide +kernel, by decide +kernel, o _ (by decide +kernel)⟩
  · exact ⟨trivial, ⟨szP (by decide) (by decide), trivial⟩, by decide +kernel, by decide +kernel, o _ (by decide +kernel)⟩
  · exact ⟨trivial, ⟨szP (by decide) (by decide), trivial⟩, by decide +kernel, by decide +kernel, o _ (by decide +kernel)⟩
  · exact ⟨trivial, ⟨(fun _ h => nomatch h), (fun _ h => nomatch h), rfl⟩, by decide +kernel, by decide +kernel, o _ (by decide +kernel)⟩
  · exact ⟨trivial, szP (by decide) (by decide), by decide +kernel, by decide +kernel, o _ (by decide +kernel)⟩
  · exact ⟨trivial, szP (by decide) (by decide), by decide +kernel, by decide +kernel, o _ (by decide +kernel)⟩
  · exact ⟨trivial, szP (by decide) (by decide), by decide +kernel, by decide +kernel, o _ (by decide +kernel)⟩
  · exact ⟨trivial, szP (by decide) (by decide), by decide +kernel, by decide +kernel, o _ (by decide +kernel)⟩
  · exact ⟨trivial, szP (by decide) (by decide), by decide +kernel, by decide +kernel, o _ (by decide +kernel)⟩
  · exact ⟨trivial, szP (by decide +kernel) (by decide), by decide +kernel, by decide +kernel, o _ (by decide +kernel)⟩
theorem tup3_sh {x y z : D} (hx : okO x) (hy : okO y) (hz : okO z) : shMP (.tup [x, y, z]) ∧ PyData.strOk (shM (.tup [x, y, z])) = true := by
  obtain ⟨_, x1, x2, x3, x4⟩ := hx
  obtain ⟨_, y1, y2, y3, y4⟩ := hy
  obtain ⟨_, z1, z2, z3, z4⟩ := hz
  refine ⟨⟨⟨x1, y1, z1, trivial⟩, ?_, ?_⟩, okU_iff.mp ?_⟩
  · simp only [toN, toNs, PyData.bulk, PyData.bulkAll]; omega
  · simp only [toN, toNs, PyData.depth, PyData.depthAll]; omega
  · have e : shM (.tup [x, y, z]) = ("(" : Str) ++ (shM x ++ (", " : Str) ++ (shM y ++ (", " : Str) ++ shM z)) ++ (")" : Str) := by
      show PyData.shown (.tuple (toNs [x, y, z])) = _
      simp only [PyData.shown, toNs, PyData.shownAll]
      rfl
    rw [e]
    exact okU_app (okU_app (okU_lit _) (okU_app (okU_app x4 (okU_lit _)) (okU_app (okU_app y4 (okU_lit _)) z4))) (okU_lit _)
mutual
/-- without a dict inside, both ways of showing agree -/
theorem toN_P {n : Nat} : ∀ d : D, shP n d → toN d = toP d ∧ shN d
  | .lst ds, h => ⟨congrArg PyData.list (toNs_P ds h).1, (toNs_P ds h).2⟩
  | .tup ds, h => ⟨congrArg PyData.tuple (toNs_P ds h).1, (toNs_P ds h).2⟩
  | .dic _ _, h => h.elim
  | .non, _ => ⟨rfl, trivial⟩
  | .bl _, _ => ⟨rfl, trivial⟩
  | .int _, h => ⟨rfl, h⟩
  | .str _, h => ⟨rfl, h⟩
  | .obj _ _ _, h => h.elim
  | .ty _, h => h.elim
  | .glob _, h => h.elim
  | .tape, h => h.elim
  | .fn _, h => h.elim
  | .dpl _ _, h => h.elim
theorem toNs_P {n : Nat} : ∀ ds : List D, shPs n ds → toNs ds = toPs ds ∧ shNs ds
  | [], _ => ⟨rfl, trivial⟩
  | d :: ds, h => by
    obtain ⟨e1, s1⟩ := toN_P d h.1
    obtain ⟨e2, s2⟩ := toNs_P ds h.2
    exact ⟨by show toN d :: toNs ds = toP d :: toPs ds; rw [e1, e2], s1, s2⟩
end
theorem sh_MP {n : Nat} {d : D} (h : shP n d) (h1 : (toP d).bulk ≤ 8000) (h2 : (toP d).depth ≤ 40) : shMP d ∧ shM d = shD d := by
  obtain ⟨e, s⟩ := toN_P d h
  exact ⟨⟨s, by rw [e]; exact h1, by rw [e]; exact h2⟩, by unfold shM shD; rw [e]⟩
def isBig : D → Bool
  | .int i => Nat.blt i.natAbs (2 ^ 100)
  | _ => false
def smM (d : D) : Bool := (shb d || isBig d) && (okD 8 d && (decide ((toP d).bulk ≤ 8000) && (decide ((toP d).depth ≤ 40) && knB d)))
theorem smM_of {d : D} (h : smM d = true) : shMP d ∧ PyData.strOk (shM d) = true ∧ knD d := by
  obtain ⟨h1, h⟩ := He.ba h
  obtain ⟨h2, h⟩ := He.ba h
  obtain ⟨h3, h⟩ := He.ba h
  obtain ⟨h4, h5⟩ := He.ba h
  have h6 : shP 0 d := by
    rcases Bool.or_eq_true_iff.mp h1 with z | z
    · exact shb_ok d z
    · unfold isBig at z
      split at z
      · exact szP z (by decide)
      · cases z
  obtain ⟨q1, q2⟩ := sh_MP h6 (of_decide_eq_true h3) (of_decide_eq_true h4)
  exact ⟨q1, by rw [q2]; exact okU_iff.mp (okU_shown 8 d h2), knD_of h5⟩
def oddp02 : List D := [.non, .int 3, .tup [.int 1], .tup [.int 1, .int 2, .int 3], .lst [.int 1, .int 2], .tup [.bl true, .int 2], .tup [.int 1, .str "2"], .str "ab"]
theorem oddp02_ok : (oddp02.all fun d => smM d && (!isPl d && knPB' d)) = true := by decide +kernel
def oddn02 : List D := [.non, .int 0, .int (-1), .bl true, .str "1", .tup [.int 1], .lst [.int 2], .int (-1000000000000000000000000000000)]
theorem oddn02_ok : (oddn02.all fun d => smM d && (!numOk d 1 .non && !numOk d 1 (.int 10000))) = true := by decide +kernel
theorem ne_three {l s : Str} {c : Bool} {Q : D → Prop} (hl : PyData.strOk l = true) (h : PyData.strOk s = true) (q : Q (.bl false)) : dNe (.lst [.str l, .str s, .bl c]) (.lst [.str l, .str s, .bl c]) Q := by
  refine ⟨⟨?_, ?_⟩, ?_⟩
  · show ([D.str l, D.str s, D.bl c].all (okD 7)) = true
    simp [okD, h, hl]
  · show ([D.str l, D.str s, D.bl c].all (okD 7)) = true
    simp [okD, h, hl]
  · rw [show eqD (.lst [.str l, .str s, .bl c]) (.lst [.str l, .str s, .bl c]) = true by simp [eqD, eqDs]]
    exact q
/-! shifts on one line -/
theorem form_line {S : List (Int × Int)} {p : Int × Int} (h : ∀ q ∈ S, ∃ k : Int, q = (k * p.1, k * p.2)) : MN.Form S none := by
  intro a b c ok ⟨h1, h2⟩
  have key : ∀ x y, MN.Sp S x y → ∃ n : Int, x = n * p.1 ∧ y = n * p.2 := fun x y z => MN.sp_one.mp (z.le fun u v m => by
    obtain ⟨k, e⟩ := h _ m
    cases e
    exact MN.sp_one.mpr ⟨k, rfl, rfl⟩)
  obtain ⟨m, e1, e2⟩ := key _ _ h1
  obtain ⟨k, e3, e4⟩ := key _ _ h2
  have a0 := MN.pos_a ok
  have c0 := MN.pos_c ok
  rcases Int.mul_eq_zero.mp e2.symm with z | z
  · rw [z, Int.zero_mul] at e1; omega
  · rw [z, Int.mul_zero] at e4; omega
/-! how many nets there are -/
theorem div2000 : ((MN.divL 2000).all fun k => decide ((MN.divL k).sum ≤ 4836) && decide ((MN.divL k).length ≤ 20)) = true := by decide +kernel
theorem len2000 : (MN.divL 2000).length = 20 := by decide +kernel
end Y
section
open PySem PySem.Spec PyProof.Rows L2 Z Y
local macro_rules | `(tactic| walk_at "s0") => `(tactic| first | assumption | exact SqT.of (by assumption) | exact SqL.of (by assumption))
local macro_rules | `(tactic| walk_at "s1") => `(tactic| first | assumption | exact SqT.of (by assumption) | exact SqL.of (by assumption) | exact sqT (Go.ff (by assumption)) (by walk_at "s0") | exact sqL (Go.ff (by assumption)) (by walk_at "s0"))
local macro_rules | `(tactic| walk_at "s2") => `(tactic| first | assumption | exact SqT.of (by assumption) | exact SqL.of (by assumption) | exact sqT (Go.ff (by assumption)) (by walk_at "s1") | exact sqL (Go.ff (by assumption)) (by walk_at "s1"))
local macro_rules | `(tactic| walk_at "s3") => `(tactic| first | assumption | exact SqT.of (by assumption) | exact SqL.of (by assumption) | exact sqT (Go.ff (by assumption)) (by walk_at "s2") | exact sqL (Go.ff (by assumption)) (by walk_at "s2"))
local macro_rules | `(tactic| walk_at "s4") => `(tactic| first | assumption | exact SqT.of (by assumption) | exact SqL.of (by assumption) | exact sqT (Go.ff (by assumption)) (by walk_at "s3") | exact sqL (Go.ff (by assumption)) (by walk_at "s3"))
local macro_rules | `(tactic| walk_at "s5") => `(tactic| first | assumption | exact SqT.of (by assumption) | exact SqL.of (by assumption) | exact sqT (Go.ff (by assumption)) (by walk_at "s4") | exact sqL (Go.ff (by assumption)) (by walk_at "s4"))
local macro_rules | `(tactic| walk_at "s6") => `(tactic| first | assumption | exact SqT.of (by assumption) | exact SqL.of (by assumption) | exact sqT (Go.ff (by assumption)) (by walk_at "s5") | exact sqL (Go.ff (by assumption)) (by walk_at "s5"))
local macro_rules | `(tactic| walk_at "s7") => `(tactic| first | assumption | exact SqT.of (by assumption) | exact SqL.of (by assumption) | exact sqT (Go.ff (by assumption)) (by walk_at "s6") | exact sqL (Go.ff (by assumption)) (by walk_at "s6"))
local macro_rules | `(tactic| walk_at "s8") => `(tactic| first | assumption | exact SqT.of (by assumption) | exact SqL.of (by assumption) | exact sqT (Go.ff (by assumption)) (by walk_at "s7") | exact sqL (Go.ff (by assumption)) (by walk_at "s7"))
local macro_rules | `(tactic| walk_at "s9") => `(tactic| first | assumption | exact SqT.of (by assumption) | exact SqL.of (by assumption) | exact sqT (Go.ff (by assumption)) (by walk_at "s8") | exact sqL (Go.ff (by assumption)) (by walk_at "s8"))
local macro_rules | `(tactic| walk_at "s10") => `(tactic| first | assumption | exact SqT.of (by assumption) | exact SqL.of (by assumption) | exact sqT (Go.ff (by assumption)) (by walk_at "s9") | exact sqL (Go.ff (by assumption)) (by walk_at "s9"))
local macro_rules | `(tactic| walk_at "sq") => `(tactic| first | assumption | exact SqT.of (by assumption) | exact SqL.of (by assumption) | exact sqT (Go.fh (by assumption)) (by walk_at "s10") | exact sqL (Go.fh (by assumption)) (by walk_at "s10") | exact sqT (F := _) (by assumption) (by walk_at "s10") | exact sqL (F := _) (by assumption) (by walk_at "s10"))
local macro_rules | `(tactic| walk_at "c") => `(tactic| ((try dsimp only); first | omega | assumption | exact ⟨by omega, by assumption⟩ | exact ⟨by assumption, by assumption⟩ | exact Or.inl ⟨by decide, by decide⟩ | exact Or.inr ⟨by decide, by decide⟩ | exact ⟨by decide, by decide, by decide⟩ | exact ⟨by decide, by decide⟩))
local macro_rules | `(tactic| walk_at "z") => `(tactic| repeat (first | refine ⟨_, rfl, ?_⟩ | refine ⟨_, _, rfl, rfl, ?_⟩ | refine ⟨_, _, _, _, rfl, rfl, by walk_at "sq", rfl, ?_⟩ | refine ⟨_, _, rfl, Or.inl (by walk_at "sq"), ?_⟩ | refine ⟨_, _, rfl, Or.inr (by walk_at "sq"), ?_⟩ | refine ⟨_, _, rfl, by walk_at "sq", rfl, ?_⟩ | refine ⟨rfl, ?_⟩ | refine And.intro (by walk_at "c") ?_ | refine ⟨lenOk rfl, ?_⟩ | refine ⟨_, _, rfl, ?_⟩))
local macro_rules | `(tactic| walk_at "p") => `(tactic| simp only [Y.rVar, Y.rC, Y.tst, Y.chn, Y.aNil, Y.aCons, Y.stN, Y.tgD, Y.rYes, Y.wipeR, Y.asO, Y.fldD, Y.dAdd, Y.dSub, Y.dMul, Y.dDiv, Y.dDivZ, Y.dMod, Y.dModZ, Y.dIsBl, Y.dInt1, Y.dPow, Y.dNeg, Y.dCmp, Y.dEq, Y.dNe, Y.isNon, Y.dIsN, Y.dNotN, Y.dIn, Y.dIx, Y.dSl, Y.asI, Y.dLen, Y.dAbs, Y.blsOf, Y.dAll, Y.dList, Y.dTuple, Y.dIsB, Y.dIs2, Y.dIsO, Y.appM, Y.frzM, Y.dBinO, Y.dEqO, Y.dInO, Y.finI, Y.putM, Y.starD, Y.rng1, Y.rng2, Y.dJoin, Y.strsOf, Y.isS, Y.rDraw, Y.ar0, Y.ar1, Y.ar2, Y.ar3, Y.ar4, Y.ar5, List.getElem?_cons_zero, List.getElem?_cons_succ, List.set_cons_zero, List.set_cons_succ, List.map_cons, List.map_nil, List.length_cons, List.length_nil, Option.map_some, List.nil_append, List.cons_append, List.mem_cons, List.not_mem_nil, or_false, true_and, and_true, if_true, Bool.false_eq_true, if_false, Bool.not_true, Bool.not_false, Nat.reduceAdd, Nat.reduceLeDiff, decide_eq_true_eq, reduceCtorEq, ite_true, ite_false, Int.cast_ofNat_Int, Int.natCast_add, eq_self, Int.reduceEq, Int.reduceLE, Int.reduceLT, Int.reduceNeg, Int.reduceSub, Int.reduceAdd, decide_true, decide_false, String.reduceBEq, Bool.or_self, Bool.or_true, Bool.true_or, Bool.or_false, Bool.false_or])
local macro_rules | `(tactic| walk_at "m") => `(tactic| simp only [Y.forP, Y.mapP, Y.rVar, Y.rC, Y.tst, Y.chn, Y.aNil, Y.aCons, Y.stN, Y.tgD, Y.rYes, Y.wipeR, Y.asO, Y.fldD, Y.dAdd, Y.dSub, Y.dMul, Y.dDiv, Y.dDivZ, Y.dMod, Y.dModZ, Y.dIsBl, Y.dInt1, Y.dPow, Y.dNeg, Y.dCmp, Y.dEq, Y.dNe, Y.isNon, Y.dIsN, Y.dNotN, Y.dIn, Y.dIx, Y.dSl, Y.asI, Y.dLen, Y.dAbs, Y.blsOf, Y.dAll, Y.dList, Y.dTuple, Y.dIsB, Y.dIs2, Y.dIsO, Y.appM, Y.frzM, Y.dBinO, Y.dEqO, Y.dInO, Y.finI, Y.putM, Y.starD, Y.rng1, Y.rng2, Y.dJoin, Y.strsOf, Y.isS, Y.rDraw, Y.ar0, Y.ar1, Y.ar2, Y.ar3, Y.ar4, Y.ar5, List.getElem?_cons_zero, List.getElem?_cons_succ, List.set_cons_zero, List.set_cons_succ, List.map_cons, List.map_nil, List.length_cons, List.length_nil, Option.map_some, List.nil_append, List.cons_append, List.mem_cons, List.not_mem_nil, or_false, true_and, and_true, if_true, Bool.false_eq_true, if_false, Bool.not_true, Bool.not_false, Nat.reduceAdd, Nat.reduceLeDiff, decide_eq_true_eq, reduceCtorEq, ite_true, ite_false, Int.cast_ofNat_Int, Int.natCast_add, eq_self, Int.reduceEq, Int.reduceLE, Int.reduceLT, Int.reduceNeg, Int.reduceSub, Int.reduceAdd, decide_true, decide_false, String.reduceBEq, Bool.or_self, Bool.or_true, Bool.true_or, Bool.or_false, Bool.false_or])
namespace K02
open PySem PySem.Spec PyProof.Rows L2 Z Y
section
variable {P : Program} {w : World} {K : Frg} {mg : Str → Option Value} {base : Heap}
theorem ok_is_integer (T : Tx w K mg) : FnG P w K mg base (L2N.CX P w) 1 (He.ga K "is_integer") (spP K R_is_integer) := by
  refine y_fn T.d_is_integer sc_is_integer arl1 (fun _ _ _ _ _ _ us hl => match us, hl with | [_], _ => rfl) fun cdv A outer s H E B hB hr hx po => ⟨_, (s_one (s_ret (y_and (y_callB call_isi (isBL (cs := []) (T := "int") (by decide) all0) (by rfl) T.b_isinstance (by decide +kernel) (a_cons (y_var (pv 0)) (a_cons (y_ty (n := "int") rfl T.b_int (by decide +kernel)) a_nil))) (y_one (y_not (y_callB call_isi (isBL (cs := []) (T := "bool") (by decide) all0) (by rfl) T.b_isinstance (by decide +kernel) (a_cons (y_var (pv 0)) (a_cons (y_ty (n := "bool") rfl T.b_bool (by decide +kernel)) a_nil)))))))), fun ds Q h => ?_⟩
  obtain ⟨a0, e0, hh⟩ := ar1E h
  clear h
  subst e0
  have h := hh
  clear hh
  try dsimp only at h
  rw [show startE (List.length N_is_integer) [a0] = [.val a0] from rfl]
  obtain ⟨hk, h⟩ := h
  cases a0 with
  | int i => exact ⟨rfl, ifB_T rfl ⟨rfl, h⟩⟩
  | bl b => exact ⟨rfl, ifB_T rfl ⟨rfl, h⟩⟩
  | obj _ _ _ => exact hk.elim
  | ty _ => exact hk.elim
  | glob _ => exact hk.elim
  | tape => exact hk.elim
  | fn _ => exact hk.elim
  | dpl _ _ => exact hk.elim
  | _ => exact ⟨rfl, ifB_F rfl h⟩
end
end K02
namespace K02
open PySem PySem.Spec PyProof.Rows L2 Z Y
section
variable {P : Program} {w : World} {K : Frg} {mg : Str → Option Value} {base : Heap}
theorem ok_is_place (T : Tx w K mg) : FnG P w K mg base (L2N.CX P w) 3 (He.ga K "is_place") (spP K R_is_place) := by
  refine y_fn T.d_is_place sc_is_place arl1 (fun _ _ _ _ _ _ us hl => match us, hl with | [_], _ => rfl) fun cdv A outer s H E B hB hr hx po => ⟨_, (s_one (s_ret (y_and (y_callB call_isi (isBL (cs := []) (T := "tuple") (by decide) all0) (by rfl) T.b_isinstance (by decide +kernel) (a_cons (y_var (pv 0)) (a_cons (y_ty (n := "tuple") rfl T.b_tuple (by decide +kernel)) a_nil))) (y_and (y_cmp (op_eqY hr.units) eqL (y_callB call_lenY lenL (by rfl) T.b_len (by decide +kernel) (a_cons (y_var (pv 0)) a_nil)) y_int (nomark _)) (y_one (y_callB (cr_all rfl) (allL (f := fun bs => bs.all id)) (by rfl) T.b_all (by decide +kernel) (a_cons (y_lc (own := [("number", 1)]) (t := .nm 1) rfl sc_is_place.nd (i_tup (y_var (pv 0))) (blkOk_by (own := [("number", 1)]) (N := N_is_place) (sc := defScope s_is_place) (by decide +kernel)) (fun _ _ _ _ _ => (g_nm (pg_name (i := 1) sc_is_place.nd rfl (by first | exact Or.inl rfl | exact Or.inr rfl)))) (fun _ _ _ _ _ => c_nil) (fun _ _ _ _ _ => (y_call (ok_is_integer T) (hr.mono (by decide)) rfl T.g_is_integer T.k_is_integer px_nox (a_cons (y_var (pv 1)) a_nil)))) a_nil))))))), fun ds Q h => ?_⟩
  obtain ⟨a0, e0, hh⟩ := ar1E h
  clear h
  subst e0
  have h := hh
  clear hh
  try dsimp only at h
  rw [show startE (List.length N_is_place) [a0] = [.val a0, .no] from rfl]
  obtain ⟨hk, h⟩ := h
  cases a0 with
  | tup ds =>
    match ds, hk, h with
    | [x, y], hk, h => exact ⟨rfl, ifB_T rfl (ifB_T rfl ⟨Nat.le_of_ble_eq_true rfl, mapI_of (ifB_T rfl ⟨hk.1, ifB_T rfl ⟨hk.2, by show Q (.bl ([isIntD x, isIntD y].all id)); simpa [isPl] using h⟩⟩)⟩)⟩
    | [], hk, h => exact ⟨rfl, ifB_T rfl (ifB_F rfl h)⟩
    | [_], hk, h => exact ⟨rfl, ifB_T rfl (ifB_F rfl h)⟩
    | a :: b :: c :: ds, hk, h => exact ⟨rfl, ifB_T rfl (ifB_F (decide_eq_false (by simp only [List.length_cons]; omega)) h)⟩
  | obj _ _ _ => exact hk.elim
  | ty _ => exact hk.elim
  | glob _ => exact hk.elim
  | tape => exact hk.elim
  | fn _ => exact hk.elim
  | dpl _ _ => exact hk.elim
  | _ => exact ⟨rfl, ifB_F rfl h⟩
end
end K02
namespace K02
open PySem PySem.Spec PyProof.Rows L2 Z Y
section
variable {P : Program} {w : World} {K : Frg} {mg : Str → Option Value} {base : Heap}
theorem ok_check_place (T : Tx w K mg) : FnG P w K mg base (L2N.CX P w) 5 (He.ga K "check_place") (spP K R_check_place) := by
  refine y_fnX T.d_check_place sc_check_place arl1 (fun _ _ _ _ _ _ us hl => match us, hl with | [_], _ => rfl) fun cdv A outer s H E B hB hr hx po tk => ⟨_, (s_one (s_if (z_not (z_val (y_call (ok_is_place T) (hr.mono (by decide)) rfl T.g_is_place T.k_is_place hx (a_cons (y_var (pv 0)) a_nil))))
    (s_one (s_raise rfl tk (T.xc_InvalidPlace.t T.d_InvalidPlace_UinitU ⟨_, _, rfl⟩ ⟨_, _, _, _, rfl⟩ rfl) (.inl rfl) hr (y_var (pv 0)) rfl T.g_InvalidPlace))
    s_nil)), fun ds Q h => ?_⟩
  obtain ⟨a0, e0, hh⟩ := ar1E h
  clear h
  subst e0
  have h := hh
  clear hh
  try dsimp only at h
  rw [show startE (List.length N_check_place) [a0] = [.val a0] from rfl]
  obtain ⟨hk, h1, h2⟩ := h
  refine ⟨hk, ?_⟩
  cases e : isPl a0 with
  | true => exact ifB_F rfl (h1 e)
  | false => exact ifB_T rfl (h2 e)
end
end K02
namespace K02
open PySem PySem.Spec PyProof.Rows L2 Z Y
section
variable {P : Program} {w : World} {K : Frg} {mg : Str → Option Value} {base : Heap}
theorem ok_check_number (T : Tx w K mg) : FnG P w K mg base (L2N.CX P w) 3 (He.ga K "check_number") (spP K R_check_number) := by
  refine y_fnX T.d_check_number sc_check_number arl3 (fun _ _ _ _ _ _ us hl => match us, hl with | [_, _, _], _ => rfl) fun cdv A outer s H E B hB hr hx po tk => ⟨_, (s_one (s_if (z_pt (z_or (z_not (z_val (y_call (ok_is_integer T) (hr.mono (by decide)) rfl T.g_is_integer T.k_is_integer hx (a_cons (y_var (pv 0)) a_nil)))) (z_or (z_cmp op_lt cmpL (y_var (pv 0)) (y_var (pv 1)) (nomark _)) (z_or1 (z_pt (z_and (z_cmp op_notN notNL (y_var (pv 2)) y_non (nomark _)) (z_and1 (z_cmp op_gt cmpL (y_var (pv 0)) (y_var (pv 2)) (nomark _)))))))))
    (s_one (s_raise rfl tk (T.xc_InvalidNumber.t T.d_InvalidNumber_UinitU ⟨_, _, rfl⟩ ⟨_, _, _, _, rfl⟩ rfl) (.inl rfl) hr (y_var (pv 0)) rfl T.g_InvalidNumber))
    s_nil)), fun ds Q h => ?_⟩
  obtain ⟨a0, a1, a2, e0, hh⟩ := ar3E h
  clear h
  subst e0
  have h := hh
  clear hh
  try dsimp only at h
  rw [show startE (List.length N_check_number) [a0, a1, a2] = [.val a0, .val a1, .val a2] from rfl]
  obtain ⟨kn, l, rfl, hh, h⟩ := h
  have key : ∀ (v : D), knD v → (∀ i, v ≠ .int i) → isIntD v = false := fun v hv hi => by
    cases v <;> first | rfl | (exfalso; exact hi _ rfl)
  by_cases hi : ∃ i, a0 = .int i
  · obtain ⟨i, rfl⟩ := hi
    refine ⟨trivial, ifB_F rfl ?_⟩
    rcases hh with rfl | ⟨u, rfl⟩
    · rcases h with ⟨e, h⟩ | ⟨e, h⟩
      · exact ifB_T (decide_eq_true (by have := of_decide_eq_false e; omega)) (ifB_T rfl h)
      · exact ifB_F (decide_eq_false (by have := of_decide_eq_true e; omega)) (ifB_F rfl (ifB_F rfl h))
    · rcases h with ⟨e, h⟩ | ⟨e, h⟩
      · have e : (decide (l ≤ i) && decide (i ≤ u)) = false := e
        by_cases e1 : i < l
        · exact ifB_T (decide_eq_true e1) (ifB_T rfl h)
        · refine ifB_F (decide_eq_false e1) (ifB_T rfl (ifB_T (decide_eq_true ?_) h))
          simp at e
          omega
      · have e : (decide (l ≤ i) && decide (i ≤ u)) = true := e
        simp at e
        exact ifB_F (decide_eq_false (by omega)) (ifB_T rfl (ifB_F (decide_eq_false (by omega)) h))
  · have hn : ∀ i, a0 ≠ .int i := fun i e => hi ⟨i, e⟩
    rcases h with ⟨e, h⟩ | ⟨e, h⟩
    · exact ⟨kn, ifB_T (by rw [key a0 kn hn]; rfl) (ifB_T rfl h)⟩
    · obtain ⟨i, rfl, _⟩ := numOk_int e
      exact (hn i rfl).elim
end
end K02
namespace K02
open PySem PySem.Spec PyProof.Rows L2 Z Y
section
variable {P : Program} {w : World} {K : Frg} {mg : Str → Option Value} {base : Heap}
theorem ok_greatest_divisor (T : Tx w K mg) : FnG P w K mg base (L2N.CX P w) 1 (He.ga K "greatest_divisor") (spP K R_greatest_divisor) := by
  refine y_fn T.d_greatest_divisor sc_greatest_divisor arl2 (fun _ _ _ _ _ _ us hl => match us, hl with | [_, _], _ => rfl) fun cdv A outer s H E B hB hr hx po => ⟨_, (s_cons (s_par (i := 0) (j := 1) (by rfl) sc_greatest_divisor.nd rfl rfl (by decide) rfl rfl (a_cons (y_callB call_abs absL (by rfl) T.b_abs (by decide +kernel) (a_cons (y_var (pv 0)) a_nil)) (a_cons (y_callB call_abs absL (by rfl) T.b_abs (by decide +kernel) (a_cons (y_var (pv 1)) a_nil)) a_nil)) (by rfl))
  (s_cons (s_while po (z_cmp op_gt cmpL (y_var (pv 1)) y_int (nomark _))
    (s_one (s_par (i := 0) (j := 1) (by rfl) sc_greatest_divisor.nd rfl rfl (by decide) rfl rfl (a_cons (y_var (pv 1)) (a_cons (y_op op_mod modL (y_var (pv 0)) (y_var (pv 1))) a_nil)) (by rfl))))
  (s_one (s_ret (y_var (pv 0)))))), fun ds Q h => ?_⟩
  obtain ⟨a0, a1, e0, hh⟩ := ar2E h
  clear h
  subst e0
  have h := hh
  clear hh
  try dsimp only at h
  rw [show startE (List.length N_greatest_divisor) [a0, a1] = [.val a0, .val a1] from rfl]
  split at h
  · rename_i x y
    refine ⟨fun m ρ => ∃ x' y' : Int, ρ = [.val (.int x'), .val (.int y')] ∧ 0 ≤ x' ∧ 0 ≤ y' ∧ m = y'.toNat ∧ Int.gcd x' y' = Int.gcd x y, ⟨_, _, _, rfl, ?_, ?_, rfl, ?_⟩, ?_⟩
    · split <;> omega
    · split <;> omega
    · have e : ∀ z : Int, (if z < 0 then -z else z) = (z.natAbs : Int) := fun z => by split <;> omega
      rw [e, e, Int.gcd_eq_natAbs_gcd_natAbs, Int.gcd_eq_natAbs_gcd_natAbs]
      simp
    · rintro m ρ ⟨x', y', rfl, hx, hy, rfl, hg⟩
      refine ifB_d (fun hy0 => ?_) (fun hy0 => ?_)
      · have h1 := Int.emod_lt_of_pos x' hy0
        have h2 := Int.emod_nonneg x' (show y' ≠ 0 by omega)
        refine ⟨hy0, (x' % y').toNat, by omega, y', x' % y', rfl, hy, h2, rfl, ?_⟩
        rw [← gcd_emod, Int.gcd_comm y' x']
        exact hg
      · have hy1 : y' = 0 := by omega
        subst hy1
        have e : (x' : Int) = ((Int.gcd x y : Nat) : Int) := by
          rw [← hg, Int.gcd_zero_right]
          omega
        show Q (.int x')
        rw [e]
        exact h
  · exact h.elim
end
end K02
namespace K02
open PySem PySem.Spec PyProof.Rows L2 Z Y
section
variable {P : Program} {w : World} {K : Frg} {mg : Str → Option Value} {base : Heap}
theorem ok_divisors (T : Tx w K mg) : FnG P w K mg base (L2N.CX P w) 1 (He.ga K "divisors") (spP K R_divisors) := by
  refine y_fn T.d_divisors sc_divisors arl1 (fun _ _ _ _ _ _ us hl => match us, hl with | [_], _ => rfl) fun cdv A outer s H E B hB hr hx po => ⟨_, (s_one (s_ret (y_lc (own := [("divisor", 1)]) (t := .nm 1) rfl sc_divisors.nd (i_rng2 (by rfl) T.b_range (a_cons y_int (a_cons (y_op op_addY addL (y_var (pv 0)) y_int) a_nil))) (blkOk_by (own := [("divisor", 1)]) (N := N_divisors) (sc := defScope s_divisors) (by decide +kernel)) (fun _ _ _ _ _ => (g_nm (pg_name (i := 1) sc_divisors.nd rfl (by first | exact Or.inl rfl | exact Or.inr rfl)))) (fun _ _ _ _ _ => (c_one (z_cmp (op_eqY hr.units) eqL (y_op op_mod modL (y_var (pv 0)) (y_var (pv 1))) y_int (nomark _)))) (fun _ _ _ _ _ => (y_var (pv 1)))))), fun ds Q h => ?_⟩
  obtain ⟨a0, e0, hh⟩ := ar1E h
  clear h
  subst e0
  have h := hh
  clear hh
  try dsimp only at h
  rw [show startE (List.length N_divisors) [a0] = [.val a0, .no] from rfl]
  obtain ⟨n, rfl, ⟨n1, n2⟩, h⟩ := h
  have e : (n + 1 - 1).toNat = n.toNat := by omega
  refine ⟨⟨by decide, by decide, by omega, by omega⟩, ?_, ?_⟩
  · show (rngD 1 (n + 1 - 1).toNat).length ≤ 100000
    rw [e]
    simp [rngD]
    omega
  refine ⟨fun i acc => acc = (((MN.upL n.toNat).take i).filter fun d => decide (n % d = 0)).map D.int, rfl, fun i d acc hd hj => ?_, fun out hj => ?_⟩
  · have hd' : (rngD 1 (n + 1 - 1).toNat)[i]? = some d := hd
    rw [e] at hd'
    unfold rngD at hd'
    obtain ⟨j, hj1, rfl⟩ := map_get hd'
    have hi := lt_of_get hj1
    rw [List.length_range] at hi
    rw [List.getElem?_range hi] at hj1
    cases hj1
    have hu : (MN.upL n.toNat)[i]? = some ((i : Int) + 1) := by
      unfold MN.upL
      rw [List.getElem?_map, List.getElem?_range hi]
      rfl
    have hc : (1 : Int) + (i : Int) = (i : Int) + 1 := by omega
    refine ⟨by omega, ifB_d (fun h0 => ?_) (fun h0 => ?_)⟩
    · show acc ++ [D.int (1 + (i : Int))] = _
      rw [hj, List.take_succ, hu, List.filter_append, List.map_append, hc]
      rw [hc] at h0
      simp [h0]
    · show acc = _
      rw [hj, List.take_succ, hu, List.filter_append, List.map_append]
      rw [hc] at h0
      simp [h0]
  · rw [hj]
    have hl : (rngD 1 (n + 1 - 1).toNat).length = (MN.upL n.toNat).length := by rw [e]; simp [rngD, MN.upL]
    rw [hl, List.take_length]
    exact h
end
end K02
namespace K02
open PySem PySem.Spec PyProof.Rows L2 Z Y
section
variable {P : Program} {w : World} {K : Frg} {mg : Str → Option Value} {base : Heap}
theorem ok_are_numbers (T : Tx w K mg) : FnG P w K mg base (L2N.CX P w) 3 (He.ga K "are_numbers") (spP K R_are_numbers02) := by
  refine y_fn T.d_are_numbers sc_are_numbers arl1 (fun _ _ _ _ _ _ us hl => match us, hl with | [_], _ => rfl) fun cdv A outer s H E B hB hr hx po => ⟨_, (s_cons (s_if (z_not (z_val (y_callB (cr_all rfl) (allL (f := fun bs => bs.all id)) (by rfl) T.b_all (by decide +kernel) (a_cons (y_lc (own := [("number", 4)]) (t := .nm 4) rfl sc_are_numbers.nd (i_tup (y_var (pv 0))) (blkOk_by (own := [("number", 4)]) (N := N_are_numbers) (sc := defScope s_are_numbers) (by decide +kernel)) (fun _ _ _ _ _ => (g_nm (pg_name (i := 4) sc_are_numbers.nd rfl (by first | exact Or.inl rfl | exact Or.inr rfl)))) (fun _ _ _ _ _ => c_nil) (fun _ _ _ _ _ => (y_call (ok_is_integer T) (hr.mono (by decide)) rfl T.g_is_integer T.k_is_integer px_nox (a_cons (y_var (pv 4)) a_nil)))) a_nil))))
    (s_one (s_ret y_bl))
    s_nil)
  (s_cons (s_asg (t := .tp [1, 2, 3]) (y_var (pv 0)) (g_tp (is := [1, 2, 3]) rfl (pgs_cons (pg_name (i := 1) sc_are_numbers.nd rfl (by first | exact Or.inl rfl | exact Or.inr rfl)) (pgs_cons (pg_name (i := 2) sc_are_numbers.nd rfl (by first | exact Or.inl rfl | exact Or.inr rfl)) (pgs_cons (pg_name (i := 3) sc_are_numbers.nd rfl (by first | exact Or.inl rfl | exact Or.inr rfl)) pgs_nil)))))
  (s_one (s_ret (y_and (y_cmp op_ge cmpL (y_var (pv 3)) y_int (nomark _)) (y_one (y_chain op_le cmpL op_lt cmpL y_int (y_var (pv 2)) (y_var (pv 1))))))))), fun ds Q h => ?_⟩
  obtain ⟨a0, e0, hh⟩ := ar1E h
  clear h
  subst e0
  have h := hh
  clear hh
  try dsimp only at h
  rw [show startE (List.length N_are_numbers) [a0] = [.val a0, .no, .no, .no, .no] from rfl]
  obtain ⟨x, y, z, rfl, ⟨kx, ky, kz⟩, h⟩ := h
  refine ⟨Nat.le_of_ble_eq_true rfl, mapI_of (ifB_T rfl ⟨kx, ifB_T rfl ⟨ky, ifB_T rfl ⟨kz, ?_⟩⟩⟩)⟩
  rcases tri_cases x y z with ⟨a, b, c, rfl, rfl, rfl⟩ | ⟨e1, e2⟩
  · refine ifB_F rfl (ifB_d (fun h1 => ifB_d (fun h2 => ?_) fun h2 => ?_) fun h1 => ?_)
    · show Q (.bl (decide (b < a)))
      simpa [tri, h1, h2] using h
    · show Q (.bl false)
      simpa [tri, h1, h2] using h
    · show Q (.bl false)
      simpa [tri, h1] using h
  · refine ifB_T ?_ ?_
    · show (!([isIntD x, isIntD y, isIntD z].all id)) = true
      cases hx : isIntD x <;> cases hy : isIntD y <;> cases hz : isIntD z <;> simp_all
    · rw [e2] at h; exact h
end
end K02
namespace K02
open PySem PySem.Spec PyProof.Rows L2 Z Y
section
variable {P : Program} {w : World} {K : Frg} {mg : Str → Option Value} {base : Heap}
theorem ok_Net_UinitU (T : Tx w K mg) : FnG P w K mg base (L2N.CX P w) 5 (He.ma K (He.ga K "Net") "__init__") (spI K "Net" R_Net_init02) := by
  refine y_initX (C := "Net") T.d_Net_UinitU sc_Net_UinitU (fun ds Q E h => by rw [arl3 ds Q E h]; rfl) (fun _ _ _ _ _ _ us hl => match us, hl with | [_, _, _, _], _ => rfl) fun cdv A outer s H E B hB hr hx po tk => ⟨_, (s_cons (s_if (z_not (z_val (y_call (ok_are_numbers T) (hr.mono (by decide)) rfl T.g_are_numbers T.k_are_numbers hx (a_cons (y_tup (a_cons (y_var (pv 1)) (a_cons (y_var (pv 2)) (a_cons (y_var (pv 3)) a_nil)))) a_nil))))
    (s_one (s_raise rfl tk (T.xc_InvalidNet.t T.d_InvalidNet_UinitU ⟨_, _, rfl⟩ ⟨_, _, _, _, rfl⟩ rfl) (.inl rfl) hr (y_tup (a_cons (y_var (pv 1)) (a_cons (y_var (pv 2)) (a_cons (y_var (pv 3)) a_nil)))) rfl T.g_InvalidNet))
    s_nil)
  (s_one (s_fld (C := "Net") (ns := []) (i := 0) T.cl_Net T.na_Net_own_numbers (pv 0) (y_tup (a_cons (y_var (pv 1)) (a_cons (y_var (pv 2)) (a_cons (y_var (pv 3)) a_nil))))))), fun self ds Q h => ?_⟩
  obtain ⟨a0, a1, a2, e0, hh⟩ := ar3E h
  clear h
  subst e0
  have h := hh
  clear hh
  try dsimp only at h
  rw [show startE (List.length N_Net_UinitU - 1) [a0, a1, a2] = [.val a0, .val a1, .val a2] from rfl]
  obtain ⟨⟨kx, ky, kz⟩, h1, h2⟩ := h
  refine ⟨leN rfl, a0, a1, a2, rfl, ⟨kx, ky, kz⟩, ?_⟩
  cases e : tri a0 a1 a2 with
  | true => exact ifB_F rfl ⟨leN rfl, ⟨rfl, rfl⟩, ⟨rfl, rfl⟩, h1 e⟩
  | false => exact ifB_T rfl ⟨leN rfl, h2 e⟩
theorem okw_Net_UinitU (T : Tx w K mg) : FnG P w K mg base (L2N.CX P w) 5 (He.ma K (He.ga K "Net") "__init__") (spI K "Net" R_Net_UinitU) := Y.FnG.weakI (ok_Net_UinitU T) net02_w
end
end K02
namespace K02
open PySem PySem.Spec PyProof.Rows L2 Z Y
section
variable {P : Program} {w : World} {K : Frg} {mg : Str → Option Value} {base : Heap}
theorem ok_form_of (T : Tx w K mg) : FnG P w K mg base (L2N.CX P w) 3 (He.ga K "form_of") (spP K R_form_of) := by
  refine y_fn T.d_form_of sc_form_of arl1 (fun _ _ _ _ _ _ us hl => match us, hl with | [_], _ => rfl) fun cdv A outer s H E B hB hr hx po => ⟨_, (s_cons (s_asg (t := .tp [1, 2, 3]) (y_tup (a_cons y_int (a_cons y_int (a_cons y_int a_nil)))) (g_tp (is := [1, 2, 3]) rfl (pgs_cons (pg_name (i := 1) sc_form_of.nd rfl (by first | exact Or.inl rfl | exact Or.inr rfl)) (pgs_cons (pg_name (i := 2) sc_form_of.nd rfl (by first | exact Or.inl rfl | exact Or.inr rfl)) (pgs_cons (pg_name (i := 3) sc_form_of.nd rfl (by first | exact Or.inl rfl | exact Or.inr rfl)) pgs_nil)))))
  (s_cons (s_for (t := .tp [4, 5]) po rfl (i_tup (y_var (pv 0))) (g_tp (is := [4, 5]) rfl (pgs_cons (pg_name (i := 4) sc_form_of.nd rfl (by first | exact Or.inl rfl | exact Or.inr rfl)) (pgs_cons (pg_name (i := 5) sc_form_of.nd rfl (by first | exact Or.inl rfl | exact Or.inr rfl)) pgs_nil)))
    (s_cons (s_while po (z_cmp (op_neY hr.units) neL (y_var (pv 5)) y_int (nomark _))
    (s_cons (s_set (i := 6) sc_form_of.nd rfl (by first | exact Or.inl rfl | exact Or.inr rfl) (y_op op_fdivZ divZL (y_var (pv 3)) (y_var (pv 5))))
  (s_one (s_asg (t := .tp [2, 3, 4, 5]) (y_tup (a_cons (y_var (pv 4)) (a_cons (y_var (pv 5)) (a_cons (y_op op_sub subL (y_var (pv 2)) (y_op op_mulY mulL (y_var (pv 6)) (y_var (pv 4)))) (a_cons (y_op op_sub subL (y_var (pv 3)) (y_op op_mulY mulL (y_var (pv 6)) (y_var (pv 5)))) a_nil))))) (g_tp (is := [2, 3, 4, 5]) rfl (pgs_cons (pg_name (i := 2) sc_form_of.nd rfl (by first | exact Or.inl rfl | exact Or.inr rfl)) (pgs_cons (pg_name (i := 3) sc_form_of.nd rfl (by first | exact Or.inl rfl | exact Or.inr rfl)) (pgs_cons (pg_name (i := 4) sc_form_of.nd rfl (by first | exact Or.inl rfl | exact Or.inr rfl)) (pgs_cons (pg_name (i := 5) sc_form_of.nd rfl (by first | exact Or.inl rfl | exact Or.inr rfl)) pgs_nil)))))))))
  (s_one (s_set (i := 1) sc_form_of.nd rfl (by first | exact Or.inl rfl | exact Or.inr rfl) (y_call (ok_greatest_divisor T) (hr.mono (by decide)) rfl T.g_greatest_divisor T.k_greatest_divisor hx (a_cons (y_var (pv 1)) (a_cons (y_var (pv 4)) a_nil)))))))
  (s_cons (s_if (z_pt (z_or (z_cmp (op_eqY hr.units) eqL (y_var (pv 1)) y_int (nomark _)) (z_or1 (z_cmp (op_eqY hr.units) eqL (y_var (pv 3)) y_int (nomark _)))))
    (s_one (s_ret y_non))
    s_nil)
  (s_one (s_ret (y_if (z_cmp op_gt cmpL (y_var (pv 3)) y_int (nomark _)) (y_tup (a_cons (y_var (pv 1)) (a_cons (y_op op_mod modL (y_var (pv 2)) (y_var (pv 1))) (a_cons (y_var (pv 3)) a_nil)))) (y_tup (a_cons (y_var (pv 1)) (a_cons (y_op op_mod modL (y_un un_neg negL (y_var (pv 2))) (y_var (pv 1))) (a_cons (y_un un_neg negL (y_var (pv 3))) a_nil)))))))))), fun ds Q h => ?_⟩
  obtain ⟨a0, e0, hh⟩ := ar1E h
  clear h
  subst e0
  have h := hh
  clear hh
  try dsimp only at h
  rw [show startE (List.length N_form_of) [a0] = [.val a0, .no, .no, .no, .no, .no, .no] from rfl]
  split at h
  · rename_i ds
    obtain ⟨S, rfl, ⟨n, hn, hl⟩, h⟩ := h
    have hbit : ∀ i, i ≤ S.length → n + 1 + i * (n + 2) + (n + 2) < 4000 := fun i hi => by
      have h1 : i * (n + 2) ≤ S.length * (n + 2) := Nat.mul_le_mul_right _ hi
      have h2 : (S.length + 2) * (n + 2) = S.length * (n + 2) + 2 * (n + 2) := Nat.add_mul _ _ _
      omega
    refine ⟨Nat.le_of_ble_eq_true rfl, fun i ρ => ∃ a b c : Int, ∃ o4 o5 o6, ρ = [.val (.tup (S.map plD)), .val (.int a), .val (.int b), .val (.int c), o4, o5, o6] ∧ MN.Eqv (S.take i) [(a, 0), (b, c)] ∧ 0 ≤ a ∧ a.natAbs ≤ 2 ^ (n + 1 + i * (n + 2)) ∧ b.natAbs ≤ 2 ^ (n + 1 + i * (n + 2)) ∧ c.natAbs ≤ 2 ^ n, ⟨0, 0, 0, _, _, _, rfl, MN.eqv_nil, by decide, Nat.zero_le _, Nat.zero_le _, Nat.zero_le _⟩, ?_, ?_⟩
    · rintro i d ρ hd ⟨a, b, c, o4, o5, o6, rfl, he, ha, sa, sb, sc⟩
      obtain ⟨⟨x0, y0⟩, hp, rfl⟩ := map_get hd
      have hi := lt_of_get hp
      obtain ⟨zx, zy⟩ := hn _ (List.mem_of_getElem? hp)
      have hb := hbit i (Nat.le_of_lt hi)
      refine ⟨fun m ρ => ∃ b' c' x y : Int, ∃ o6, ρ = [.val (.tup (S.map plD)), .val (.int a), .val (.int b'), .val (.int c'), .val (.int x), .val (.int y), o6] ∧ MN.Eu (2 ^ (n + 1 + i * (n + 2) + n + 2)) (2 ^ n) b' c' x y ∧ MN.Eqv [(a, 0), (b', c'), (x, y)] [(a, 0), (b, c), (x0, y0)] ∧ m = y.natAbs,
        ⟨_, b, c, x0, y0, _, rfl, MN.Eu.start (by omega) sb sc (sz_le2 zx) (sz_le2 zy), MN.Eqv.refl _, rfl⟩, ?_⟩
      rintro m ρ ⟨b', c', x, y, o6, rfl, eu, ev, rfl⟩
      refine ifB_nd (fun hy => ?_) (fun hy => ?_)
      · have st : Sz 5000 (c'.fdiv y) := sz_of_le (Nat.le_trans (MN.abs_fdiv_le c' y) eu.hc) (by omega)
        have sx : Sz 5000 x := sz_of_le eu.hx (by omega)
        have sy : Sz 5000 y := sz_of_le eu.hy (by omega)
        exact ⟨⟨hy, sy.mono (by decide)⟩, ⟨st, sx⟩, ⟨st, sy⟩, Nat.le_of_ble_eq_true rfl, _, (MN.fdiv_facts hy).1, x, y, b' - c'.fdiv y * x, c' - c'.fdiv y * y, _, rfl, eu.step hy, MN.eqv_step.symm.trans ev, rfl⟩
      · subst hy
        refine ⟨(Int.gcd a x : Nat), b', c', _, _, _, rfl, ?_, Int.natCast_nonneg _, ?_, ?_, eu.hc⟩
        · rw [List.take_add_one, hp]
          exact ((MN.eqv_more he).trans ev.symm).trans MN.eqv_gcd
        · have e1 : n + 1 + (i + 1) * (n + 2) = n + 1 + i * (n + 2) + n + 2 := by rw [Nat.add_mul]; omega
          rw [e1]
          show Int.gcd a x ≤ _
          by_cases h0 : a = 0
          · rw [h0, Int.gcd_zero_left]; exact eu.hx
          · have := Int.gcd_le_left x (show 0 < a by omega)
            have p : 2 ^ (n + 1 + i * (n + 2)) ≤ 2 ^ (n + 1 + i * (n + 2) + n + 2) := Nat.pow_le_pow_right (by decide) (by omega)
            omega
        · have e1 : n + 1 + (i + 1) * (n + 2) = n + 1 + i * (n + 2) + n + 2 := by rw [Nat.add_mul]; omega
          rw [e1]
          exact eu.hb
    · rintro ρ ⟨a, b, c, o4, o5, o6, rfl, he, ha, sa, sb, sc⟩
      rw [List.length_map] at he sa sb
      rw [List.take_length] at he
      have hb := hbit S.length (Nat.le_refl _)
      have za : Sz 4000 a := sz_of_le sa (by omega)
      have zc : Sz 4000 c := sz_of_le sc (by omega)
      have nn : SzF none := fun _ _ _ z => nomatch z
      refine ifB_d (fun h0 => ifB_T rfl (h none (MN.form_none he (.inl h0)) nn)) (fun h0 => ifB_d (fun h1 => h none (MN.form_none he (.inr h1)) nn) fun h1 => ?_)
      refine ifB_d (fun hc => ⟨by omega, Nat.le_of_ble_eq_true rfl, h (some _) (MN.form_pos he (by omega) hc) ?_⟩) (fun hc => ⟨by omega, Nat.le_of_ble_eq_true rfl, h (some _) (MN.form_neg he (by omega) (by omega)) ?_⟩)
      · rintro _ _ _ e
        cases e
        exact ⟨za, zc⟩
      · rintro _ _ _ e
        cases e
        exact ⟨za, sz_neg zc⟩
  · exact h.elim
end
end K02
namespace K02
open PySem PySem.Spec PyProof.Rows L2 Z Y
section
variable {P : Program} {w : World} {K : Frg} {mg : Str → Option Value} {base : Heap}
theorem ok_Net_of (T : Tx w K mg) : FnG P w K mg base (L2N.CX P w) 7 (He5.wf K (He.ga K "Net") "staticmethod" "of") (spP K R_Net_of02) := by
  refine y_fnSX T.d_Net_of sc_Net_of R_Net_of02_len (fun _ _ _ _ _ _ rest => by cases rest <;> rfl) fun cdv A outer s H E B hB hr hx po tk => ⟨_, (s_cons (s_for (t := .nm 1) po rfl (i_tup (y_var (pv 0))) (g_nm (pg_name (i := 1) sc_Net_of.nd rfl (by first | exact Or.inl rfl | exact Or.inr rfl)))
    (s_one (s_expr (y_call (ok_check_place T) (hr.mono (by decide)) rfl T.g_check_place T.k_check_place hx (a_cons (y_var (pv 1)) a_nil)))))
  (s_cons (s_set (i := 2) sc_Net_of.nd rfl (by first | exact Or.inl rfl | exact Or.inr rfl) (y_call (ok_form_of T) (hr.mono (by decide)) rfl T.g_form_of T.k_form_of hx (a_cons (y_var (pv 0)) a_nil)))
  (s_cons (s_if (z_cmp op_isN isNL (y_var (pv 2)) y_non (nomark _))
    (s_one (s_raise rfl tk (T.xc_InvalidNet.t T.d_InvalidNet_UinitU ⟨_, _, rfl⟩ ⟨_, _, _, _, rfl⟩ rfl) (.inl rfl) hr (y_var (pv 0)) rfl T.g_InvalidNet))
    s_nil)
  (s_one (s_ret (y_make T.mk_Net (ok_Net_UinitU T) (hr.mono (by decide)) rfl T.g_Net hx (a_cons (y_ix (y_var (pv 2)) y_int (fun _ _ => rfl)) (a_cons (y_ix (y_var (pv 2)) y_int (fun _ _ => rfl)) (a_cons (y_ix (y_var (pv 2)) y_int (fun _ _ => rfl)) a_nil))))))))), fun ds Q h => ?_⟩
  rw [show startE (List.length N_Net_of) [.tup ds] = [.val (.tup ds), .no, .no] from rfl]
  rcases h with ⟨pre, odd, rest, rfl, hl, kn, np, he⟩ | ⟨S, rfl, hs, hf, he⟩
  · refine ⟨fun i ρ => ∃ o1, i ≤ pre.length ∧ ρ = [.val (.tup (pre.map plD ++ odd :: rest)), o1, .no], ⟨_, Nat.zero_le _, rfl⟩, ?_, ?_⟩
    · rintro i d ρ hd ⟨o1, hi, rfl⟩
      by_cases h2 : i < pre.length
      · rw [List.getElem?_append_left (by rw [List.length_map]; exact h2)] at hd
        obtain ⟨p, hp, rfl⟩ := map_get hd
        exact ⟨⟨trivial, trivial⟩, (fun _ => ⟨_, h2, rfl⟩), fun z => (nomatch z)⟩
      · have ei : i = pre.length := by omega
        rw [List.getElem?_append_right (by rw [List.length_map]; omega), List.length_map, ei, Nat.sub_self] at hd
        cases hd
        exact ⟨kn, (fun z => Bool.noConfusion (np.symm.trans z)), fun _ => he⟩
    · rintro ρ ⟨o1, hi, rfl⟩
      rw [List.length_append, List.length_map, List.length_cons] at hi
      omega
  · refine ⟨fun i ρ => ∃ o1, ρ = [.val (.tup (S.map plD)), o1, .no], ⟨_, rfl⟩, ?_, ?_⟩
    · rintro i d ρ hd ⟨o1, rfl⟩
      obtain ⟨p, hp, rfl⟩ := map_get hd
      exact ⟨⟨trivial, trivial⟩, (fun _ => ⟨_, rfl⟩), fun z => (nomatch z)⟩
    · rintro ρ ⟨o1, rfl⟩
      refine ⟨S, rfl, hs, fun r hr sr => ?_⟩
      obtain rfl := MN.form_uni hf hr
      exact ifB_T rfl he
end
end K02
namespace K02
open PySem PySem.Spec PyProof.Rows L2 Z Y
section
variable {P : Program} {w : World} {K : Frg} {mg : Str → Option Value} {base : Heap}
theorem ok_Net_size (T : Tx w K mg) : FnG P w K mg base (L2N.CX P w) 1 (He5.wf K (He.ga K "Net") "property" "size") (spP K R_Net_size) := by
  refine y_fn T.d_Net_size sc_Net_size arl1 (fun _ _ _ _ _ _ us hl => match us, hl with | [_], _ => rfl) fun cdv A outer s H E B hB hr hx po => ⟨_, (s_one (s_ret (y_op op_mulY mulL (y_ix (y_fld (cs := ["Net"]) (ns := ["own_numbers"]) (j := 0) (y_var (pv 0)) (all1 ⟨T.cl_Net, T.na_Net_own_numbers⟩)) y_int (fun _ _ => rfl)) (y_ix (y_fld (cs := ["Net"]) (ns := ["own_numbers"]) (j := 0) (y_var (pv 0)) (all1 ⟨T.cl_Net, T.na_Net_own_numbers⟩)) y_int (fun _ _ => rfl))))), fun ds Q h => ?_⟩
  obtain ⟨a0, e0, hh⟩ := ar1E h
  clear h
  subst e0
  have h := hh
  clear hh
  try dsimp only at h
  rw [show startE (List.length N_Net_size) [a0] = [.val a0] from rfl]
  obtain ⟨a, b, c, rfl, ⟨ha, hc⟩, h⟩ := h
  exact ⟨⟨.head _, rfl⟩, ⟨.head _, rfl⟩, ⟨ha.mono (by decide), hc.mono (by decide)⟩, h⟩
end
end K02
namespace K02
open PySem PySem.Spec PyProof.Rows L2 Z Y
section
variable {P : Program} {w : World} {K : Frg} {mg : Str → Option Value} {base : Heap}
theorem ok_Net_spanning (T : Tx w K mg) : FnG P w K mg base (L2N.CX P w) 1 (He.ma K (He.ga K "Net") "spanning") (spP K R_Net_spanning) := by
  refine y_fn T.d_Net_spanning sc_Net_spanning arl1 (fun _ _ _ _ _ _ us hl => match us, hl with | [_], _ => rfl) fun cdv A outer s H E B hB hr hx po => ⟨_, (s_cons (s_asg (t := .tp [1, 2, 3]) (y_fld (cs := ["Net"]) (ns := ["own_numbers"]) (j := 0) (y_var (pv 0)) (all1 ⟨T.cl_Net, T.na_Net_own_numbers⟩)) (g_tp (is := [1, 2, 3]) rfl (pgs_cons (pg_name (i := 1) sc_Net_spanning.nd rfl (by first | exact Or.inl rfl | exact Or.inr rfl)) (pgs_cons (pg_name (i := 2) sc_Net_spanning.nd rfl (by first | exact Or.inl rfl | exact Or.inr rfl)) (pgs_cons (pg_name (i := 3) sc_Net_spanning.nd rfl (by first | exact Or.inl rfl | exact Or.inr rfl)) pgs_nil)))))
  (s_one (s_ret (y_lst (a_cons (y_tup (a_cons (y_var (pv 1)) (a_cons y_int a_nil))) (a_cons (y_tup (a_cons (y_var (pv 2)) (a_cons (y_var (pv 3)) a_nil))) a_nil)))))), fun ds Q h => ?_⟩
  obtain ⟨a0, e0, hh⟩ := ar1E h
  clear h
  subst e0
  have h := hh
  clear hh
  try dsimp only at h
  rw [show startE (List.length N_Net_spanning) [a0] = [.val a0, .no, .no, .no] from rfl]
  obtain ⟨a, b, c, rfl, h⟩ := h
  exact ⟨⟨.head _, rfl⟩, leN rfl, leN rfl, leN rfl, h⟩
end
end K02
namespace K02
open PySem PySem.Spec PyProof.Rows L2 Z Y
section
variable {P : Program} {w : World} {K : Frg} {mg : Str → Option Value} {base : Heap}
theorem ok_Net_place_in_cell (T : Tx w K mg) : FnG P w K mg base (L2N.CX P w) 1 (He.ma K (He.ga K "Net") "place_in_cell") (spP K R_Net_place_in_cell) := by
  refine y_fn T.d_Net_place_in_cell sc_Net_place_in_cell arl2 (fun _ _ _ _ _ _ us hl => match us, hl with | [_, _], _ => rfl) fun cdv A outer s H E B hB hr hx po => ⟨_, (s_cons (s_asg (t := .tp [2, 3, 4]) (y_fld (cs := ["Net"]) (ns := ["own_numbers"]) (j := 0) (y_var (pv 0)) (all1 ⟨T.cl_Net, T.na_Net_own_numbers⟩)) (g_tp (is := [2, 3, 4]) rfl (pgs_cons (pg_name (i := 2) sc_Net_place_in_cell.nd rfl (by first | exact Or.inl rfl | exact Or.inr rfl)) (pgs_cons (pg_name (i := 3) sc_Net_place_in_cell.nd rfl (by first | exact Or.inl rfl | exact Or.inr rfl)) (pgs_cons (pg_name (i := 4) sc_Net_place_in_cell.nd rfl (by first | exact Or.inl rfl | exact Or.inr rfl)) pgs_nil)))))
  (s_cons (s_set (i := 5) sc_Net_place_in_cell.nd rfl (by first | exact Or.inl rfl | exact Or.inr rfl) (y_op op_fdivW divL (y_ix (y_var (pv 1)) y_int (fun _ _ => rfl)) (y_var (pv 4))))
  (s_one (s_ret (y_tup (a_cons (y_op op_mod modL (y_op op_sub subL (y_ix (y_var (pv 1)) y_int (fun _ _ => rfl)) (y_op op_mulY mulL (y_var (pv 5)) (y_var (pv 3)))) (y_var (pv 2))) (a_cons (y_op op_sub subL (y_ix (y_var (pv 1)) y_int (fun _ _ => rfl)) (y_op op_mulY mulL (y_var (pv 5)) (y_var (pv 4)))) a_nil))))))), fun ds Q h => ?_⟩
  obtain ⟨a0, a1, e0, hh⟩ := ar2E h
  clear h
  subst e0
  have h := hh
  clear hh
  try dsimp only at h
  rw [show startE (List.length N_Net_place_in_cell) [a0, a1] = [.val a0, .val a1, .no, .no, .no, .no] from rfl]
  obtain ⟨a, b, c, x, y, rfl, rfl, ⟨⟨o1, o2, o3⟩, sa, sc, sy⟩, h⟩ := h
  have sb : Sz 5000 b := (sz_le o2 (Int.le_of_lt o3) sa).mono (by decide)
  have sr : Sz 5000 (y / c) := (sz_div c sy).mono (by decide)
  exact ⟨⟨.head _, rfl⟩, ⟨by omega, sc.mono (by decide)⟩, ⟨sr, sb⟩, by omega, ⟨sr, sc.mono (by decide)⟩, leN rfl, h⟩
end
end K02
namespace K02
open PySem PySem.Spec PyProof.Rows L2 Z Y
section
variable {P : Program} {w : World} {K : Frg} {mg : Str → Option Value} {base : Heap}
theorem ok_Net_UcontainsU (T : Tx w K mg) : FnG P w K mg base (L2N.CX P w) 5 (He.ma K (He.ga K "Net") "__contains__") (spP K R_Net_UcontainsU) := by
  refine y_fn T.d_Net_UcontainsU sc_Net_UcontainsU arl2 (fun _ _ _ _ _ _ us hl => match us, hl with | [_, _], _ => rfl) fun cdv A outer s H E B hB hr hx po => ⟨_, (s_one (s_ret (y_and (y_call (ok_is_place T) (hr.mono (by decide)) rfl T.g_is_place T.k_is_place hx (a_cons (y_var (pv 1)) a_nil)) (y_one (y_cmp (op_eqY hr.units) eqL (y_meth (cs := ["Net"]) (ns := ["own_numbers"]) (y_var (pv 0)) (all1 ⟨T.cl_Net, T.m_Net_place_in_cell⟩) (ok_Net_place_in_cell T) (hr.mono (by decide)) hx (a_cons (y_var (pv 1)) a_nil)) (y_tup (a_cons y_int (a_cons y_int a_nil))) (nomark _)))))), fun ds Q h => ?_⟩
  obtain ⟨a0, a1, e0, hh⟩ := ar2E h
  clear h
  subst e0
  have h := hh
  clear hh
  try dsimp only at h
  rw [show startE (List.length N_Net_UcontainsU) [a0, a1] = [.val a0, .val a1] from rfl]
  obtain ⟨a, b, c, rfl, ⟨o, sa, sc⟩, h⟩ := h
  rcases h with ⟨x, y, rfl, sy, h⟩ | ⟨hk, hp, h⟩
  · refine ⟨⟨trivial, trivial⟩, ifB_T rfl ⟨.head _, rfl, a, b, c, x, y, rfl, rfl, ⟨o, sa, sc, sy⟩, leN rfl, ⟨rfl, rfl⟩, ?_⟩⟩
    rw [eqN2]
    have e : decide ((MN.low a b c x y).1 = 0 ∧ (MN.low a b c x y).2 = 0) = decide (MN.low a b c x y = (0, 0)) := decide_eq_decide.mpr ⟨fun z => Prod.ext z.1 z.2, fun z => by rw [z]; exact ⟨rfl, rfl⟩⟩
    rw [e]
    exact h
  · refine ⟨hk, ifB_F ?_ h⟩
    exact hp
end
end K02
namespace K02
open PySem PySem.Spec PyProof.Rows L2 Z Y
section
variable {P : Program} {w : World} {K : Frg} {mg : Str → Option Value} {base : Heap}
theorem ok_Net_is_within (T : Tx w K mg) : FnG P w K mg base (L2N.CX P w) 7 (He.ma K (He.ga K "Net") "is_within") (spP K R_Net_is_within) := by
  refine y_fn T.d_Net_is_within sc_Net_is_within arl2 (fun _ _ _ _ _ _ us hl => match us, hl with | [_, _], _ => rfl) fun cdv A outer s H E B hB hr hx po => ⟨_, (s_cons (s_asg (t := .tp [2, 3]) (y_meth0 (cs := ["Net"]) (ns := ["own_numbers"]) (y_var (pv 0)) (all1 ⟨T.cl_Net, T.m_Net_spanning⟩) (ok_Net_spanning T) (hr.mono (by decide)) hx) (g_tp (is := [2, 3]) rfl (pgs_cons (pg_name (i := 2) sc_Net_is_within.nd rfl (by first | exact Or.inl rfl | exact Or.inr rfl)) (pgs_cons (pg_name (i := 3) sc_Net_is_within.nd rfl (by first | exact Or.inl rfl | exact Or.inr rfl)) pgs_nil))))
  (s_one (s_ret (y_and (y_cmpI (gop_in (C := He.ga K "Net") T.m_Net_UcontainsU.at_ T.m_Net_UcontainsU.fn ((ok_Net_UcontainsU T).at (hr.mono (by decide))) hx) (inOL (C := "Net") (ns := ["own_numbers"])) (y_var (pv 2)) (y_var (pv 1)) rfl) (y_one (y_cmpI (gop_in (C := He.ga K "Net") T.m_Net_UcontainsU.at_ T.m_Net_UcontainsU.fn ((ok_Net_UcontainsU T).at (hr.mono (by decide))) hx) (inOL (C := "Net") (ns := ["own_numbers"])) (y_var (pv 3)) (y_var (pv 1)) rfl)))))), fun ds Q h => ?_⟩
  obtain ⟨a0, a1, e0, hh⟩ := ar2E h
  clear h
  subst e0
  have h := hh
  clear hh
  try dsimp only at h
  rw [show startE (List.length N_Net_is_within) [a0, a1] = [.val a0, .val a1, .no, .no] from rfl]
  obtain ⟨a, b, c, p, q, r, rfl, rfl, ⟨⟨o, s1, s2⟩, sc⟩, h⟩ := h
  unfold MN.inside at h
  refine ⟨.head _, rfl, a, b, c, rfl, .head _, rfl, p, q, r, rfl, ⟨o, s1, s2⟩, .inl ⟨a, 0, rfl, szP (by decide) (by decide), ifB_2 (fun z => ?_) (fun z => ?_)⟩⟩
  · have z' : decide (MN.low p q r a 0 = (0, 0)) = true := by simpa using z
    rw [z', Bool.true_and] at h
    refine ⟨.head _, rfl, p, q, r, rfl, ⟨o, s1, s2⟩, .inl ⟨b, c, rfl, sc, ?_⟩⟩
    show Q (.bl (false != decide (MN.low p q r b c = (0, 0))))
    rw [Bool.false_bne]
    exact h
  · have z' : decide (MN.low p q r a 0 = (0, 0)) = false := by simpa using z
    rw [z', Bool.false_and] at h
    exact h
end
end K02
namespace K02
open PySem PySem.Spec PyProof.Rows L2 Z Y
section
variable {P : Program} {w : World} {K : Frg} {mg : Str → Option Value} {base : Heap}
theorem ok_Net_scaled (T : Tx w K mg) : FnG P w K mg base (L2N.CX P w) 7 (He.ma K (He.ga K "Net") "scaled") (spP K R_Net_scaled02) := by
  refine y_fnX T.d_Net_scaled sc_Net_scaled arl2 (fun _ _ _ _ _ _ us hl => match us, hl with | [_, _], _ => rfl) fun cdv A outer s H E B hB hr hx po tk => ⟨_, (s_cons (s_expr (y_call (ok_check_number T) (hr.mono (by decide)) rfl T.g_check_number T.k_check_number hx (a_cons (y_var (pv 1)) (a_cons y_int (a_cons y_non a_nil)))))
  (s_cons (s_asg (t := .tp [2, 3, 4]) (y_fld (cs := ["Net"]) (ns := ["own_numbers"]) (j := 0) (y_var (pv 0)) (all1 ⟨T.cl_Net, T.na_Net_own_numbers⟩)) (g_tp (is := [2, 3, 4]) rfl (pgs_cons (pg_name (i := 2) sc_Net_scaled.nd rfl (by first | exact Or.inl rfl | exact Or.inr rfl)) (pgs_cons (pg_name (i := 3) sc_Net_scaled.nd rfl (by first | exact Or.inl rfl | exact Or.inr rfl)) (pgs_cons (pg_name (i := 4) sc_Net_scaled.nd rfl (by first | exact Or.inl rfl | exact Or.inr rfl)) pgs_nil)))))
  (s_one (s_ret (y_make T.mk_Net (ok_Net_UinitU T) (hr.mono (by decide)) rfl T.g_Net hx (a_cons (y_op op_mulY mulL (y_var (pv 2)) (y_var (pv 1))) (a_cons (y_op op_mulY mulL (y_var (pv 3)) (y_var (pv 1))) (a_cons (y_op op_mulY mulL (y_var (pv 4)) (y_var (pv 1))) a_nil)))))))), fun ds Q h => ?_⟩
  obtain ⟨a0, a1, e0, hh⟩ := ar2E h
  clear h
  subst e0
  have h := hh
  clear hh
  try dsimp only at h
  rw [show startE (List.length N_Net_scaled) [a0, a1] = [.val a0, .val a1, .no, .no, .no] from rfl]
  obtain ⟨a, b, c, rfl, kn, nb, he⟩ := h
  exact ⟨kn, 1, rfl, .inl rfl, .inl ⟨nb, he⟩⟩
end
end K02
namespace K02
open PySem PySem.Spec PyProof.Rows L2 Z Y
section
variable {P : Program} {w : World} {K : Frg} {mg : Str → Option Value} {base : Heap}
theorem ok_nets_with (T : Tx w K mg) : FnG P w K mg base (L2N.CX P w) 7 (He.ga K "nets_with") (spP K R_nets_with02) := by
  refine y_fn T.d_nets_with sc_nets_with arl1 (fun _ _ _ _ _ _ us hl => match us, hl with | [_], _ => rfl) fun cdv A outer s H E B hB hr hx po => ⟨_, (s_one (s_ret (y_lc2 (own := [("c", 1), ("b", 2)]) (vs1 := [2]) (t := .nm 1) (t1 := .nm 2) rfl sc_nets_with.nd (i_lst (y_call (ok_divisors T) (hr.mono (by decide)) rfl T.g_divisors T.k_divisors hx (a_cons (y_var (pv 0)) a_nil))) (blkOk_by (own := [("c", 1), ("b", 2)]) (N := N_nets_with) (sc := defScope s_nets_with) (by decide +kernel)) (by decide) (fun _ _ _ _ _ => (g_nm (pg_name (i := 1) sc_nets_with.nd rfl (by first | exact Or.inl rfl | exact Or.inr rfl)))) (fun _ _ _ _ _ => c_nil) (fun _ _ _ _ _ => (i_rng1 (by rfl) T.b_range (a_cons (y_op op_fdivW divL (y_var (pv 0)) (y_var (pv 1))) a_nil))) (fun _ _ _ _ _ => (g_nm (pg_name (i := 2) sc_nets_with.nd rfl (by first | exact Or.inl rfl | exact Or.inr rfl)))) (fun _ _ _ _ _ => c_nil) (fun _ _ _ _ _ => (y_make T.mk_Net (okw_Net_UinitU T) (hr.mono (by decide)) rfl T.g_Net px_nox (a_cons (y_op op_fdivW divL (y_var (pv 0)) (y_var (pv 1))) (a_cons (y_var (pv 2)) (a_cons (y_var (pv 1)) a_nil)))))))), fun ds Q h => ?_⟩
  obtain ⟨a0, e0, hh⟩ := ar1E h
  clear h
  subst e0
  have h := hh
  clear hh
  try dsimp only at h
  rw [show startE (List.length N_nets_with) [a0] = [.val a0, .no, .no] from rfl]
  obtain ⟨k, rfl, ⟨k1, k2, dl⟩, h⟩ := h
  have hdv : ∀ d ∈ MN.divL k, 1 ≤ d ∧ d ≤ k ∧ 0 ≤ k / d ∧ k / d ≤ k := fun d hd => (by
    obtain ⟨q1, q2⟩ := (MN.divL_mem (by omega)).mp hd
    exact ⟨by omega, Int.le_of_dvd (by omega) q2, Int.ediv_nonneg (by omega) (by omega), Int.ediv_le_self _ (by omega)⟩)
  refine ⟨k, rfl, ⟨k1, by omega⟩, fun i acc => acc = (GX.restL k ((MN.divL k).take i)).map GX.netOf, rfl, fun i d acc hd hj => ?_, fun out hj => ?_⟩
  · obtain ⟨c, hc, rfl⟩ := map_get hd
    have hi := lt_of_get hc
    obtain ⟨c1, c2, c3, c4⟩ := hdv c (List.mem_of_getElem? hc)
    have zz : Sz 5000 c := (sz13 (by omega) (by omega)).mono (by decide)
    have tk : (MN.divL k).take (i + 1) = (MN.divL k).take i ++ [c] := (by rw [List.take_add_one, hc]; rfl)
    have bl : (GX.restL k ((MN.divL k).take i)).length ≤ i * k.toNat := (by
      have := restL_len_aux k (by omega) ((MN.divL k).take i) fun d hd => (hdv d (List.mem_of_mem_take hd)).1
      rw [List.length_take] at this
      have q : min i (MN.divL k).length * k.toNat ≤ i * k.toNat := Nat.mul_le_mul_right _ (Nat.min_le_left _ _)
      omega)
    have dl2 := divL_len k
    have ik : i * k.toNat ≤ 20 * 2000 := Nat.mul_le_mul (by omega) (by omega)
    refine ⟨rfl, ifB_T rfl ⟨⟨by omega, zz⟩, by omega, by omega, fun j ac => ac = (GX.restL k ((MN.divL k).take i)).map GX.netOf ++ ((GX.rowI k c 0 (k / c).toNat).take j).map GX.netOf, by rw [hj]; simp, fun j e ac he hl => ?_, fun ac hl => ?_⟩⟩
    · obtain ⟨hj2, rfl⟩ := rngD_at he
      have hr : (GX.rowI k c 0 (k / c).toNat)[j]? = some (k / c, 0 + (j : Int), c) := (by
        unfold GX.rowI
        rw [List.getElem?_map, List.getElem?_range hj2]
        rfl)
      refine ifB_T rfl ⟨⟨by omega, zz⟩, ⟨by omega, by omega, by omega⟩, ?_, ?_⟩
      · rw [hl]
        simp only [List.length_append, List.length_map, List.length_take]
        omega
      · show ac ++ [GX.netOf (k / c, 0 + (j : Int), c)] = (GX.restL k ((MN.divL k).take i)).map GX.netOf ++ ((GX.rowI k c 0 (k / c).toNat).take (j + 1)).map GX.netOf
        rw [hl, List.append_assoc, List.take_add_one, hr, List.map_append]
        rfl
    · rw [hl]
      have hlen : (rngD 0 (k / c).toNat).length = (GX.rowI k c 0 (k / c).toNat).length := (by simp [rngD, GX.rowI])
      rw [hlen, List.take_length, ← List.map_append]
      show _ = (GX.restL k ((MN.divL k).take (i + 1))).map GX.netOf
      rw [tk, restL_app, restL_one]
  · rw [hj, List.length_map, List.take_length]
    exact h
end
end K02
namespace K02
open PySem PySem.Spec PyProof.Rows L2 Z Y
section
variable {P : Program} {w : World} {K : Frg} {mg : Str → Option Value} {base : Heap}
theorem gs_nets_of_size : L2.GScope N_nets_of_size ["size"] (defScope s_nets_of_size) := ⟨rfl, rfl, rfl, by decide +kernel, rfl, by decide +kernel, by decide +kernel⟩
theorem sk_nets_of_size : GX.ScN (defScope s_nets_of_size) := ⟨by decide +kernel, by decide +kernel, by decide +kernel, by decide +kernel, by decide +kernel, by decide +kernel, by decide +kernel, by decide +kernel⟩
theorem bd_nets_of_size : GX.bdN s_nets_of_size := ⟨⟨_, _, _, _, _, _, _, _, _, _, _, _, _, _, _, _, _, _, _, _, _, _, _, _, _, _, _⟩, _, rfl⟩
theorem okX_nets_of_size (T : Tx w K mg) : FnG P w K mg base (L2N.CX P w) 5 (He.ga K "check_number") (spP K R_check_number) := GX.fnLv (by decide) (ok_check_number T)
end
end K02
namespace K02
open PySem PySem.Spec PyProof.Rows L2 Z Y
section
variable {P : Program} {w : World} {K : Frg} {mg : Str → Option Value} {base : Heap}
theorem ok_nets_above (T : Tx w K mg) : FnG P w K mg base (L2N.CX P w) 9 (He.ga K "nets_above") (spP K R_nets_above02) := by
  refine y_fnX T.d_nets_above sc_nets_above arl1 (fun _ _ _ _ _ _ us hl => match us, hl with | [_], _ => rfl) fun cdv A outer s H E B hB hr hx po tk => ⟨_, (s_cons (s_if (z_cmp op_gt cmpL (y_prop (cs := ["Net"]) (ns := ["own_numbers"]) (y_var (pv 0)) (all1 ⟨T.cl_Net, _, T.p_Net_size⟩) (ok_Net_size T) (hr.mono (by decide)) px_nox) (y_globI rfl T.g_MOST_ABOVE) (nomark _))
    (s_one (s_raise rfl tk (T.xc_LimitExceeded.t T.d_LimitExceeded_UinitU ⟨_, _, rfl⟩ ⟨_, _, _, _, rfl⟩ rfl) (.inr (.inr (.inl rfl))) hr (y_globI rfl T.g_MOST_ABOVE) rfl T.g_LimitExceeded))
    s_nil)
  (s_one (s_ret (y_lc2 (own := [("size", 1), ("other", 2)]) (vs1 := [2]) (t := .nm 1) (t1 := .nm 2) rfl sc_nets_above.nd (i_lst (y_call (ok_divisors T) (hr.mono (by decide)) rfl T.g_divisors T.k_divisors hx (a_cons (y_prop (cs := ["Net"]) (ns := ["own_numbers"]) (y_var (pv 0)) (all1 ⟨T.cl_Net, _, T.p_Net_size⟩) (ok_Net_size T) (hr.mono (by decide)) px_nox) a_nil))) (blkOk_by (own := [("size", 1), ("other", 2)]) (N := N_nets_above) (sc := defScope s_nets_above) (by decide +kernel)) (by decide) (fun _ _ _ _ _ => (g_nm (pg_name (i := 1) sc_nets_above.nd rfl (by first | exact Or.inl rfl | exact Or.inr rfl)))) (fun _ _ _ _ _ => c_nil) (fun _ _ _ _ _ => (i_lst (y_call (ok_nets_with T) (hr.mono (by decide)) rfl T.g_nets_with T.k_nets_with px_nox (a_cons (y_var (pv 1)) a_nil)))) (fun _ _ _ _ _ => (g_nm (pg_name (i := 2) sc_nets_above.nd rfl (by first | exact Or.inl rfl | exact Or.inr rfl)))) (fun _ _ _ _ _ => (c_one (z_val (y_meth (cs := ["Net"]) (ns := ["own_numbers"]) (y_var (pv 0)) (all1 ⟨T.cl_Net, T.m_Net_is_within⟩) (ok_Net_is_within T) (hr.mono (by decide)) px_nox (a_cons (y_var (pv 2)) a_nil))))) (fun _ _ _ _ _ => (y_var (pv 2))))))), fun ds Q h => ?_⟩
  obtain ⟨a0, e0, hh⟩ := ar1E h
  clear h
  subst e0
  have h := hh
  clear hh
  try dsimp only at h
  rw [show startE (List.length N_nets_above) [a0] = [.val a0, .no, .no] from rfl]
  obtain ⟨a, b, c, rfl, ⟨⟨za, zc⟩, big, he⟩ | ⟨rfl, rfl, rfl, h⟩⟩ := h
  · exact ⟨.head _, rfl, a, b, c, rfl, ⟨za, zc⟩, ifB_T (decide_eq_true big) he⟩
  have za : Sz 4000 (2000 : Int) := szP (by decide) (by decide)
  have zc : Sz 4000 (1 : Int) := szP (by decide) (by decide)
  refine ⟨.head _, rfl, 2000, 3, 1, rfl, ⟨za, zc⟩, ifB_F rfl ?_⟩
  refine ⟨.head _, rfl, 2000, 3, 1, rfl, ⟨za, zc⟩, 2000, rfl, ⟨by decide, by decide⟩, fun i acc => acc.length ≤ i * 4836, Nat.zero_le _, fun i d acc hd hj => ?_, fun out hj => h out⟩
  obtain ⟨s, hs, rfl⟩ := map_get hd
  have hm := List.mem_of_getElem? hs
  obtain ⟨d1, d2⟩ := He.ba (List.all_eq_true.mp div2000 s hm)
  have d1 := of_decide_eq_true d1
  have d2 := of_decide_eq_true d2
  have hi := lt_of_get hs
  rw [len2000] at hi
  obtain ⟨q1, q2⟩ := (MN.divL_mem (by decide)).mp hm
  have s2 := Int.le_of_dvd (by decide) q2
  have cnt := restL_count (n := s) (by omega)
  refine ⟨rfl, ifB_T rfl ⟨s, rfl, ⟨by omega, s2, d2⟩, fun j ac => ac.length ≤ i * 4836 + j, by omega, fun j e ac he hl => ?_, fun ac hl => ?_⟩⟩
  · obtain ⟨t, ht, rfl⟩ := map_get he
    have hj2 := lt_of_get ht
    obtain ⟨o, t1, t2, _⟩ := restL_mem (by omega) (List.mem_of_getElem? ht)
    have p0 := MN.pos_a o
    have r0 := MN.pos_c o
    refine ⟨.head _, rfl, 2000, 3, 1, t.1, t.2.1, t.2.2, rfl, rfl, ⟨⟨o, (sz13 (by omega) (by omega)).mono (by decide), (sz13 (by omega) (by omega)).mono (by decide)⟩, zc⟩, ?_⟩
    exact ifB_2 (fun e => ⟨by omega, by show (ac ++ [GX.netOf t]).length ≤ _; rw [List.length_append]; show ac.length + 1 ≤ _; omega⟩) (fun e => by omega)
  · rw [List.length_map] at hl
    show ac.length ≤ (i + 1) * 4836
    omega
end
end K02
namespace K02
open PySem PySem.Spec PyProof.Rows L2 Z Y
section
variable {P : Program} {w : World} {K : Frg} {mg : Str → Option Value} {base : Heap}
theorem ok__law_tape (T : Tx w K mg) : FnR P w K mg base (L2N.CX P w) 1 (He.ga K "_law_tape") (spTape K) := by
  refine zfn T.d__law_tape sc__law_tape len1 (fun _ _ _ _ _ _ us hl => match us, hl with | [_], _ => rfl) (fun cdv A outer s H vs Q E hr h => ?_)
  obtain ⟨_, rfl, F, s, ns, rfl, hs, hS, k⟩ := h
  refine ⟨_, PSs.nox (pss_one (ps_ret (pe_lstZ (pa_cons (pe_callTy call_listZ (by rfl) T.b_list (by decide +kernel) (pa_cons (pe_slice sl_listZ (pv 0) po_none (po_some pe_int)) pa_nil)) (pa_cons pe_int (pa_cons pe_int (pa_cons pe_int pa_nil))))))), ?_⟩
  have hSH := sqL hs hS
  refine ⟨_, rfl, _, rfl, _, _, rfl, hSH, ?_⟩
  intro p1 H1 hp1 e1
  obtain ⟨F1, g1, q1, r1⟩ := newE hs hp1 e1
  obtain ⟨ms, em⟩ := cut_ints ns none (some 63)
  rw [em] at q1 r1
  refine ⟨_, _, rfl, .inl (SqL.of r1), ?_⟩
  intro p2 H2 hp2 e2
  obtain ⟨F2, g2, q2, r2⟩ := newE g1.fh hp2 e2
  walk_at "z"
  intro p3 H3 hp3 e3
  obtain ⟨g3, f3, r3⟩ := newM g2.fh hp3 e3
  exact k p3 F2 H3 ((g1.trans g2).trans g3) ⟨f3, _, r3, p2, ms, 0, 0, 17, rfl, SqL.of q2, by decide, by decide, by decide, by decide⟩
end
end K02
namespace K02
open PySem PySem.Spec PyProof.Rows L2 Z Y
section
variable {P : Program} {w : World} {K : Frg} {mg : Str → Option Value} {base : Heap}
theorem ok0__law_draw (T : Tx w K mg) : FnR P w K mg base (L2N.CX P w) 1 (He.ga K "_law_draw") (spDraw K) := by
  refine zfn T.d__law_draw sc__law_draw len2 (fun _ _ _ _ _ _ us hl => match us, hl with | [_, _], _ => rfl) (fun cdv A outer s H vs Q E hr h => ?_)
  obtain ⟨_, _, rfl, F, t, many, rfl, rfl, hs, ⟨ft, xs, ht, c, ns, i, b, r, rfl, hc, hi, hb, hr0, hr1⟩, hm0, hm1, k⟩ := h
  refine ⟨_, PSs.nox (pss_cons (ps_if (pt_cmpR op_gt (pe_ix ix_list (pv 0) pe_int (fun _ _ => rfl)) pe_int (nomark _))
    (pss_cons (ps_set (i := 2) sc__law_draw.nd rfl (by first | exact Or.inl rfl | exact Or.inr rfl) (pe_op op_mod (pe_ix ix_list (pv 0) pe_int (fun _ _ => rfl)) (pv 1)))
  (pss_cons (ps_asg (pe_op op_fdivW (pe_ix ix_list (pv 0) pe_int (fun _ _ => rfl)) (pv 1)) (pg_sub (pv 0) pe_int set_listZ))
  (pss_one (ps_ret (pv 2)))))
    pss_nil)
  (pss_cons (ps_set (i := 3) sc__law_draw.nd rfl (by first | exact Or.inl rfl | exact Or.inr rfl) pe_int)
  (zcut (ps_if (pt_cmpR op_lt (pe_ix ix_list (pv 0) pe_int (fun _ _ => rfl)) (pe_callB call_len_seq (by rfl) T.b_len (by decide +kernel) (pa_cons (pe_ix ix_list (pv 0) pe_int (fun _ _ => rfl)) pa_nil)) (nomark _))
    (pss_one (ps_set (i := 3) sc__law_draw.nd rfl (by first | exact Or.inl rfl | exact Or.inr rfl) (pe_ix ix_list (pe_ix ix_list (pv 0) pe_int (fun _ _ => rfl)) (pe_ix ix_list (pv 0) pe_int (fun _ _ => rfl)) (fun _ _ => rfl))))
    pss_nil)
  (pss_cons (ps_asg (pe_op op_add (pe_ix ix_list (pv 0) pe_int (fun _ _ => rfl)) pe_int) (pg_sub (pv 0) pe_int set_listZ))
  (pss_cons (ps_if (pt_cmpR op_ge (pv 3) (pe_op op_pow pe_int pe_int) (nomark _))
    (pss_cons (ps_asg (pe_op op_fdivW (pv 3) (pv 1)) (pg_sub (pv 0) pe_int set_listZ))
  (pss_one (ps_ret (pe_op op_mod (pv 3) (pv 1)))))
    pss_nil)
  (pss_cons (ps_set (i := 4) sc__law_draw.nd rfl (by first | exact Or.inl rfl | exact Or.inr rfl) (pe_op op_add (pe_op op_add (pe_op op_mod (pv 3) pe_int) (pe_op op_mul pe_int (pe_ix ix_list (pv 0) pe_int (fun _ _ => rfl)))) pe_int))
  (pss_cons (ps_asg (pe_op op_mod (pe_op op_add (pe_op op_mul (pe_ix ix_list (pv 0) pe_int (fun _ _ => rfl)) pe_int) (pv 4)) pe_int) (pg_sub (pv 0) pe_int set_listZ))
  (pss_one (ps_ret (pe_op op_mod (pe_op op_mod (pe_op op_pow (pe_ix ix_list (pv 0) pe_int (fun _ _ => rfl)) pe_int) pe_int) (pv 1))))))))))), ?_⟩
  have hT := SqL.of (K := K) ht
  walk_at "z"
  refine ite2 (fun hb0 => ?_) (fun hb0 => ?_)
  · walk_at "z"
    intro H1 e1
    obtain ⟨g1, q1⟩ := putM hs ft e1
    walk_at "z"
    have hb1 : (0 : Int) < b := of_decide_eq_true hb0
    exact k _ _ (Int.emod_nonneg _ (by omega)) (Int.emod_lt_of_pos _ hm0) g1 ⟨ft, _, q1, c, ns, i, b / many, r, rfl, hc, hi, Int.ediv_nonneg hb (by omega), hr0, hr1⟩
  · have hcH := sqL hs hc
    refine ⟨fun σ' H' => ∃ cell : Int, σ' = [some (.ref t), some (.int many), none, some (.int cell), none] ∧ H' = H, ?_, ?_⟩
    · walk_at "z"
      refine ite2 (fun hlt => ?_) (fun _ => ⟨0, rfl, rfl⟩)
      have hl : i < ((ns.map V.int).length : Int) := of_decide_eq_true hlt
      walk_at "z"
      obtain ⟨j, rfl⟩ := Int.eq_ofNat_of_zero_le hi
      have hj : j < ns.length := by simpa using hl
      refine ⟨_, _, _, _, rfl, rfl, hcH, atI_nat (by rw [List.getElem?_map, List.getElem?_eq_getElem hj]; rfl), _, rfl, rfl⟩
    · rintro σ' H' ⟨cell, rfl, rfl⟩
      walk_at "z"
      intro H1 e1
      obtain ⟨g1, q1⟩ := putM hs ft e1
      have hT1 : SqL K H1 t [V.ref c, V.int (i + 1), V.int b, V.int r] := SqL.of q1
      have hx1 : H1 t = some (.lst [V.ref c, V.int (i + 1), V.int b, V.int r]) := q1
      have hi1 : 0 ≤ i + 1 := by omega
      walk_at "z"
      refine ite2 (fun hge => ?_) (fun _ => ?_)
      · walk_at "z"
        intro H2 e2
        obtain ⟨g2, q2⟩ := putM g1.fh ft e2
        walk_at "z"
        have hc0 : (0 : Int) ≤ cell := by
          have := of_decide_eq_true hge
          have h3 : (10 : Int) ^ (Int.toNat 18) = 1000000000000000000 := by decide
          rw [h3] at this
          omega
        exact k _ _ (Int.emod_nonneg _ (by omega)) (Int.emod_lt_of_pos _ hm0) (g1.trans g2) ⟨ft, _, q2, c, ns, i + 1, cell / many, r, rfl, hc, hi1, Int.ediv_nonneg hc0 (by omega), hr0, hr1⟩
      · walk_at "z"
        intro H2 e2
        obtain ⟨g2, q2⟩ := putM g1.fh ft e2
        replace q2 : H2 t = some (.lst [V.ref c, V.int (i + 1), V.int b, V.int ((r * 48271 + (cell % 2147483647 + 7919 * (i + 1) + 11)) % 2147483647)]) := q2
        generalize hrr : (r * 48271 + (cell % 2147483647 + 7919 * (i + 1) + 11)) % 2147483647 = r2 at q2
        have hr2 : 0 ≤ r2 ∧ r2 < 2147483647 := by omega
        have hT2 : SqL K H2 t [V.ref c, V.int (i + 1), V.int b, V.int r2] := SqL.of q2
        walk_at "z"
        refine And.intro ⟨by decide, by decide, by have := hr2; omega⟩ ?_
        walk_at "z"
        exact k _ _ (Int.emod_nonneg _ (by omega)) (Int.emod_lt_of_pos _ hm0) (g1.trans g2) ⟨ft, _, q2, c, ns, i + 1, b, r2, rfl, hc, hi1, hb, hr2.1, hr2.2⟩
theorem ok__law_draw (T : Tx w K mg) : FnG P w K mg base (L2N.CX P w) 1 (He.ga K "_law_draw") (spP K rDraw) := draw_of (ok0__law_draw T)
end
end K02
namespace K02
open PySem PySem.Spec PyProof.Rows L2 Z Y
section
variable {P : Program} {w : World} {K : Frg} {mg : Str → Option Value} {base : Heap}
theorem ok__law_great (T : Tx w K mg) : FnG P w K mg base (L2N.CX P w) 3 (He.ga K "_law_great") (spP K R__law_great) := by
  refine y_fn T.d__law_great sc__law_great arl2 (fun _ _ _ _ _ _ us hl => match us, hl with | [_, _], _ => rfl) fun cdv A outer s H E B hB hr hx po => ⟨_, (s_cons (s_set (i := 2) sc__law_great.nd rfl (by first | exact Or.inl rfl | exact Or.inr rfl) (y_op op_addY addL (y_op op_mulY mulL (y_call (ok__law_draw T) (hr.mono (by decide)) rfl T.g__law_draw T.k__law_draw hx (a_cons (y_var (pv 0)) (a_cons (y_op op_pow powL y_int y_int) a_nil))) (y_op op_pow powL y_int y_int)) (y_op op_mulY mulL (y_call (ok__law_draw T) (hr.mono (by decide)) rfl T.g__law_draw T.k__law_draw hx (a_cons (y_var (pv 0)) (a_cons (y_op op_pow powL y_int y_int) a_nil))) (y_op op_pow powL y_int y_int))))
  (s_cons (s_set (i := 3) sc__law_great.nd rfl (by first | exact Or.inl rfl | exact Or.inr rfl) (y_ix (y_lst (a_cons (y_call (ok__law_draw T) (hr.mono (by decide)) rfl T.g__law_draw T.k__law_draw hx (a_cons (y_var (pv 0)) (a_cons y_int a_nil))) (a_cons (y_call (ok__law_draw T) (hr.mono (by decide)) rfl T.g__law_draw T.k__law_draw hx (a_cons (y_var (pv 0)) (a_cons y_int a_nil))) (a_cons (y_op op_mod modL (y_op op_addY addL (y_var (pv 2)) (y_call (ok__law_draw T) (hr.mono (by decide)) rfl T.g__law_draw T.k__law_draw hx (a_cons (y_var (pv 0)) (a_cons (y_op op_pow powL y_int y_int) a_nil)))) (y_var (pv 1))) a_nil)))) (y_call (ok__law_draw T) (hr.mono (by decide)) rfl T.g__law_draw T.k__law_draw hx (a_cons (y_var (pv 0)) (a_cons y_int a_nil))) (fun _ _ => rfl)))
  (s_one (s_ret (y_op op_mulY mulL (y_var (pv 3)) (y_ix (y_lst (a_cons y_int (a_cons (y_un un_neg negL y_int) a_nil))) (y_call (ok__law_draw T) (hr.mono (by decide)) rfl T.g__law_draw T.k__law_draw hx (a_cons (y_var (pv 0)) (a_cons y_int a_nil))) (fun _ _ => rfl))))))), fun ds Q h => ?_⟩
  obtain ⟨a0, a1, e0, hh⟩ := ar2E h
  clear h
  subst e0
  have h := hh
  clear hh
  try dsimp only at h
  rw [show startE (List.length N__law_great) [a0, a1] = [.val a0, .val a1, .no, .no] from rfl]
  split at h
  · rename_i n
    obtain ⟨⟨h60, sn⟩, h⟩ := h
    have pw : ∀ k : Int, 0 ≤ k → k ≤ 1000 → (0 ≤ k ∧ k ≤ 1000 ∧ (10 : Int).natAbs < 18446744073709551616) := fun k a b => ⟨a, b, by decide⟩
    have e9 : (10 : Int) ^ (Int.toNat 9) = 1000000000 := by decide
    have s9 : Sz 100 ((10 : Int) ^ (Int.toNat 9)) := sz_lit (by decide)
    have s18 : Sz 100 ((10 : Int) ^ (Int.toNat 18)) := sz_lit (by decide)
    refine ⟨pw _ (by decide) (by decide), ⟨by rw [e9]; decide, s9.mono (by decide)⟩, fun d1 l1 u1 => ?_⟩
    refine ⟨pw _ (by decide) (by decide), ⟨(sz_of (by omega) u1 s9).mono (by decide), s18.mono (by decide)⟩, ?_⟩
    refine ⟨pw _ (by decide) (by decide), ⟨by rw [e9]; decide, s9.mono (by decide)⟩, fun d2 l2 u2 => ?_⟩
    refine ⟨pw _ (by decide) (by decide), ⟨(sz_of (by omega) u2 s9).mono (by decide), s9.mono (by decide)⟩, ?_⟩
    refine ⟨⟨by decide, szP (by decide) (by decide)⟩, fun d3 l3 u3 => ⟨⟨by decide, szP (by decide) (by decide)⟩, fun d4 l4 u4 => ?_⟩⟩
    refine ⟨pw _ (by decide) (by decide), ⟨by rw [e9]; decide, s9.mono (by decide)⟩, fun d5 l5 u5 => ⟨by omega, leN rfl, ?_⟩⟩
    generalize hv : (d1 * (10 : Int) ^ (Int.toNat 18) + d2 * (10 : Int) ^ (Int.toNat 9) + d5) % n = v
    have hv2 : 0 ≤ v ∧ v < n := by rw [← hv]; exact ⟨Int.emod_nonneg _ (by omega), Int.emod_lt_of_pos _ (by omega)⟩
    refine ⟨⟨by decide, szP (by decide) (by decide)⟩, fun d6 l6 u6 => ?_⟩
    obtain ⟨x, ex, mx⟩ := atI_D (ds := [D.int d3, D.int d4, D.int v]) l6 u6
    have hx : ∃ u : Int, x = .int u ∧ 0 ≤ u ∧ u < n := by
      simp only [List.mem_cons, List.not_mem_nil, or_false] at mx
      rcases mx with rfl | rfl | rfl
      · exact ⟨_, rfl, l3, by omega⟩
      · exact ⟨_, rfl, l4, by omega⟩
      · exact ⟨_, rfl, hv2.1, hv2.2⟩
    obtain ⟨u, rfl, u0, u1⟩ := hx
    refine dIx_l ex ⟨leN rfl, ⟨by decide, szP (by decide) (by decide)⟩, fun d7 l7 u7 => ?_⟩
    obtain ⟨y, ey, my⟩ := atI_D (ds := [D.int 1, D.int (-1)]) l7 u7
    have su : Sz 5000 u := (sz_le u0 (Int.le_of_lt u1) sn).mono (by decide)
    simp only [List.mem_cons, List.not_mem_nil, or_false] at my
    rcases my with rfl | rfl
    · exact dIx_l ey ⟨⟨su, szP (by decide) (by decide)⟩, h _ (by omega) (by omega)⟩
    · exact dIx_l ey ⟨⟨su, szP (by decide) (by decide)⟩, h _ (by omega) (by omega)⟩
  · exact h.elim
end
end K02
namespace K02
open PySem PySem.Spec PyProof.Rows L2 Z Y
section
variable {P : Program} {w : World} {K : Frg} {mg : Str → Option Value} {base : Heap}
theorem ok__law_place (T : Tx w K mg) : FnG P w K mg base (L2N.CX P w) 5 (He.ga K "_law_place") (spP K R__law_place) := by
  refine y_fn T.d__law_place sc__law_place arl1 (fun _ _ _ _ _ _ us hl => match us, hl with | [_], _ => rfl) fun cdv A outer s H E B hB hr hx po => ⟨_, (s_one (s_ret (y_tup (a_cons (y_call (ok__law_great T) (hr.mono (by decide)) rfl T.g__law_great T.k__law_great hx (a_cons (y_var (pv 0)) (a_cons (y_op op_pow powL y_int y_int) a_nil))) (a_cons (y_call (ok__law_great T) (hr.mono (by decide)) rfl T.g__law_great T.k__law_great hx (a_cons (y_var (pv 0)) (a_cons (y_op op_pow powL y_int y_int) a_nil))) a_nil))))), fun ds Q h => ?_⟩
  obtain ⟨a0, e0, hh⟩ := ar1E h
  clear h
  subst e0
  have h := hh
  clear hh
  try dsimp only at h
  rw [show startE (List.length N__law_place) [a0] = [.val a0] from rfl]
  split at h
  · have s : Sz 100 ((10 : Int) ^ (Int.toNat 26)) := sz_lit (by decide)
    have g : 60 ≤ (10 : Int) ^ (Int.toNat 26) := by decide
    refine ⟨⟨by decide, by decide, by decide⟩, ⟨g, s.mono (by decide)⟩, fun d1 l1 u1 => ⟨⟨by decide, by decide, by decide⟩, ⟨g, s.mono (by decide)⟩, fun d2 l2 u2 => ⟨leN rfl, h _ _ (sz_of l1 u1 s) (sz_of l2 u2 s)⟩⟩⟩
  · exact h.elim
end
end K02
namespace K02
open PySem PySem.Spec PyProof.Rows L2 Z Y
section
variable {P : Program} {w : World} {K : Frg} {mg : Str → Option Value} {base : Heap}
theorem ok__law_net (T : Tx w K mg) : FnG P w K mg base (L2N.CX P w) 3 (He.ga K "_law_net") (spP K R__law_net) := by
  refine y_fn T.d__law_net sc__law_net arl2 (fun _ _ _ _ _ _ us hl => match us, hl with | [_, _], _ => rfl) fun cdv A outer s H E B hB hr hx po => ⟨_, (s_cons (s_set (i := 2) sc__law_net.nd rfl (by first | exact Or.inl rfl | exact Or.inr rfl) (y_op op_addY addL y_int (y_call (ok__law_draw T) (hr.mono (by decide)) rfl T.g__law_draw T.k__law_draw hx (a_cons (y_var (pv 0)) (a_cons (y_var (pv 1)) a_nil)))))
  (s_one (s_ret (y_tup (a_cons (y_var (pv 2)) (a_cons (y_call (ok__law_draw T) (hr.mono (by decide)) rfl T.g__law_draw T.k__law_draw hx (a_cons (y_var (pv 0)) (a_cons (y_var (pv 2)) a_nil))) (a_cons (y_op op_addY addL y_int (y_call (ok__law_draw T) (hr.mono (by decide)) rfl T.g__law_draw T.k__law_draw hx (a_cons (y_var (pv 0)) (a_cons (y_op op_fdivW divL (y_var (pv 1)) (y_var (pv 2))) a_nil)))) a_nil))))))), fun ds Q h => ?_⟩
  obtain ⟨a0, a1, e0, hh⟩ := ar2E h
  clear h
  subst e0
  have h := hh
  clear hh
  try dsimp only at h
  rw [show startE (List.length N__law_net) [a0, a1] = [.val a0, .val a1, .no] from rfl]
  split at h
  · rename_i n
    obtain ⟨⟨n0, sn⟩, h⟩ := h
    refine ⟨⟨n0, sn.mono (by decide)⟩, fun d1 l1 u1 => ?_⟩
    have z1 : Sz 1000 (1 + d1) := sz_le (by omega) (by omega) sn
    refine ⟨⟨by omega, z1.mono (by decide)⟩, fun d2 l2 u2 => ⟨⟨by omega, z1.mono (by decide)⟩, ?_⟩⟩
    have hq : 0 < n / (1 + d1) := Int.lt_of_lt_of_le (by decide) (Int.le_ediv_of_mul_le (a := 1) (by omega) (by omega))
    refine ⟨⟨hq, (sz_div _ sn).mono (by decide)⟩, fun d3 l3 u3 => ⟨leN rfl, h _ _ _ ⟨by omega, l2, u2⟩ ?_⟩⟩
    have h1 : (1 + d1) * (1 + d3) ≤ (1 + d1) * (n / (1 + d1)) := Int.mul_le_mul_of_nonneg_left (by omega) (by omega)
    have h2 := Int.mul_ediv_self_le (x := n) (k := 1 + d1) (by omega)
    omega
  · exact h.elim
end
end K02
namespace K02
open PySem PySem.Spec PyProof.Rows L2 Z Y
section
variable {P : Program} {w : World} {K : Frg} {mg : Str → Option Value} {base : Heap}
theorem ok__law_heard (T : Tx w K mg) {fa : Addr} {ms : List Addr} {Fm : Hp} {Rc : RdF} (C : CloAt P w K mg base 40 fa ms Fm Rc) : FnG P w K mg base (L2N.CX P w) 41 (He.ga K "_law_heard") (spX K ms Fm (R_heard02 fa Rc)) := by
  refine y_fnV T.d__law_heard sc__law_heard arl1 (fun _ _ _ _ _ _ us hl => match us, hl with | [_], _ => rfl) fun cdv A outer s H E B hms hFm hB hr hx po tk => ⟨_, (s_cons (s_tryE hB rfl rfl sc__law_heard.nd rfl tk (fun pn_ xe_ => (x_callV (y_var (pv 0)) C hms hFm (hr.mono (by decide))))
    (.cons (i := 1) ⟨rfl, by decide, .inl T.g_InvalidNet⟩ rfl rfl (fun a_ pn_ => (s_one (s_ret (y_lst (a_cons y_str (a_cons (y_callB (call_reprN T.sy hr.units hr.gd) reprNL (by rfl) T.b_repr (by decide +kernel) (a_cons (y_xf (cs := ["InvalidNet"]) (i := 1) (pv 1) (all1 ⟨T.xc_InvalidNet.xf, T.xc_InvalidNet.noN⟩)) a_nil)) (a_cons (y_isx (K := K) (i := 1) (C := "CarpetError") (pv 1) rfl T.g_CarpetError (by rfl) T.b_isinstance) a_nil))))))) (.cons (i := 1) ⟨rfl, by decide, .inl T.g_InvalidPlace⟩ rfl rfl (fun a_ pn_ => (s_one (s_ret (y_lst (a_cons y_str (a_cons (y_callB (call_reprN T.sy hr.units hr.gd) reprNL (by rfl) T.b_repr (by decide +kernel) (a_cons (y_xf (cs := ["InvalidPlace"]) (i := 1) (pv 1) (all1 ⟨T.xc_InvalidPlace.xf, T.xc_InvalidPlace.noN⟩)) a_nil)) (a_cons (y_isx (K := K) (i := 1) (C := "CarpetError") (pv 1) rfl T.g_CarpetError (by rfl) T.b_isinstance) a_nil))))))) (.cons (i := 1) ⟨rfl, by decide, .inl T.g_InvalidNumber⟩ rfl rfl (fun a_ pn_ => (s_one (s_ret (y_lst (a_cons y_str (a_cons (y_callB (call_reprN T.sy hr.units hr.gd) reprNL (by rfl) T.b_repr (by decide +kernel) (a_cons (y_xf (cs := ["InvalidNumber"]) (i := 1) (pv 1) (all1 ⟨T.xc_InvalidNumber.xf, T.xc_InvalidNumber.noN⟩)) a_nil)) (a_cons (y_isx (K := K) (i := 1) (C := "CarpetError") (pv 1) rfl T.g_CarpetError (by rfl) T.b_isinstance) a_nil))))))) (.cons (i := 1) ⟨rfl, by decide, .inl T.g_LimitExceeded⟩ rfl rfl (fun a_ pn_ => (s_one (s_ret (y_lst (a_cons y_str (a_cons (y_xf (cs := ["LimitExceeded"]) (i := 1) (pv 1) (all1 ⟨T.xc_LimitExceeded.xf, T.xc_LimitExceeded.noN⟩)) (a_cons (y_isx (K := K) (i := 1) (C := "CarpetError") (pv 1) rfl T.g_CarpetError (by rfl) T.b_isinstance) a_nil))))))) .nil)))))
  (s_one (s_ret y_str))), fun ds Q h => ?_⟩
  obtain ⟨a0, e0, hh⟩ := ar1E h
  clear h
  subst e0
  have h := hh
  clear hh
  try dsimp only at h
  rw [show startE (List.length N__law_heard) [a0] = [.val a0, .no] from rfl]
  obtain ⟨rfl, h⟩ := h
  refine ⟨rfl, _, _, h, fun d z => z, ?_⟩
  rintro x (⟨d, hs, ⟨rfl, hq⟩ | ⟨rfl, hq⟩ | ⟨rfl, hq⟩⟩ | ⟨n, rfl, hq⟩)
  · refine ⟨true, ⟨_, rfl, T.ext_InvalidNet_InvalidNet⟩, ifB_T rfl ?_⟩
    exact ⟨⟨_, .head _, rfl⟩, rfl, hs, "InvalidNet", true, ⟨rfl, fun z => nomatch z⟩, T.ec_InvalidNet, T.kt_InvalidNet_CarpetError, leN rfl, hq⟩
  · refine ⟨false, ⟨_, rfl, T.exf_InvalidPlace_InvalidNet⟩, ifB_F rfl ⟨true, ⟨_, rfl, T.ext_InvalidPlace_InvalidPlace⟩, ifB_T rfl ?_⟩⟩
    exact ⟨⟨_, .head _, rfl⟩, rfl, hs, "InvalidPlace", true, ⟨rfl, fun z => nomatch z⟩, T.ec_InvalidPlace, T.kt_InvalidPlace_CarpetError, leN rfl, hq⟩
  · refine ⟨false, ⟨_, rfl, T.exf_InvalidNumber_InvalidNet⟩, ifB_F rfl ⟨false, ⟨_, rfl, T.exf_InvalidNumber_InvalidPlace⟩, ifB_F rfl ⟨true, ⟨_, rfl, T.ext_InvalidNumber_InvalidNumber⟩, ifB_T rfl ?_⟩⟩⟩
    exact ⟨⟨_, .head _, rfl⟩, rfl, hs, "InvalidNumber", true, ⟨rfl, fun z => nomatch z⟩, T.ec_InvalidNumber, T.kt_InvalidNumber_CarpetError, leN rfl, hq⟩
  · refine ⟨false, ⟨_, rfl, T.exf_LimitExceeded_InvalidNet⟩, ifB_F rfl ⟨false, ⟨_, rfl, T.exf_LimitExceeded_InvalidPlace⟩, ifB_F rfl ⟨false, ⟨_, rfl, T.exf_LimitExceeded_InvalidNumber⟩, ifB_F rfl ⟨true, ⟨_, rfl, T.ext_LimitExceeded_LimitExceeded⟩, ifB_T rfl ?_⟩⟩⟩⟩
    exact ⟨⟨_, .head _, rfl⟩, rfl, "LimitExceeded", false, ⟨rfl, fun z => nomatch z⟩, T.ec_LimitExceeded, T.kf_LimitExceeded_CarpetError, leN rfl, hq⟩
end
end K02
namespace K02
open PySem PySem.Spec PyProof.Rows L2 Z Y
section
variable {P : Program} {w : World} {K : Frg} {mg : Str → Option Value} {base : Heap}
theorem ok__law_is_whole (T : Tx w K mg) : FnG P w K mg base (L2N.CX P w) 1 (He.ga K "_law_is_whole") (spP K R__law_is_whole) := by
  refine y_fn T.d__law_is_whole sc__law_is_whole arl1 (fun _ _ _ _ _ _ us hl => match us, hl with | [_], _ => rfl) fun cdv A outer s H E B hB hr hx po => ⟨_, (s_one (s_ret (y_and (y_callB call_isi (isBL (cs := []) (T := "int") (by decide) all0) (by rfl) T.b_isinstance (by decide +kernel) (a_cons (y_var (pv 0)) (a_cons (y_ty (n := "int") rfl T.b_int (by decide +kernel)) a_nil))) (y_one (y_not (y_callB call_isi (isBL (cs := []) (T := "bool") (by decide) all0) (by rfl) T.b_isinstance (by decide +kernel) (a_cons (y_var (pv 0)) (a_cons (y_ty (n := "bool") rfl T.b_bool (by decide +kernel)) a_nil)))))))), fun ds Q h => ?_⟩
  obtain ⟨a0, e0, hh⟩ := ar1E h
  clear h
  subst e0
  have h := hh
  clear hh
  try dsimp only at h
  rw [show startE (List.length N__law_is_whole) [a0] = [.val a0] from rfl]
  obtain ⟨hk, h⟩ := h
  cases a0 with
  | int i => exact ⟨rfl, ifB_T rfl ⟨rfl, h⟩⟩
  | bl b => exact ⟨rfl, ifB_T rfl ⟨rfl, h⟩⟩
  | obj _ _ _ => exact hk.elim
  | ty _ => exact hk.elim
  | glob _ => exact hk.elim
  | tape => exact hk.elim
  | fn _ => exact hk.elim
  | dpl _ _ => exact hk.elim
  | _ => exact ⟨rfl, ifB_F rfl h⟩
end
end K02
namespace K02
open PySem PySem.Spec PyProof.Rows L2 Z Y
section
variable {P : Program} {w : World} {K : Frg} {mg : Str → Option Value} {base : Heap}
theorem ok__law_is_triple (T : Tx w K mg) : FnG P w K mg base (L2N.CX P w) 3 (He.ga K "_law_is_triple") (spP K R__law_is_triple) := by
  refine y_fn T.d__law_is_triple sc__law_is_triple arl3 (fun _ _ _ _ _ _ us hl => match us, hl with | [_, _, _], _ => rfl) fun cdv A outer s H E B hB hr hx po => ⟨_, (s_cons (s_if (z_pt (z_or (z_not (z_val (y_call (ok__law_is_whole T) (hr.mono (by decide)) rfl T.g__law_is_whole T.k__law_is_whole hx (a_cons (y_var (pv 0)) a_nil)))) (z_or (z_not (z_val (y_call (ok__law_is_whole T) (hr.mono (by decide)) rfl T.g__law_is_whole T.k__law_is_whole hx (a_cons (y_var (pv 1)) a_nil)))) (z_or1 (z_not (z_val (y_call (ok__law_is_whole T) (hr.mono (by decide)) rfl T.g__law_is_whole T.k__law_is_whole hx (a_cons (y_var (pv 2)) a_nil))))))))
    (s_one (s_ret y_bl))
    s_nil)
  (s_one (s_ret (y_and (y_cmp op_ge cmpL (y_var (pv 0)) y_int (nomark _)) (y_and (y_cmp op_ge cmpL (y_var (pv 2)) y_int (nomark _)) (y_and (y_cmp op_le cmpL y_int (y_var (pv 1)) (nomark _)) (y_one (y_cmp op_lt cmpL (y_var (pv 1)) (y_var (pv 0)) (nomark _))))))))), fun ds Q h => ?_⟩
  obtain ⟨a0, a1, a2, e0, hh⟩ := ar3E h
  clear h
  subst e0
  have h := hh
  clear hh
  try dsimp only at h
  rw [show startE (List.length N__law_is_triple) [a0, a1, a2] = [.val a0, .val a1, .val a2] from rfl]
  obtain ⟨⟨kx, ky, kz⟩, h⟩ := h
  rcases tri_cases a0 a1 a2 with ⟨a, b, c, rfl, rfl, rfl⟩ | ⟨e1, e2⟩
  · refine ⟨trivial, ifB_F rfl ⟨trivial, ifB_F rfl ⟨trivial, ifB_F rfl ?_⟩⟩⟩
    have tr : ∀ v : Bool, tri (.int a) (.int b) (.int c) = v → Q (.bl v) := fun v e => e ▸ h
    refine ifB_d (fun h1 => ifB_d (fun h2 => ifB_d (fun h3 => ?_) fun h3 => ?_) fun h2 => ?_) fun h1 => ?_
    · refine tr (decide (b < a)) ?_
      simp [tri, h2, h3]
    · refine tr false ?_
      simp [tri]; omega
    · refine tr false ?_
      simp [tri]; omega
    · refine tr false ?_
      simp [tri]; omega
  · rw [e2] at h
    cases ex : isIntD a0 with
    | false => exact ⟨kx, ifB_T (by rw [ex]; rfl) (ifB_T rfl h)⟩
    | true =>
      refine ⟨kx, ifB_F (by rw [ex]; rfl) ?_⟩
      cases ey : isIntD a1 with
      | false => exact ⟨ky, ifB_T (by rw [ey]; rfl) (ifB_T rfl h)⟩
      | true =>
        refine ⟨ky, ifB_F (by rw [ey]; rfl) ⟨kz, ifB_T ?_ h⟩⟩
        rw [ex, ey] at e1
        rw [show isIntD a2 = false from e1]
        rfl
end
end K02
namespace K02
open PySem PySem.Spec PyProof.Rows L2 Z Y
section
variable {P : Program} {w : World} {K : Frg} {mg : Str → Option Value} {base : Heap}
theorem ok__law_triples_right (T : Tx w K mg) : FnG P w K mg base (L2N.CX P w) 43 (He.ga K "_law_triples_right") (spP K R__law_triples_right) := by
  refine y_fnC T.d__law_triples_right sc__law_triples_right arl1 (fun _ _ _ _ _ _ us hl => match us, hl with | [_], _ => rfl) fun cdv ecd A outer s H E B hB hr hx po tk => ⟨_, (s_cons (s_set (i := 1) sc__law_triples_right.nd rfl (by first | exact Or.inl rfl | exact Or.inr rfl) (y_lst (a_cons y_non (a_cons y_bl (a_cons y_bl (a_cons y_str (a_cons (y_tup (a_cons y_int a_nil)) (a_cons (y_lst (a_cons y_int a_nil)) (a_cons y_dic0 (a_cons (y_un un_neg negL y_int) (a_cons y_int (a_cons y_int (a_cons y_int (a_cons y_int (a_cons (y_op op_pow powL y_int y_int) a_nil)))))))))))))))
  (s_cons (s_for (t := .nm 2) po rfl (i_rng1 (by rfl) T.b_range (a_cons y_int a_nil)) (g_nm (pg_name (i := 2) sc__law_triples_right.nd rfl (by first | exact Or.inl rfl | exact Or.inr rfl)))
    (s_cons (s_asg (t := .tp [3, 4, 5]) (y_lc (own := [("_law_k", 7)]) (t := .nm 7) rfl sc__law_triples_right.nd (i_rng1 (by rfl) T.b_range (a_cons y_int a_nil)) (blkOk_by (own := [("_law_k", 7)]) (N := N__law_triples_right) (sc := defScope s__law_triples_right) (by decide +kernel)) (fun _ _ _ _ _ => (g_nm (pg_name (i := 7) sc__law_triples_right.nd rfl (by first | exact Or.inl rfl | exact Or.inr rfl)))) (fun _ _ _ _ _ => c_nil) (fun _ _ _ _ _ => (y_ix (y_var (pv 1)) (y_call (ok__law_draw T) (hr.mono (by decide)) rfl T.g__law_draw T.k__law_draw px_nox (a_cons (y_var (pv 0)) (a_cons y_int a_nil))) (fun _ _ => rfl)))) (g_tp (is := [3, 4, 5]) rfl (pgs_cons (pg_name (i := 3) sc__law_triples_right.nd rfl (by first | exact Or.inl rfl | exact Or.inr rfl)) (pgs_cons (pg_name (i := 4) sc__law_triples_right.nd rfl (by first | exact Or.inl rfl | exact Or.inr rfl)) (pgs_cons (pg_name (i := 5) sc__law_triples_right.nd rfl (by first | exact Or.inl rfl | exact Or.inr rfl)) pgs_nil)))))
  (s_cons (s_set (i := 6) sc__law_triples_right.nd rfl (by first | exact Or.inl rfl | exact Or.inr rfl) (y_if (z_val (y_call (ok__law_is_triple T) (hr.mono (by decide)) rfl T.g__law_is_triple T.k__law_is_triple hx (a_cons (y_var (pv 3)) (a_cons (y_var (pv 4)) (a_cons (y_var (pv 5)) a_nil))))) y_str (y_lst (a_cons y_str (a_cons (y_callB (call_reprN T.sy hr.units hr.gd) reprNL (by rfl) T.b_repr (by decide +kernel) (a_cons (y_tup (a_cons (y_var (pv 3)) (a_cons (y_var (pv 4)) (a_cons (y_var (pv 5)) a_nil)))) a_nil)) (a_cons y_bl a_nil))))))
  (s_one (s_if (z_cmp (op_neY hr.units) neL (y_lam0 (x := "_law_triples_right") (N := ["_law_a", "_law_b", "_law_c"]) (ps := []) (fr := ["_law_a", "_law_b", "_law_c"]) (js := [3, 4, 5]) (kc := 39) (fun _ _ _ _ C => ok__law_heard T C) (hr.mono (by decide)) rfl T.g__law_heard T.k__law_heard hx T.lf__law_triples_right ecd (lamT_by (NX := N__law_triples_right) (sc := defScope s__law_triples_right) (by decide +kernel) rfl rfl (fun _ _ _ _ us hl => match us, hl with | [], _ => rfl) rfl (fun _ => rfl)) (fun b2_ cl_ c_ f_ A_ outer_ s_ H_ E_ B hr hx => (y_make T.mk_Net (ok_Net_UinitU T) (hr.mono (by decide)) rfl T.g_Net hx (a_cons (y_var (pv 0)) (a_cons (y_var (pv 1)) (a_cons (y_var (pv 2)) a_nil)))))) (y_var (pv 6)) (nomark _))
    (s_one (s_ret y_bl))
    s_nil)))))
  (s_one (s_ret y_bl)))), fun ds Q h => ?_⟩
  obtain ⟨a0, e0, hh⟩ := ar1E h
  clear h
  subst e0
  have h := hh
  clear hh
  try dsimp only at h
  rw [show startE (List.length N__law_triples_right) [a0] = [.val a0, .no, .no, .no, .no, .no, .no, .no] from rfl]
  obtain ⟨rfl, h⟩ := h
  refine ⟨leN rfl, leN rfl, ⟨by decide, by decide, by decide⟩, leN rfl, ?_⟩
  refine ⟨by decide, by decide, fun i ρ => ∃ o2 o3 o4 o5 o6, ρ = [.val .tape, .val (.lst odds02), o2, o3, o4, o5, o6, .no], ⟨_, _, _, _, _, rfl⟩, ?_, ?_⟩
  · rintro i d ρ hd ⟨o2, o3, o4, o5, o6, rfl⟩
    refine ⟨by decide, by decide, leN rfl, fun j acc => acc.length = j ∧ ∀ x ∈ acc, x ∈ odds02, ⟨rfl, fun _ z => nomatch z⟩, ?_, ?_⟩
    · rintro j d acc hd ⟨hl, hm⟩
      refine ifB_T rfl ⟨⟨by decide, szP (by decide) (by decide)⟩, fun e e0 e1 => ?_⟩
      obtain ⟨x, ex, hx⟩ := atI_D (ds := odds02) (k := e) e0 (by exact e1)
      refine dIx_l ex ⟨by rw [List.length_append, hl]; rfl, fun y hy => ?_⟩
      rcases List.mem_append.mp hy with z | z
      · exact hm y z
      · rw [List.mem_singleton.mp z]; exact hx
    · rintro out ⟨hl, hm⟩
      have hl3 : out.length = 3 := hl
      match out, hl3, hm with
      | [x, y, z], _, hm =>
        have ox := odds02_ok x (hm x (by simp))
        have oy := odds02_ok y (hm y (by simp))
        have oz := odds02_ok z (hm z (by simp))
        obtain ⟨sh, so⟩ := tup3_sh ox oy oz
        refine ⟨⟨ox.1, oy.1, oz.1⟩, ?_⟩
        cases e : tri x y z with
        | true =>
          refine ifB_T rfl ?_
          refine fun fa => ⟨rfl, rfl, fun F0 H0 => ⟨⟨ox.1, oy.1, oz.1⟩, fun _ => ifB_F rfl ⟨_, _, _, _, _, rfl⟩, fun z => Bool.noConfusion (e.symm.trans z)⟩⟩
        | false =>
          refine ifB_F rfl ⟨leN rfl, sh, leN rfl, ?_⟩
          refine fun fa => ⟨rfl, rfl, fun F0 H0 => ⟨⟨ox.1, oy.1, oz.1⟩, (fun z => Bool.noConfusion (e.symm.trans z)), fun _ => .inl ⟨.tup [x, y, z], sh, .inl ⟨rfl, ?_⟩⟩⟩⟩
          exact v_ (d := .lst [.str "net", .str (shM (.tup [x, y, z])), .bl true]) rfl (ne_three (by decide +kernel) so (ifB_F rfl ⟨_, _, _, _, _, rfl⟩))
  · rintro ρ ⟨o2, o3, o4, o5, o6, rfl⟩
    exact h
end
end K02
namespace K02
open PySem PySem.Spec PyProof.Rows L2 Z Y
section
variable {P : Program} {w : World} {K : Frg} {mg : Str → Option Value} {base : Heap}
theorem ok__law_shifts_right (T : Tx w K mg) : FnG P w K mg base (L2N.CX P w) 43 (He.ga K "_law_shifts_right") (spP K R__law_shifts_right) := by
  refine y_fnC T.d__law_shifts_right sc__law_shifts_right arl1 (fun _ _ _ _ _ _ us hl => match us, hl with | [_], _ => rfl) fun cdv ecd A outer s H E B hB hr hx po tk => ⟨_, (s_cons (s_asg (t := .tp [1, 2]) (y_tup (a_cons (y_call (ok__law_place T) (hr.mono (by decide)) rfl T.g__law_place T.k__law_place hx (a_cons (y_var (pv 0)) a_nil)) (a_cons (y_call (ok__law_great T) (hr.mono (by decide)) rfl T.g__law_great T.k__law_great hx (a_cons (y_var (pv 0)) (a_cons (y_op op_pow powL y_int y_int) a_nil))) a_nil))) (g_tp (is := [1, 2]) rfl (pgs_cons (pg_name (i := 1) sc__law_shifts_right.nd rfl (by first | exact Or.inl rfl | exact Or.inr rfl)) (pgs_cons (pg_name (i := 2) sc__law_shifts_right.nd rfl (by first | exact Or.inl rfl | exact Or.inr rfl)) pgs_nil))))
  (s_cons (s_set (i := 3) sc__law_shifts_right.nd rfl (by first | exact Or.inl rfl | exact Or.inr rfl) (y_tup (a_cons (y_op op_mulY mulL (y_ix (y_var (pv 1)) y_int (fun _ _ => rfl)) (y_var (pv 2))) (a_cons (y_op op_mulY mulL (y_ix (y_var (pv 1)) y_int (fun _ _ => rfl)) (y_var (pv 2))) a_nil))))
  (s_cons (s_if (z_cmp (op_neY hr.units) neL (y_lam0 (x := "_law_shifts_right") (N := []) (ps := []) (fr := []) (js := []) (kc := 39) (fun _ _ _ _ C => ok__law_heard T C) (hr.mono (by decide)) rfl T.g__law_heard T.k__law_heard hx T.lf__law_shifts_right ecd (lamT_by (NX := N__law_shifts_right) (sc := defScope s__law_shifts_right) (by decide +kernel) rfl rfl (fun _ _ _ _ us hl => match us, hl with | [], _ => rfl) rfl (fun _ => rfl)) (fun b2_ cl_ c_ f_ A_ outer_ s_ H_ E_ B hr hx => (y_smeth0 rfl T.g_Net T.sm_Net_of (ok_Net_of T) (hr.mono (by decide)) hx))) (y_lst (a_cons y_str (a_cons y_str (a_cons y_bl a_nil)))) (nomark _))
    (s_one (s_ret y_bl))
    s_nil)
  (s_cons (s_if (z_cmp (op_neY hr.units) neL (y_lam0 (x := "_law_shifts_right") (N := ["_law_one"]) (ps := []) (fr := ["_law_one"]) (js := [1]) (kc := 39) (fun _ _ _ _ C => ok__law_heard T C) (hr.mono (by decide)) rfl T.g__law_heard T.k__law_heard hx T.lf__law_shifts_right ecd (lamT_by (NX := N__law_shifts_right) (sc := defScope s__law_shifts_right) (by decide +kernel) rfl rfl (fun _ _ _ _ us hl => match us, hl with | [], _ => rfl) rfl (fun _ => rfl)) (fun b2_ cl_ c_ f_ A_ outer_ s_ H_ E_ B hr hx => (y_smeth rfl T.g_Net T.sm_Net_of (ok_Net_of T) (hr.mono (by decide)) hx (a_cons (y_var (pv 0)) a_nil)))) (y_lst (a_cons y_str (a_cons (y_callB (call_reprN T.sy hr.units hr.gd) reprNL (by rfl) T.b_repr (by decide +kernel) (a_cons (y_tup (a_cons (y_var (pv 1)) a_nil)) a_nil)) (a_cons y_bl a_nil)))) (nomark _))
    (s_one (s_ret y_bl))
    s_nil)
  (s_cons (s_if (z_cmp (op_neY hr.units) neL (y_lam0 (x := "_law_shifts_right") (N := ["_law_one", "_law_more"]) (ps := []) (fr := ["_law_one", "_law_more"]) (js := [1, 3]) (kc := 39) (fun _ _ _ _ C => ok__law_heard T C) (hr.mono (by decide)) rfl T.g__law_heard T.k__law_heard hx T.lf__law_shifts_right ecd (lamT_by (NX := N__law_shifts_right) (sc := defScope s__law_shifts_right) (by decide +kernel) rfl rfl (fun _ _ _ _ us hl => match us, hl with | [], _ => rfl) rfl (fun _ => rfl)) (fun b2_ cl_ c_ f_ A_ outer_ s_ H_ E_ B hr hx => (y_smeth rfl T.g_Net T.sm_Net_of (ok_Net_of T) (hr.mono (by decide)) hx (a_cons (y_var (pv 0)) (a_cons (y_var (pv 1)) (a_cons (y_tup (a_cons y_int (a_cons y_int a_nil))) a_nil)))))) (y_lst (a_cons y_str (a_cons (y_callB (call_reprN T.sy hr.units hr.gd) reprNL (by rfl) T.b_repr (by decide +kernel) (a_cons (y_tup (a_cons (y_var (pv 1)) (a_cons (y_var (pv 3)) (a_cons (y_tup (a_cons y_int (a_cons y_int a_nil))) a_nil)))) a_nil)) (a_cons y_bl a_nil)))) (nomark _))
    (s_one (s_ret y_bl))
    s_nil)
  (s_cons (s_for (t := .nm 4) po rfl (i_lst (y_lst (a_cons y_non (a_cons y_int (a_cons (y_tup (a_cons y_int a_nil)) (a_cons (y_tup (a_cons y_int (a_cons y_int (a_cons y_int a_nil)))) (a_cons (y_lst (a_cons y_int (a_cons y_int a_nil))) (a_cons (y_tup (a_cons y_bl (a_cons y_int a_nil))) (a_cons (y_tup (a_cons y_int (a_cons y_str a_nil))) (a_cons y_str a_nil)))))))))) (g_nm (pg_name (i := 4) sc__law_shifts_right.nd rfl (by first | exact Or.inl rfl | exact Or.inr rfl)))
    (s_cons (s_if (z_cmp (op_neY hr.units) neL (y_lam0 (x := "_law_shifts_right") (N := ["_law_odd"]) (ps := []) (fr := ["_law_odd"]) (js := [4]) (kc := 39) (fun _ _ _ _ C => ok__law_heard T C) (hr.mono (by decide)) rfl T.g__law_heard T.k__law_heard hx T.lf__law_shifts_right ecd (lamT_by (NX := N__law_shifts_right) (sc := defScope s__law_shifts_right) (by decide +kernel) rfl rfl (fun _ _ _ _ us hl => match us, hl with | [], _ => rfl) rfl (fun _ => rfl)) (fun b2_ cl_ c_ f_ A_ outer_ s_ H_ E_ B hr hx => (y_smeth rfl T.g_Net T.sm_Net_of (ok_Net_of T) (hr.mono (by decide)) hx (a_cons (y_tup (a_cons y_int (a_cons y_int a_nil))) (a_cons (y_tup (a_cons y_int (a_cons y_int a_nil))) (a_cons (y_var (pv 0)) (a_cons y_non a_nil))))))) (y_lst (a_cons y_str (a_cons (y_callB (call_reprN T.sy hr.units hr.gd) reprNL (by rfl) T.b_repr (by decide +kernel) (a_cons (y_var (pv 4)) a_nil)) (a_cons y_bl a_nil)))) (nomark _))
    (s_one (s_ret y_bl))
    s_nil)
  (s_one (s_if (z_cmp (op_neY hr.units) neL (y_lam0 (x := "_law_shifts_right") (N := ["_law_odd"]) (ps := []) (fr := ["_law_odd"]) (js := [4]) (kc := 39) (fun _ _ _ _ C => ok__law_heard T C) (hr.mono (by decide)) rfl T.g__law_heard T.k__law_heard hx T.lf__law_shifts_right ecd (lamT_by (NX := N__law_shifts_right) (sc := defScope s__law_shifts_right) (by decide +kernel) rfl rfl (fun _ _ _ _ us hl => match us, hl with | [], _ => rfl) rfl (fun _ => rfl)) (fun b2_ cl_ c_ f_ A_ outer_ s_ H_ E_ B hr hx => (y_smeth rfl T.g_Net T.sm_Net_of (ok_Net_of T) (hr.mono (by decide)) hx (a_cons (y_var (pv 0)) a_nil)))) (y_lst (a_cons y_str (a_cons (y_callB (call_reprN T.sy hr.units hr.gd) reprNL (by rfl) T.b_repr (by decide +kernel) (a_cons (y_var (pv 4)) a_nil)) (a_cons y_bl a_nil)))) (nomark _))
    (s_one (s_ret y_bl))
    s_nil))))
  (s_one (s_ret y_bl)))))))), fun ds Q h => ?_⟩
  obtain ⟨a0, e0, hh⟩ := ar1E h
  clear h
  subst e0
  have h := hh
  clear hh
  try dsimp only at h
  rw [show startE (List.length N__law_shifts_right) [a0] = [.val a0, .no, .no, .no, .no] from rfl]
  obtain ⟨rfl, h⟩ := h
  intro x y sx sy
  refine ⟨⟨by decide, by decide, by decide⟩, ⟨by decide, szP (by decide) (by decide)⟩, fun f f0 f1 => ⟨leN rfl, ?_⟩⟩
  have e9 : (10 : Int) ^ (9 : Int).toNat = 1000000000 := by decide
  have sf : Sz 40 f := by
    rw [e9] at f0 f1
    exact (sz_of (n := 31) (b := 1000000000) (by omega) (by omega) (sz_lit (by decide))).mono (by decide)
  have mx : Sz 140 (x * f) := sz_mul sx sf
  have my : Sz 140 (y * f) := sz_mul sy sf
  have s0 : Sz 140 (0 : Int) := (szP (n := 100) (by decide) (by decide)).mono (by decide)
  have sN : PyData.strOk "net" = true := by decide +kernel
  have sP : PyData.strOk "place" = true := by decide +kernel
  have e0 : shM (.tup []) = ("()" : Str) := by decide +kernel
  have m0 := sh_MP (n := 0) (d := .tup []) trivial (ltN rfl) (ltN rfl)
  have m1 := sh_MP (n := 0) (d := .tup [dPl x y]) ⟨sh_pl (n := 0) (sx.mono (by decide)) (sy.mono (by decide)), trivial⟩ (ltN rfl) (ltN rfl)
  have m3 := sh_MP (n := 0) (d := .tup [dPl x y, dPl (x * f) (y * f), dPl 0 0]) ⟨sh_pl (n := 0) (sx.mono (by decide)) (sy.mono (by decide)), sh_pl (n := 0) (mx.mono (by decide)) (my.mono (by decide)), sh_pl (n := 0) (s0.mono (by decide)) (s0.mono (by decide)), trivial⟩ (ltN rfl) (ltN rfl)
  have o1 : PyData.strOk (shM (.tup [dPl x y])) = true := by rw [m1.2]; exact okU_iff.mp (okU_shown 8 _ rfl)
  have o3 : PyData.strOk (shM (.tup [dPl x y, dPl (x * f) (y * f), dPl 0 0])) = true := by rw [m3.2]; exact okU_iff.mp (okU_shown 8 _ rfl)
  refine ⟨⟨sx.mono (by decide), sf.mono (by decide)⟩, ⟨sy.mono (by decide), sf.mono (by decide)⟩, leN rfl, ?_⟩
  refine fun fa => ⟨rfl, rfl, fun F0 H0 => .inr ⟨[], rfl, shOk_of (n := 100) (fun _ z => nomatch z) (ltN rfl), form_line (p := (0, 0)) (fun _ z => nomatch z), .inl ⟨_, m0.1, .inl ⟨rfl, leN rfl, ?_⟩⟩⟩⟩
  rw [e0]
  refine ne_three sN (by decide +kernel) (ifB_F rfl ?_)
  refine fun fa => ⟨rfl, rfl, fun F0 H0 => .inr ⟨[(x, y)], rfl, shOk_of (n := 100) (fun p hp => by rw [List.mem_singleton.mp hp]; exact ⟨sx, sy⟩) (ltN rfl), form_line (p := (x, y)) (fun p hp => ⟨1, by rw [List.mem_singleton.mp hp, Int.one_mul, Int.one_mul]⟩), .inl ⟨_, m1.1, .inl ⟨rfl, leN rfl, m1.1, leN rfl, ?_⟩⟩⟩⟩
  refine ne_three sN o1 (ifB_F rfl ?_)
  refine fun fa => ⟨rfl, rfl, fun F0 H0 => ⟨leN rfl, .inr ⟨[(x, y), (x * f, y * f), (0, 0)], rfl, shOk_of (n := 140) (fun p hp => ?_) (ltN rfl), form_line (p := (x, y)) (fun p hp => ?_), .inl ⟨_, m3.1, .inl ⟨rfl, leN rfl, leN rfl, m3.1, leN rfl, ?_⟩⟩⟩⟩⟩
  · simp only [List.mem_cons, List.not_mem_nil, or_false] at hp
    rcases hp with rfl | rfl | rfl
    · exact ⟨sx.mono (by decide), sy.mono (by decide)⟩
    · exact ⟨mx, my⟩
    · exact ⟨s0, s0⟩
  · simp only [List.mem_cons, List.not_mem_nil, or_false] at hp
    rcases hp with rfl | rfl | rfl
    · exact ⟨1, by rw [Int.one_mul, Int.one_mul]⟩
    · exact ⟨f, by rw [Int.mul_comm f x, Int.mul_comm f y]⟩
    · exact ⟨0, by rw [Int.zero_mul, Int.zero_mul]⟩
  refine ne_three sN o3 (ifB_F rfl ?_)
  refine ⟨leN rfl, leN rfl, leN rfl, leN rfl, leN rfl, leN rfl, ?_⟩
  refine ⟨fun i ρ => ∃ o4, ρ = [.val .tape, .val (dPl x y), .val (.int f), .val (dPl (x * f) (y * f)), o4], ⟨_, rfl⟩, ?_, ?_⟩
  · rintro i d ρ hd ⟨o4, rfl⟩
    obtain ⟨h1, h2⟩ := He.ba (all_at (l := oddp02) (p := fun d => smM d && (!isPl d && knPB' d)) oddp02_ok hd)
    obtain ⟨h2, h3⟩ := He.ba h2
    have np : isPl d = false := by simpa using h2
    have kn : knP d := knPB'_P h3
    obtain ⟨sh, so, _⟩ := smM_of h1
    refine fun fa => ⟨rfl, rfl, fun F0 H0 => ⟨leN rfl, leN rfl, .inl ⟨[(1, 0), (0, 1)], d, [.non], rfl, Nat.le_of_ble_eq_true rfl, kn, np, .inl ⟨d, sh, .inr (.inl ⟨rfl, ?_⟩)⟩⟩⟩⟩
    refine ⟨sh, leN rfl, ne_three sP so (ifB_F rfl ?_)⟩
    refine fun fa => ⟨rfl, rfl, fun F0 H0 => .inl ⟨[], d, [], rfl, Nat.le_of_ble_eq_true rfl, kn, np, .inl ⟨d, sh, .inr (.inl ⟨rfl, ?_⟩)⟩⟩⟩
    exact ⟨sh, leN rfl, ne_three sP so (ifB_F rfl ⟨_, rfl⟩)⟩
  · rintro ρ ⟨o4, rfl⟩
    exact h
end
end K02
namespace K02
open PySem PySem.Spec PyProof.Rows L2 Z Y
section
variable {P : Program} {w : World} {K : Frg} {mg : Str → Option Value} {base : Heap}
theorem ok_law (T : Tx w K mg) : ∀ base : Heap, FnG P w K mg base (L2N.CX P w) 45 (He.ga K "law") (spLawT K) := by
  refine y_law (i := 1) T.d_law sc_law (fun _ _ _ _ _ _ us hl => match us, hl with | [_], _ => rfl) rfl (fun base => ok__law_tape T) T.g__law_tape T.k__law_tape (by decide) rfl rfl (by decide) (fun _ _ => rfl) (by first | exact Or.inl rfl | exact Or.inr (Or.inl rfl)) (by first | exact Or.inl rfl | exact Or.inr rfl) (fun _ _ => rfl) (fun _ _ => rfl) (by decide) (by decide) fun base cdv ecd A outer s H E B hB hE hr hx po => ⟨_, (s_cons (s_if (z_pt (z_or (z_not (z_val (y_call (ok__law_triples_right T) (hr.mono (by decide)) rfl T.g__law_triples_right T.k__law_triples_right hx (a_cons (y_var (pv 1)) a_nil)))) (z_or1 (z_not (z_val (y_call (ok__law_shifts_right T) (hr.mono (by decide)) rfl T.g__law_shifts_right T.k__law_shifts_right hx (a_cons (y_var (pv 1)) a_nil)))))))
    (s_one (s_ret y_bl))
    s_nil)
  (s_cons (s_set (i := 2) sc_law.nd rfl (by first | exact Or.inl rfl | exact Or.inr rfl) (y_call (ok__law_net T) (hr.mono (by decide)) rfl T.g__law_net T.k__law_net hx (a_cons (y_var (pv 1)) (a_cons y_int a_nil))))
  (s_cons (s_set (i := 3) sc_law.nd rfl (by first | exact Or.inl rfl | exact Or.inr rfl) (y_make T.mk_Net (okw_Net_UinitU T) (hr.mono (by decide)) rfl T.g_Net hx (a_cons (y_ix (y_var (pv 2)) y_int (fun _ _ => rfl)) (a_cons (y_ix (y_var (pv 2)) y_int (fun _ _ => rfl)) (a_cons (y_ix (y_var (pv 2)) y_int (fun _ _ => rfl)) a_nil)))))
  (s_cons (s_for (t := .nm 4) po rfl (i_lst (y_lst (a_cons y_non (a_cons y_int (a_cons (y_un un_neg negL y_int) (a_cons y_bl (a_cons y_str (a_cons (y_tup (a_cons y_int a_nil)) (a_cons (y_lst (a_cons y_int a_nil)) (a_cons (y_un un_neg negL (y_op op_pow powL y_int y_int)) a_nil)))))))))) (g_nm (pg_name (i := 4) sc_law.nd rfl (by first | exact Or.inl rfl | exact Or.inr rfl)))
    (s_cons (s_if (z_cmp (op_neY hr.units) neL (y_lam0 (x := "law") (N := ["_law_odd", "_law_made"]) (ps := []) (fr := ["_law_odd", "_law_made"]) (js := [4, 3]) (kc := 39) (fun _ _ _ _ C => ok__law_heard T C) (hr.mono (by decide)) rfl T.g__law_heard T.k__law_heard hx T.lf_law ecd (lamT_by (NX := N_law) (sc := defScope s_law) (by decide +kernel) rfl rfl (fun _ _ _ _ us hl => match us, hl with | [], _ => rfl) rfl (fun _ => rfl)) (fun b2_ cl_ c_ f_ A_ outer_ s_ H_ E_ B hr hx => (y_meth (cs := ["Net"]) (ns := ["own_numbers"]) (y_var (pv 1)) (all1 ⟨T.cl_Net, T.m_Net_scaled⟩) (ok_Net_scaled T) (hr.mono (by decide)) hx (a_cons (y_var (pv 0)) a_nil)))) (y_lst (a_cons y_str (a_cons (y_callB (call_reprN T.sy hr.units hr.gd) reprNL (by rfl) T.b_repr (by decide +kernel) (a_cons (y_var (pv 4)) a_nil)) (a_cons y_bl a_nil)))) (nomark _))
    (s_one (s_ret y_bl))
    s_nil)
  (s_one (s_if (z_cmp (op_neY hr.units) neL (y_lam0 (x := "law") (N := ["_law_odd"]) (ps := []) (fr := ["_law_odd"]) (js := [4]) (kc := 39) (fun _ _ _ _ C => ok__law_heard T C) (hr.mono (by decide)) rfl T.g__law_heard T.k__law_heard hx T.lf_law ecd (lamT_by (NX := N_law) (sc := defScope s_law) (by decide +kernel) rfl rfl (fun _ _ _ _ us hl => match us, hl with | [], _ => rfl) rfl (fun _ => rfl)) (fun b2_ cl_ c_ f_ A_ outer_ s_ H_ E_ B hr hx => (GX.y_listNX hx (a_cons (y_var (pv 0)) a_nil) T.d_nets_of_size gs_nets_of_size sk_nets_of_size bd_nets_of_size (fun _ _ _ _ _ _ us hl => match us, hl with | [_], _ => rfl) rfl T.g_nets_of_size T.k_nets_of_size T.g_check_number T.k_check_number T.g_MOST_SIZE (okX_nets_of_size T) T.ns_InvalidNumber (hr.mono (by decide)) (by rfl) T.b_list))) (y_lst (a_cons y_str (a_cons (y_callB (call_reprN T.sy hr.units hr.gd) reprNL (by rfl) T.b_repr (by decide +kernel) (a_cons (y_var (pv 4)) a_nil)) (a_cons y_bl a_nil)))) (nomark _))
    (s_one (s_ret y_bl))
    s_nil))))
  (s_cons (s_if (z_cmp (op_neY hr.units) neL (y_lam0 (x := "law") (N := []) (ps := []) (fr := []) (js := []) (kc := 39) (fun _ _ _ _ C => ok__law_heard T C) (hr.mono (by decide)) rfl T.g__law_heard T.k__law_heard hx T.lf_law ecd (lamT_by (NX := N_law) (sc := defScope s_law) (by decide +kernel) rfl rfl (fun _ _ _ _ us hl => match us, hl with | [], _ => rfl) rfl (fun _ => rfl)) (fun b2_ cl_ c_ f_ A_ outer_ s_ H_ E_ B hr hx => (GX.y_listNX hx (a_cons y_int a_nil) T.d_nets_of_size gs_nets_of_size sk_nets_of_size bd_nets_of_size (fun _ _ _ _ _ _ us hl => match us, hl with | [_], _ => rfl) rfl T.g_nets_of_size T.k_nets_of_size T.g_check_number T.k_check_number T.g_MOST_SIZE (okX_nets_of_size T) T.ns_InvalidNumber (hr.mono (by decide)) (by rfl) T.b_list))) (y_lst (a_cons y_str (a_cons y_str (a_cons y_bl a_nil)))) (nomark _))
    (s_one (s_ret y_bl))
    s_nil)
  (s_cons (s_set (i := 5) sc_law.nd rfl (by first | exact Or.inl rfl | exact Or.inr rfl) (y_op op_addY addL y_int (y_call (ok__law_draw T) (hr.mono (by decide)) rfl T.g__law_draw T.k__law_draw hx (a_cons (y_var (pv 1)) (a_cons y_int a_nil)))))
  (s_cons (s_for (t := .nm 6) po rfl (i_lst (y_lst (a_cons (y_make T.mk_Net (okw_Net_UinitU T) (hr.mono (by decide)) rfl T.g_Net hx (a_cons (y_var (pv 5)) (a_cons (y_call (ok__law_draw T) (hr.mono (by decide)) rfl T.g__law_draw T.k__law_draw hx (a_cons (y_var (pv 1)) (a_cons (y_var (pv 5)) a_nil))) (a_cons y_int a_nil)))) (a_cons (y_make T.mk_Net (okw_Net_UinitU T) (hr.mono (by decide)) rfl T.g_Net hx (a_cons y_int (a_cons y_int (a_cons (y_var (pv 5)) a_nil)))) (a_cons (y_make T.mk_Net (okw_Net_UinitU T) (hr.mono (by decide)) rfl T.g_Net hx (a_cons y_int (a_cons y_int (a_cons y_int a_nil)))) a_nil))))) (g_nm (pg_name (i := 6) sc_law.nd rfl (by first | exact Or.inl rfl | exact Or.inr rfl)))
    (s_one (s_if (z_cmp (op_neY hr.units) neL (y_lam0 (x := "law") (N := ["_law_large"]) (ps := []) (fr := ["_law_large"]) (js := [6]) (kc := 39) (fun _ _ _ _ C => ok__law_heard T C) (hr.mono (by decide)) rfl T.g__law_heard T.k__law_heard hx T.lf_law ecd (lamT_by (NX := N_law) (sc := defScope s_law) (by decide +kernel) rfl rfl (fun _ _ _ _ us hl => match us, hl with | [], _ => rfl) rfl (fun _ => rfl)) (fun b2_ cl_ c_ f_ A_ outer_ s_ H_ E_ B hr hx => (y_call (ok_nets_above T) (hr.mono (by decide)) rfl T.g_nets_above T.k_nets_above hx (a_cons (y_var (pv 0)) a_nil)))) (y_lst (a_cons y_str (a_cons y_int (a_cons y_bl a_nil)))) (nomark _))
    (s_one (s_ret y_bl))
    s_nil)))
  (s_one (s_ret (y_and (y_cmp (op_eqY hr.units) eqL (y_lam0 (x := "law") (N := []) (ps := []) (fr := []) (js := []) (kc := 39) (fun _ _ _ _ C => ok__law_heard T C) (hr.mono (by decide)) rfl T.g__law_heard T.k__law_heard hx T.lf_law ecd (lamT_by (NX := N_law) (sc := defScope s_law) (by decide +kernel) rfl rfl (fun _ _ _ _ us hl => match us, hl with | [], _ => rfl) rfl (fun _ => rfl)) (fun b2_ cl_ c_ f_ A_ outer_ s_ H_ E_ B hr hx => (y_call (ok_nets_above T) (hr.mono (by decide)) rfl T.g_nets_above T.k_nets_above hx (a_cons (y_make T.mk_Net (okw_Net_UinitU T) (hr.mono (by decide)) rfl T.g_Net hx (a_cons y_int (a_cons y_int (a_cons y_int a_nil)))) a_nil)))) y_str (nomark _)) (y_one (y_cmp (op_eqY hr.units) eqL (GX.y_listZip0 (a_cons y_int a_nil) T.d_nets_of_size gs_nets_of_size sk_nets_of_size (fun _ _ _ _ _ _ us hl => match us, hl with | [_], _ => rfl) rfl T.g_nets_of_size T.k_nets_of_size (hr.mono (by decide)) rfl (by rfl) T.b_list (by rfl) T.b_zip) (y_lst a_nil) (nomark _))))))))))))), ?_⟩
  rw [show (List.replicate (List.length N_law) Sl.no).set 1 (.val .tape) = [.no, .val .tape, .no, .no, .no, .no, .no] from rfl]
  refine ⟨rfl, ifB_F rfl ⟨rfl, ifB_F rfl ?_⟩⟩
  refine ⟨⟨by decide, szP (by decide) (by decide)⟩, fun a b c ok mx => ⟨ok, ?_⟩⟩
  have e30 : (10 : Int) ^ (30 : Int).toNat = 1000000000000000000000000000000 := by decide
  have sN : PyData.strOk "number" = true := by decide +kernel
  refine ⟨leN rfl, leN rfl, ⟨by decide, by decide, by decide⟩, leN rfl, ?_⟩
  rw [e30]
  refine ⟨fun i ρ => ∃ o4 o5 o6, ρ = [.no, .val .tape, .val (n3 a b c), .val (dNet a b c), o4, o5, o6], ⟨_, _, _, rfl⟩, ?_, ?_⟩
  · rintro i d ρ hd ⟨o4, o5, o6, rfl⟩
    obtain ⟨h1, h2⟩ := He.ba (all_at (l := oddn02) (p := fun d => smM d && (!numOk d 1 .non && !numOk d 1 (.int 10000))) oddn02_ok hd)
    obtain ⟨h2, h3⟩ := He.ba h2
    have n1 : numOk d 1 .non = false := by simpa using h2
    have n2 : numOk d 1 (.int 10000) = false := by simpa using h3
    obtain ⟨sh, so, kn⟩ := smM_of h1
    refine fun fa => ⟨rfl, rfl, fun F0 H0 => ⟨.head _, rfl, a, b, c, rfl, kn, n1, .inl ⟨d, sh, .inr (.inr ⟨rfl, ?_⟩)⟩⟩⟩
    refine ⟨sh, leN rfl, ne_three sN so (ifB_F rfl ?_)⟩
    refine fun fa => ⟨rfl, rfl, fun F0 H0 => ⟨kn, 1, rfl, .inr ⟨10000, rfl⟩, .inl ⟨n2, rfl, .inl ⟨d, sh, .inr (.inr ⟨rfl, ?_⟩)⟩⟩⟩⟩
    exact ⟨sh, leN rfl, ne_three sN so (ifB_F rfl ⟨_, _, _, rfl⟩)⟩
  rintro ρ ⟨o4, o5, o6, rfl⟩
  have e1 : shM (.int 10001) = ("10001" : Str) := by decide +kernel
  have m1 := sh_MP (n := 0) (d := .int 10001) (szP (by decide) (by decide)) (ltN rfl) (ltN rfl)
  refine fun fa => ⟨rfl, rfl, fun F0 H0 => ⟨trivial, 1, rfl, .inr ⟨10000, rfl⟩, .inl ⟨by decide, rfl, .inl ⟨.int 10001, m1.1, .inr (.inr ⟨rfl, leN rfl, ?_⟩)⟩⟩⟩⟩
  rw [e1]
  refine ne_three sN (by decide +kernel) (ifB_F rfl ?_)
  refine ⟨⟨by decide, szP (by decide) (by decide)⟩, fun e e0 e1 => ?_⟩
  refine ⟨⟨by omega, (sz13 (by omega) (by omega)).mono (by decide)⟩, fun k k0 k1 => ?_⟩
  have zw : Sz 4000 (2001 + e) := (sz13 (by omega) (by omega)).mono (by decide)
  have z1 : Sz 4000 (1 : Int) := szP (by decide) (by decide)
  refine ⟨⟨by decide, k0, k1⟩, ⟨by omega, by decide, by decide⟩, ⟨by decide, by decide, by decide⟩, leN rfl, ?_⟩
  refine ⟨fun i ρ => ∃ o6, ρ = [.no, .val .tape, .val (n3 a b c), .val (dNet a b c), o4, .val (.int (2001 + e)), o6], ⟨_, rfl⟩, ?_, ?_⟩
  · rintro i d ρ hd ⟨o6, rfl⟩
    have hm : d ∈ [dNet (2001 + e) k 1, dNet 1 0 (2001 + e), dNet 41 7 49] := List.mem_of_getElem? hd
    obtain ⟨p, q, r, rfl, zp, zr, big⟩ : ∃ p q r, d = dNet p q r ∧ Sz 4000 p ∧ Sz 4000 r ∧ 2000 < p * r := by
      simp only [List.mem_cons, List.not_mem_nil, or_false] at hm
      rcases hm with rfl | rfl | rfl
      · exact ⟨_, _, _, rfl, zw, z1, by omega⟩
      · exact ⟨_, _, _, rfl, z1, zw, by omega⟩
      · exact ⟨_, _, _, rfl, szP (by decide) (by decide), szP (by decide) (by decide), by decide⟩
    refine fun fa => ⟨rfl, rfl, fun F0 H0 => ⟨p, q, r, rfl, .inl ⟨⟨zp, zr⟩, big, .inr ⟨2000, rfl, ?_⟩⟩⟩⟩
    exact ⟨leN rfl, ⟨by decide +kernel, by decide +kernel⟩, ifB_F (by decide +kernel) ⟨_, rfl⟩⟩
  rintro ρ ⟨o6, rfl⟩
  refine fun fa => ⟨rfl, rfl, fun F0 H0 => ⟨⟨by decide, by decide, by decide⟩, 2000, 3, 1, rfl, .inr ⟨rfl, rfl, rfl, fun l => ifB_T rfl ?_⟩⟩⟩
  exact ⟨⟨_, rfl⟩, leN rfl, ⟨rfl, rfl⟩, rfl⟩
end
end K02
namespace K02
open PySem PySem.Spec PyProof.Rows L2 Z
theorem facts {P : Program} {w : World} {K : Frg} {h : Heap} {mg : Str → Option Value} {f : Addr} (X : K.In h) (G : h.Ns mainGlobals mg) (hfa : mg ("law" : Str) = some (.ref f)) (c : Says ask w h K) : ∀ base : Heap, FnG P w K mg base (L2N.CX P w) 45 f (Y.spLawT K) := by
  have T := tx_of X G c
  have e2 : f = He.ga K "law" := by
    have e3 := hfa.symm.trans T.g_law
    injection e3 with e4
    injection e4
  rw [e2]
  exact ok_law T
end K02
end
open PySem PySem.W PySem.Calls PyProof.Rows
theorem PySem.Challenge.cw_carpets_k02_invalid_nets_and_numbers_holds : PySem.Challenge.rw_carpets_k02_invalid_nets_and_numbers.Holds := by
  w_on; o_law
  refine HandSHeadRun.head_any (r := K02.R) (q := K02.qv) (H := K02.hk) (ob := K02.ob) (M := 12000) (loose := K02.loose) (d := HandSHeadRun.topDef K02.R.prog 39) (kwd := []) K02.ob_eq
    (by kernel_rfl) (fun s => by kernel_rfl) K02.run (by kernel_rfl) (by kernel_rfl) (by kernel_rfl) (by rfl) (by first | assumption | decide +kernel) (by decide +kernel) ⟨rfl, rfl, rfl, rfl, rfl, by decide +kernel⟩ ?hw ?hc
  case hw => w_witness2
  case hc =>
    refine Z.walk_G (l := PySem.Challenge.rw_carpets_k02_invalid_nets_and_numbers) (n := 63) (k := 45) (CX := fun w => L2N.CX PySem.Challenge.rw_carpets_k02_invalid_nets_and_numbers.prog w) rfl (by decide) (by kernel_rfl) ⟨rfl, by decide, by decide⟩ ?F (Z.cx_no (P := fun _ => PySem.Challenge.rw_carpets_k02_invalid_nets_and_numbers.prog))
    intro w mg fa h Y G hmg0
    obtain ⟨K, KX, c⟩ := Y
    have hmg : mg ("law" : PySem.Str) = some (.ref fa) := by
      have e : (HandSHeadRun.topDef K02.R.prog 39).name = ("law" : PySem.Str) := by kernel_rfl
      rw [← e]
      exact hmg0
    have hF := K02.facts (P := PySem.Challenge.rw_carpets_k02_invalid_nets_and_numbers.prog) (w := w) KX G hmg c
    obtain ⟨t1, t2, t3⟩ := Y.cs_says KX c rfl
    exact ⟨K, KX, Y.csOf K, Y.spLawT K, t1, t2, t3, fun H a ns hl hT hS => ⟨_, rfl, a, ns, rfl, hl, hS, Y.cs_tabs hT, fun _ => rfl⟩, fun base _ _ _ => hF base⟩
